import PyProof.Rows.All
import Wide.All
import OpenK.AllK
import Wide.FinOn
import HandS.ForMost
import HandS.Walk
import HandS.Zip
import HandS.IsInst
import HandS.TupAny
import HandS.TupMul
import HandS.Deep
import HandS.Flow
import HandS.SortInts
import HandS.TupSets
import HandS.Conv
import HandS.More
import HandS.DictComp
import HandS.Style
import HandS.Exc
import HandS.ExcOwn
import HandS.ExcIs
import HandS.ExcField
import HandS.Lambda
import HandS.Text
import HandS.EndTab
import HandS.HotCalls
import KE.KDictWalk
import PyProof.Rows.TupDisplay
import PyProof.Rows.SetFrom
import PyProof.ReprLen
import PyProof.ReprRoads
import PyProof.Rows.IntBool
import PyProof.StrOps2
import KE.DataCmp
import KE.SortData
import KE.KEqDict
import PyProof.CallStr
import PyProof.ListStr
import HandS.ExcInit
import KE.KExcSuper
import HandS.HeadWalk
import KE.DataMinMax
import HandS.SetFor
import HandS.Strs
import HandS.Zip0
import PyProof.EnumMake
import KE.GoesZip
import KE.GoesMore
import HandS.Star
import PyProof.SumAny
import KE.KExcIs
import KE.KDictCopyH
import HandS.FStr
import HandS.Small
import HandS.Words
import HandS.Ends
import PySem.Challenge.RW_latchbanks_k78_texts_by_hand
set_option Elab.async false
set_option linter.all false
set_option maxRecDepth 100000
set_option maxHeartbeats 4000000
set_option autoImplicit false
/-! LB1: data, states, the little language and its evaluation. -/
namespace LB
open PySem (Str PyData)

inductive D where
  | non | bl (b : Bool) | int (i : Int) | str (s : Str)
  | tup (l : List D) | lst (l : List D) | dct (t : Bool) (ks vs : List D)
  | ref (n : Nat)
  | exn (c : Nat) (a : List D)

mutual
def D.beq : D → D → Bool
  | .non, .non => true
  | .bl a, .bl b => a == b
  | .int a, .int b => decide (a = b)
  | .str a, .str b => decide (a = b)
  | .tup a, .tup b => D.beqs a b
  | .lst a, .lst b => D.beqs a b
  | .dct t a c, .dct u b d => t == u && D.beqs a b && D.beqs c d
  | .ref a, .ref b => Nat.beq a b
  | _, _ => false
def D.beqs : List D → List D → Bool
  | [], [] => true
  | a :: as, b :: bs => D.beq a b && D.beqs as bs
  | _, _ => false
end

abbrev Store := List (List D)
inductive Slot where
  | u | v (d : D) | o (d : D)
abbrev Env := List Slot
inductive Res (α : Type) where
  | ok (a : α) (st : Store) | exc (c : Nat) (a : List D) (st : Store) | bad
inductive Out where
  | nx (env : Env) (st : Store) | rt (d : D) (st : Store) | exc (c : Nat) (a : List D) (env : Env) (st : Store) | bad
def Res.bind {α β : Type} (r : Res α) (f : α → Store → Res β) : Res β :=
  match r with
  | .ok a st => f a st
  | .exc c a st => .exc c a st
  | .bad => .bad
def Res.toO {α : Type} (r : Res α) (f : α → Store → Out) : Out :=
  match r with
  | .ok a st => f a st
  | _ => .bad
def Res.toOut {α : Type} (r : Res α) (env : Env) (f : α → Store → Out) : Out := r.toO f
/-- .. where what is raised goes on -/
def Res.toOutX {α : Type} (r : Res α) (env : Env) (f : α → Store → Out) : Out :=
  match r with
  | .ok a st => f a st
  | .exc c a st => .exc c a env st
  | .bad => .bad
def Res.opt {α : Type} (o : Option α) (st : Store) : Res α :=
  match o with
  | some a => .ok a st
  | none => .bad

/-! the language -/
inductive Op2 where
  | add | sub | mul | fdiv | mod | pow
inductive Cm where
  | lt | le | gt | ge | eq | ne | inn | nin | isN | notN
inductive Ty where
  | int | bool | str | tuple | list | dict
inductive Bi where
  | len | isi (t : Ty) | tup | lst | sum | all | any | abs | int | str | max1 | min1 | max2 | min2 | repr | sorted | srtset | lenset
inductive Tg where
  | nm (i : Nat) | tp (l : List Tg)
inductive E where
  | lit (d : D)
  | var (i : Nat)
  | con (x : Str) (d : D)
  | tup (es : List E)
  | lst (es : List E)
  | star (a : E)
  | alloc (a : E)
  | op (o : Op2) (a b : E)
  | neg (a : E)
  | cmp (c : Cm) (a b : E)
  | chn (c c' : Cm) (a b d : E)
  | no (a : E)
  | and (es : List E)
  | or (es : List E)
  | ite (t a b : E)
  | idx (a i : E)
  | sl (a lo hi : E)
  | rev (a : E)
  | nil
  | call (f : Nat) (es : List E)
  | bi (b : Bi) (es : List E)
  | count (a e : E)
  | comp (e : E) (tg : Tg) (it : E) (cs : List E) (own : List (Str × Nat))
  | rng1 (a : E) | rng2 (a b : E) | rng3 (a b c : E)
  | zip (a b : E) | enum (a : E)
  | callk (f : Nat) (es ws : List E) (inv : List Nat) (ks : List Str)
  | index (a e : E)
  | dnew (t : Bool)
  | dct1 (t : Bool) (k v : E)
  | dcomp (k v : E) (tg : Tg) (it : E) (own : List (Str × Nat))
  | get (a k d : E)
  | dvals (a : E) | ditems (a : E)
  | lrng (a b : E)
  | sumv (a : E)
  | revt (a : E) | lstv (a : E)
  | isx (a : E) (c : Nat)
  | fld (a : E) (k : Nat)
  | trng (a : E) | lzip3 (a b c : E)
  | jn (a e : E) | spl (a e : E) | fs (es : List E) | eqs (a : E) (x : Str)
inductive S where
  | set (i : Nat) (e : E)
  | own (i : Nat) (e : E)
  | par (l : List (Nat × Bool)) (es : List E)
  | unp (tg : Tg) (e : E)
  | app (i : Nat) (e : E)
  | put (i : Nat) (k e : E)
  | cst (i : Nat) (k e : E)
  | ite (t : E) (a b : List S)
  | for_ (tg : Tg) (it : E) (b : List S)
  | while_ (t : E) (b : List S)
  | ret (e : E)
  | frz (i : Nat)
  | ex (e : E)
  | raise (c : Nat) (es : List E)
  | pass
  | put2 (i : Nat) (k1 k2 e : E)
  | try_ (b : List S)
  | exx (f : Nat) (es : List E)
  | retx (w : Nat) (f : Nat) (es : List E)
  | plc (is : List Nat)
  | tryx (f : Nat) (es : List E) (k : Nat)

/-! values -/
def lenOk (n : Nat) : Bool := Nat.ble n 1000000

mutual
def eqv : D → D → Bool
  | .non, .non => true
  | .bl a, .bl b => a == b
  | .bl a, .int j => (if a then 1 else 0) == j
  | .int i, .bl b => i == (if b then 1 else 0)
  | .int i, .int j => i == j
  | .str x, .str y => x == y
  | .lst a, .lst b => eqvs a b
  | .tup a, .tup b => eqvs a b
  | _, _ => false
def eqvs : List D → List D → Bool
  | [], [] => true
  | a :: as, b :: bs => eqv a b && eqvs as bs
  | _, _ => false
end
/-! what == is known of: nothing but None, truths, ints, texts, tuples, lists, n deep at most -/
mutual
def plain : Nat → D → Bool
  | _, .non => true
  | _, .bl _ => true
  | _, .int _ => true
  | _, .str x => x.cps.all (· < 0x110000)
  | n + 1, .tup l => plains n l
  | n + 1, .lst l => plains n l
  | _, _ => false
def plains : Nat → List D → Bool
  | _, [] => true
  | n, a :: as => plain n a && plains n as
end
def eqD : D → D → Option Bool
  | .str x, .str y => some (decide (x = y))
  | .dct _ _ _, .tup _ => some false
  | a, b => if plain 60 a && plain 60 b then some (eqv a b) else none
mutual
def toPy : D → PyData
  | .bl b => .bool b
  | .int i => .int i
  | .str x => .str x
  | .tup l => .tuple (toPys l)
  | .lst l => .list (toPys l)
  | .dct _ ks vs => .dict ((toPys ks).zip (toPys vs))
  | _ => .none
def toPys : List D → List PyData
  | [] => []
  | d :: ds => toPy d :: toPys ds
end
mutual
def wt : D → Nat
  | .str x => x.length + 1
  | .tup l => wts l + 1
  | .lst l => wts l + 1
  | .dct _ ks vs => wts ks + wts vs + 1
  | _ => 1
def wts : List D → Nat
  | [] => 0
  | d :: ds => wt d + wts ds
end
mutual
def tame : D → Bool
  | .int i => decide (i.natAbs < 10 ^ 40)
  | .tup l => tames l
  | .lst l => tames l
  | .dct _ ks vs => tames ks && tames vs
  | _ => true
def tames : List D → Bool
  | [] => true
  | d :: ds => tame d && tames ds
end
mutual
/-- data without lists, maybe with dicts -/
def pdct : Nat → D → Bool
  | _, .non => true
  | _, .bl _ => true
  | _, .int _ => true
  | _, .str x => x.cps.all (· < 0x110000)
  | n + 1, .tup l => pdcts n l
  | n + 1, .dct _ ks vs => pdcts n ks && pdcts n vs && Nat.beq ks.length vs.length
  | _, _ => false
def pdcts : Nat → List D → Bool
  | _, [] => true
  | n, a :: as => pdct n a && pdcts n as
end
/-- the text of it -/
def reprD (a : D) : Option D := if (plain 60 a || pdct 60 a) && tame a && decide (wt a ≤ 300000) then some (.str (toPy a).shown) else none
def insI (a : Int) : List Int → List Int
  | [] => [a]
  | b :: r => if a ≤ b then a :: b :: r else b :: insI a r
def isort : List Int → List Int
  | [] => []
  | a :: r => insI a (isort r)
def toPairs : List D → Option (List (Int × Int))
  | [] => some []
  | .tup [.int a, .int b] :: r => (toPairs r).map ((a, b) :: ·)
  | _ => none
def ltP2 (p q : Int × Int) : Bool := if p.1 = q.1 then decide (p.2 < q.2) else decide (p.1 < q.1)
def insP (p : Int × Int) : List (Int × Int) → List (Int × Int)
  | [] => [p]
  | q :: r => if ltP2 p q then p :: q :: r else if ltP2 q p then q :: insP p r else q :: r
def psort : List (Int × Int) → List (Int × Int)
  | [] => []
  | p :: r => insP p (psort r)
def pairD (p : Int × Int) : D := .tup [.int p.1, .int p.2]
def toInts : List D → Option (List Int)
  | [] => some []
  | .int i :: r => (toInts r).map (i :: ·)
  | _ => none
def toBls : List D → Option (List Bool)
  | [] => some []
  | .bl i :: r => (toBls r).map (i :: ·)
  | _ => none
def toTups : List D → Option (List (List Int))
  | [] => some []
  | .tup a :: r => (toInts a).bind fun ns => (toTups r).map (ns :: ·)
  | _ => none
def small (i : Int) : Bool := decide (-(2 ^ 64) < i) && decide (i < 2 ^ 64)
/-- a text so many times -/
def repS (x : Str) (n : Nat) : Str := ⟨(List.replicate n x.cps.toList).flatten.toArray⟩
/-- the signs of a text -/
def signs (x : Str) : List D := x.cps.toList.map fun c => .str ⟨#[c]⟩
def op2 : Op2 → D → D → Option D
  | .add, .bl b, .int j => some (.int ((if b then 1 else 0) + j))
  | .add, .int i, .int j => some (.int (i + j))
  | .add, .str x, .str y => if lenOk (x.length + y.length) then some (.str (x ++ y)) else none
  | .add, .tup x, .tup y => if lenOk (x.length + y.length) then some (.tup (x ++ y)) else none
  | .add, .lst x, .lst y => if lenOk (x.length + y.length) then some (.lst (x ++ y)) else none
  | .sub, .bl b, .int j => some (.int ((if b then 1 else 0) - j))
  | .sub, .int i, .int j => some (.int (i - j))
  | .mul, .int i, .bl b => some (.int (i * (if b then 1 else 0)))
  | .mul, .int i, .int j => if small i || small j then some (.int (i * j)) else none
  | .mul, .str x, .int k => if decide (0 ≤ k) && decide (k ≤ 1000) && Nat.ble x.length 1000 then some (.str (repS x k.toNat)) else none
  | .mul, .tup x, .int k => if decide (0 ≤ k) && decide (k ≤ 1000) && Nat.ble x.length 1000 then some (.tup (List.replicate k.toNat x).flatten) else none
  | .mul, .lst x, .int k => if decide (0 ≤ k) && decide (k ≤ 1000) && Nat.ble x.length 1000 then some (.lst (List.replicate k.toNat x).flatten) else none
  | .fdiv, .int i, .int j => if decide (0 < j) && decide (j < 1073741824) then some (.int (i / j)) else none
  | .mod, .int i, .int j => if decide (0 < j) then some (.int (i % j)) else none
  | .pow, .int i, .int j => if decide (0 ≤ j) && decide (j ≤ 1000) && small i then some (.int (i ^ j.toNat)) else none
  | _, _, _ => none
def lexLt : List Int → List Int → Bool
  | [], [] => false
  | [], _ :: _ => true
  | _ :: _, [] => false
  | x :: xs, y :: ys => if x = y then lexLt xs ys else decide (x < y)
def insT (a : List Int) : List (List Int) → List (List Int)
  | [] => [a]
  | b :: r => if lexLt b a then b :: insT a r else a :: b :: r
def tsort : List (List Int) → List (List Int)
  | [] => []
  | a :: r => insT a (tsort r)
def tupD (ns : List Int) : D := .tup (ns.map .int)
def sameLen : List (List Int) → Bool
  | [] => true
  | [_] => true
  | a :: r => Nat.ble 1 a.length && r.all fun b => Nat.beq b.length a.length
def sortedT (l : List D) : Option D := (toTups l).bind fun nss => if sameLen nss && lenOk l.length then some (.lst ((tsort nss).map tupD)) else none
def sortedL (l : List D) : Option D := match toInts l with
  | some ns => some (.lst ((isort ns).map .int))
  | none => sortedT l
def keyT : D → Bool
  | .int _ => true
  | .str _ => true
  | _ => false
def keyB : Bool → D → Bool
  | false, k => keyT k
  | true, .tup l => l.all keyT
  | true, _ => false
def findD (y : D) : List D → List D → Option D
  | k :: ks, v :: vs => if k.beq y then some v else findD y ks vs
  | _, _ => none
def isNon : D → Bool
  | .non => true
  | _ => false
def cm2 : Cm → D → D → Option Bool
  | .lt, .int i, .int j => some (decide (i < j))
  | .le, .int i, .int j => some (decide (i ≤ j))
  | .gt, .int i, .int j => some (decide (j < i))
  | .ge, .int i, .int j => some (decide (j ≤ i))
  | .lt, .tup x, .tup y => (toInts x).bind fun a => (toInts y).bind fun b => some (lexLt a b)
  | .ge, .tup x, .tup y => (toInts x).bind fun a => (toInts y).bind fun b => some (!lexLt a b)
  | .eq, a, b => eqD a b
  | .ne, a, b => (eqD a b).map (!·)
  | .inn, a, .lst l => if plain 60 a && plains 59 l then some (l.any fun z => eqv z a) else none
  | .nin, a, .lst l => if plain 60 a && plains 59 l then some (!l.any fun z => eqv z a) else none
  | .inn, a, .tup l => if plain 60 a && plains 59 l then some (l.any fun z => eqv z a) else none
  | .nin, a, .tup l => if plain 60 a && plains 59 l then some (!l.any fun z => eqv z a) else none
  | .inn, a, .dct t ks vs => if keyB t a then some (findD a ks vs).isSome else none
  | .nin, a, .dct t ks vs => if keyB t a then some (!(findD a ks vs).isSome) else none
  | .inn, .str a, .str b => some (!(PySem.Builtin.Str.occurrences b a 0 b.length 1).isEmpty)
  | .nin, .str a, .str b => some (!(!(PySem.Builtin.Str.occurrences b a 0 b.length 1).isEmpty))
  | .isN, a, _ => some (isNon a)
  | .notN, a, _ => some (!isNon a)
  | _, _, _ => none
def truth : D → Option Bool
  | .non => some false
  | .bl b => some b
  | .int i => some (i != 0)
  | .tup l => some (!l.isEmpty)
  | .lst l => some (!l.isEmpty)
  | _ => none
def ixN (n : Nat) (i : Int) : Option Nat := if 0 ≤ i then (if i < n then some i.toNat else none) else if -(n : Int) ≤ i then some (i + n).toNat else none
def at_ (xs : List D) (i : Int) : Option D := (ixN xs.length i).bind fun j => xs[j]?
def idx (st : Store) : D → D → Option D
  | .tup l, .int i => at_ l i
  | .lst l, .int i => at_ l i
  | .ref n, .int i => st[n]?.bind fun l => at_ l i
  | .str x, .int i => if lenOk x.length then at_ (signs x) i else none
  | .dct t ks vs, y => if keyB t y then findD y ks vs else none
  | _, _ => none
def cutN (n : Nat) (d : Nat) : D → Option Nat
  | .non => some d
  | .int v => some (if v < 0 then (v + (n : Int)).toNat else min v.toNat n)
  | _ => none
def cut (xs : List D) (lo hi : D) : Option (List D) :=
  (cutN xs.length 0 lo).bind fun a => (cutN xs.length xs.length hi).bind fun b => some ((xs.drop a).take (b - a))
def slice : D → D → D → Option D
  | .tup l, lo, hi => (cut l lo hi).map .tup
  | .lst l, lo, hi => (cut l lo hi).map .lst
  | .str x, lo, hi => (cutN x.length 0 lo).bind fun a => (cutN x.length x.length hi).bind fun b => if lenOk x.length then some (.str ⟨((x.cps.toList.drop a).take (b - a)).toArray⟩) else none
  | _, _, _ => none
def rev : D → Option D
  | .lst l => some (.lst l.reverse)
  | _ => none
def revt : D → Option D
  | .tup l => some (.tup l.reverse)
  | _ => none
def isTy : Ty → D → Option Bool
  | _, .ref _ => none
  | _, .exn _ _ => none
  | .int, .int _ => some true
  | .int, .bl _ => some true
  | .bool, .bl _ => some true
  | .str, .str _ => some true
  | .tuple, .tup _ => some true
  | .list, .lst _ => some true
  | .dict, .dct _ _ _ => some true
  | _, _ => some false
def maxL : List Int → Option Int
  | [] => none
  | x :: r => match maxL r with | none => some x | some m => some (if m > x then m else x)
def minL : List Int → Option Int
  | [] => none
  | x :: r => match minL r with | none => some x | some m => some (if m < x then m else x)
/-- the first of the least -/
def minTL : List (List Int) → Option (List Int)
  | [] => none
  | x :: r => some (r.foldl (fun a y => if lexLt y a then y else a) x)
/-- sorted(set(..)) -/
def insU (a : Int) : List Int → List Int
  | [] => [a]
  | b :: r => if a < b then a :: b :: r else if b < a then b :: insU a r else b :: r
def usort : List Int → List Int
  | [] => []
  | a :: r => insU a (usort r)
def insV (a : List Int) : List (List Int) → List (List Int)
  | [] => [a]
  | b :: r => if lexLt a b then a :: b :: r else if lexLt b a then b :: insV a r else b :: r
def vsort : List (List Int) → List (List Int)
  | [] => []
  | a :: r => insV a (vsort r)
def sameLenA : List (List Int) → Bool
  | [] => true
  | a :: r => r.all fun b => Nat.beq b.length a.length
def srtsetD (l : List D) : Option D := if l.length < 64 then (match toPairs l with
  | some ps => some (.lst ((psort ps).map pairD))
  | none => match toInts l with
    | some ns => some (.lst ((usort ns).map .int))
    | none => (toTups l).bind fun nss => if sameLenA nss then some (.lst ((vsort nss).map tupD)) else none) else none
def bi1 : Bi → D → Option D
  | .len, .tup l => some (.int l.length)
  | .len, .lst l => some (.int l.length)
  | .len, .str x => if lenOk x.length then some (.int x.length) else none
  | .isi t, d => (isTy t d).map .bl
  | .tup, .lst l => some (.tup l)
  | .tup, .tup l => some (.tup l)
  | .str, .bl b => some (.str (if b then "True" else "False"))
  | .str, .int i => if decide (i.natAbs < 10 ^ 60) then some (.str (Str.ofString (toString i))) else none
  | .lst, .lst l => some (.lst l)
  | .lst, .tup l => some (.lst l)
  | .lst, .dct _ ks _ => some (.lst ks)
  | .lst, .str x => if lenOk x.length then some (.lst (signs x)) else none
  | .sum, .lst l => (toInts l).map fun ns => .int ns.sum
  | .all, .lst l => (toBls l).map fun bs => .bl (bs.all id)
  | .any, .lst l => (toBls l).map fun bs => .bl (bs.any id)
  | .abs, .int i => some (.int (if i < 0 then -i else i))
  | .int, .int i => some (.int i)
  | .int, .bl b => some (.int (if b then 1 else 0))
  | .int, .str x => if Nat.ble x.length 640 then (PySem.intText? x).map .int else none
  | .max1, .lst l => (toInts l).bind fun ns => (maxL ns).map .int
  | .min1, .lst l => (match toInts l with
    | some ns => (minL ns).map .int
    | none => (toTups l).bind fun nss => (minTL nss).map tupD)
  | .repr, d => reprD d
  | .sorted, .lst l => sortedL l
  | .sorted, .tup l => sortedT l
  | .sorted, .dct true ks _ => sortedT ks
  | .sorted, .dct false ks _ => (toInts ks).bind fun ns => if Nat.ble ns.length 63 then some (.lst ((isort ns).map .int)) else none
  | .srtset, .lst l => srtsetD l
  | _, _ => none
def bi2 : Bi → D → D → Option D
  | .max2, .int i, .int j => some (.int (if j > i then j else i))
  | .min2, .int i, .int j => some (.int (if j < i then j else i))
  | _, _, _ => none
def biV (st : Store) : Bi → List D → Option D
  | .len, [.ref n] => st[n]?.map fun l => .int l.length
  | b, [a] => bi1 b a
  | b, [a, c] => bi2 b a c
  | _, _ => none
def repD (k v : D) : List D → List D → List D
  | a :: as, b :: bs => (if a.beq k then v else b) :: repD k v as bs
  | _, _ => []
def putD (ks vs : List D) (k v : D) : List D × List D := if ks.any (fun a => a.beq k) then (ks, repD k v ks vs) else (ks ++ [k], vs ++ [v])
def mstep (a : List D × List D) (d : D) : List D × List D := match d with
  | .tup [k, v] => putD a.1 a.2 k v
  | _ => a
def mergeP (l : List D) (a : List D × List D) : List D × List D := l.foldl mstep a
def mergeD (l : List D) : D := .dct false (mergeP l ([], [])).1 (mergeP l ([], [])).2
def getD' : D → D → D → Option D
  | .dct t ks vs, y, z => if keyB t y then some ((findD y ks vs).getD z) else none
  | _, _, _ => none
def sumvD : D → Option D
  | .dct false _ vs => (toInts vs).map fun ns => .int ns.sum
  | _ => none
/-- is an exception of class c: 0 is the common one, 1000 ValueError -/
def isxD (c : Nat) : D → Option D
  | .exn c' _ => some (.bl (Nat.beq c' c || (Nat.beq c 0 || Nat.beq c 1000)))
  | _ => none
def fldD (k : Nat) : D → Option D
  | .exn _ [.int i, .int j] => some (.int (if Nat.beq k 0 then i else j))
  | _ => none
/-- what is put around a call that may raise -/
def wrapD : Nat → D → Option D
  | 0, d => some d
  | 1, d => bi1 .tup d
  | 2, d => bi1 .len d
  | _, _ => none
def plcE (n : Nat) : List Nat → Env → Env
  | i :: is, .v d :: r => (plcE n is r).set i (.v d)
  | _, _ => List.replicate n .u
def pickAll : List Nat → List D → Option (List D)
  | [], _ => some []
  | i :: r, ds => (ds[i]?).bind fun d => (pickAll r ds).map (d :: ·)
def toStrs : List D → Option (List Str)
  | [] => some []
  | .str x :: r => (toStrs r).map (x :: ·)
  | _ => none
/-- sep.join(..) -/
def joinD : D → D → Option D
  | .str a, .lst l => (toStrs l).bind fun ys => if decide ((ys.map (·.length)).sum + ys.length * a.length ≤ 1000000) then some (.str (PySem.Txt.join a ys)) else none
  | _, _ => none
def splitD : D → D → Option D
  | .str a, .str b => if !(b.length == 0) && lenOk a.length then some (.lst ((PySem.Txt.split a b).map .str)) else none
  | _, _ => none
/-- the parts of an f-string -/
def fmtD : D → Option Str
  | .str x => some x
  | .int i => if decide (i.natAbs < 10 ^ 60) then some (Str.ofString (toString i)) else none
  | _ => none
def fmtsD (acc : Str) : List D → Option Str
  | [] => some acc
  | d :: r => (fmtD d).bind fun y => if lenOk (acc ++ y).length then fmtsD (acc ++ y) r else none
/-- == a text that is written -/
def eqsD (x : Str) : D → Option D
  | .dct _ _ _ => some (.bl false)
  | d => (eqD d (.str x)).map .bl
def idxOf (y : D) : List D → Option Nat
  | [] => none
  | d :: ds => if eqv d y then some 0 else (idxOf y ds).map (· + 1)
def indexD : D → D → Option D
  | .lst l, y => if plain 60 y && plains 59 l then (idxOf y l).map fun (i : Nat) => .int i else none
  | _, _ => none
def items : D → Option (List D)
  | .tup l => some l
  | .lst l => some l
  | _ => none
/-- what is walked -/
def itemsI : D → Option (List D)
  | .tup l => some l
  | .lst l => some l
  | .dct _ ks _ => some ks
  | .str x => some (signs x)
  | _ => none
def pairs : List D → List D → List D
  | a :: as, b :: bs => .tup [a, b] :: pairs as bs
  | _, _ => []
def counted : Nat → List D → List D
  | _, [] => []
  | n, a :: as => .tup [.int n, a] :: counted (n + 1) as
def trips : List D → List D → List D → List D
  | a :: as, b :: bs, c :: cs => .tup [a, b, c] :: trips as bs cs
  | _, _, _ => []
def upto (lo : Int) : Nat → List D
  | 0 => []
  | n + 1 => .int lo :: upto (lo + 1) n
def dnto : Int → Nat → List D
  | _, 0 => []
  | i, n + 1 => .int i :: dnto (i - 1) n
def mid (i : Int) : Bool := decide (-(2 ^ 62) ≤ i) && decide (i < 2 ^ 62)
mutual
def setTg (env : Env) : Tg → D → Option Env
  | .nm i, d => some (env.set i (.v d))
  | .tp ts, .tup l => setTgs env ts l
  | .tp _, _ => none
def setTgs (env : Env) : List Tg → List D → Option Env
  | [], [] => some env
  | t :: ts, d :: ds => (setTg env t d).bind fun e => setTgs e ts ds
  | _, _ => none
end
def wipe (env : Env) : List Nat → Env
  | [] => env
  | v :: vs => (wipe env vs).set v .u
/-- comprehensions: the items that are kept -/
def compM (f : D → Store → Res (Option D)) : List D → Store → Res (List D)
  | [], st => .ok [] st
  | a :: as, st => (f a st).bind fun o st1 => (compM f as st1).bind fun r st2 =>
      .ok (match o with | some d => d :: r | none => r) st2

abbrev Tab := Nat → List D → Store → Res D
/-- how an expression is read: its value; a value that is looked at on the spot (owned lists, too); a test; what is walked -/
inductive Md where
  | v | p | t | i
def Md.noM : Md → Md
  | .t => .t
  | _ => .v
def post : Md → D → Store → Res D
  | .v, d, st => .ok d st
  | .p, d, st => .ok d st
  | .t, d, st => .opt ((truth d).map .bl) st
  | .i, d, st => .opt ((itemsI d).map .lst) st
def okS : E → D → Bool
  | .nil, .non => true
  | .nil, _ => false
  | _, .int _ => true
  | _, _ => false
def slot (env : Env) (i : Nat) : Md → Option D
  | .p => (match env[i]? with | some (.v d) => some d | some (.o d) => some d | _ => none)
  | _ => (match env[i]? with | some (.v d) => some d | _ => none)
mutual
def evE (T : Tab) : E → Md → Env → Store → Res D
  | .lit d, m, _, st => post m d st
  | .var i, m, env, st => (Res.opt (slot env i m) st).bind (post m)
  | .con _ d, m, _, st => post m d st
  | .tup es, m, env, st => (evL T es env st).bind fun ds st1 => if lenOk ds.length then post m (.tup ds) st1 else .bad
  | .lst es, m, env, st => (evL T es env st).bind fun ds st1 => if lenOk ds.length then post m (.lst ds) st1 else .bad
  | .alloc a, m, env, st => (evE T a .v env st).bind fun d st1 => (match d, m with | .lst l, .v => .ok (.ref st1.length) (st1 ++ [l]) | _, _ => .bad)
  | .op o a b, m, env, st => (evE T a .p env st).bind fun x st1 => (evE T b .p env st1).bind fun y st2 => (Res.opt (op2 o x y) st2).bind (post m)
  | .neg a, m, env, st => (evE T a .v env st).bind fun x st1 => (match x with | .int i => post m (.int (-i)) st1 | .bl b => post m (.int (-(if b then 1 else 0))) st1 | _ => .bad)
  | .cmp c a b, m, env, st => (evE T a .p env st).bind fun x st1 => (evE T b .p env st1).bind fun y st2 => (Res.opt ((cm2 c x y).map .bl) st2).bind (post m)
  | .chn c c' a b d, m, env, st => (evE T a .v env st).bind fun x st1 => (evE T b .v env st1).bind fun y st2 =>
      (Res.opt (cm2 c x y) st2).bind fun k st3 => if k then (evE T d .v env st3).bind fun z st4 => (Res.opt ((cm2 c' y z).map .bl) st4).bind (post m) else post m (.bl false) st3
  | .no a, m, env, st => (evE T a m.noM env st).bind fun d st1 => (Res.opt (truth d) st1).bind fun k st2 => post m (.bl (!k)) st2
  | .and es, m, env, st => evAnd T es m env st
  | .or es, m, env, st => evOr T es m env st
  | .ite t a b, m, env, st => (evE T t .t env st).bind fun d st1 => (match d with | .bl true => evE T a m env st1 | .bl false => evE T b m env st1 | _ => .bad)
  | .idx a i, m, env, st => (evE T a .p env st).bind fun x st1 => (evE T i .v env st1).bind fun y st2 => (Res.opt (idx st2 x y) st2).bind (post m)
  | .sl a lo hi, m, env, st => (evE T a .p env st).bind fun x st1 => (evE T lo .v env st1).bind fun y st2 => (evE T hi .v env st2).bind fun z st3 => if okS lo y && okS hi z then (Res.opt (slice x y z) st3).bind (post m) else .bad
  | .rev a, m, env, st => (evE T a .p env st).bind fun x st1 => (Res.opt (rev x) st1).bind (post m)
  | .lstv a, m, env, st => (evE T a .v env st).bind fun x st1 => (match x with | .dct true _ vs => if lenOk vs.length then post m (.lst vs) st1 else .bad | _ => .bad)
  | .revt a, m, env, st => (evE T a .p env st).bind fun x st1 => (Res.opt (revt x) st1).bind (post m)
  | .nil, .v, _, st => .ok .non st
  | .call f es, m, env, st => (evL T es env st).bind fun ds st1 => (T f ds st1).bind (post m)
  | .bi b es, m, env, st => (evB T es env st).bind fun ds st1 => (Res.opt (biV st1 b ds) st1).bind (post m)
  | .count a e, m, env, st => (evE T a .p env st).bind fun x st1 => (evE T e .v env st1).bind fun y st2 =>
      (match x, y with | .lst l, .bl k => (match toBls l with | some bs => post m (.int (bs.count k)) st2 | none => .bad) | _, _ => .bad)
  | .comp e tg it cs own, m, env, st => (evE T it .i env st).bind fun d st1 => (match d with
      | .lst ds => (compM (fun d st => match setTg (wipe env (own.map (·.2))) tg d with
          | some env' => (evC T cs env' st).bind fun k st2 => if k then (evE T e .v env' st2).bind fun y st3 => .ok (some y) st3 else .ok none st2
          | none => .bad) ds st1).bind fun r st2 => if lenOk ds.length then post m (.lst r) st2 else .bad
      | _ => .bad)
  | .rng1 a, .i, env, st => (evE T a .v env st).bind fun x st1 => (match x with | .int j => if mid j then .ok (.lst (upto 0 j.toNat)) st1 else .bad | _ => .bad)
  | .rng2 a b, .i, env, st => (evE T a .v env st).bind fun x st1 => (evE T b .v env st1).bind fun y st2 =>
      (match x, y with | .int i, .int j => if mid i && mid j then .ok (.lst (upto i (j - i).toNat)) st2 else .bad | _, _ => .bad)
  | .rng3 a b c, .i, env, st => (evE T a .v env st).bind fun x st1 => (evE T b .v env st1).bind fun y st2 => (evE T c .v env st2).bind fun z st3 =>
      (match x, y, z with | .int i, .int j, .int k => if mid i && mid j && decide (k = -1) then .ok (.lst (dnto i (i - j).toNat)) st3 else .bad | _, _, _ => .bad)
  | .zip a b, .i, env, st => (evE T a .v env st).bind fun x st1 => (evE T b .v env st1).bind fun y st2 =>
      (match x, y with | .lst l, .lst m => .ok (.lst (pairs l m)) st2 | .tup l, .tup m => .ok (.lst (pairs l m)) st2 | .lst l, .tup m => .ok (.lst (pairs l m)) st2 | .tup l, .lst m => .ok (.lst (pairs l m)) st2 | _, _ => .bad)
  | .enum a, .i, env, st => (evE T a .v env st).bind fun x st1 => (match x with | .lst l => .ok (.lst (counted 0 l)) st1 | .tup l => .ok (.lst (counted 0 l)) st1 | _ => .bad)
  | .callk f es ws inv _, m, env, st => (evL T es env st).bind fun ds st1 => (evL T ws env st1).bind fun zs st2 => (Res.opt (pickAll inv (ds ++ zs)) st2).bind fun xs st3 => (T f xs st3).bind (post m)
  | .index a e, m, env, st => (evE T a .p env st).bind fun x st1 => (evE T e .v env st1).bind fun y st2 => (Res.opt (indexD x y) st2).bind (post m)
  | .dnew t, m, _, st => post m (.dct t [] []) st
  | .dct1 t k v, m, env, st => (evE T k .v env st).bind fun y st1 => (evE T v .v env st1).bind fun z st2 => if keyB t y then post m (.dct t [y] [z]) st2 else .bad
  | .dcomp k v tg it own, m, env, st => (evE T it .i env st).bind fun d st1 => (match d with
      | .lst ds => (compM (fun d st => match setTg (wipe env (own.map (·.2))) tg d with
          | some env' => (evE T k .v env' st).bind fun y st2 => (evE T v .v env' st2).bind fun z st3 => if keyT y then .ok (some (.tup [y, z])) st3 else .bad
          | none => .bad) ds st1).bind fun r st2 => if lenOk ds.length then post m (mergeD r) st2 else .bad
      | _ => .bad)
  | .get a k d, m, env, st => (evE T a .p env st).bind fun x st1 => (evE T k .v env st1).bind fun y st2 => (evE T d .v env st2).bind fun z st3 => (Res.opt (getD' x y z) st3).bind (post m)
  | .dvals a, .i, env, st => (evE T a .v env st).bind fun x st1 => (match x with | .dct _ _ vs => .ok (.lst vs) st1 | _ => .bad)
  | .ditems a, .i, env, st => (evE T a .v env st).bind fun x st1 => (match x with | .dct _ ks vs => .ok (.lst (pairs ks vs)) st1 | _ => .bad)
  | .lrng a b, m, env, st => (evE T a .v env st).bind fun x st1 => (evE T b .v env st1).bind fun y st2 =>
      (match x, y with | .int i, .int j => if mid i && mid j && lenOk (j - i).toNat then post m (.lst (upto i (j - i).toNat)) st2 else .bad | _, _ => .bad)
  | .trng a, m, env, st => (evE T a .v env st).bind fun x st1 => (match x with | .int j => if mid j && lenOk j.toNat then post m (.tup (upto 0 j.toNat)) st1 else .bad | _ => .bad)
  | .lzip3 a b c, m, env, st => (evE T a .v env st).bind fun x st1 => (evE T b .v env st1).bind fun y st2 => (evE T c .v env st2).bind fun z st3 =>
      (match x, y, z with | .tup k, .tup l, .tup n => if lenOk k.length then post m (.lst (trips k l n)) st3 else .bad | _, _, _ => .bad)
  | .jn a e, m, env, st => (evE T a .p env st).bind fun x st1 => (evE T e .v env st1).bind fun y st2 => (Res.opt (joinD x y) st2).bind (post m)
  | .spl a e, m, env, st => (evE T a .p env st).bind fun x st1 => (evE T e .v env st1).bind fun y st2 => (Res.opt (splitD x y) st2).bind (post m)
  | .fs es, m, env, st => (evL T es env st).bind fun ds st1 => (Res.opt ((fmtsD "" ds).map .str) st1).bind (post m)
  | .eqs a x, m, env, st => (evE T a .p env st).bind fun d st1 => (Res.opt (eqsD x d) st1).bind (post m)
  | .sumv a, m, env, st => (evE T a .v env st).bind fun x st1 => (Res.opt (sumvD x) st1).bind (post m)
  | .isx a c, m, env, st => (evE T a .v env st).bind fun x st1 => (Res.opt (isxD c x) st1).bind (post m)
  | .fld a k, m, env, st => (evE T a .v env st).bind fun x st1 => (Res.opt (fldD k x) st1).bind (post m)
  | _, _, _, _ => .bad
def evL (T : Tab) : List E → Env → Store → Res (List D)
  | [], _, st => .ok [] st
  | .star a :: es, env, st => (evE T a .p env st).bind fun x st1 => (Res.opt (items x) st1).bind fun l st2 => (evL T es env st2).bind fun r st3 => .ok (l ++ r) st3
  | e :: es, env, st => (evE T e .v env st).bind fun x st1 => (evL T es env st1).bind fun r st2 => .ok (x :: r) st2
def evB (T : Tab) : List E → Env → Store → Res (List D)
  | [], _, st => .ok [] st
  | e :: es, env, st => (evE T e .p env st).bind fun x st1 => (evB T es env st1).bind fun r st2 => .ok (x :: r) st2
def evAnd (T : Tab) : List E → Md → Env → Store → Res D
  | [], _, _, _ => .bad
  | e :: es, m, env, st => (evE T e m env st).bind fun d st1 => (match es, d with | [], d => .ok d st1 | _ :: _, .bl true => evAnd T es m env st1 | _ :: _, .bl false => .ok (.bl false) st1 | _, _ => .bad)
def evOr (T : Tab) : List E → Md → Env → Store → Res D
  | [], _, _, _ => .bad
  | e :: es, m, env, st => (evE T e m env st).bind fun d st1 => (match es, d with | [], d => .ok d st1 | _ :: _, .bl true => .ok (.bl true) st1 | _ :: _, .bl false => evOr T es m env st1 | _ :: _, .non => evOr T es m env st1 | _ :: _, .tup (y :: l) => .ok (.tup (y :: l)) st1 | _, _ => .bad)
/-- the conditions of a comprehension -/
def evC (T : Tab) : List E → Env → Store → Res Bool
  | [], _, st => .ok true st
  | c :: cs, env, st => (evE T c .t env st).bind fun d st1 => (match cs, d with | [], .bl k => .ok k st1 | _, _ => .bad)
end
def loop (f : D → Env → Store → Out) : List D → Env → Store → Out
  | [], env, st => .nx env st
  | a :: as, env, st => (match f a env st with | .nx env1 st1 => loop f as env1 st1 | r => r)
def whl (t : Env → Store → Res D) (b : Env → Store → Out) : Nat → Env → Store → Out
  | 0, _, _ => .bad
  | n + 1, env, st => (t env st).toOut env fun d st1 => match d with | .bl true => (match b env st1 with | .nx env2 st2 => whl t b n env2 st2 | r => r) | .bl false => .nx env st1 | _ => .bad
def seqB : D → Bool
  | .lst _ => true
  | .dct _ _ _ => true
  | _ => false
def parSet (env : Env) : List (Nat × Bool) → List D → Option Env
  | [], [] => some env
  | (i, true) :: l, d :: ds => if seqB d then parSet (env.set i (.o d)) l ds else none
  | (i, false) :: l, d :: ds => parSet (env.set i (.v d)) l ds
  | _, _ => none
def cstR (env : Env) (n : Nat) (d : D) (z : Int) (st : Store) : Out :=
  match st[n]? with
  | some l => (match ixN l.length z with | some q => .nx env (st.set n (l.set q d)) | none => .bad)
  | none => .bad
def cstL (env : Env) (i : Nat) (l : List D) (d : D) (z : Int) (st : Store) : Out :=
  match ixN l.length z with
  | some q => .nx (env.set i (.o (.lst (l.set q d)))) st
  | none => .bad
def cstO (env : Env) (i : Nat) (d : D) (j : D) (st : Store) : Out :=
  match env[i]?, j with
  | some (.v (.ref n)), .int z => cstR env n d z st
  | some (.o (.lst l)), .int z => cstL env i l d z st
  | _, _ => .bad
def putO (env : Env) (i : Nat) (d : D) (j : D) (st : Store) : Out :=
  match env[i]? with
  | some (.o (.dct t ks vs)) => if keyB t j && lenOk ks.length then .nx (env.set i (.o (.dct t (putD ks vs j d).1 (putD ks vs j d).2))) st else .bad
  | _ => .bad
mutual
def ex (T : Tab) : S → Env → Store → Out
  | .set i e, env, st => (evE T e .v env st).toOut env fun d st1 => .nx (env.set i (.v d)) st1
  | .own i e, env, st => (evE T e .v env st).toOut env fun d st1 => if seqB d then .nx (env.set i (.o d)) st1 else .bad
  | .par l es, env, st => (evL T es env st).toOut env fun ds st1 => (match parSet env l ds with | some env' => .nx env' st1 | none => .bad)
  | .unp tg e, env, st => (evE T e .v env st).toOut env fun d st1 => (match setTg env tg d with | some env' => .nx env' st1 | none => .bad)
  | .app i e, env, st => (evE T e .v env st).toOut env fun d st1 =>
      (match env[i]? with | some (.o (.lst l)) => if lenOk l.length then .nx (env.set i (.o (.lst (l ++ [d])))) st1 else .bad | _ => .bad)
  | .cst i k e, env, st => (evE T e .v env st).toOut env fun d st1 => (evE T k .v env st1).toOut env fun j st2 => cstO env i d j st2
  | .put i k e, env, st => (evE T e .v env st).toOut env fun d st1 => (evE T k .v env st1).toOut env fun j st2 => putO env i d j st2
  | .ite t a b, env, st => (evE T t .t env st).toOut env fun d st1 => match d with | .bl true => exs T a env st1 | .bl false => exs T b env st1 | _ => .bad
  | .for_ tg it b, env, st => (evE T it .i env st).toOut env fun ds st1 => (match ds with
      | .lst ds => loop (fun d env st => match setTg env tg d with | some env' => exs T b env' st | none => .bad) ds env st1
      | _ => .bad)
  | .while_ t b, env, st => whl (evE T t .t) (exs T b) 100000 env st
  | .ret e, env, st => (evE T e .v env st).toOut env fun d st1 => .rt d st1
  | .frz i, env, st => (match env[i]? with | some (.o d) => .nx (env.set i (.v d)) st | _ => .bad)
  | .ex e, env, st => (evE T e .v env st).toOut env fun _ st1 => .nx env st1
  | .raise 0 _, _, _ => .bad
  | .raise (c + 1) es, env, st => (evL T es env st).toOut env fun ds st1 => (match ds with | [] => .exc c [] env st1 | [.int i, .int j] => .exc c [.int i, .int j] env st1 | _ => .bad)
  | .exx f es, env, st => (evL T es env st).toOut env fun ds st1 => (T f ds st1).toOutX env fun _ st2 => .nx env st2
  | .retx w f es, env, st => (evL T es env st).toOut env fun ds st1 => (T f ds st1).toOutX env fun d st2 => (match wrapD w d with | some z => .rt z st2 | none => .bad)
  | .plc is, env, st => .nx (plcE env.length is env) st
  | .tryx f es k, env, st => (evL T es env st).toOut env fun ds st1 => (match T f ds st1 with
      | .ok d st2 => (Res.opt (reprD d) st2).toOut env fun z st3 => .rt z st3
      | .exc c a st2 => (T k [.exn c a] []).toOut env fun w _ => (match w with | .str z => if lenOk (2 + z.length) then .rt (.str ("! " ++ z)) st2 else .bad | _ => .bad)
      | .bad => .bad)
  | .pass, env, st => .nx env st
  | .put2 i k1 k2 e, env, st => (evE T e .v env st).toOut env fun d st1 => (match d with
      | .tup [d1, d2] => (evE T k1 .v env st1).toOut env fun j1 st3 =>
        (match putO env i d1 j1 st3 with
        | .nx env1 st4 => (evE T k2 .v env1 st4).toOut env1 fun j2 st5 => putO env1 i d2 j2 st5
        | r => r)
      | _ => .bad)
  | .try_ b, env, st => (match exs T b env st with | .exc _ _ _ _ => .bad | r => r)
def exs (T : Tab) : List S → Env → Store → Out
  | [], env, st => .nx env st
  | s :: ss, env, st => (match ex T s env st with | .nx env1 st1 => exs T ss env1 st1 | r => r)
end
structure Fn where
  ps : Nat
  ns : Nat
  body : List S
def Out.fin : Out → Res D
  | .nx _ st => .ok .non st
  | .rt d st => .ok d st
  | .exc c a _ st => .exc c a st
  | .bad => .bad
def enter (f : Fn) (ds : List D) : Env := ds.map .v ++ List.replicate (f.ns - ds.length) .u
/-- calls nested at most k deep -/
def call (F : Nat → Option Fn) : Nat → Tab
  | 0, _, _, _ => .bad
  | k + 1, n, ds, st => (match F n with
      | some f => if ds.length == f.ps then (exs (call F k) f.body (enter f ds) st).fin else .bad
      | none => .bad)
end LB
/-! LB2: how data stand for values in the heap. -/
namespace LB
open PySem PySem.Spec PyProof.Rows L2

/-- the classes of exceptions, by number; the tables of code objects -/
class Clx where
  cls : Nat → Addr
  n : Nat
  exs : List (Addr × Obj × Nat × Option Addr)
  tabs : List (Addr × PySem.Str)
variable [Clx]
/-- the object of an exception of class c, its dict d -/
def Zx (oe : Obj) (c : Nat) (d : Option Addr) : Prop := c < Clx.n ∧ oe.cls = .ref (Clx.cls c) ∧ oe.dict = d ∧ ∃ vs, oe.data = .fields vs
/-- its fields -/
def ExF (H : Hp) (as : List D) (d : Option Addr) : Prop := (as = [] ∧ d = none) ∨ ∃ (dd : Addr) (i j : Int), d = some dd ∧ as = [.int i, .int j] ∧ H dd = some (.xd [("limit", .int j), ("amount", .int i)])
/-- what is no table -/
def NT (o : HO) : Prop := ∀ ps, o ≠ .tbl ps
/-- nothing but a table stands there -/
def Nw (H : Hp) (a : Addr) : Prop := ∀ o, H a = some o → ∃ ps, o = .tbl ps
theorem Nw.of {H : Hp} {a : Addr} (h : H a = none) : Nw H a := fun o q => by rw [h] at q; cases q
/-- neither locked nor told by its object -/
structure NF (u : HO) : Prop where
  frz : ∀ q w, u ≠ .frz q w
  ext : ∀ φ, u ≠ .ext φ
  xd : ∀ fs, u ≠ .xd fs
  tbl : NT u
theorem NF.lst {xs : List V} : NF (.lst xs) := ⟨(fun _ _ z => nomatch z), (fun _ z => nomatch z), (fun _ z => nomatch z), fun _ z => nomatch z⟩
theorem NF.dK {xs : List (Key × V)} : NF (.dK xs) := ⟨(fun _ _ z => nomatch z), (fun _ z => nomatch z), (fun _ z => nomatch z), fun _ z => nomatch z⟩
theorem NF.dT {xs : List (List Key × V)} : NF (.dT xs) := ⟨(fun _ _ z => nomatch z), (fun _ z => nomatch z), (fun _ z => nomatch z), fun _ z => nomatch z⟩
def kD : Key → D
  | .inl i => .int i
  | .inr x => .str x

mutual
inductive Rp (H : Hp) (F : List Addr) : D → V → Prop
  | non : Rp H F .non .non
  | bl (b : Bool) : Rp H F (.bl b) (.bl b)
  | int (i : Int) : Rp H F (.int i) (.int i)
  | str (x : PySem.Str) : Rp H F (.str x) (.str x)
  | tup {a : Addr} {xs : List V} {ds : List D} : H a = some (.tup xs) → Rps H F ds xs → Rp H F (.tup ds) (.ref a)
  | lst {a : Addr} {o : Obj} {xs : List V} {ds : List D} : H a = some (.frz o (.lst xs)) → Rps H F ds xs → Rp H F (.lst ds) (.ref a)
  | dK {a : Addr} {o : Obj} {kvs : List (Key × V)} {vs : List D} : H a = some (.frz o (.dK kvs)) → Rps H F vs (kvs.map (·.2)) → Rp H F (.dct false (kvs.map fun kv => kD kv.1) vs) (.ref a)
  | dT {a : Addr} {o : Obj} {kvs : List (List Key × V)} {vs : List D} : H a = some (.frz o (.dT kvs)) → Rps H F vs (kvs.map (·.2)) → Rp H F (.dct true (kvs.map fun kv => .tup (kv.1.map kD)) vs) (.ref a)
  | ref {n : Nat} {a : Addr} : F[n]? = some a → Rp H F (.ref n) (.ref a)
  | exn {a : Addr} {oe : Obj} {c : Nat} {as : List D} {d : Option Addr} : (a, oe, c, d) ∈ Clx.exs → ExF H as d → Rp H F (.exn c as) (.ref a)
inductive Rps (H : Hp) (F : List Addr) : List D → List V → Prop
  | nil : Rps H F [] []
  | cons {d : D} {x : V} {ds : List D} {xs : List V} : Rp H F d x → Rps H F ds xs → Rps H F (d :: ds) (x :: xs)
end

/-- what data lean on stays -/
structure Kps (H : Hp) (F : List Addr) (H' : Hp) (F' : List Addr) : Prop where
  tup : ∀ a xs, H a = some (.tup xs) → H' a = some (.tup xs)
  frz : ∀ a o u, H a = some (.frz o u) → H' a = some (.frz o u)
  pre : ∀ (n : Nat) (a : Addr), F[n]? = some a → F'[n]? = some a
  ext : ∀ a φ, H a = some (.ext φ) → H' a = some (.ext φ)
  xd : ∀ a fs, H a = some (.xd fs) → H' a = some (.xd fs)

section
variable {H H' : Hp} {F F' : List Addr}
theorem ExF.mono {as : List D} {d : Option Addr} (k : Kps H F H' F') : ExF H as d → ExF H' as d
  | .inl h => .inl h
  | .inr ⟨dd, i, j, e, e2, h⟩ => .inr ⟨dd, i, j, e, e2, k.xd _ _ h⟩
mutual
theorem Rp.mono (k : Kps H F H' F') : ∀ {d : D} {x : V}, Rp H F d x → Rp H' F' d x
  | _, _, .non => .non
  | _, _, .bl b => .bl b
  | _, _, .int i => .int i
  | _, _, .str x => .str x
  | _, _, .tup e r => .tup (k.tup _ _ e) (Rps.mono k r)
  | _, _, .lst e r => .lst (k.frz _ _ _ e) (Rps.mono k r)
  | _, _, .dK e r => .dK (k.frz _ _ _ e) (Rps.mono k r)
  | _, _, .dT e r => .dT (k.frz _ _ _ e) (Rps.mono k r)
  | _, _, .ref e => .ref (k.pre _ _ e)
  | _, _, .exn e f => .exn e (f.mono k)
theorem Rps.mono (k : Kps H F H' F') : ∀ {ds : List D} {xs : List V}, Rps H F ds xs → Rps H' F' ds xs
  | _, _, .nil => .nil
  | _, _, .cons r q => .cons (Rp.mono k r) (Rps.mono k q)
end
theorem Rps.length : ∀ {ds : List D} {xs : List V}, Rps H F ds xs → ds.length = xs.length
  | _, _, .nil => rfl
  | _, _, .cons _ q => by rw [List.length_cons, List.length_cons, Rps.length q]
theorem Rps.get : ∀ {ds : List D} {xs : List V} {i : Nat} {d : D}, Rps H F ds xs → ds[i]? = some d → ∃ x, xs[i]? = some x ∧ Rp H F d x
  | _, _, _, _, .nil, e => by simp at e
  | _, _, 0, _, .cons r _, e => by simp at e; subst e; exact ⟨_, rfl, r⟩
  | _, _, i + 1, _, .cons _ q, e => by
    obtain ⟨x, h1, h2⟩ := Rps.get (i := i) q (by simpa using e)
    exact ⟨x, by simpa using h1, h2⟩
theorem Rps.getV : ∀ {ds : List D} {xs : List V} {i : Nat} {x : V}, Rps H F ds xs → xs[i]? = some x → ∃ d, ds[i]? = some d ∧ Rp H F d x
  | _, _, _, _, .nil, e => by simp at e
  | _, _, 0, _, .cons r _, e => by simp at e; subst e; exact ⟨_, rfl, r⟩
  | _, _, i + 1, _, .cons _ q, e => by
    obtain ⟨x, h1, h2⟩ := Rps.getV (i := i) q (by simpa using e)
    exact ⟨x, by simpa using h1, h2⟩
theorem Rps.app : ∀ {ds es : List D} {xs ys : List V}, Rps H F ds xs → Rps H F es ys → Rps H F (ds ++ es) (xs ++ ys)
  | _, _, _, _, .nil, s => s
  | _, _, _, _, .cons r t, s => .cons r (Rps.app t s)
theorem Rps.take : ∀ {ds : List D} {xs : List V} (n : Nat), Rps H F ds xs → Rps H F (ds.take n) (xs.take n)
  | _, _, 0, _ => .nil
  | _, _, _ + 1, .nil => .nil
  | _, _, n + 1, .cons r t => .cons r (Rps.take n t)
theorem Rps.drop : ∀ {ds : List D} {xs : List V} (n : Nat), Rps H F ds xs → Rps H F (ds.drop n) (xs.drop n)
  | _, _, 0, r => r
  | _, _, _ + 1, .nil => .nil
  | _, _, n + 1, .cons _ t => Rps.drop n t
theorem Rps.set {d : D} {x : V} (r : Rp H F d x) : ∀ {ds : List D} {xs : List V} (i : Nat), Rps H F ds xs → Rps H F (ds.set i d) (xs.set i x)
  | _, _, _, .nil => .nil
  | _, _, 0, .cons _ t => .cons r t
  | _, _, i + 1, .cons q t => .cons q (Rps.set r i t)
theorem Rps.revAux : ∀ {ds es : List D} {xs ys : List V}, Rps H F ds xs → Rps H F es ys → Rps H F (ds.reverseAux es) (xs.reverseAux ys)
  | _, _, _, _, .nil, s => s
  | _ :: ds, es, _ :: xs, ys, .cons r t, s => by
    show Rps H F (ds.reverseAux _) (xs.reverseAux _)
    exact Rps.revAux t (.cons r s)
theorem Rps.rev {ds : List D} {xs : List V} (r : Rps H F ds xs) : Rps H F ds.reverse xs.reverse := Rps.revAux r .nil
theorem Rps.flatRep {ds : List D} {xs : List V} (r : Rps H F ds xs) : ∀ n : Nat, Rps H F (List.replicate n ds).flatten (List.replicate n xs).flatten
  | 0 => .nil
  | n + 1 => by rw [List.replicate_succ, List.replicate_succ, List.flatten_cons, List.flatten_cons]; exact r.app (flatRep r n)
theorem Rps.ints : ∀ {ds : List D} {xs : List V} {ns : List Int}, Rps H F ds xs → toInts ds = some ns → xs = ns.map V.int
  | _, _, _, .nil, e => by cases e; rfl
  | _, _, ns, @Rps.cons _ _ _ d x ds xs r t, e => by
    cases r with
    | int i =>
      cases q : toInts ds with
      | none => simp [toInts, q] at e
      | some m => simp [toInts, q] at e; subst e; rw [Rps.ints t q]; rfl
    | _ => cases e
theorem Rps.bls : ∀ {ds : List D} {xs : List V} {ns : List Bool}, Rps H F ds xs → toBls ds = some ns → xs = ns.map V.bl
  | _, _, _, .nil, e => by cases e; rfl
  | _, _, ns, @Rps.cons _ _ _ d x ds xs r t, e => by
    cases r with
    | bl i =>
      cases q : toBls ds with
      | none => simp [toBls, q] at e
      | some m => simp [toBls, q] at e; subst e; rw [Rps.bls t q]; rfl
    | _ => cases e
end

/-- the store's cells -/
structure SR (H : Hp) (F : List Addr) (st : Store) : Prop where
  len : F.length = st.length
  nd : F.Nodup
  cell : ∀ (n : Nat) (a : Addr), F[n]? = some a → ∃ xs ds, H a = some (.lst xs) ∧ st[n]? = some ds ∧ Rps H F ds xs
  tab : LamX.Tabs Clx.tabs H

/-- from one heap to a later one: cells may change, tables may grow, all else stays; new cells are new -/
structure Stp (H : Hp) (F : List Addr) (H' : Hp) (F' : List Addr) : Prop where
  pre : ∀ (n : Nat) (a : Addr), F[n]? = some a → F'[n]? = some a
  new : ∀ a, a ∈ F' → a ∈ F ∨ Nw H a
  ext : ∀ a o, H a = some o → a ∉ F → NT o → H' a = some o
  tab : LamX.Tabs Clx.tabs H → LamX.Tabs Clx.tabs H'
section
variable {H H1 H2 : Hp} {F F1 F2 : List Addr} {st st1 : Store}
/-- tables stay good where their objects and those of code stay -/
theorem tabs_keep (h1 : ∀ a ps, H a = some (.tbl ps) → H1 a = some (.tbl ps)) (h2 : ∀ a φ, H a = some (.ext φ) → H1 a = some (.ext φ)) (t : LamX.Tabs Clx.tabs H) : LamX.Tabs Clx.tabs H1 := fun p hp => by
  obtain ⟨ps, a1, a2, a3⟩ := t p hp
  refine ⟨ps, h1 _ _ a1, a2, fun pos cv hc => ?_⟩
  obtain ⟨c, e1, e2⟩ := a3 pos cv hc
  exact ⟨c, e1, h2 _ _ e2⟩
theorem tabs_upd {p : Addr} {u o : HO} (h : H p = some o) (n : NF o) (t : LamX.Tabs Clx.tabs H) : LamX.Tabs Clx.tabs (upd H p u) :=
  tabs_keep (fun a ps e => by rw [upd_ne (fun z => by rw [z, h] at e; cases e; exact n.tbl _ rfl)]; exact e) (fun a φ e => by rw [upd_ne (fun z => by rw [z, h] at e; cases e; exact n.ext _ rfl)]; exact e) t
theorem tabs_new {p : Addr} {u : HO} (h : H p = none) (t : LamX.Tabs Clx.tabs H) : LamX.Tabs Clx.tabs (upd H p u) :=
  tabs_keep (fun a ps e => by rw [upd_ne (ne_of_none e h)]; exact e) (fun a φ e => by rw [upd_ne (ne_of_none e h)]; exact e) t
theorem mem_F {F : List Addr} {a : Addr} (h : a ∈ F) : ∃ n : Nat, F[n]? = some a := by
  obtain ⟨n, hn, e⟩ := List.mem_iff_getElem.mp h
  exact ⟨n, by rw [← e]; simp [hn]⟩
theorem SR.lst (s : SR H F st) {a : Addr} (h : a ∈ F) : ∃ xs, H a = some (.lst xs) := by
  obtain ⟨n, e⟩ := mem_F h
  obtain ⟨xs, _, h1, _⟩ := s.cell n a e
  exact ⟨xs, h1⟩
theorem SR.not (s : SR H F st) {a : Addr} {o : HO} (h : H a = some o) (ho : ∀ xs, o ≠ .lst xs) : a ∉ F := fun m => by
  obtain ⟨xs, e⟩ := s.lst m
  rw [h] at e; cases e; exact ho _ rfl
theorem Stp.refl : Stp H F H F := ⟨fun _ _ h => h, fun _ h => .inl h, (fun _ _ h _ _ => h), fun t => t⟩
theorem Stp.back (a : Stp H F H1 F1) {x : Addr} {o : HO} (h : H x = some o) (hn : x ∉ F) (nt : NT o) : x ∉ F1 := fun m => by
  rcases a.new x m with z | z
  · exact hn z
  · obtain ⟨ps, e⟩ := z _ h
    exact nt ps e
theorem Stp.trans (a : Stp H F H1 F1) (b : Stp H1 F1 H2 F2) : Stp H F H2 F2 where
  pre := fun n x h => b.pre n x (a.pre n x h)
  new := fun x h => by
    rcases b.new x h with h | h
    · exact a.new x h
    · by_cases hm : x ∈ F
      · exact .inl hm
      · refine .inr fun o q => ?_
        refine Classical.byContradiction fun hc => ?_
        have nt : NT o := fun ps e => hc ⟨ps, e⟩
        exact hc (h o (a.ext x o q hm nt))
  ext := fun x o h hn nt => b.ext x o (a.ext x o h hn nt) (a.back h hn nt) nt
  tab := fun t => b.tab (a.tab t)
/-- what is new later was new before -/
theorem Stp.nw (a : Stp H F H1 F1) (s : SR H1 F1 st1) {p : Addr} (hp : Nw H1 p) : Nw H p := fun o q => by
  refine Classical.byContradiction fun hc => ?_
  have nt : NT o := fun ps e => hc ⟨ps, e⟩
  by_cases hm : p ∈ F
  · obtain ⟨n, e⟩ := mem_F hm
    obtain ⟨xs, ds, c1, _⟩ := s.cell n p (a.pre n p e)
    obtain ⟨ps, z⟩ := hp _ c1
    cases z
  · exact hc (hp o (a.ext p o q hm nt))
theorem Stp.keeps (a : Stp H F H1 F1) (s : SR H F st) : Kps H F H1 F1 :=
  ⟨fun x xs h => a.ext x _ h (s.not h fun _ z => nomatch z) fun _ z => (nomatch z), fun x o u h => a.ext x _ h (s.not h fun _ z => nomatch z) fun _ z => (nomatch z), a.pre, fun x φ h => a.ext x _ h (s.not h fun _ z => nomatch z) fun _ z => (nomatch z), fun x φ h => a.ext x _ h (s.not h fun _ z => nomatch z) fun _ z => (nomatch z)⟩
/-- a new object -/
theorem Stp.laid {p : Addr} {o : HO} (s : SR H F st) (hp : H p = none) : Stp H F (upd H p o) F :=
  ⟨fun _ _ h => h, fun _ h => .inl h, (fun x u h _ _ => by rw [upd_ne (ne_of_none h hp)]; exact h), tabs_new hp⟩
/-- a thing of one's own changes -/
theorem Stp.updN {p : Addr} {o u : HO} {G : Hp} {F0 : List Addr} (a : Stp G F0 H F) (h : H p = some o) (n : NF o) (hG : Nw G p) : Stp G F0 (upd H p u) F :=
  ⟨a.pre, a.new, fun x v q hn nt => by
    rw [upd_ne (fun z => by
      rw [z] at q
      obtain ⟨ps, e⟩ := hG _ q
      exact nt ps e)]
    exact a.ext x v q hn nt, fun t => tabs_upd h n (a.tab t)⟩
theorem SR.notNew {p : Addr} (s : SR H F st) (hp : H p = none) : p ∉ F := fun m => by
  obtain ⟨xs, e⟩ := s.lst m
  rw [hp] at e; cases e
theorem SR.laid {p : Addr} {o : HO} (s : SR H F st) (hp : H p = none) : SR (upd H p o) F st := by
  refine ⟨s.len, s.nd, fun n a e => ?_, tabs_new hp s.tab⟩
  obtain ⟨xs, ds, h1, h2, h3⟩ := s.cell n a e
  refine ⟨xs, ds, ?_, h2, h3.mono ((Stp.laid (o := o) s hp).keeps s)⟩
  rw [upd_ne (ne_of_none h1 hp)]; exact h1
/-- an object apart from the cells is changed that no data lean on -/
theorem keeps_upd {p : Addr} {o u : HO} (h : H p = some o) (h1 : ∀ xs, o ≠ .tup xs) (h2 : NF o) : Kps H F (upd H p u) F :=
  ⟨fun a xs e => by rw [upd_ne (fun z => by rw [z, h] at e; cases e; exact h1 _ rfl)]; exact e, fun a q w e => by rw [upd_ne (fun z => by rw [z, h] at e; cases e; exact h2.frz _ _ rfl)]; exact e, fun _ _ e => e,
    fun a q e => by rw [upd_ne (fun z => by rw [z, h] at e; cases e; exact h2.ext _ rfl)]; exact e, fun a q e => by rw [upd_ne (fun z => by rw [z, h] at e; cases e; exact h2.xd _ rfl)]; exact e⟩
theorem keeps_new {p : Addr} {u : HO} (h : H p = none) : Kps H F (upd H p u) F :=
  ⟨fun a xs e => by rw [upd_ne (ne_of_none e h)]; exact e, fun a q w e => by rw [upd_ne (ne_of_none e h)]; exact e, fun _ _ e => e, fun a q e => by rw [upd_ne (ne_of_none e h)]; exact e, fun a q e => by rw [upd_ne (ne_of_none e h)]; exact e⟩
theorem SR.other {p : Addr} {o u : HO} (s : SR H F st) (h : H p = some o) (h1 : ∀ xs, o ≠ .tup xs) (h2 : NF o) (hn : p ∉ F) : SR (upd H p u) F st := by
  refine ⟨s.len, s.nd, fun n a e => ?_, tabs_upd h h2 s.tab⟩
  obtain ⟨xs, ds, e1, e2, e3⟩ := s.cell n a e
  refine ⟨xs, ds, ?_, e2, e3.mono (keeps_upd h h1 h2)⟩
  rw [upd_ne (fun z => hn (by rw [← z]; exact List.mem_of_getElem? e))]; exact e1
/-- the tables grow -/
theorem Stp.tabs (e : LamX.ExtN H H1) (t : LamX.Tabs Clx.tabs H1) : Stp H F H1 F := ⟨fun _ _ h => h, fun _ h => .inl h, fun x o h _ nt => e x o h nt, fun _ => t⟩
theorem SR.tabs (s : SR H F st) (e : LamX.ExtN H H1) (t : LamX.Tabs Clx.tabs H1) : SR H1 F st := by
  refine ⟨s.len, s.nd, fun n a q => ?_, t⟩
  obtain ⟨xs, ds, h1, h2, h3⟩ := s.cell n a q
  exact ⟨xs, ds, e _ _ h1 fun _ z => (nomatch z), h2, h3.mono ((Stp.tabs e t).keeps s)⟩
end

/-- an owned thing: a list (or dict) that nothing else refers to -/
inductive Ow (H : Hp) (F : List Addr) : D → Addr → Prop
  | lst {a : Addr} {xs : List V} {ds : List D} : H a = some (.lst xs) → Rps H F ds xs → Ow H F (.lst ds) a
  | dK {a : Addr} {kvs : List (Key × V)} {vs : List D} : H a = some (.dK kvs) → Rps H F vs (kvs.map (·.2)) → Ow H F (.dct false (kvs.map fun kv => kD kv.1) vs) a
  | dT {a : Addr} {kvs : List (List Key × V)} {vs : List D} : H a = some (.dT kvs) → Rps H F vs (kvs.map (·.2)) → Ow H F (.dct true (kvs.map fun kv => .tup (kv.1.map kD)) vs) a
theorem Ow.mono {H H' : Hp} {F F' : List Addr} {d : D} {a : Addr} (k : Kps H F H' F') (e : ∀ o, H a = some o → NF o → H' a = some o) : Ow H F d a → Ow H' F' d a
  | .lst h r => .lst (e _ h .lst) (r.mono k)
  | .dK h r => .dK (e _ h .dK) (r.mono k)
  | .dT h r => .dT (e _ h .dT) (r.mono k)
theorem Ow.at {H : Hp} {F : List Addr} {d : D} {a : Addr} : Ow H F d a → ∃ u, H a = some u ∧ Mut (some u) ∧ (∀ xs, u ≠ .tup xs) ∧ NF u
  | .lst h _ => ⟨_, h, trivial, (fun _ z => nomatch z), .lst⟩
  | .dK h _ => ⟨_, h, trivial, (fun _ z => nomatch z), .dK⟩
  | .dT h _ => ⟨_, h, trivial, (fun _ z => nomatch z), .dT⟩

/-- the slots: the frame entered at heap G -/
structure ER (G : Hp) (σ : L2.St) (H : Hp) (F : List Addr) (env : Env) : Prop where
  val : ∀ (i : Nat) (d : D), env[i]? = some (.v d) → ∃ x, σ[i]? = some (some x) ∧ Rp H F d x
  own : ∀ (i : Nat) (d : D), env[i]? = some (.o d) → ∃ a, σ[i]? = some (some (.ref a)) ∧ Ow H F d a ∧ a ∉ F ∧ Nw G a
  one : ∀ (i j : Nat) (d e : D) (a : Addr), env[i]? = some (.o d) → env[j]? = some (.o e) → σ[i]? = some (some (.ref a)) → σ[j]? = some (some (.ref a)) → i = j
  len : env.length = σ.length
section
variable {G : Hp} {σ : L2.St} {H H1 : Hp} {F F1 : List Addr} {env : Env} {st st1 : Store}
theorem ER.step (r : ER G σ H F env) (s : SR H F st) (a : Stp H F H1 F1) : ER G σ H1 F1 env := by
  refine ⟨fun i d e => ?_, fun i d e => ?_, r.one, r.len⟩
  · obtain ⟨x, h1, h2⟩ := r.val i d e
    exact ⟨x, h1, h2.mono (a.keeps s)⟩
  · obtain ⟨p, h1, h2, h3, h4⟩ := r.own i d e
    obtain ⟨u, hu, _, _, nf⟩ := h2.at
    exact ⟨p, h1, h2.mono (a.keeps s) fun o q n => a.ext p o q h3 n.tbl, a.back hu h3 nf.tbl, h4⟩
theorem ER.slot (r : ER G σ H F env) {i : Nat} (hi : i < env.length) : i < σ.length := by rw [← r.len]; exact hi
/-- a value is stored -/
theorem ER.put {i : Nat} {d : D} {x : V} (r : ER G σ H F env) (h : Rp H F d x) : ER G (σ.set i (some x)) H F (env.set i (.v d)) := by
  refine ⟨fun j e he => ?_, fun j e he => ?_, fun j k e e' a h1 h2 h3 h4 => ?_, by rw [List.length_set, List.length_set, r.len]⟩
  · by_cases hj : i = j
    · subst hj
      by_cases hl : i < env.length
      · rw [List.getElem?_set_self hl] at he
        cases he
        exact ⟨x, List.getElem?_set_self (r.slot hl), h⟩
      · rw [List.getElem?_eq_none (by simpa using hl)] at he; cases he
    · rw [List.getElem?_set_ne hj] at he
      rw [List.getElem?_set_ne hj]
      exact r.val j e he
  · by_cases hj : i = j
    · subst hj
      by_cases hl : i < env.length
      · rw [List.getElem?_set_self hl] at he; cases he
      · rw [List.getElem?_eq_none (by simpa using hl)] at he; cases he
    · rw [List.getElem?_set_ne hj] at he
      rw [List.getElem?_set_ne hj]
      exact r.own j e he
  · have nj : ∀ {j : Nat} {e : D}, (env.set i (.v d))[j]? = some (.o e) → i ≠ j ∧ env[j]? = some (.o e) := fun {j e} he => by
      by_cases hj : i = j
      · subst hj
        by_cases hl : i < env.length
        · rw [List.getElem?_set_self hl] at he; cases he
        · rw [List.getElem?_eq_none (by simpa using hl)] at he; cases he
      · rw [List.getElem?_set_ne hj] at he
        exact ⟨hj, he⟩
    obtain ⟨n1, e1⟩ := nj h1
    obtain ⟨n2, e2⟩ := nj h2
    rw [List.getElem?_set_ne n1] at h3
    rw [List.getElem?_set_ne n2] at h4
    exact r.one j k e e' a e1 e2 h3 h4
/-- an owned thing is stored that no slot holds yet -/
theorem ER.putO {i : Nat} {d : D} {p : Addr} (r : ER G σ H F env) (h : Ow H F d p) (hF : p ∉ F) (hG : Nw G p) (hn : ∀ j e, j ≠ i → env[j]? = some (.o e) → σ[j]? ≠ some (some (.ref p))) :
    ER G (σ.set i (some (.ref p))) H F (env.set i (.o d)) := by
  have nj : ∀ {j : Nat} {e : D}, i ≠ j → (env.set i (.o d))[j]? = some (.o e) → env[j]? = some (.o e) := fun {j e} hj he => by
    rw [List.getElem?_set_ne hj] at he; exact he
  refine ⟨fun j e he => ?_, fun j e he => ?_, fun j k e e' a h1 h2 h3 h4 => ?_, by rw [List.length_set, List.length_set, r.len]⟩
  · by_cases hj : i = j
    · subst hj
      by_cases hl : i < env.length
      · rw [List.getElem?_set_self hl] at he; cases he
      · rw [List.getElem?_eq_none (by simpa using hl)] at he; cases he
    · rw [List.getElem?_set_ne hj] at he
      rw [List.getElem?_set_ne hj]
      exact r.val j e he
  · by_cases hj : i = j
    · subst hj
      by_cases hl : i < env.length
      · rw [List.getElem?_set_self hl] at he
        cases he
        exact ⟨p, List.getElem?_set_self (r.slot hl), h, hF, hG⟩
      · rw [List.getElem?_eq_none (by simpa using hl)] at he; cases he
    · rw [List.getElem?_set_ne hj] at he
      rw [List.getElem?_set_ne hj]
      exact r.own j e he
  · by_cases hj : i = j
    · by_cases hk : i = k
      · exact hj.symm.trans hk
      · subst hj
        rw [List.getElem?_set_ne hk] at h2 h4
        by_cases hl : i < env.length
        · rw [List.getElem?_set_self (r.slot hl)] at h3
          cases h3
          exact absurd h4 (hn k e' (fun z => hk z.symm) h2)
        · rw [List.getElem?_eq_none (by simpa using hl)] at h1; cases h1
    · by_cases hk : i = k
      · subst hk
        rw [List.getElem?_set_ne hj] at h1 h3
        by_cases hl : i < env.length
        · rw [List.getElem?_set_self (r.slot hl)] at h4
          cases h4
          exact absurd h3 (hn j e (fun z => hj z.symm) h1)
        · rw [List.getElem?_eq_none (by simpa using hl)] at h2; cases h2
      · rw [List.getElem?_set_ne hj] at h1 h3
        rw [List.getElem?_set_ne hk] at h2 h4
        exact r.one j k e e' a h1 h2 h3 h4
/-- an owned thing changes in place -/
theorem ER.upd {i : Nat} {d d' : D} {p : Addr} {u : HO} (r : ER G σ H F env) (hi : env[i]? = some (.o d)) (hp : σ[i]? = some (some (.ref p))) (h' : Kps H F (upd H p u) F → Ow (upd H p u) F d' p) : ER G σ (L2.upd H p u) F (env.set i (.o d')) := by
  obtain ⟨a, e1, ow, nF, nG⟩ := r.own i d hi
  rw [hp] at e1; cases e1
  obtain ⟨w, hw, _, t1, t2⟩ := ow.at
  have k : Kps H F (L2.upd H p u) F := keeps_upd hw t1 t2
  have hl : i < env.length := (List.getElem?_eq_some_iff.mp hi).1
  have back : ∀ {j : Nat} {s : Slot}, i ≠ j → (env.set i (.o d'))[j]? = some s → env[j]? = some s := fun hj he => by rw [List.getElem?_set_ne hj] at he; exact he
  refine ⟨fun j e he => ?_, fun j e he => ?_, fun j k e e' b h1 h2 h3 h4 => ?_, by rw [List.length_set, r.len]⟩
  · have hj : i ≠ j := fun z => by subst z; rw [List.getElem?_set_self hl] at he; cases he
    obtain ⟨x, q1, q2⟩ := r.val j e (back hj he)
    exact ⟨x, q1, q2.mono k⟩
  · by_cases hj : i = j
    · subst hj
      rw [List.getElem?_set_self hl] at he; cases he
      exact ⟨p, hp, h' k, nF, nG⟩
    · obtain ⟨b, q1, q2, q3, q4⟩ := r.own j e (back hj he)
      refine ⟨b, q1, q2.mono k fun o q _ => ?_, q3, q4⟩
      rw [upd_ne (fun z => hj (r.one i j d e p hi (back hj he) hp (by rw [q1, z])))]
      exact q
  · have g : ∀ {j : Nat} {e : D}, (env.set i (.o d'))[j]? = some (.o e) → ∃ e2, env[j]? = some (.o e2) := fun {j e} q => by
      by_cases hj : i = j
      · subst hj; exact ⟨d, hi⟩
      · exact ⟨e, back hj q⟩
    obtain ⟨e1, g1⟩ := g h1
    obtain ⟨e2, g2⟩ := g h2
    exact r.one j k e1 e2 b g1 g2 h3 h4
end
end LB
/-! LB3: the operations, by values. -/
namespace LB
open PySem PySem.Spec PyProof.Rows L2
variable [Clx]

def isSeq : D → Prop
  | .lst _ => True
  | .dct _ _ _ => True
  | _ => False
/-- a value that is looked at on the spot -/
def Pk (H : Hp) (F : List Addr) (d : D) (x : V) : Prop := Rp H F d x ∨ ∃ a, x = .ref a ∧ Ow H F d a ∧ a ∉ F
theorem Pk.step {H H1 : Hp} {F F1 : List Addr} {st : Store} {d : D} {x : V} (s : SR H F st) (a : Stp H F H1 F1) : Pk H F d x → Pk H1 F1 d x
  | .inl r => .inl (r.mono (a.keeps s))
  | .inr ⟨p, e, w, n⟩ => by
    obtain ⟨u, hu, _, _, nf⟩ := w.at
    exact .inr ⟨p, e, w.mono (a.keeps s) fun o q k => a.ext p o q n k.tbl, a.back hu n nf.tbl⟩
inductive Pks (H : Hp) (F : List Addr) : List D → List V → Prop
  | nil : Pks H F [] []
  | cons {d : D} {x : V} {ds : List D} {xs : List V} : Pk H F d x → Pks H F ds xs → Pks H F (d :: ds) (x :: xs)
theorem Pks.of {H : Hp} {F : List Addr} : ∀ {ds : List D} {xs : List V}, Rps H F ds xs → Pks H F ds xs
  | _, _, .nil => .nil
  | _, _, .cons r t => .cons (.inl r) (Pks.of t)

/-- a result: a value; a new thing that nothing else refers to -/
def Gv (H : Hp) (F : List Addr) (st : Store) (z : D) (Q : VK) : Prop := ∀ v H', Stp H F H' F → SR H' F st → Rp H' F z v → Q v H'
def Gf (H : Hp) (F : List Addr) (st : Store) (z : D) (Q : VK) : Prop := ∀ p H', H p = none → Stp H F H' F → SR H' F st → Ow H' F z p → Q (.ref p) H'

section
variable {X : Cx} {pins : List (Addr × Obj)} {σ : L2.St} {H : Hp} {s : Shared} {F : List Addr} {st : Store} {Q : VK}
theorem sz_ok {n : Nat} (h : lenOk n = true) : n ≤ sizeLine := Nat.le_trans (Nat.le_of_ble_eq_true h) (by rw [sizeLine_eq]; decide)
theorem sz_lt' {n : Nat} (h : lenOk n = true) : n < sizeLine := Nat.lt_of_le_of_lt (Nat.le_of_ble_eq_true h) (by rw [sizeLine_eq]; decide)
theorem Gv.here {z : D} {v : V} (g : Gv H F st z Q) (s : SR H F st) (r : Rp H F z v) : Q v H := g v H Stp.refl s r
/-- a new thing is locked -/
theorem Gv.lock {z : D} {s' : Shared} {p : Addr} {H' : Hp} (I : Inv X pins σ H' s') (s0 : SR H F st) (g : Gv H F st z Q) (hp : H p = none) (a : Stp H F H' F) (sr : SR H' F st) (w : Ow H' F z p) :
    EP X pins σ Q (.ref p) s' := by
  obtain ⟨u, hu, mu, t1, t2⟩ := w.at
  obtain ⟨o, J⟩ := I.lock hu mu
  have nF : p ∉ F := s0.notNew hp
  have k : Kps H' F (upd H' p (.frz o u)) F := keeps_upd hu t1 t2
  refine ⟨.ref p, upd H' p (.frz o u), J, rfl, g _ _ (a.updN hu t2 (.of hp)) (sr.other hu t1 t2 nF) ?_⟩
  · cases w with
    | lst h r => rw [h] at hu; cases hu; exact .lst upd_same (r.mono k)
    | dK h r => rw [h] at hu; cases hu; exact .dK upd_same (r.mono k)
    | dT h r => rw [h] at hu; cases hu; exact .dT upd_same (r.mono k)
theorem Gf.give {z : D} {s' : Shared} {p : Addr} {H' : Hp} (I : Inv X pins σ H' s') (g : Gf H F st z Q) (hp : H p = none) (a : Stp H F H' F) (sr : SR H' F st) (w : Ow H' F z p) : EP X pins σ Q (.ref p) s' :=
  ⟨.ref p, H', I, rfl, g p H' hp a sr w⟩
/-- either way -/
def Gd (fresh : Bool) (H : Hp) (F : List Addr) (st : Store) (z : D) (Q : VK) : Prop := if fresh = true then Gf H F st z Q else Gv H F st z Q
theorem Gd.new {b : Bool} {z : D} {s' : Shared} {p : Addr} {H' : Hp} (I : Inv X pins σ H' s') (s0 : SR H F st) (g : Gd b H F st z Q) (hp : H p = none) (a : Stp H F H' F) (sr : SR H' F st) (w : Ow H' F z p) :
    EP X pins σ Q (.ref p) s' := by
  cases b with
  | true => exact Gf.give I g hp a sr w
  | false => exact Gv.lock I s0 g hp a sr w
/-- a new list -/
theorem Gd.list {b : Bool} {ds : List D} {ys : List V} {its : List Value} {t' : Nat} (I : Inv X pins σ H s) (s0 : SR H F st) (g : Gd b H F st (.lst ds) Q) (r : Rps H F ds ys) (hv : Vals ys its) (hz : ys.length ≤ sizeLine) :
    EP X pins σ Q (.ref s.heap.objs.size) { s with heap := s.heap.push { cls := .type "list", data := .seq its.toArray }, toks := t' } :=
  Gd.new (I.lnew (t' := t') hv hz) s0 g I.fresh (Stp.laid s0 I.fresh) (s0.laid I.fresh) (.lst upd_same (r.mono (keeps_new I.fresh)))
/-- a new tuple -/
theorem Gv.tupAt {ds : List D} {xs : List V} {p : Addr} (g : Gv H F st (.tup ds) Q) (s0 : SR H F st) (r : Rps H F ds xs) (hp : H p = none) : Q (.ref p) (upd H p (.tup xs)) :=
  g _ _ (Stp.laid s0 hp) (s0.laid hp) (.tup upd_same (r.mono (keeps_new hp)))
/-- a list that is read: locked or owned -/
theorem list_of (I : Inv X pins σ H s) {ds : List D} {x : V} {u : Value} (h : Pk H F (.lst ds) x) (r : RelV x u) :
    ∃ a xs its n, x = .ref a ∧ u = .ref a ∧ Rps H F ds xs ∧ SqL X.K H a xs ∧ Vals xs its ∧ s.heap.get? a = some { cls := .type "list", data := .seq its.toArray n } ∧ xs.length ≤ sizeLine := by
  rcases h with h | ⟨a, rfl, h, _⟩
  · cases h with
    | lst e q =>
      cases r
      obtain ⟨_, z, its, n, v, w⟩ := (show ObjOk X.prog X.w H s.heap _ (.frz _ (.lst _)) from I.hok _ _ e)
      exact ⟨_, _, its, n, rfl, rfl, q, .inl (.inr ⟨_, e⟩), v, w, z⟩
  · cases h with
    | lst e q =>
      cases r
      obtain ⟨z, its, n, v, w⟩ := (show ObjOk X.prog X.w H s.heap _ (.lst _) from I.hok _ _ e)
      exact ⟨_, _, its, n, rfl, rfl, q, .inl (.inl e), v, w, z⟩
theorem listV {K : PySem.W.Frag} {ds : List D} {x : V} (h : Pk H F (.lst ds) x) : ∃ a xs, x = .ref a ∧ Rps H F ds xs ∧ SqL K H a xs := by
  rcases h with h | ⟨a, rfl, h, _⟩
  · cases h with
    | lst e q => exact ⟨_, _, rfl, q, .inl (.inr ⟨_, e⟩)⟩
  · cases h with
    | lst e q => exact ⟨_, _, rfl, q, .inl (.inl e)⟩
theorem tupV {K : PySem.W.Frag} {ds : List D} {x : V} (h : Pk H F (.tup ds) x) : ∃ a xs, x = .ref a ∧ Rps H F ds xs ∧ H a = some (.tup xs) ∧ SqT K H a xs := by
  rcases h with h | ⟨a, rfl, h, _⟩
  · cases h with
    | tup e q => exact ⟨_, _, rfl, q, e, .inl (.inl e)⟩
  · cases h
theorem intV {i : Int} {x : V} (h : Pk H F (.int i) x) : x = .int i := by
  rcases h with h | ⟨a, rfl, h, _⟩ <;> cases h
  rfl
theorem blV {i : Bool} {x : V} (h : Pk H F (.bl i) x) : x = .bl i := by
  rcases h with h | ⟨a, rfl, h, _⟩ <;> cases h
  rfl
theorem strV {i : PySem.Str} {x : V} (h : Pk H F (.str i) x) : x = .str i := by
  rcases h with h | ⟨a, rfl, h, _⟩ <;> cases h
  rfl
theorem nonV {x : V} (h : Pk H F .non x) : x = .non := by
  rcases h with h | ⟨a, rfl, h, _⟩ <;> cases h
  rfl
theorem Rps.le (I : Inv X pins σ H s) {a : Addr} {xs : List V} (h : H a = some (.tup xs)) : xs.length ≤ sizeLine := (I.hok a _ h).1
end

/-! ### + - * // % ** -/
def rOp (o : Op2) (b : Bool) : R2 := fun x y H Q => ∃ F st d e z, SR H F st ∧ Pk H F d x ∧ Pk H F e y ∧ op2 o d e = some z ∧ Gd b H F st z Q ∧ (b = true → isSeq z)
def opOf : Op2 → Operator
  | .add => .Add | .sub => .Sub | .mul => .Mult | .fdiv => .FloorDiv | .mod => .Mod | .pow => .Pow
section
variable {X : Cx} {b : Bool}
theorem small_ok {i : Int} (h : small i = true) : -(2 ^ 64) < i ∧ i < 2 ^ 64 := by
  unfold small at h
  simpa using h
/-- scalars -/
theorem Gd.int {H : Hp} {F : List Addr} {st : Store} {i : Int} {Q : VK} (s : SR H F st) (g : Gd b H F st (.int i) Q) (hb : b = true → isSeq (.int i)) : Q (.int i) H := by
  cases b with
  | true => exact (hb rfl).elim
  | false => exact Gv.here g s (.int i)
theorem Gd.val {H : Hp} {F : List Addr} {st : Store} {z : D} {Q : VK} (g : Gd b H F st z Q) (hb : b = true → isSeq z) (hn : ¬ isSeq z) : Gv H F st z Q := by
  cases b with
  | true => exact absurd (hb rfl) hn
  | false => exact g
theorem op_rAdd : OpR X (binaryOp .Add) (rOp .add b) := by
  intro pins s σ H x y v u Q I rx ry h
  obtain ⟨F, st, d, e, z, sr, hd, he, hz, g, hb⟩ := h
  cases d <;> cases e <;> first | (simp only [op2, reduceCtorEq] at hz; done) | skip
  · cases (show some _ = some z from hz)
    have e1 := blV hd
    have e2 := intV he
    subst e1 e2
    cases rx
    obtain ⟨tk, rfl⟩ := ry
    exact PySem.IntBool.add_bool_int ⟨.int _, H, I.tok _, ⟨_, rfl⟩, Gd.int sr g hb⟩
  · cases (show some _ = some z from hz)
    exact op_add pins s σ H x y v u Q I rx ry ⟨_, _, intV hd, intV he, Gd.int sr g hb⟩
  · simp only [op2] at hz
    split at hz <;> cases hz
    rename_i hl
    refine op_add_str pins s σ H x y v u Q I rx ry ⟨_, _, strV hd, strV he, sz_ok hl, ?_⟩
    exact (g.val hb (fun z => z)).here sr (.str _)
  · simp only [op2] at hz
    split at hz <;> cases hz
    rename_i hl
    obtain ⟨p, xs, rfl, r1, t1, _⟩ := tupV (K := X.K) hd
    obtain ⟨q, ys, rfl, r2, t2, _⟩ := tupV (K := X.K) he
    have g := g.val hb (fun z => z)
    have l1 := r1.length
    have l2 := r2.length
    refine op_catA pins s σ H _ _ v u Q I rx ry ⟨p, q, xs, ys, rfl, rfl, .inl (.inl t1), .inl (.inl t2), by rw [← l1, ← l2]; exact sz_ok hl, fun z => ?_, fun _ z => ?_, fun _ _ w hw => g.tupAt sr (r1.app r2) hw⟩
    · subst z
      cases r1
      exact g.here sr (.tup t2 r2)
    · subst z
      cases r2
      rw [List.append_nil] at g
      exact g.here sr (.tup t1 r1)
  · simp only [op2] at hz
    split at hz <;> cases hz
    rename_i hl
    obtain ⟨p, xs, its, n, rfl, rfl, r1, _, v1, o1, _⟩ := list_of I hd rx
    obtain ⟨q, ys, jts, m, rfl, rfl, r2, _, v2, o2, _⟩ := list_of I he ry
    have l1 := r1.length
    have l2 := r2.length
    have l3 := v1.length
    have l4 := v2.length
    have hz := sz_ok hl
    refine PySem.P.add_list o1 o2 ?_ (by rw [List.size_toArray, List.size_toArray]; omega)
    have ea : its.toArray ++ jts.toArray = (its ++ jts).toArray := by simp
    rw [ea]
    exact Gd.list (t' := s.toks) I sr g (r1.app r2) (v1.append v2) (by rw [List.length_append]; omega)
theorem op_rSub : OpR X (binaryOp .Sub) (rOp .sub b) := by
  intro pins s σ H x y v u Q I rx ry h
  obtain ⟨F, st, d, e, z, sr, hd, he, hz, g, hb⟩ := h
  cases d <;> cases e <;> first | (simp only [op2, reduceCtorEq] at hz; done) | skip
  · cases (show some _ = some z from hz)
    have e1 := blV hd
    have e2 := intV he
    subst e1 e2
    cases rx
    obtain ⟨tk, rfl⟩ := ry
    exact PySem.IntBool.sub_bool_int ⟨.int _, H, I.tok _, ⟨_, rfl⟩, Gd.int sr g hb⟩
  cases (show some _ = some z from hz)
  exact op_sub pins s σ H x y v u Q I rx ry ⟨_, _, intV hd, intV he, Gd.int sr g hb⟩
theorem op_rFdiv : OpR X (binaryOp .FloorDiv) (rOp .fdiv b) := by
  intro pins s σ H x y v u Q I rx ry h
  obtain ⟨F, st, d, e, z, sr, hd, he, hz, g, hb⟩ := h
  cases d <;> cases e <;> first | (simp only [op2, reduceCtorEq] at hz; done) | skip
  simp only [op2] at hz
  split at hz <;> cases hz
  rename_i hc
  exact op_fdiv pins s σ H x y v u Q I rx ry ⟨_, _, intV hd, intV he, (by first | (simpa [CDiv] using hc) | (simpa using hc)), Gd.int sr g hb⟩
theorem op_rMod : OpR X (binaryOp .Mod) (rOp .mod b) := by
  intro pins s σ H x y v u Q I rx ry h
  obtain ⟨F, st, d, e, z, sr, hd, he, hz, g, hb⟩ := h
  cases d <;> cases e <;> first | (simp only [op2, reduceCtorEq] at hz; done) | skip
  simp only [op2] at hz
  split at hz <;> cases hz
  rename_i hc
  exact op_mod pins s σ H x y v u Q I rx ry ⟨_, _, intV hd, intV he, (by first | (simpa [CDiv] using hc) | (simpa using hc)), Gd.int sr g hb⟩
theorem op_rPow : OpR X (binaryOp .Pow) (rOp .pow b) := by
  intro pins s σ H x y v u Q I rx ry h
  obtain ⟨F, st, d, e, z, sr, hd, he, hz, g, hb⟩ := h
  cases d <;> cases e <;> first | (simp only [op2, reduceCtorEq] at hz; done) | skip
  simp only [op2] at hz
  split at hz <;> cases hz
  rename_i hc
  simp only [Bool.and_eq_true, decide_eq_true_eq] at hc
  have hs := small_ok hc.2
  exact op_pow pins s σ H x y v u Q I rx ry ⟨_, _, intV hd, intV he, ⟨hc.1.1, by omega, by omega⟩, Gd.int sr g hb⟩
end
/-! tuple * int: the places that the layer leaves out -/
section
variable (l : Addr) (ts : Array Value) (n : Nat) (dd : Option Addr) (so : Array (Option Value)) (k : Int) (u : Tok)
abbrev TupAt (h : Heap) : Prop := h.get? l = some { cls := .type "tuple", dict := dd, data := .seq ts n, slots := so }
theorem tmul_same (e0 : (decide (k < -(2 ^ 63)) || decide (k ≥ 2 ^ 63)) = false) (e1 : (ts.isEmpty || k == 1) = true) :
    Meets (Builtin.«tuple.__mul__» ⟨[.ref l, .int k u], []⟩) (fun _ R s => TupAt l ts n dd so s.heap ∧ R (.ok (.ret (Value.ref l))) s) :=
  .of_wp fun prog w A R s hh => by
    obtain ⟨h0, g0, d0, t0, o0⟩ := s
    obtain ⟨hq, q⟩ := hh
    have ix := AutoSeq1.idx_int
    wp_walk using wpAny_loadPart' hq
    repeat (first
      | (refine wpAny_ite_false (decide_eq_false (by rw [e0]; decide)) ?_
         wp_walk using wpAny_loadPart' hq)
      | (refine wpAny_ite_true (decide_eq_true e1) ?_
         wp_walk using wpAny_loadPart' hq))
    exact ⟨_, rfl, q⟩
theorem tmul_nil (e0 : (decide (k < -(2 ^ 63)) || decide (k ≥ 2 ^ 63)) = false) (e1 : (ts.isEmpty || k == 1) = false) (e2 : (decide (k ≤ 0) || ts.isEmpty) = true) :
    Meets (Builtin.«tuple.__mul__» ⟨[.ref l, .int k u], []⟩) (fun _ R s => TupAt l ts n dd so s.heap ∧
      R (.ok (.ret (Value.ref s.heap.objs.size))) { s with heap := s.heap.push { cls := Value.type "tuple", data := Data.seq #[] }, toks := s.toks }) :=
  .of_wp fun prog w A R s hh => by
    obtain ⟨h0, g0, d0, t0, o0⟩ := s
    obtain ⟨hq, q⟩ := hh
    have ix := AutoSeq1.idx_int
    wp_walk using wpAny_loadPart' hq
    repeat (first
      | (refine wpAny_ite_false (decide_eq_false (by rw [e0]; decide)) ?_
         wp_walk using wpAny_loadPart' hq)
      | (refine wpAny_ite_false (decide_eq_false (by rw [e1]; decide)) ?_
         wp_walk using wpAny_loadPart' hq)
      | (refine wpAny_ite_true (decide_eq_true e2) ?_
         wp_walk using wpAny_loadPart' hq))
    exact ⟨_, rfl, q⟩
end
section
variable {X : Cx} {b : Bool}
theorem flat_one {α : Type} (l : List α) : (List.replicate 1 l).flatten = l := by
  rw [List.replicate_succ, List.flatten_cons, List.replicate_zero, List.flatten_nil, List.append_nil]
theorem flat_nil {α : Type} (n : Nat) : (List.replicate n ([] : List α)).flatten = [] := by
  induction n with
  | zero => rfl
  | succ n ih => rw [List.replicate_succ, List.flatten_cons, ih]; rfl
theorem repS_fold (x : PySem.Str) (n : Nat) : (⟨(List.replicate n x.cps).foldl (· ++ ·) #[]⟩ : PySem.Str) = repS x n := by
  have main : ∀ (n : Nat) (acc : Array Nat), (List.replicate n x.cps).foldl (· ++ ·) acc = acc ++ (List.replicate n x.cps.toList).flatten.toArray := by
    intro n
    induction n with
    | zero => intro acc; simp
    | succ n ih =>
      intro acc
      rw [List.replicate_succ, List.foldl_cons, ih, List.replicate_succ, List.flatten_cons]
      apply Array.toList_inj.mp
      simp
  unfold repS
  rw [main]
  simp
theorem repS_len (x : PySem.Str) (n : Nat) : (repS x n).length = x.length * n := by
  show ((List.replicate n x.cps.toList).flatten.toArray).size = x.cps.size * n
  rw [List.size_toArray, PyProof.Rows.lm_len_rep_flat, Array.length_toList, Nat.mul_comm]
theorem repS_one (x : PySem.Str) : repS x 1 = x := by
  unfold repS
  rw [flat_one]
theorem repS_nil {x : PySem.Str} (h : x.length = 0) (n : Nat) : repS x n = x := by
  have h : x.cps.toList = [] := List.eq_nil_of_length_eq_zero (by rw [Array.length_toList]; exact h)
  obtain ⟨a⟩ := x
  have h : a.toList = [] := h
  have : a = #[] := by apply Array.toList_inj.mp; exact h
  subst this
  unfold repS
  rw [show (⟨#[]⟩ : PySem.Str).cps.toList = [] from rfl, flat_nil]
theorem tooLong_no {n : Nat} (h : n ≤ 1000000) : PySem.Builtin.Str.tooLong n = false := by
  unfold PySem.Builtin.Str.tooLong
  have : (1000000 : Nat) ≤ sizeLine := by rw [sizeLine_eq]; decide
  exact decide_eq_false (by omega)
theorem op_rMul : OpR X (binaryOp .Mult) (rOp .mul b) := by
  intro pins s σ H x y v u Q I rx ry h
  obtain ⟨F, st, d, e, z, sr, hd, he, hz, g, hb⟩ := h
  cases d <;> cases e <;> first | (simp only [op2, reduceCtorEq] at hz; done) | skip
  · cases (show some _ = some z from hz)
    have e1 := intV hd
    have e2 := blV he
    subst e1 e2
    obtain ⟨tk, rfl⟩ := rx
    cases ry
    exact PySem.IntBool.mul_int_bool ⟨.int _, H, I.tok _, ⟨_, rfl⟩, Gd.int sr g hb⟩
  · simp only [op2] at hz
    split at hz <;> cases hz
    rename_i hc
    refine op_mul pins s σ H x y v u Q I rx ry ⟨_, _, intV hd, intV he, ?_, Gd.int sr g hb⟩
    rcases Bool.or_eq_true_iff.mp hc with h | h
    · exact .inl (small_ok h)
    · exact .inr (small_ok h)
  · simp only [op2] at hz
    split at hz <;> cases hz
    rename_i tx k hc
    simp only [Bool.and_eq_true, decide_eq_true_eq] at hc
    obtain ⟨⟨k0, k1⟩, k2⟩ := hc
    have k2 : tx.length ≤ 1000 := Nat.le_of_ble_eq_true k2
    have e1 := strV hd
    have e2 := intV he
    subst e1 e2
    obtain ⟨t1, rfl⟩ := rx
    obtain ⟨t2, rfl⟩ := ry
    have gv := (g.val hb (fun z => z)).here sr (.str _)
    have hlen : tx.length * k.toNat ≤ 1000000 := Nat.le_trans (Nat.mul_le_mul k2 (show k.toNat ≤ 1000 by omega)) (Nat.le_refl _)
    refine PySem.P.mul_str ?_ (fun h1 _ => ?_) (fun _ _ => ?_) ?_
    · rw [decide_eq_false (by omega), decide_eq_false (by omega)]; rfl
    · have : (1000 : Int) ≤ (2 ^ 63 - 1) / k := by
        rw [Int.le_ediv_iff_mul_le (by omega)]
        omega
      omega
    · exact tooLong_no hlen
    · by_cases h1 : k < 1
      · rw [if_pos h1]
        have : k = 0 := by omega
        subst this
        exact ⟨by decide, ⟨.str _, H, I.tok _, ⟨_, rfl⟩, gv⟩⟩
      · rw [if_neg h1]
        by_cases h2 : (k == 1 || tx.length == 0) = true
        · rw [if_pos h2]
          have e : repS tx k.toNat = tx := by
            rcases Bool.or_eq_true_iff.mp h2 with h2 | h2
            · have : k = 1 := by simpa using h2
              subst this
              exact repS_one tx
            · exact repS_nil (by simpa using h2) _
          rw [e] at gv
          exact ⟨.str _, H, I, ⟨_, rfl⟩, gv⟩
        · rw [if_neg h2]
          refine ⟨?_, ⟨.str _, H, I.tok _, ⟨_, by rw [repS_fold]⟩, gv⟩⟩
          have e := repS_fold tx k.toNat
          rw [e]
          show (repS tx k.toNat).length ≤ sizeLine
          rw [repS_len]
          exact Nat.le_trans hlen (by rw [sizeLine_eq]; decide)
  · simp only [op2] at hz
    split at hz <;> cases hz
    rename_i l k hc
    simp only [Bool.and_eq_true, decide_eq_true_eq] at hc
    obtain ⟨⟨k0, k1⟩, k2⟩ := hc
    have k2 : l.length ≤ 1000 := Nat.le_of_ble_eq_true k2
    obtain ⟨p, xs, rfl, r1, t1, t1'⟩ := tupV (K := X.K) hd
    cases intV he
    have g := g.val hb (fun z => z)
    have l1 := r1.length
    cases rx
    obtain ⟨tk, rfl⟩ := ry
    by_cases hbig : xs ≠ [] ∧ 2 ≤ k
    · exact op_repT pins s σ H (.ref p) (.int k) _ _ Q I rfl ⟨tk, rfl⟩ ⟨p, k, xs, rfl, rfl, t1', hbig.1, hbig.2, k1, by omega, fun w hw => g.tupAt sr (r1.flatRep _) hw⟩
    · obtain ⟨its, rv, ⟨⟨cls, dd, data, sl⟩, ho, hc, n, hdt⟩, hs⟩ := I.tuple t1'
      simp only at hc hdt
      subst hc hdt
      have hle : its.length = xs.length := rv.length.symm
      have e0 : (decide (k < -(2 ^ 63)) || decide (k ≥ 2 ^ 63)) = false := by
        rw [decide_eq_false (by omega), decide_eq_false (by omega)] <;> rfl
      by_cases h1 : (its.toArray.isEmpty || k == 1) = true
      · refine wpAny_binaryOp_repeat_ref (T := "tuple") (U := "int") (by decide) ⟨_, ho, rfl⟩ (fun s' => typeIs_int s' k tk) noFill_tuple_mul PySem.F.fills_int_mul PySem.F.slot_int_rmul repeat_tuple
          PySem.F.slot_int_index.lookup (call_meets PySem.F.slot_int_rmul (typeIs_int s k tk) PySem.F.entry_int_rmul (PySem.F.args_int_rmul_2 _ _) (int_rmul_tuple k tk p its.toArray n dd sl) ⟨ho, rfl, ⟨_, ho, rfl⟩,
            call_meets PySem.F.slot_tuple_mul ⟨_, ho, rfl⟩ PySem.F.entry_tuple_mul (PySem.F.args_tuple_mul_2 _ _) (tmul_same p its.toArray n dd sl k tk e0 h1) ⟨ho, ?_⟩⟩)
        have ez : (List.replicate k.toNat l).flatten = l := by
          rcases Bool.or_eq_true_iff.mp h1 with q | q
          · have : its = [] := by simpa using q
            subst this
            have : l = [] := List.eq_nil_of_length_eq_zero (by rw [l1, ← hle]; rfl)
            subst this
            exact flat_nil _
          · have : k = 1 := by simpa using q
            subst this
            exact flat_one l
        rw [ez] at g
        exact ⟨.ref p, H, I, rfl, g.here sr (.tup t1 r1)⟩
      · have h1 : (its.toArray.isEmpty || k == 1) = false := by simpa using h1
        have hne : its ≠ [] := fun z => by subst z; simp at h1
        have hk : k = 0 := by
          have : ¬ 2 ≤ k := fun z => hbig ⟨fun q => hne (List.eq_nil_of_length_eq_zero (by rw [hle, q]; rfl)), z⟩
          have : k ≠ 1 := fun z => by subst z; simp at h1
          omega
        subst hk
        refine wpAny_binaryOp_repeat_ref (T := "tuple") (U := "int") (by decide) ⟨_, ho, rfl⟩ (fun s' => typeIs_int s' 0 tk) noFill_tuple_mul PySem.F.fills_int_mul PySem.F.slot_int_rmul repeat_tuple
          PySem.F.slot_int_index.lookup (call_meets PySem.F.slot_int_rmul (typeIs_int s 0 tk) PySem.F.entry_int_rmul (PySem.F.args_int_rmul_2 _ _) (int_rmul_tuple 0 tk p its.toArray n dd sl) ⟨ho, rfl, ⟨_, ho, rfl⟩,
            call_meets PySem.F.slot_tuple_mul ⟨_, ho, rfl⟩ PySem.F.entry_tuple_mul (PySem.F.args_tuple_mul_2 _ _) (tmul_nil p its.toArray n dd sl 0 tk e0 h1 rfl) ⟨ho, ?_⟩⟩)
        refine ⟨.ref s.heap.objs.size, _, I.laid (t' := s.toks) (o := .tup []) (fun b ob q => Heap.get?_push_of_some _ q) (Nat.le_refl _) ⟨Nat.zero_le _, [], .nil, IsTup.new _ _⟩, rfl, ?_⟩
        have q := g.tupAt (xs := []) sr .nil I.fresh
        exact q
  · simp only [op2] at hz
    split at hz <;> cases hz
    rename_i l k hc
    simp only [Bool.and_eq_true, decide_eq_true_eq] at hc
    obtain ⟨⟨k0, k1⟩, k2⟩ := hc
    have k2 : l.length ≤ 1000 := Nat.le_of_ble_eq_true k2
    obtain ⟨p, xs, its, n, rfl, rfl, r1, _, v1, o1, _⟩ := list_of I hd rx
    cases intV he
    obtain ⟨tk, rfl⟩ := ry
    have l1 := r1.length
    have l2 := v1.length
    have hsz : its.toArray.size * k.toNat ≤ 1000000 := by
      rw [List.size_toArray, ← l2, ← l1]
      exact Nat.le_trans (Nat.mul_le_mul k2 (show k.toNat ≤ 1000 by omega)) (Nat.le_refl _)
    have hfit : ¬ (!Builtin.List.listFitsIndex k) = true := by
      rw [fitsIndex_both (by omega) (by omega)]; decide
    have hlong : ¬ Builtin.List.listTooLong (its.toArray.size * k.toNat) = true := by
      rw [notLongL (Nat.le_trans hsz (by rw [sizeLine_eq]; decide))]; decide
    have hnew : List.foldl (fun x1 x2 => x1 ++ x2) #[] (List.replicate (if its.toArray.isEmpty = true then 0 else k.toNat) its.toArray) = (List.replicate k.toNat its).flatten.toArray := by
      rw [size_rep]
      cases its with
      | nil => rw [flat_nil, flat_nil]
      | cons a q => rw [if_neg (by simp)]
    refine wpAny_binaryOp_repeat_ref (T := "list") (U := "int") (by decide) ⟨_, o1, rfl⟩ (fun s' => typeIs_int s' k tk) noFill_list_mul PySem.F.fills_int_mul PySem.F.slot_int_rmul repeat_list
      PySem.F.slot_int_index.lookup (call_meets PySem.F.slot_int_rmul (typeIs_int s k tk) PySem.F.entry_int_rmul (PySem.F.args_int_rmul_2 _ _) (int___rmul___int_list k tk p its.toArray n) ⟨o1, rfl, ⟨_, o1, rfl⟩,
        call_meets PySem.F.slot_list_mul ⟨_, o1, rfl⟩ PySem.F.entry_list_mul (PySem.F.args_list_mul_2 _ _) (AutoListH.list___mul___list_int_3 p its.toArray n k tk hfit (by omega) hlong) ⟨o1, ?_⟩⟩)
    rw [hnew]
    refine Gd.list (t' := s.toks) I sr g (r1.flatRep _) (v1.rep _) ?_
    rw [PyProof.Rows.lm_len_rep_flat, Nat.mul_comm, l2, ← List.size_toArray]
    exact Nat.le_trans hsz (by rw [sizeLine_eq]; decide)
theorem op_rOp (o : Op2) : OpR X (binaryOp (opOf o)) (rOp o b) := by
  cases o with
  | add => exact op_rAdd
  | sub => exact op_rSub
  | mul => exact op_rMul
  | fdiv => exact op_rFdiv
  | mod => exact op_rMod
  | pow => exact op_rPow
end
/-! dicts -/
section
variable {H : Hp} {F : List Addr}
theorem dctT {ks vs : List D} {x : V} (h : Pk H F (.dct true ks vs) x) : ∃ a kvs, x = .ref a ∧ L2.Rd H a (.dT kvs) ∧ ks = kvs.map (fun kv => D.tup (kv.1.map kD)) ∧ Rps H F vs (kvs.map (·.2)) := by
  rcases h with h | ⟨a, rfl, h, _⟩
  · cases h with
    | dT e r => exact ⟨_, _, rfl, .inr ⟨_, e⟩, rfl, r⟩
  · cases h with
    | dT e r => exact ⟨_, _, rfl, .inl e, rfl, r⟩
theorem dctK {ks vs : List D} {x : V} (h : Pk H F (.dct false ks vs) x) : ∃ a kvs, x = .ref a ∧ L2.Rd H a (.dK kvs) ∧ ks = kvs.map (fun kv => kD kv.1) ∧ Rps H F vs (kvs.map (·.2)) := by
  rcases h with h | ⟨a, rfl, h, _⟩
  · cases h with
    | dK e r => exact ⟨_, _, rfl, .inr ⟨_, e⟩, rfl, r⟩
  · cases h with
    | dK e r => exact ⟨_, _, rfl, .inl e, rfl, r⟩
theorem beq_kD (a b : Key) : (kD a).beq (kD b) = decide (a = b) := by
  cases a <;> cases b
  · rename_i i j
    show decide (i = j) = _
    by_cases h : i = j <;> simp [h]
  · exact (decide_eq_false (fun z => nomatch z)).symm
  · exact (decide_eq_false (fun z => nomatch z)).symm
  · rename_i i j
    show decide (i = j) = _
    by_cases h : i = j <;> simp [h]
theorem beqs_kD : ∀ a b : List Key, D.beqs (a.map kD) (b.map kD) = decide (a = b)
  | [], [] => rfl
  | [], _ :: _ => rfl
  | _ :: _, [] => rfl
  | x :: a, y :: b => by
    show ((kD x).beq (kD y) && D.beqs (a.map kD) (b.map kD)) = _
    rw [beq_kD, beqs_kD]
    by_cases h : x = y <;> simp [h]
/-- what a dict with keys K finds -/
theorem find_of {κ : Type} [DecidableEq κ] {f : κ → D} (hf : ∀ a b, (f a).beq (f b) = decide (a = b)) {k : κ} : ∀ {kvs : List (κ × V)} {vs : List D}, Rps H F vs (kvs.map (·.2)) →
    (∀ d, findD (f k) (kvs.map fun kv => f kv.1) vs = some d → ∃ v, L2.valV kvs k = some v ∧ Rp H F d v) ∧ (findD (f k) (kvs.map fun kv => f kv.1) vs = none → L2.valV kvs k = none)
  | [], vs, r => by
    cases r
    exact ⟨(fun d h => by cases h), fun _ => rfl⟩
  | (k', v) :: kvs, vs, r => by
    cases r with
    | @cons d x ds xs r t =>
      obtain ⟨i1, i2⟩ := find_of hf (k := k) t
      have e : findD (f k) (((k', v) :: kvs).map fun kv => f kv.1) (d :: ds) = if (f k').beq (f k) then some d else findD (f k) (kvs.map fun kv => f kv.1) ds := rfl
      rw [e, hf]
      by_cases h : k' = k
      · rw [decide_eq_true h, if_pos rfl, L2.valV_pos h]
        exact ⟨fun d' z => by cases z; exact ⟨v, rfl, r⟩, fun z => by cases z⟩
      · rw [decide_eq_false h, if_neg Bool.false_ne_true, L2.valV_neg h]
        exact ⟨i1, i2⟩
theorem put_of {κ : Type} [DecidableEq κ] {f : κ → D} (hf : ∀ a b, (f a).beq (f b) = decide (a = b)) {k : κ} {d : D} {v : V} (rv : Rp H F d v) {kvs : List (κ × V)} {vs : List D} (r : Rps H F vs (kvs.map (·.2))) :
    (putD (kvs.map fun kv => f kv.1) vs (f k) d).1 = (L2.putK kvs k v).map (fun kv => f kv.1) ∧ Rps H F (putD (kvs.map fun kv => f kv.1) vs (f k) d).2 ((L2.putK kvs k v).map (·.2)) := by
  have any : ((kvs.map fun kv => f kv.1).any fun a => a.beq (f k)) = kvs.any fun kv => decide (kv.1 = k) := by
    rw [List.any_map]
    congr 1
    funext kv
    exact hf _ _
  unfold putD L2.putK
  rw [any]
  by_cases h : (kvs.any fun kv => decide (kv.1 = k)) = true
  · rw [if_pos h, if_pos h]
    clear any h
    constructor
    · show (kvs.map fun kv => f kv.1) = _
      rw [List.map_map]
      refine List.map_congr_left fun kv _ => ?_
      show f kv.1 = f (if kv.1 = k then (kv.1, v) else kv).1
      split <;> rfl
    · show Rps H F (repD (f k) d (kvs.map fun kv => f kv.1) vs) _
      induction kvs generalizing vs with
      | nil => cases r; exact .nil
      | cons kv kvs ih =>
        cases r with
        | @cons d' x' ds xs r t =>
          show Rps H F ((if (f kv.1).beq (f k) then d else d') :: repD (f k) d (kvs.map fun kv => f kv.1) ds) _
          rw [hf]
          rw [List.map_cons, List.map_cons]
          refine .cons ?_ (ih t)
          by_cases e : kv.1 = k
          · rw [decide_eq_true e, if_pos rfl, if_pos e]; exact rv
          · rw [decide_eq_false e, if_neg Bool.false_ne_true, if_neg e]; exact r
  · rw [if_neg h, if_neg h]
    exact ⟨by rw [List.map_append]; rfl, by rw [List.map_append]; exact r.app (.cons rv .nil)⟩
/-- keys -/
theorem keyK {y : D} {w : V} (h : keyT y = true) (r : Rp H F y w) : ∃ k : Key, y = kD k ∧ w = L2.kV k := by
  cases r <;> first | (cases h; done) | skip
  · exact ⟨.inl _, rfl, rfl⟩
  · exact ⟨.inr _, rfl, rfl⟩
theorem keysT : ∀ {l : List D} {xs : List V}, l.all keyT = true → Rps H F l xs → ∃ k : List Key, l = k.map kD ∧ xs = k.map L2.kV
  | _, _, _, .nil => ⟨[], rfl, rfl⟩
  | _, _, h, .cons r t => by
    rw [List.all_cons, Bool.and_eq_true] at h
    obtain ⟨k, e1, e2⟩ := keyK h.1 r
    obtain ⟨ks, e3, e4⟩ := keysT h.2 t
    exact ⟨k :: ks, by rw [e1, e3]; rfl, by rw [e2, e4]; rfl⟩
/-- a key is no owned thing -/
theorem keyV {t : Bool} {y : D} {w : V} (h : keyB t y = true) (r : Pk H F y w) : Rp H F y w := by
  rcases r with r | ⟨a, rfl, r, _⟩
  · exact r
  · cases r <;> (cases t <;> cases h)
/-- looking up -/
theorem dget_of {t : Bool} {ks vs : List D} {x w : V} {y : D} (h : Pk H F (.dct t ks vs) x) (ry : Rp H F y w) (hk : keyB t y = true) : ∃ a o, x = .ref a ∧ L2.DGet H a w o ∧ o.isSome = (findD y ks vs).isSome ∧ ∀ d, findD y ks vs = some d → ∃ v, o = some v ∧ Rp H F d v := by
  cases t with
  | false =>
    obtain ⟨a, kvs, rfl, hr, rfl, rv⟩ := dctK h
    obtain ⟨k, rfl, rfl⟩ := keyK hk ry
    obtain ⟨f1, f2⟩ := find_of (f := kD) beq_kD (k := k) rv
    refine ⟨a, L2.valV kvs k, rfl, .inl ⟨kvs, k, hr, rfl, rfl⟩, ?_, f1⟩
    cases e : findD (kD k) (kvs.map fun kv => kD kv.1) vs with
    | none => rw [f2 e]; rfl
    | some d => obtain ⟨v, h1, _⟩ := f1 d e; rw [h1]; rfl
  | true =>
    obtain ⟨a, kvs, rfl, hr, rfl, rv⟩ := dctT h
    cases y <;> first | (cases hk; done) | skip
    rename_i l
    cases ry with
    | tup eb rl =>
      obtain ⟨k, rfl, rfl⟩ := keysT hk rl
      obtain ⟨f1, f2⟩ := find_of (f := fun k : List Key => D.tup (k.map kD)) (fun a b => beqs_kD a b) (k := k) rv
      refine ⟨a, L2.valV kvs k, rfl, .inr ⟨kvs, k, _, hr, rfl, eb, rfl⟩, ?_, f1⟩
      cases e : findD (.tup (k.map kD)) (kvs.map fun kv => D.tup (kv.1.map kD)) vs with
      | none => rw [f2 e]; rfl
      | some d => obtain ⟨v, h1, _⟩ := f1 d e; rw [h1]; rfl
end
end LB
/-! LB3m: tuples of ints as data. -/
namespace LB
open PySem PySem.Spec PyProof.Rows L2
open PyProof.Rows (itemOrd lex_irrefl)
open PySem.W (alike alikeAll dataLt dataLt_cons dataLt_int dataLt_tuple keyToks keyToksAll)
variable [Clx]
theorem alike_ints : ∀ ns ms : List Int, alikeAll (toPys (ns.map .int)) (toPys (ms.map .int)) = true
  | [], _ => by show alikeAll [] _ = true; rw [alikeAll]
  | n :: ns, [] => by show alikeAll (_ :: _) [] = true; rw [alikeAll]
  | n :: ns, m :: ms => by
    show alikeAll (.int n :: toPys (ns.map .int)) (.int m :: toPys (ms.map .int)) = true
    rw [alikeAll, alike_ints ns ms, alike]
    rfl
theorem lt_ints : ∀ ns ms : List Int, PyProof.Rows.lexLt itemOrd (keyToksAll (toPys (ns.map .int))) (keyToksAll (toPys (ms.map .int))) = lexLt ns ms
  | [], [] => lex_irrefl _
  | [], m :: ms => by
    show PyProof.Rows.lexLt itemOrd (keyToksAll []) (keyToksAll (.int m :: toPys (ms.map .int))) = true
    rw [keyToksAll, keyToksAll]
    rfl
  | n :: ns, [] => by
    show PyProof.Rows.lexLt itemOrd (keyToksAll (.int n :: toPys (ns.map .int))) (keyToksAll []) = false
    rw [keyToksAll, keyToksAll]
    rfl
  | n :: ns, m :: ms => by
    show PyProof.Rows.lexLt itemOrd (keyToksAll (.int n :: toPys (ns.map .int))) (keyToksAll (.int m :: toPys (ms.map .int))) = lexLt (n :: ns) (m :: ms)
    rw [dataLt_cons (by rw [alike]), lt_ints ns ms, dataLt_int, lexLt]
    by_cases e : n = m
    · rw [if_pos e, if_pos (by rw [e, PyData.eqv]; exact beq_self_eq_true _)]
    · rw [if_neg e, if_neg (by rw [PyData.eqv]; simpa using e)]
theorem lt_tups (ns ms : List Int) : dataLt (toPy (tupD ns)) (toPy (tupD ms)) = lexLt ns ms := (dataLt_tuple _ _).trans (lt_ints ns ms)
theorem pys_inj : ∀ {ns ms : List Int}, toPys (ns.map .int) = toPys (ms.map .int) → ns = ms
  | [], [], _ => rfl
  | [], _ :: _, h => by cases h
  | _ :: _, [], h => by cases h
  | n :: ns, m :: ms, h => by
    have h : PyData.int n :: toPys (ns.map .int) = PyData.int m :: toPys (ms.map .int) := h
    injection h with a b
    injection a with a
    rw [a, pys_inj b]
theorem depth_ints : ∀ ns : List Int, PyData.depthAll (toPys (ns.map .int)) ≤ 1
  | [] => by show PyData.depthAll [] ≤ 1; rw [PyData.depthAll]; omega
  | n :: ns => by
    show PyData.depthAll (.int n :: toPys (ns.map .int)) ≤ 1
    have := depth_ints ns
    simp only [PyData.depthAll, PyData.depth]
    omega
theorem ints_map : ∀ {l : List D} {ns : List Int}, toInts l = some ns → l = ns.map .int
  | [], _, h => by cases h; rfl
  | d :: l, ns, h => by
    cases d <;> first | (cases h; done) | skip
    rename_i i
    have h : (toInts l).map (i :: ·) = some ns := h
    cases e : toInts l with
    | none => rw [e] at h; cases h
    | some ms => rw [e] at h; cases h; rw [ints_map e]; rfl
theorem plain_ints : ∀ ns : List Int, plains 59 (ns.map .int) = true
  | [] => rfl
  | n :: ns => by
    show (plain 59 (.int n) && plains 59 (ns.map .int)) = true
    rw [plain_ints ns]
    rfl
theorem alike_tup (ns ms : List Int) : alike (toPy (tupD ns)) (toPy (tupD ms)) = true := by
  show alike (.tuple (toPys (ns.map .int))) (.tuple (toPys (ms.map .int))) = true
  rw [alike]
  exact alike_ints ns ms
end LB
/-! LB3e: a dict is no text. -/
namespace LB
open PySem PySem.Spec PyProof.Rows L2
section
variable {prog : Program} {w : World} {A : Around} {E : Value → Shared → Prop} {s : Shared}
theorem str_eq_dict (b : PySem.Str) (u : Tok) (l : Addr) (o : Obj) :
    Meets (Builtin.«str.__eq__» ⟨[.str b u, .ref l], []⟩) (fun _ R s => (s.heap.get? l = some o ∧ o.cls = .type "dict" ∧ ∀ v, o.data ≠ .prim v) ∧ R (.ok (.ret .notImplemented)) s) :=
  .of_wp fun prog w A R s h => by
    obtain ⟨hp, g, d, tk, os⟩ := s
    obtain ⟨⟨hl, hc, hp⟩, h⟩ := h
    obtain ⟨cls, dd, data, sl⟩ := o
    simp only at hc hp
    subst hc
    cases data <;> first | exact absurd rfl (hp _) | (wp_walk using wpAny_loadPart' hl, wpAny_load hl; exact ⟨_, rfl, h⟩)
theorem dict_eq_str {l : Addr} {b : PySem.Str} {u : Tok} {o : Obj} {Q : Value → Shared → Prop} (ho : s.heap.get? l = some o) (hc : o.cls = .type "dict") (hp : ∀ v, o.data ≠ .prim v) (hu : A.units < cLine) (h : Q (.bool false) s) : wpAny (model prog w) A (compareOp .Eq (.ref l) (.str b u)) Q E s := by
  have ty : s.TypeIs (.ref l) "dict" := ⟨o, ho, hc⟩
  refine PySem.SeqAt.rc_eq_decline_or (k := false) ty (typeIs_str s b u) (by decide) PySem.F.sub_str_dict PySem.F.slot_dict_eq PySem.F.slot_str_eq_refl (fun Q' hq => ?_)
    (fun _ hq => call_meets PySem.F.slot_str_eq_refl (typeIs_str s b u) PySem.F.entry_str_eq (PySem.F.args_str_eq_2 _ _) (str_eq_dict b u l o) ⟨⟨ho, hc, hp⟩, hq⟩)
    (fun _ hq => wpAny_of_eq (rfl : isSame (.ref l) (.str b u) = pure false) hq) (.inr hu) h
  refine wpAny_call_entry PySem.F.slot_dict_eq ty PySem.F.entry_dict_eq ?_ (PySem.F.args_dict_eq_2 _ _)
  show wpAny _ _ (Builtin.Dict.dictSlotArgs "__eq__" ⟨[.ref l, .str b u], []⟩ >>= _) _ _ s
  refine wpAny_bind ?_
  unfold Builtin.Dict.dictSlotArgs
  refine wpAny_bind (wpAny_notOrdered_dict ty ?_)
  show wpAny _ _ (pure (Value.ref l, Value.str b u)) _ _ s
  refine wpAny_pure ?_
  refine wpAny_bind (wpAny_isInstance (T := "str") (typeIs_str s b u) PySem.F.sub_str_dict ?_)
  simp only [Bool.not_false, if_true]
  exact wpAny_bind (wpAny_rule (wpAny_pure ⟨_, rfl, hq⟩))
theorem tuple_eq_dict (b l : Addr) (items : Array Value) (n : Nat) (dd : Option Addr) (sl : Array (Option Value)) (o : Obj) :
    Meets (Builtin.«tuple.__eq__» ⟨[.ref b, .ref l], []⟩) (fun _ R s => (s.heap.get? b = some { cls := .type "tuple", dict := dd, data := .seq items n, slots := sl } ∧ s.heap.get? l = some o ∧ o.cls = .type "dict" ∧ ∀ v, o.data ≠ .prim v) ∧ R (.ok (.ret .notImplemented)) s) :=
  .of_wp fun prog w A R s h => by
    obtain ⟨hp, g, d, tk, os⟩ := s
    obtain ⟨⟨hb, hl, hc, hp⟩, h⟩ := h
    obtain ⟨cls, dd, data, sl⟩ := o
    simp only at hc hp
    subst hc
    have f1 := F.sub_dict_tuple
    cases data <;> first | exact absurd rfl (hp _) | (wp_walk using wpAny_loadPart' hb, wpAny_loadPart' hl; exact ⟨_, rfl, h⟩)
theorem tuple_ne_dict (b l : Addr) (items : Array Value) (n : Nat) (dd : Option Addr) (sl : Array (Option Value)) (o : Obj) :
    Meets (Builtin.«tuple.__ne__» ⟨[.ref b, .ref l], []⟩) (fun _ R s => (s.heap.get? b = some { cls := .type "tuple", dict := dd, data := .seq items n, slots := sl } ∧ s.heap.get? l = some o ∧ o.cls = .type "dict" ∧ ∀ v, o.data ≠ .prim v) ∧ R (.ok (.ret .notImplemented)) s) :=
  .of_wp fun prog w A R s h => by
    obtain ⟨hp, g, d, tk, os⟩ := s
    obtain ⟨⟨hb, hl, hc, hp⟩, h⟩ := h
    obtain ⟨cls, dd, data, sl⟩ := o
    simp only at hc hp
    subst hc
    have f1 := F.sub_dict_tuple
    cases data <;> first | exact absurd rfl (hp _) | (wp_walk using wpAny_loadPart' hb, wpAny_loadPart' hl; exact ⟨_, rfl, h⟩)
theorem dict_eq_tup {l b : Addr} {o : Obj} {its : Array Value} {Q : Value → Shared → Prop} (ho : s.heap.get? l = some o) (hc : o.cls = .type "dict") (hp : ∀ v, o.data ≠ .prim v) (hb : s.heap.IsTuple b its) (hu : A.units < cLine) (h : Q (.bool false) s) : wpAny (model prog w) A (compareOp .Eq (.ref l) (.ref b)) Q E s := by
  have ty : s.TypeIs (.ref l) "dict" := ⟨o, ho, hc⟩
  obtain ⟨⟨cls2, dd2, data2, sl2⟩, ho2, hc2, n2, hd2⟩ := id hb
  simp only at hc2 hd2
  subst hc2 hd2
  have tb : s.TypeIs (.ref b) "tuple" := ⟨_, ho2, rfl⟩
  have hne : l ≠ b := fun e => by
    rw [e, ho2] at ho
    cases ho
    exact absurd (show Value.type "tuple" = Value.type "dict" from hc) (by decide)
  refine PySem.SeqAt.rc_eq_decline_or (k := false) ty tb (by decide) PySem.F.sub_tuple_dict PySem.F.slot_dict_eq PySem.F.slot_tuple_eq_refl (fun Q' hq => ?_)
    (fun _ hq => call_meets PySem.F.slot_tuple_eq_refl tb PySem.F.entry_tuple_eq (PySem.F.args_tuple_eq_2 _ _) (tuple_eq_dict b l its n2 dd2 sl2 o) ⟨⟨ho2, ho, hc, hp⟩, hq⟩)
    (fun _ hq => wpAny_isSame_ref_other hne ho ho2 (by rw [hc]; simp) hq) (.inr hu) h
  refine wpAny_call_entry PySem.F.slot_dict_eq ty PySem.F.entry_dict_eq ?_ (PySem.F.args_dict_eq_2 _ _)
  show wpAny _ _ (Builtin.Dict.dictSlotArgs "__eq__" ⟨[.ref l, .ref b], []⟩ >>= _) _ _ s
  refine wpAny_bind ?_
  unfold Builtin.Dict.dictSlotArgs
  refine wpAny_bind (wpAny_notOrdered_dict ty ?_)
  show wpAny _ _ (pure (Value.ref l, Value.ref b)) _ _ s
  refine wpAny_pure ?_
  refine wpAny_bind (wpAny_isInstance (T := "tuple") tb PySem.F.sub_tuple_dict ?_)
  simp only [Bool.not_false, if_true]
  exact wpAny_bind (wpAny_rule (wpAny_pure ⟨_, rfl, hq⟩))
theorem dict_ne_tup {l b : Addr} {o : Obj} {its : Array Value} {Q : Value → Shared → Prop} (ho : s.heap.get? l = some o) (hc : o.cls = .type "dict") (hp : ∀ v, o.data ≠ .prim v) (hb : s.heap.IsTuple b its) (hu : A.units < cLine) (h : Q (.bool true) s) : wpAny (model prog w) A (compareOp .NotEq (.ref l) (.ref b)) Q E s := by
  have ty : s.TypeIs (.ref l) "dict" := ⟨o, ho, hc⟩
  obtain ⟨⟨cls2, dd2, data2, sl2⟩, ho2, hc2, n2, hd2⟩ := id hb
  simp only at hc2 hd2
  subst hc2 hd2
  have tb : s.TypeIs (.ref b) "tuple" := ⟨_, ho2, rfl⟩
  have hne : l ≠ b := fun e => by
    rw [e, ho2] at ho
    cases ho
    exact absurd (show Value.type "tuple" = Value.type "dict" from hc) (by decide)
  refine PySem.SeqAt.rc_ne_decline_or (k := false) ty tb (by decide) PySem.F.sub_tuple_dict PySem.F.slot_dict_ne PySem.F.slot_tuple_ne_refl (fun Q' hq => ?_)
    (fun _ hq => call_meets PySem.F.slot_tuple_ne_refl tb PySem.F.entry_tuple_ne (PySem.F.args_tuple_ne_2 _ _) (tuple_ne_dict b l its n2 dd2 sl2 o) ⟨⟨ho2, ho, hc, hp⟩, hq⟩)
    (fun _ hq => wpAny_isSame_ref_other hne ho ho2 (by rw [hc]; simp) hq) (.inr hu) h
  refine wpAny_call_entry PySem.F.slot_dict_ne ty PySem.F.entry_dict_ne ?_ (PySem.F.args_dict_ne_2 _ _)
  show wpAny _ _ (Builtin.Dict.dictSlotArgs "__ne__" ⟨[.ref l, .ref b], []⟩ >>= _) _ _ s
  refine wpAny_bind ?_
  unfold Builtin.Dict.dictSlotArgs
  refine wpAny_bind (wpAny_notOrdered_dict ty ?_)
  show wpAny _ _ (pure (Value.ref l, Value.ref b)) _ _ s
  refine wpAny_pure ?_
  refine wpAny_bind (wpAny_isInstance (T := "tuple") tb PySem.F.sub_tuple_dict ?_)
  simp only [Bool.not_false, if_true]
  exact wpAny_bind (wpAny_rule (wpAny_pure ⟨_, rfl, hq⟩))
end
end LB
/-! LB4: comparisons, items, slices, built-in functions, by values. -/
namespace LB
open PySem PySem.Spec PyProof.Rows L2
variable [Clx]

theorem plains_cons {n : Nat} {d : D} {ds : List D} : plains n (d :: ds) = (plain n d && plains n ds) := by
  cases n <;> rfl
mutual
theorem dp_of {K : PySem.W.Frag} {H : Hp} {F : List Addr} : ∀ (n : Nat) (d : D) (x : V), plain n d = true → Rp H F d x → Dp K H x (toPy d) ∧ (toPy d).canLay0 = true ∧ (toPy d).depth ≤ n
  | _, .non, _, _, r => by cases r; exact ⟨.non, rfl, Nat.zero_le _⟩
  | _, .bl b, _, _, r => by cases r; exact ⟨.bl b, rfl, Nat.zero_le _⟩
  | _, .int b, _, _, r => by cases r; exact ⟨.int b, rfl, Nat.zero_le _⟩
  | n, .str b, _, h, r => by
    cases r
    refine ⟨.str b, ?_, Nat.zero_le _⟩
    cases n <;> exact h
  | 0, .tup l, _, h, _ => by cases h
  | 0, .lst l, _, h, _ => by cases h
  | n + 1, .tup l, _, h, r => by
    cases r with
    | tup e q =>
      obtain ⟨a, b, c⟩ := dps_of n l _ h q
      exact ⟨.tup (.inl (.inl e)) a, b, Nat.succ_le_succ c⟩
  | n + 1, .lst l, _, h, r => by
    cases r with
    | lst e q =>
      obtain ⟨a, b, c⟩ := dps_of n l _ h q
      exact ⟨.lst (.inl (.inr ⟨_, e⟩)) a, b, Nat.succ_le_succ c⟩
  | 0, .dct _ _ _, _, h, _ => by cases h
  | _ + 1, .dct _ _ _, _, h, _ => by cases h
  | 0, .ref _, _, h, _ => by cases h
  | _ + 1, .ref _, _, h, _ => by cases h
theorem dps_of {K : PySem.W.Frag} {H : Hp} {F : List Addr} : ∀ (n : Nat) (ds : List D) (xs : List V), plains n ds = true → Rps H F ds xs → DpAll K H xs (toPys ds) ∧ PyData.canLayAll0 (toPys ds) = true ∧ PyData.depthAll (toPys ds) ≤ n
  | _, [], _, _, r => by cases r; exact ⟨.nil, rfl, Nat.zero_le _⟩
  | n, d :: ds, _, h, r => by
    cases r with
    | cons r q =>
      rw [plains_cons, Bool.and_eq_true] at h
      obtain ⟨a, b, c⟩ := dp_of n d _ h.1 r
      obtain ⟨a', b', c'⟩ := dps_of n ds _ h.2 q
      refine ⟨.cons a a', ?_, ?_⟩
      · show (PyData.canLay0 (toPy d) && PyData.canLayAll0 (toPys ds)) = true
        rw [b, b']; rfl
      · show max _ _ ≤ n
        omega
end
theorem dpk_of {K : PySem.W.Frag} {H : Hp} {F : List Addr} {n : Nat} {d : D} {x : V} (h : plain n d = true) (r : Pk H F d x) : Dp K H x (toPy d) ∧ (toPy d).canLay0 = true ∧ (toPy d).depth ≤ n := by
  rcases r with r | ⟨a, rfl, w, _⟩
  · exact dp_of n d x h r
  · cases w with
    | lst e q =>
      cases n with
      | zero => cases h
      | succ n =>
        obtain ⟨a, b, c⟩ := dps_of n _ _ h q
        exact ⟨.lst (.inl (.inl e)) a, b, Nat.succ_le_succ c⟩
    | dK e q => cases n <;> cases h
    | dT e q => cases n <;> cases h
theorem shaped_of {n : Nat} {d : D} (h : (toPy d).canLay0 = true) (h2 : (toPy d).depth ≤ n) (hn : n ≤ 64) : SeqAt.shaped (toPy d) = true := by
  unfold SeqAt.shaped
  rw [h, decide_eq_true (Nat.le_trans h2 hn)]; rfl
mutual
theorem eqv_of : ∀ (n m : Nat) (a b : D), plain n a = true → plain m b = true → PyData.eqv (toPy a) (toPy b) = eqv a b
  | _, _, .non, .non, _, _ => rfl
  | _, _, .non, .bl _, _, _ => rfl
  | _, _, .non, .int _, _, _ => rfl
  | _, _, .non, .str _, _, _ => rfl
  | _, _, .non, .tup _, _, _ => rfl
  | _, _, .non, .lst _, _, _ => rfl
  | _, _, .bl _, .non, _, _ => rfl
  | _, _, .bl _, .bl _, _, _ => rfl
  | _, _, .bl _, .int _, _, _ => rfl
  | _, _, .bl _, .str _, _, _ => rfl
  | _, _, .bl _, .tup _, _, _ => rfl
  | _, _, .bl _, .lst _, _, _ => rfl
  | _, _, .int _, .non, _, _ => rfl
  | _, _, .int _, .bl _, _, _ => rfl
  | _, _, .int _, .int _, _, _ => rfl
  | _, _, .int _, .str _, _, _ => rfl
  | _, _, .int _, .tup _, _, _ => rfl
  | _, _, .int _, .lst _, _, _ => rfl
  | _, _, .str _, .non, _, _ => rfl
  | _, _, .str _, .bl _, _, _ => rfl
  | _, _, .str _, .int _, _, _ => rfl
  | _, _, .str _, .str _, _, _ => rfl
  | _, _, .str _, .tup _, _, _ => rfl
  | _, _, .str _, .lst _, _, _ => rfl
  | _, _, .tup _, .non, _, _ => rfl
  | _, _, .tup _, .bl _, _, _ => rfl
  | _, _, .tup _, .int _, _, _ => rfl
  | _, _, .tup _, .str _, _, _ => rfl
  | n + 1, m + 1, .tup x, .tup y, h, k => eqvs_of n m x y h k
  | _, _, .tup _, .lst _, _, _ => rfl
  | _, _, .lst _, .non, _, _ => rfl
  | _, _, .lst _, .bl _, _, _ => rfl
  | _, _, .lst _, .int _, _, _ => rfl
  | _, _, .lst _, .str _, _, _ => rfl
  | _, _, .lst _, .tup _, _, _ => rfl
  | n + 1, m + 1, .lst x, .lst y, h, k => eqvs_of n m x y h k
  | 0, _, .tup _, .tup _, h, _ => by cases h
  | 0, _, .lst _, .lst _, h, _ => by cases h
  | _, 0, .tup _, .tup _, _, h => by cases h
  | _, 0, .lst _, .lst _, _, h => by cases h
  | n, _, .dct _ _ _, _, h, _ => by cases n <;> cases h
  | n, _, .ref _, _, h, _ => by cases n <;> cases h
  | _, n, _, .dct _ _ _, _, h => by cases n <;> cases h
  | _, n, _, .ref _, _, h => by cases n <;> cases h
theorem eqvs_of : ∀ (n m : Nat) (a b : List D), plains n a = true → plains m b = true → PyData.eqvAll (toPys a) (toPys b) = eqvs a b
  | _, _, [], [], _, _ => rfl
  | _, _, [], _ :: _, _, _ => rfl
  | _, _, _ :: _, [], _, _ => rfl
  | n, m, a :: as, b :: bs, h, k => by
    rw [plains_cons, Bool.and_eq_true] at h k
    show (PyData.eqv (toPy a) (toPy b) && PyData.eqvAll (toPys as) (toPys bs)) = (eqv a b && eqvs as bs)
    rw [eqv_of n m a b h.1 k.1, eqvs_of n m as bs h.2 k.2]
end
theorem any_of {n m : Nat} {a : D} (ha : plain n a = true) : ∀ {l : List D}, plains m l = true → ((toPys l).any fun z => PyData.eqv z (toPy a)) = l.any fun z => eqv z a
  | [], _ => rfl
  | d :: ds, h => by
    rw [plains_cons, Bool.and_eq_true] at h
    show ((PyData.eqv (toPy d) (toPy a)) || _) = ((eqv d a) || _)
    rw [eqv_of m n d a h.1 ha]
    congr 1
    exact any_of ha h.2
theorem lexLt_eq : ∀ a b : List Int, HT.lexLt a b = lexLt a b
  | [], [] => rfl
  | [], _ :: _ => rfl
  | _ :: _, [] => rfl
  | x :: xs, y :: ys => by
    rw [HT.lexLt_cons, lexLt_eq xs ys]; rfl

def cmOf : Cm → CmpOp
  | .lt => .Lt | .le => .LtE | .gt => .Gt | .ge => .GtE | .eq => .Eq | .ne => .NotEq | .inn => .In | .nin => .NotIn | .isN => .Is | .notN => .IsNot
/-- what is asked of a comparison -/
def rCm (c : Cm) : R2 := fun x y H Q => ∃ F d e b, Pk H F d x ∧ Pk H F e y ∧ cm2 c d e = some b ∧ ((c = .isN ∨ c = .notN) → y = .non) ∧ Q (.bl b) H
section
variable {X : Cx}
theorem isNon_of {H : Hp} {F : List Addr} {d : D} {x : V} (h : Pk H F d x) : isNon d = decide (x = .non) := by
  rcases h with h | ⟨a, rfl, h, _⟩
  · cases h <;> first | rfl | (exact (decide_eq_false (fun z => nomatch z)).symm)
  · cases h <;> exact (decide_eq_false (fun z => nomatch z)).symm
theorem strEq {x y : PySem.Str} : decide (V.str x = V.str y) = decide (x = y) := by
  by_cases h : x = y
  · subst h; simp
  · rw [decide_eq_false h, decide_eq_false (fun z => h (V.str.inj z))]
theorem dct_obj {pins : List (Addr × Obj)} {σ : L2.St} {s : Shared} {H : Hp} {F : List Addr} {x : V} {x1 : Value} {t : Bool} {ks vs : List D} (I : L2.Inv X pins σ H s) (rx : RelV x x1) (hd : Pk H F (.dct t ks vs) x) : ∃ (a : Addr) (o : Obj), x1 = .ref a ∧ s.heap.get? a = some o ∧ o.cls = .type "dict" ∧ ∀ v, o.data ≠ .prim v := by
  obtain ⟨a, o, hx, ho, hc, hp⟩ : ∃ (a : Addr) (o : Obj), x = .ref a ∧ s.heap.get? a = some o ∧ o.cls = .type "dict" ∧ ∀ v, o.data ≠ .prim v := by
    cases t with
    | false =>
      obtain ⟨a, kvs, rfl, hr, _⟩ := dctK hd
      obtain ⟨_, _, vs, _, dd⟩ := dk_rd I.hok hr
      obtain ⟨o, es, ep, ho, ex, hda, _⟩ := dd
      exact ⟨a, o, rfl, ho, ex.1, fun v e => by rw [hda] at e; cases e⟩
    | true =>
      obtain ⟨a, kvs, rfl, hr, _⟩ := dctT hd
      obtain ⟨_, _, xs, _, dd⟩ := dt_rd I.hok hr
      obtain ⟨o, es, ep, ho, ex, hda, _⟩ := dd
      exact ⟨a, o, rfl, ho, ex.1, fun v e => by rw [hda] at e; cases e⟩
  subst hx
  cases rx
  exact ⟨a, o, rfl, ho, hc, hp⟩
theorem op_rCm (hu : X.A.units + 65 < cLine) (c : Cm) : OpR X (compareOp (cmOf c)) (rCm c) := by
  intro pins s σ H x y v u Q I rx ry h
  obtain ⟨F, d, e, b, hd, he, hz, hn, q⟩ := h
  cases c with
  | lt =>
    cases d <;> cases e <;> first | (simp only [cm2, reduceCtorEq] at hz; done) | skip
    · cases hz
      exact op_lt pins s σ H x y v u Q I rx ry ⟨_, _, intV hd, intV he, q⟩
    · rename_i l m
      simp only [cm2] at hz
      cases h1 : toInts l with
      | none => rw [h1] at hz; cases hz
      | some ns =>
        cases h2 : toInts m with
        | none => rw [h1, h2] at hz; cases hz
        | some ms =>
          rw [h1, h2] at hz
          cases hz
          obtain ⟨p, xs, rfl, r1, t1, t1'⟩ := tupV (K := X.K) hd
          obtain ⟨p', ys, rfl, r2, t2, t2'⟩ := tupV (K := X.K) he
          rw [r1.ints h1] at t1'
          rw [r2.ints h2] at t2'
          exact op_ltT (by omega) pins s σ H _ _ v u Q I rx ry ⟨p, p', ns, ms, rfl, rfl, t1', t2', by rw [lexLt_eq]; exact q⟩
  | le =>
    cases d <;> cases e <;> first | (simp only [cm2, reduceCtorEq] at hz; done) | skip
    cases hz
    exact op_le pins s σ H x y v u Q I rx ry ⟨_, _, intV hd, intV he, q⟩
  | gt =>
    cases d <;> cases e <;> first | (simp only [cm2, reduceCtorEq] at hz; done) | skip
    cases hz
    exact op_gt pins s σ H x y v u Q I rx ry ⟨_, _, intV hd, intV he, q⟩
  | ge =>
    cases d <;> cases e <;> first | (simp only [cm2, reduceCtorEq] at hz; done) | skip
    · cases hz
      exact op_ge pins s σ H x y v u Q I rx ry ⟨_, _, intV hd, intV he, q⟩
    · rename_i l m
      simp only [cm2] at hz
      cases h1 : toInts l with
      | none => rw [h1] at hz; cases hz
      | some ns =>
        cases h2 : toInts m with
        | none => rw [h1, h2] at hz; cases hz
        | some ms =>
          rw [h1, h2] at hz
          cases hz
          have e1 := ints_map h1
          have e2 := ints_map h2
          subst e1 e2
          obtain ⟨a1, _, a3⟩ := dpk_of (K := X.K) (n := 60) (show plain 60 (tupD ns) = true from plain_ints ns) hd
          obtain ⟨b1, _, b3⟩ := dpk_of (K := X.K) (n := 60) (show plain 60 (tupD ms) = true from plain_ints ms) he
          obtain ⟨as, ra⟩ := Dp.reads I _ x v a1 rx
          obtain ⟨bs, rb⟩ := Dp.reads I _ y u b1 ry
          refine PySem.W.ge_data ra rb (alike_tup ns ms) (fun z => nomatch z) (by have := Nat.min_le_left (toPy (tupD ns)).depth (toPy (tupD ms)).depth; omega) ?_
          rw [lt_tups]
          exact ⟨.bl (!lexLt ns ms), H, I, rfl, q⟩
  | eq =>
    have hz : eqD d e = some b := hz
    unfold eqD at hz
    split at hz
    · cases hz
      cases strV hd
      cases strV he
      exact op_eq pins s σ H _ _ v u Q I rx ry ⟨rfl, by rw [show decide (V.str _ = V.str _) = decide (_ = _) from strEq]; exact q⟩
    · cases hz
      obtain ⟨a, o, rfl, ho, hc, hp⟩ := dct_obj I rx hd
      obtain ⟨p', ys, rfl, r2, t2, t2'⟩ := tupV (K := X.K) he
      obtain ⟨its, _, ht, _⟩ := I.tuple t2'
      cases ry
      exact dict_eq_tup ho hc hp ht (by omega) ⟨.bl false, H, I, rfl, q⟩
    split at hz <;> cases hz
    rename_i hp
    rw [Bool.and_eq_true] at hp
    obtain ⟨a1, a2, a3⟩ := dpk_of (K := X.K) hp.1 hd
    obtain ⟨b1, b2, b3⟩ := dpk_of (K := X.K) hp.2 he
    exact op_eqD (by omega) pins s σ H x y v u Q I rx ry ⟨_, _, a1, b1, shaped_of a2 a3 (by decide), shaped_of b2 b3 (by decide), by rw [eqv_of 60 60 d e hp.1 hp.2]; exact q⟩
  | ne =>
    have hz : (eqD d e).map (!·) = some b := hz
    unfold eqD at hz
    split at hz
    · cases hz
      cases strV hd
      cases strV he
      exact op_ne pins s σ H _ _ v u Q I rx ry ⟨rfl, by rw [show decide (V.str _ = V.str _) = decide (_ = _) from strEq]; exact q⟩
    · cases hz
      obtain ⟨a, o, rfl, ho, hc, hp⟩ := dct_obj I rx hd
      obtain ⟨p', ys, rfl, r2, t2, t2'⟩ := tupV (K := X.K) he
      obtain ⟨its, _, ht, _⟩ := I.tuple t2'
      cases ry
      exact dict_ne_tup ho hc hp ht (by omega) ⟨.bl true, H, I, rfl, q⟩
    split at hz <;> cases hz
    rename_i hp
    rw [Bool.and_eq_true] at hp
    obtain ⟨a1, a2, a3⟩ := dpk_of (K := X.K) hp.1 hd
    obtain ⟨b1, b2, b3⟩ := dpk_of (K := X.K) hp.2 he
    exact op_neD (by omega) pins s σ H x y v u Q I rx ry ⟨_, _, a1, b1, shaped_of a2 a3 (by decide), shaped_of b2 b3 (by decide), by rw [eqv_of 60 60 d e hp.1 hp.2]; exact q⟩
  | inn =>
    cases e <;> first | (simp only [cm2, reduceCtorEq] at hz; done) | skip
    case str z =>
      cases d <;> first | (simp only [cm2, reduceCtorEq] at hz; done) | skip
      cases hz
      have e1 := strV hd
      have e2 := strV he
      subst e1 e2
      exact op_in_str pins s σ H _ _ v u Q I rx ry ⟨_, _, rfl, rfl, q⟩
    case dct t ks vs =>
      simp only [cm2] at hz
      split at hz <;> cases hz
      rename_i hk
      obtain ⟨a, o, rfl, g, h1, _⟩ := dget_of he (keyV hk hd) hk
      cases ry
      exact d_in (by omega) I g rx fun s' I' => ⟨.bl _, H, I', rfl, by rw [h1]; exact q⟩
    case tup l =>
      simp only [cm2] at hz
      split at hz <;> cases hz
      rename_i hp
      rw [Bool.and_eq_true] at hp
      have hl : plain 60 (.tup l) = true := hp.2
      obtain ⟨a1, a2, a3⟩ := dpk_of (K := X.K) hp.1 hd
      obtain ⟨b1, b2, b3⟩ := dpk_of (K := X.K) hl he
      obtain ⟨as, r1⟩ := Dp.reads I _ x v a1 rx
      obtain ⟨bs, r2⟩ := Dp.reads I _ y u b1 ry
      have sd := shaped_of a2 a3 (by decide)
      exact SeqAt.in_tuple_reads r2 r1 (SeqAt.canLay_of_shaped (shaped_of (d := .tup l) b2 b3 (by decide))) (SeqAt.canLay_of_shaped sd) (room_in_shaped sd hu) ⟨.bl _, H, I, rfl, by rw [any_of hp.1 hp.2]; exact q⟩
    rename_i l
    simp only [cm2] at hz
    split at hz <;> cases hz
    rename_i hp
    rw [Bool.and_eq_true] at hp
    have hl : plain 60 (.lst l) = true := hp.2
    obtain ⟨a1, a2, a3⟩ := dpk_of (K := X.K) hp.1 hd
    obtain ⟨b1, b2, b3⟩ := dpk_of (K := X.K) hl he
    exact op_inD hu pins s σ H x y v u Q I rx ry ⟨_, _, a1, b1, shaped_of a2 a3 (by decide), shaped_of (d := .lst l) b2 b3 (by decide), by rw [any_of hp.1 hp.2]; exact q⟩
  | nin =>
    cases e <;> first | (simp only [cm2, reduceCtorEq] at hz; done) | skip
    case str z =>
      cases d <;> first | (simp only [cm2, reduceCtorEq] at hz; done) | skip
      cases hz
      have e1 := strV hd
      have e2 := strV he
      subst e1 e2
      exact op_notin_str pins s σ H _ _ v u Q I rx ry ⟨_, _, rfl, rfl, q⟩
    case dct t ks vs =>
      simp only [cm2] at hz
      split at hz <;> cases hz
      rename_i hk
      obtain ⟨a, o, rfl, g, h1, _⟩ := dget_of he (keyV hk hd) hk
      cases ry
      exact d_notIn (by omega) I g rx fun s' I' => ⟨.bl _, H, I', rfl, by rw [h1]; exact q⟩
    case tup l =>
      simp only [cm2] at hz
      split at hz <;> cases hz
      rename_i hp
      rw [Bool.and_eq_true] at hp
      have hl : plain 60 (.tup l) = true := hp.2
      obtain ⟨a1, a2, a3⟩ := dpk_of (K := X.K) hp.1 hd
      obtain ⟨b1, b2, b3⟩ := dpk_of (K := X.K) hl he
      obtain ⟨as, r1⟩ := Dp.reads I _ x v a1 rx
      obtain ⟨bs, r2⟩ := Dp.reads I _ y u b1 ry
      have sd := shaped_of a2 a3 (by decide)
      exact SeqAt.notIn_tuple_reads r2 r1 (SeqAt.canLay_of_shaped (shaped_of (d := .tup l) b2 b3 (by decide))) (SeqAt.canLay_of_shaped sd) (room_in_shaped sd hu) ⟨.bl _, H, I, rfl, by rw [any_of hp.1 hp.2]; exact q⟩
    rename_i l
    simp only [cm2] at hz
    split at hz <;> cases hz
    rename_i hp
    rw [Bool.and_eq_true] at hp
    have hl : plain 60 (.lst l) = true := hp.2
    obtain ⟨a1, a2, a3⟩ := dpk_of (K := X.K) hp.1 hd
    obtain ⟨b1, b2, b3⟩ := dpk_of (K := X.K) hl he
    exact op_notInD hu pins s σ H x y v u Q I rx ry ⟨_, _, a1, b1, shaped_of a2 a3 (by decide), shaped_of (d := .lst l) b2 b3 (by decide), by rw [any_of hp.1 hp.2]; exact q⟩
  | isN =>
    cases (show some (isNon d) = some b from hz)
    exact op_isN pins s σ H x y v u Q I rx ry ⟨hn (.inl rfl), by rw [← isNon_of hd]; exact q⟩
  | notN =>
    cases (show some (!isNon d) = some b from hz)
    exact op_notN pins s σ H x y v u Q I rx ry ⟨hn (.inr rfl), by rw [← isNon_of hd]; exact q⟩
end

/-! ### items, slices -/
def rIdx : R2 := fun x y H Q => ∃ F st d i z, SR H F st ∧ Pk H F d x ∧ Pk H F i y ∧ idx st d i = some z ∧ ∀ v, Rp H F z v → Q v H
theorem ixN_eq (n : Nat) (i : Int) : L2.ixN n i = ixN n i := rfl
theorem at_of {H : Hp} {F : List Addr} {ds : List D} {xs : List V} {i : Int} {z : D} (r : Rps H F ds xs) (h : at_ ds i = some z) : ∃ v, atI xs i = some v ∧ Rp H F z v := by
  unfold at_ at h
  unfold atI
  rw [ixN_eq, ← r.length]
  cases e : ixN ds.length i with
  | none => rw [e] at h; cases h
  | some j =>
    rw [e] at h
    exact r.get (show ds[j]? = some z from h)
theorem ix_dict {X : Cx} (hu : X.A.units + 1 < cLine) : IxR X (fun x y H Q => ∃ a v, x = .ref a ∧ L2.DGet H a y (some v) ∧ Q v H) := by
  intro value slice pins s σ H x y v u Q I rx ry h hs
  obtain ⟨a, w, rfl, g, q⟩ := h
  cases rx
  have hT := dict_typeIs I g
  unfold subscriptTail
  refine wpAny_bind ?_
  rw [getitemInPython_of_ne hT.not_modules]
  refine wpAny_bind (wpAny_specialOf hT PySem.F.slot_dict_getitem.lookup ?_)
  have fin : wpAny (model X.prog X.w) X.A (subscripted slice false (.ref a) u) (fun r s₃ => wpAny (model X.prog X.w) X.A (letTemporaryGo value (.ref a) r >>= fun _ => pure r) (EP X pins σ Q) X.xe s₃) X.xe s := by
    rw [hs]
    exact wpAny_operating (d_getItem hu I g ry fun w' s3 I3 rw' => wpAny_bind (wpAny_letTemporaryGo (wpAny_pure ⟨w, H, I3, rw', q⟩)))
  first
    | exact wpAny_pure (wpAny_bind fin)
    | exact wpAny_bind (wpAny_pure (wpAny_bind fin))
    | exact wpAny_bind fin
theorem signs_at {x : PySem.Str} {i : Int} {z : D} (h : at_ (signs x) i = some z) : ∃ c, atI x.cps.toList i = some c ∧ z = .str ⟨#[c]⟩ := by
  unfold at_ at h
  unfold atI
  have hl : (signs x).length = x.cps.toList.length := by unfold signs; rw [List.length_map]
  rw [hl] at h
  rw [ixN_eq]
  cases e : ixN x.cps.toList.length i with
  | none => rw [e] at h; cases h
  | some j =>
    rw [e] at h
    have h : (signs x)[j]? = some z := h
    unfold signs at h
    rw [List.getElem?_map] at h
    cases e2 : x.cps.toList[j]? with
    | none => rw [e2] at h; cases h
    | some c =>
      rw [e2] at h
      cases h
      exact ⟨c, e2, rfl⟩
/-- == a text that is written -/
def rEqs (x : PySem.Str) : R2 := fun v y H Q => ∃ F d b, Pk H F d v ∧ y = .str x ∧ eqsD x d = some (.bl b) ∧ Q (.bl b) H
theorem op_rEqs {X : Cx} (hu : X.A.units + 65 < cLine) (x : PySem.Str) : OpR X (compareOp .Eq) (rEqs x) := by
  intro pins s σ H x1 y v u Q I rx ry h
  obtain ⟨F, d, b, hd, rfl, hz, q⟩ := h
  by_cases isd : ∃ t ks vs, d = .dct t ks vs
  · obtain ⟨t, ks, vs, rfl⟩ := isd
    cases hz
    obtain ⟨t2, rfl⟩ := ry
    obtain ⟨a, o, hx, ho, hc, hp⟩ : ∃ (a : Addr) (o : Obj), x1 = .ref a ∧ s.heap.get? a = some o ∧ o.cls = .type "dict" ∧ ∀ v, o.data ≠ .prim v := by
      cases t with
      | false =>
        obtain ⟨a, kvs, rfl, hr, _⟩ := dctK hd
        obtain ⟨_, _, vs, _, dd⟩ := dk_rd I.hok hr
        obtain ⟨o, es, ep, ho, ex, hda, _⟩ := dd
        exact ⟨a, o, rfl, ho, ex.1, fun v e => by rw [hda] at e; cases e⟩
      | true =>
        obtain ⟨a, kvs, rfl, hr, _⟩ := dctT hd
        obtain ⟨_, _, xs, _, dd⟩ := dt_rd I.hok hr
        obtain ⟨o, es, ep, ho, ex, hda, _⟩ := dd
        exact ⟨a, o, rfl, ho, ex.1, fun v e => by rw [hda] at e; cases e⟩
    subst hx
    cases rx
    exact dict_eq_str ho hc hp (by omega) ⟨.bl false, H, I, rfl, q⟩
  · have hz2 : (eqD d (.str x)).map D.bl = some (.bl b) := by
      rw [← hz]
      cases d <;> first | rfl | exact absurd ⟨_, _, _, rfl⟩ isd
    obtain ⟨b', e1, e2⟩ := Option.map_eq_some_iff.mp hz2
    cases e2
    exact op_rCm hu .eq pins s σ H _ _ v u Q I rx ry ⟨F, d, .str x, b, hd, .inl (.str _), e1, (fun z => by rcases z with z | z <;> cases z), q⟩
theorem ix_rIdx {X : Cx} (hu : X.A.units + 1 < cLine) : IxR X rIdx := by
  intro value slice pins s σ H x y v u Q I rx ry h hs
  obtain ⟨F, st, d, i, z, sr, hd, hi, hz, q⟩ := h
  by_cases isd : ∃ t ks vs, d = .dct t ks vs
  · obtain ⟨t, ks, vs, rfl⟩ := isd
    have hz : (if keyB t i = true then findD i ks vs else none) = some z := by
      cases i <;> exact hz
    split at hz
    case isFalse => cases hz
    rename_i hk
    obtain ⟨a, o, rfl, g, _, h2⟩ := dget_of hd (keyV hk hi) hk
    obtain ⟨w, rfl, rw'⟩ := h2 z hz
    exact ix_dict hu value slice pins s σ H _ y v u Q I rx ry ⟨a, w, rfl, g, q w rw'⟩ hs
  have nd : ∀ t ks vs, d ≠ .dct t ks vs := fun t ks vs e => isd ⟨t, ks, vs, e⟩
  cases d <;> cases i <;> first | (simp only [idx, reduceCtorEq] at hz; done) | exact absurd rfl (nd _ _ _) | skip
  · simp only [idx] at hz
    split at hz
    case isFalse => cases hz
    rename_i x i hl
    have e1 := strV hd
    subst e1
    obtain ⟨c, e, rfl⟩ := signs_at hz
    exact ix_str value slice pins s σ H _ y v u Q I rx ry ⟨x, _, c, rfl, intV hi, sz_ok hl, e, q _ (.str _)⟩ hs
  · obtain ⟨p, xs, rfl, r1, t1, t1'⟩ := tupV (K := X.K) hd
    obtain ⟨w, e, r⟩ := at_of r1 hz
    exact ix_tup value slice pins s σ H _ y v u Q I rx ry ⟨p, xs, _, w, rfl, intV hi, t1', e, q w r⟩ hs
  · obtain ⟨p, xs, rfl, r1, t1⟩ := listV (K := X.K) hd
    obtain ⟨w, e, r⟩ := at_of r1 hz
    exact ix_list value slice pins s σ H _ y v u Q I rx ry ⟨p, xs, _, w, rfl, intV hi, t1, e, q w r⟩ hs
  · rcases hd with hd | ⟨a, rfl, hd, _⟩
    · cases hd with
      | ref e =>
        obtain ⟨xs, ds, h1, h2, h3⟩ := sr.cell _ _ e
        simp only [idx, h2, Option.bind_some] at hz
        obtain ⟨w, e, r⟩ := at_of h3 hz
        exact ix_list value slice pins s σ H _ y v u Q I rx ry ⟨_, xs, _, w, rfl, intV hi, .inl (.inl h1), e, q w r⟩ hs
    · cases hd
end LB
/-! LB5: slices, built-in functions, by values. -/
namespace LB
open PySem PySem.Spec PyProof.Rows L2
variable [Clx]

def oD : Option Int → D
  | none => .non
  | some i => .int i
def rSl (b : Bool) : V → Option Int → Option Int → Hp → VK → Prop := fun x lo hi H Q => ∃ F st d z, SR H F st ∧ Pk H F d x ∧ slice d (oD lo) (oD hi) = some z ∧ Gd b H F st z Q ∧ (b = true → isSeq z)
theorem cutN_eq (n d : Nat) (o : Option Int) : cutN n d (oD o) = some (HT.sIx n d o) := by
  cases o <;> rfl
theorem cut_of {H : Hp} {F : List Addr} {ds zs : List D} {xs : List V} {lo hi : Option Int} (r : Rps H F ds xs) (h : cut ds (oD lo) (oD hi) = some zs) : Rps H F zs (cutV xs lo hi) := by
  unfold cut at h
  rw [cutN_eq, cutN_eq] at h
  cases h
  unfold cutV
  rw [r.length]
  exact (r.drop _).take _
theorem sl_rSl {X : Cx} {b : Bool} : SlR X (rSl b) := by
  intro pins s σ H x v vl vu lo hi sl Q I rx hs pl pu h
  obtain ⟨F, st, d, z, sr, hd, hz, g, hb⟩ := h
  cases d <;> first | (simp only [slice, reduceCtorEq] at hz; done) | skip
  · rename_i y
    simp only [slice, cutN_eq, Option.bind_some] at hz
    split at hz <;> cases hz
    rename_i hl
    cases strV hd
    have g := g.val hb (fun z => z)
    exact sl_str pins s σ H _ v vl vu lo hi sl Q I rx hs pl pu ⟨y, rfl, sz_ok hl, g.here sr (.str _)⟩
  · rename_i l
    simp only [slice] at hz
    cases e : cut l (oD lo) (oD hi) with
    | none => rw [e] at hz; cases hz
    | some zs =>
      rw [e] at hz; cases hz
      obtain ⟨p, xs, rfl, r1, t1, t1'⟩ := tupV (K := X.K) hd
      have r2 := cut_of r1 e
      have g := g.val hb (fun z => z)
      refine sl_tupA pins s σ H _ v vl vu lo hi sl Q I rx hs pl pu ⟨p, xs, rfl, t1', fun q => ?_, fun _ w hw => g.tupAt sr r2 hw⟩
      have ez : cutV xs lo hi = xs := by
        unfold cutV
        rw [q.1, q.2, List.drop_zero, Nat.sub_zero, List.take_length]
      rw [ez] at r2
      exact g.here sr (.tup t1 r2)
  · rename_i l
    simp only [slice] at hz
    cases e : cut l (oD lo) (oD hi) with
    | none => rw [e] at hz; cases hz
    | some zs =>
      rw [e] at hz; cases hz
      obtain ⟨p, xs, rfl, r1, t1⟩ := listV (K := X.K) hd
      have r2 := cut_of r1 e
      cases b with
      | true =>
        exact sl_list pins s σ H _ v vl vu lo hi sl Q I rx hs pl pu ⟨p, xs, rfl, t1, fun w hw => g w _ hw (Stp.laid sr hw) (sr.laid hw) (.lst upd_same (r2.mono (keeps_new hw)))⟩
      | false =>
        obtain ⟨T, id, h1, h2, h3⟩ := sl_list pins s σ H (.ref p) v vl vu lo hi sl (fun y H' => ∃ w, y = .ref w ∧ H w = none ∧ H' = upd H w (.lst (cutV xs lo hi))) I rx hs pl pu ⟨p, xs, rfl, t1, fun w hw => ⟨w, rfl, hw, rfl⟩⟩
        refine ⟨T, id, h1, h2, thn h3 fun y s' ⟨v', H', I', r', w, e1, e2, e3⟩ => ?_⟩
        subst e1 e3
        cases r'
        exact Gv.lock I' sr g e2 (Stp.laid sr e2) (sr.laid e2) (.lst upd_same (r2.mono (keeps_new e2)))

/-! ### built-in functions -/
def rBi (k : Bi) (b : Bool) : List V → Hp → VK → Prop := fun xs H Q => ∃ F st ds z, SR H F st ∧ Pks H F ds xs ∧ biV st k ds = some z ∧ Gd b H F st z Q ∧ (b = true → isSeq z)
theorem maxL_of : ∀ {ns : List Int} {m : Int}, maxL ns = some m → ∀ w, w ∈ ns → (∀ y ∈ ns, y ≤ w) → w = m
  | [], _, h, _, _, _ => by cases h
  | x :: r, m, h, w, hw, hle => by
    unfold maxL at h
    have hx := hle x List.mem_cons_self
    cases e : maxL r with
    | none =>
      rw [e] at h
      cases h
      cases r with
      | nil => simpa using hw
      | cons y t => unfold maxL at e; split at e <;> cases e
    | some k =>
      rw [e] at h
      have h : (if k > x then k else x) = m := Option.some.inj h
      rcases List.mem_cons.mp hw with q | q
      · subst q
        have hk : k ≤ w := by
          have : ∀ {ns : List Int} {m : Int}, maxL ns = some m → m ∈ ns := by
            intro ns
            induction ns with
            | nil => intro m h; cases h
            | cons a t ih =>
              intro m h
              unfold maxL at h
              cases e2 : maxL t with
              | none => rw [e2] at h; cases h; exact List.mem_cons_self
              | some k2 =>
                rw [e2] at h
                have h : (if k2 > a then k2 else a) = m := Option.some.inj h
                split at h
                · subst h; exact List.mem_cons_of_mem _ (ih e2)
                · subst h; exact List.mem_cons_self
          exact hle k (List.mem_cons_of_mem _ (this e))
        rw [if_neg (by omega)] at h
        exact h
      · have ih := maxL_of e w q fun y hy => hle y (List.mem_cons_of_mem _ hy)
        subst ih
        split at h <;> omega
theorem minL_of : ∀ {ns : List Int} {m : Int}, minL ns = some m → ∀ w, w ∈ ns → (∀ y ∈ ns, w ≤ y) → w = m
  | [], _, h, _, _, _ => by cases h
  | x :: r, m, h, w, hw, hle => by
    unfold minL at h
    have hx := hle x List.mem_cons_self
    cases e : minL r with
    | none =>
      rw [e] at h
      cases h
      cases r with
      | nil => simpa using hw
      | cons y t => unfold minL at e; split at e <;> cases e
    | some k =>
      rw [e] at h
      have h : (if k < x then k else x) = m := Option.some.inj h
      rcases List.mem_cons.mp hw with q | q
      · subst q
        have hk : w ≤ k := by
          have : ∀ {ns : List Int} {m : Int}, minL ns = some m → m ∈ ns := by
            intro ns
            induction ns with
            | nil => intro m h; cases h
            | cons a t ih =>
              intro m h
              unfold minL at h
              cases e2 : minL t with
              | none => rw [e2] at h; cases h; exact List.mem_cons_self
              | some k2 =>
                rw [e2] at h
                have h : (if k2 < a then k2 else a) = m := Option.some.inj h
                split at h
                · subst h; exact List.mem_cons_of_mem _ (ih e2)
                · subst h; exact List.mem_cons_self
          exact hle k (List.mem_cons_of_mem _ (this e))
        rw [if_neg (by omega)] at h
        exact h
      · have ih := minL_of e w q fun y hy => hle y (List.mem_cons_of_mem _ hy)
        subst ih
        split at h <;> omega
def biVal : Bi → Value
  | .len => .builtin "len" | .tup => .type "tuple" | .lst => .type "list" | .sum => .builtin "sum" | .all => .builtin "all" | .any => .builtin "any"
  | .abs => .builtin "abs" | .int => .type "int" | .max1 => .builtin "max" | .min1 => .builtin "min" | .max2 => .builtin "max" | .min2 => .builtin "min"
  | _ => .none
section
variable {X : Cx} {b : Bool}
theorem pks1 {H : Hp} {F : List Addr} {d : D} {xs : List V} (h : Pks H F [d] xs) : ∃ x, xs = [x] ∧ Pk H F d x := by
  cases h with
  | cons r q => cases q; exact ⟨_, rfl, r⟩
theorem pks2 {H : Hp} {F : List Addr} {d e : D} {xs : List V} (h : Pks H F [d, e] xs) : ∃ x y, xs = [x, y] ∧ Pk H F d x ∧ Pk H F e y := by
  cases h with
  | cons r q => cases q with
    | cons r' q => cases q; exact ⟨_, _, rfl, r, r'⟩
theorem Gd.bl {H : Hp} {F : List Addr} {st : Store} {i : Bool} {Q : VK} (s : SR H F st) (g : Gd b H F st (.bl i) Q) (hb : b = true → isSeq (.bl i)) : Q (.bl i) H := by
  cases b with
  | true => exact (hb rfl).elim
  | false => exact Gv.here g s (.bl i)
theorem keysRp {H : Hp} {F : List Addr} : ∀ kvs : List (Key × V), (∀ k : Key, Rp H F (kD k) (L2.kV k)) → Rps H F (kvs.map fun kv => kD kv.1) (kvs.map fun kv => L2.kV kv.1)
  | [], _ => .nil
  | kv :: kvs, h => .cons (h kv.1) (keysRp kvs h)
theorem keyRps {H : Hp} {F : List Addr} : ∀ ks : List Key, Rps H F (ks.map kD) (ks.map L2.kV)
  | [] => .nil
  | k :: ks => .cons (by cases k <;> constructor) (keyRps ks)
theorem keysRpT {H : Hp} {F : List Addr} {kvs : List (List Key × V)} {bs : List Addr} (h : L2.IsKeys H kvs bs) : Rps H F (kvs.map fun kv => D.tup (kv.1.map kD)) (bs.map V.ref) := by
  induction h with
  | nil => exact .nil
  | cons a _ ih => exact .cons (.tup a (keyRps _)) ih
/-- a function of one value -/
theorem bi1_of {f : Value} {k : Bi} (hk : ∀ st d z, biV st k [d] = some z → biV st k [d] = some z)
    (h2 : ∀ st ds z, biV st k ds = some z → ∃ d, ds = [d])
    (h : ∀ (pins : List (Addr × Obj)) (s : Shared) (σ : L2.St) (H : Hp) (x : V) (us : List Value) (Q : VK) (F : List Addr) (st : Store) (d z : D), L2.Inv X pins σ H s → Vals [x] us → SR H F st → Pk H F d x → biV st k [d] = some z →
      Gd b H F st z Q → (b = true → isSeq z) → wpAny (model X.prog X.w) X.A (PySem.call f us) (EP X pins σ Q) X.xe s) : CallR X f (rBi k b) := by
  intro pins s σ H xs us Q I r hh
  obtain ⟨F, st, ds, z, sr, hd, hz, g, hb⟩ := hh
  obtain ⟨d, rfl⟩ := h2 st ds z hz
  obtain ⟨x, rfl, hx⟩ := pks1 hd
  exact h pins s σ H x us Q F st d z I r sr hx hz g hb
theorem one_of {st : Store} {k : Bi} (h : ∀ a c, bi2 k a c = none) : ∀ ds z, biV st k ds = some z → ∃ d, ds = [d]
  | [], _, q => by cases k <;> cases q
  | [d], _, _ => ⟨d, rfl⟩
  | [d, e], z, q => by
    have q : bi2 k d e = some z := by cases k <;> simpa [biV] using q
    rw [h] at q; cases q
  | _ :: _ :: _ :: _, _, q => by cases k <;> simp [biV] at q
theorem cr_len : CallR X (.builtin "len") (rBi .len b) := by
  refine bi1_of (fun _ _ _ h => h) (fun st => one_of fun _ _ => rfl) fun pins s σ H x us Q F st d z I r sr hx hz g hb => ?_
  cases d <;> first | (simp only [biV, bi1, reduceCtorEq] at hz; done) | skip
  · simp only [biV, bi1] at hz
    split at hz <;> cases hz
    rename_i hl
    cases strV hx
    exact call_len_str pins s σ H _ us Q I r ⟨_, rfl, sz_ok hl, Gd.int sr g hb⟩
  · cases hz
    obtain ⟨p, xs, rfl, r1, t1, t1'⟩ := tupV (K := X.K) hx
    have e := r1.length
    refine call_len_seq pins s σ H _ us Q I r ⟨p, xs, rfl, .inr t1', ?_⟩
    rw [← e]
    exact Gd.int sr g hb
  · cases hz
    obtain ⟨p, xs, rfl, r1, t1⟩ := listV (K := X.K) hx
    have e := r1.length
    refine call_len_seq pins s σ H _ us Q I r ⟨p, xs, rfl, .inl t1, ?_⟩
    rw [← e]
    exact Gd.int sr g hb
  · rename_i n
    rcases hx with hx | ⟨a, rfl, hx, _⟩
    · cases hx with
      | ref e =>
        obtain ⟨xs, ds, h1, h2, h3⟩ := sr.cell _ _ e
        have hz : (st[n]?.map fun l => D.int l.length) = some z := hz
        rw [h2] at hz
        cases hz
        have e2 := h3.length
        refine call_len_seq pins s σ H _ us Q I r ⟨_, xs, rfl, .inl (.inl (.inl h1)), ?_⟩
        rw [← e2]
        exact Gd.int sr g hb
    · cases hx
theorem cr_tup : CallR X (.type "tuple") (rBi .tup b) := by
  refine bi1_of (fun _ _ _ h => h) (fun st => one_of fun _ _ => rfl) fun pins s σ H x us Q F st d z I r sr hx hz g hb => ?_
  cases d <;> first | (simp only [biV, bi1, reduceCtorEq] at hz; done) | skip
  · cases hz
    obtain ⟨p, xs, rfl, r1, t1, t1'⟩ := tupV (K := X.K) hx
    exact call_tuple_of pins s σ H _ us Q I r ⟨p, xs, rfl, .inr ⟨t1', (g.val hb (fun z => z)).here sr (.tup t1 r1)⟩⟩
  · cases hz
    obtain ⟨p, xs, rfl, r1, t1⟩ := listV (K := X.K) hx
    exact call_tuple_of pins s σ H _ us Q I r ⟨p, xs, rfl, .inl ⟨t1, fun w hw => (g.val hb (fun z => z)).tupAt sr r1 hw⟩⟩
theorem signs_rp {H : Hp} {F : List Addr} : ∀ l : List Nat, Rps H F (l.map fun c => D.str ⟨#[c]⟩) (l.map fun c => V.str ⟨#[c]⟩)
  | [] => .nil
  | c :: l => .cons (.str _) (signs_rp l)
theorem signs_vals {x : PySem.Str} {acc : Array Value} (h : ItemsOf (SignAt x) acc x.cps.size) : Vals (x.cps.toList.map fun c => V.str ⟨#[c]⟩) acc.toList := by
  have main : ∀ (l : List Nat) (vs : List Value), vs.length = l.length → (∀ (j : Nat) (v : Value), vs[j]? = some v → ∃ c u, l[j]? = some c ∧ v = Value.str ⟨#[c]⟩ u) → Vals (l.map fun c => V.str ⟨#[c]⟩) vs := by
    intro l
    induction l with
    | nil => intro vs hl _; cases vs with
      | nil => exact .nil
      | cons v vs => cases hl
    | cons c l ih => intro vs hl hv; cases vs with
      | nil => cases hl
      | cons v vs =>
        obtain ⟨c', u, e, rfl⟩ := hv 0 v rfl
        cases e
        exact .cons ⟨u, rfl⟩ (ih vs (Nat.succ.inj hl) fun j w hw => hv (j + 1) w hw)
  refine main _ _ (by rw [Array.length_toList, Array.length_toList]; exact h.1) fun j v hj => ?_
  rw [Array.getElem?_toList] at hj
  obtain ⟨c, u, e, rfl⟩ := h.2 j v hj
  exact ⟨c, u, by rw [Array.getElem?_toList]; exact e, rfl⟩
theorem call_signs (hc : X.calm = true) : CallR X (.type "list") (fun xs H Q => ∃ x : PySem.Str, xs = [.str x] ∧ x.length ≤ sizeLine ∧ ∀ p, H p = none → Q (.ref p) (upd H p (.lst (x.cps.toList.map fun c => V.str ⟨#[c]⟩)))) := by
  intro pins s σ H xs us Q I r q
  obtain ⟨x, rfl, hl, q⟩ := q
  obtain ⟨u, rfl, ru⟩ := L2.vals1 r
  obtain ⟨t, rfl⟩ := ru
  have hl : x.cps.size ≤ sizeLine := hl
  refine call_list_str (I.ok.hd hc) x t (fun h' tk acc c' hk hD hacc => ?_) hl
  have hv := signs_vals hacc
  refine ⟨.ref s.heap.objs.size, upd H s.heap.objs.size (.lst (x.cps.toList.map fun c => V.str ⟨#[c]⟩)), I.laid (t' := tk) hk (Nat.le_refl _)
    (show ObjOk X.prog X.w _ _ _ (.lst (x.cps.toList.map fun c => V.str ⟨#[c]⟩)) from ⟨by rw [List.length_map, Array.length_toList]; exact hl, acc.toList, c', hv, by rw [Array.toArray_toList]; exact hD⟩), rfl, q _ (I.hok.fresh (Nat.le_refl _))⟩
theorem cr_lst (hc : X.calm = true) : CallR X (.type "list") (rBi .lst b) := by
  refine bi1_of (fun _ _ _ h => h) (fun st => one_of fun _ _ => rfl) fun pins s σ H x us Q F st d z I r sr hx hz g hb => ?_
  have fin : ∀ {p : Addr} {xs : List V} {l : List D}, x = .ref p → Rps H F l xs → (SqL X.K H p xs ∨ SqT X.K H p xs) → z = .lst l → wpAny (model X.prog X.w) X.A (PySem.call (.type "list") us) (EP X pins σ Q) X.xe s := by
    intro p xs l ex r1 t1 ez
    subst ex ez
    refine thn (call_list_of pins s σ H [.ref p] us (fun y H' => ∃ w, y = .ref w ∧ H w = none ∧ H' = upd H w (.lst xs)) I r ⟨p, xs, rfl, t1, fun w hw => ⟨w, rfl, hw, rfl⟩⟩) fun y s' ⟨v', H', I', r', w, e1, e2, e3⟩ => ?_
    subst e1 e3
    cases r'
    exact Gd.new I' sr g e2 (Stp.laid sr e2) (sr.laid e2) (.lst upd_same (r1.mono (keeps_new e2)))
  cases d <;> first | (simp only [biV, bi1, reduceCtorEq] at hz; done) | skip
  · simp only [biV, bi1] at hz
    split at hz <;> cases hz
    rename_i y hl
    have e1 := strV hx
    subst e1
    refine thn (call_signs hc pins s σ H [.str y] us (fun v H' => ∃ w, v = .ref w ∧ H w = none ∧ H' = upd H w (.lst (y.cps.toList.map fun c => V.str ⟨#[c]⟩))) I r ⟨y, rfl, sz_ok hl, fun w hw => ⟨w, rfl, hw, rfl⟩⟩) fun v s' ⟨v', H', I', r', w, e1, e2, e3⟩ => ?_
    subst e1 e3
    cases r'
    exact Gd.new I' sr g e2 (Stp.laid sr e2) (sr.laid e2) (.lst upd_same (signs_rp _))
  · cases hz
    obtain ⟨p, xs, rfl, r1, t1, t1'⟩ := tupV (K := X.K) hx
    exact fin rfl r1 (.inr t1') rfl
  · cases hz
    obtain ⟨p, xs, rfl, r1, t1⟩ := listV (K := X.K) hx
    exact fin rfl r1 (.inl t1) rfl
  · rename_i t ks vs
    cases hz
    cases t with
    | false =>
      obtain ⟨a, kvs, rfl, hr, rfl, rv⟩ := dctK hx
      refine thn (call_listD hc pins s σ H [.ref a] us (fun y H' => ∃ w, y = .ref w ∧ H w = none ∧ H' = upd H w (.lst (kvs.map fun kv => L2.kV kv.1))) I r ⟨a, kvs, rfl, hr, fun w hw => ⟨w, rfl, hw, rfl⟩⟩) fun y s' ⟨v', H', I', r', w, e1, e2, e3⟩ => ?_
      subst e1 e3
      cases r'
      refine Gd.new I' sr g e2 (Stp.laid sr e2) (sr.laid e2) (.lst upd_same ?_)
      exact keysRp _ fun k => by cases k <;> constructor
    | true =>
      obtain ⟨a, kvs, rfl, hr, rfl, rv⟩ := dctT hx
      refine thn (call_list_dT hc pins s σ H [.ref a] us (fun y H' => ∃ w bs, y = .ref w ∧ H w = none ∧ L2.IsKeys H kvs bs ∧ H' = upd H w (.lst (bs.map V.ref))) I r ⟨a, kvs, rfl, hr, fun w bs hw hb => ⟨w, bs, rfl, hw, hb, rfl⟩⟩) fun y s' ⟨v', H', I', r', w, bs, e1, e2, e4, e3⟩ => ?_
      subst e1 e3
      cases r'
      exact Gd.new I' sr g e2 (Stp.laid sr e2) (sr.laid e2) (.lst upd_same ((keysRpT e4).mono (keeps_new e2)))
theorem cr_sumB (hc : X.calm = true) : CallR X (.builtin "sum") (rBi .sum b) := by
  refine bi1_of (fun _ _ _ h => h) (fun st => one_of fun _ _ => rfl) fun pins s σ H x us Q F st d z I r sr hx hz g hb => ?_
  cases d <;> first | (simp only [biV, bi1, reduceCtorEq] at hz; done) | skip
  rename_i l
  have hz : (toInts l).map (fun ns => D.int ns.sum) = some z := hz
  cases e : toInts l with
  | none => rw [e] at hz; cases hz
  | some ns =>
    rw [e] at hz; cases hz
    obtain ⟨p, xs, rfl, r1, t1⟩ := listV (K := X.K) hx
    rw [r1.ints e] at t1
    exact L2.cr_sum hc pins s σ H _ us Q I r ⟨p, ns, rfl, t1, Gd.int sr g hb⟩
theorem cr_allB (hc : X.calm = true) : CallR X (.builtin "all") (rBi .all b) := by
  refine bi1_of (fun _ _ _ h => h) (fun st => one_of fun _ _ => rfl) fun pins s σ H x us Q F st d z I r sr hx hz g hb => ?_
  cases d <;> first | (simp only [biV, bi1, reduceCtorEq] at hz; done) | skip
  rename_i l
  have hz : (toBls l).map (fun ns => D.bl (ns.all id)) = some z := hz
  cases e : toBls l with
  | none => rw [e] at hz; cases hz
  | some ns =>
    rw [e] at hz; cases hz
    obtain ⟨p, xs, rfl, r1, t1⟩ := listV (K := X.K) hx
    rw [r1.bls e] at t1
    exact L2.cr_all hc pins s σ H _ us Q I r ⟨p, ns, rfl, t1, Gd.bl sr g hb⟩
theorem cr_anyB (hc : X.calm = true) : CallR X (.builtin "any") (rBi .any b) := by
  refine bi1_of (fun _ _ _ h => h) (fun st => one_of fun _ _ => rfl) fun pins s σ H x us Q F st d z I r sr hx hz g hb => ?_
  cases d <;> first | (simp only [biV, bi1, reduceCtorEq] at hz; done) | skip
  rename_i l
  have hz : (toBls l).map (fun ns => D.bl (ns.any id)) = some z := hz
  cases e : toBls l with
  | none => rw [e] at hz; cases hz
  | some ns =>
    rw [e] at hz; cases hz
    obtain ⟨p, xs, rfl, r1, t1⟩ := listV (K := X.K) hx
    rw [r1.bls e] at t1
    exact L2.cr_any hc pins s σ H _ us Q I r ⟨p, ns, rfl, t1, Gd.bl sr g hb⟩
theorem cr_absB : CallR X (.builtin "abs") (rBi .abs b) := by
  refine bi1_of (fun _ _ _ h => h) (fun st => one_of fun _ _ => rfl) fun pins s σ H x us Q F st d z I r sr hx hz g hb => ?_
  cases d <;> first | (simp only [biV, bi1, reduceCtorEq] at hz; done) | skip
  cases hz
  cases intV hx
  exact call_abs pins s σ H _ us Q I r ⟨_, rfl, Gd.int sr g hb⟩
theorem cr_intB : CallR X (.type "int") (rBi .int b) := by
  refine bi1_of (fun _ _ _ h => h) (fun st => one_of fun _ _ => rfl) fun pins s σ H x us Q F st d z I r sr hx hz g hb => ?_
  cases d <;> first | (simp only [biV, bi1, reduceCtorEq] at hz; done) | skip
  · cases hz
    cases blV hx
    exact call_int1 pins s σ H _ us Q I r (.inr ⟨_, rfl, Gd.int sr g hb⟩)
  · cases hz
    cases intV hx
    exact call_int1 pins s σ H _ us Q I r (.inl ⟨_, rfl, Gd.int sr g hb⟩)
  · simp only [biV, bi1] at hz
    split at hz
    case isFalse => cases hz
    rename_i y hl
    obtain ⟨n, e1, e2⟩ := Option.map_eq_some_iff.mp hz
    subst e2
    have e3 := strV hx
    subst e3
    exact call_int_str pins s σ H _ us Q I r ⟨y, n, rfl, e1, Nat.le_of_ble_eq_true hl, Gd.int sr g hb⟩
theorem cr_max1B (hc : X.calm = true) : CallR X (.builtin "max") (rBi .max1 b) := by
  refine bi1_of (fun _ _ _ h => h) (fun st => one_of fun _ _ => rfl) fun pins s σ H x us Q F st d z I r sr hx hz g hb => ?_
  cases d <;> first | (simp only [biV, bi1, reduceCtorEq] at hz; done) | skip
  rename_i l
  have hz : ((toInts l).bind fun ns => (maxL ns).map D.int) = some z := hz
  cases e : toInts l with
  | none => rw [e] at hz; cases hz
  | some ns =>
    rw [e] at hz
    have hz : (maxL ns).map D.int = some z := hz
    cases e2 : maxL ns with
    | none => rw [e2] at hz; cases hz
    | some m =>
      rw [e2] at hz; cases hz
      obtain ⟨p, xs, rfl, r1, t1⟩ := listV (K := X.K) hx
      rw [r1.ints e] at t1
      refine L2.cr_max hc pins s σ H _ us Q I r ⟨p, ns, rfl, t1, ?_, fun w hw hle => ?_⟩
      · cases ns with
        | nil => cases e2
        | cons => exact Nat.succ_pos _
      · rw [maxL_of e2 w hw hle]
        exact Gd.int sr g hb
theorem two_of {st : Store} {k : Bi} (hk : k = .max2 ∨ k = .min2) : ∀ ds z, biV st k ds = some z → ∃ i j, ds = [.int i, .int j]
  | [], _, q => by rcases hk with rfl | rfl <;> cases q
  | [d], _, q => by rcases hk with rfl | rfl <;> cases d <;> cases q
  | [d, e], z, q => by rcases hk with rfl | rfl <;> cases d <;> cases e <;> first | (cases q; done) | exact ⟨_, _, rfl⟩
  | _ :: _ :: _ :: _, _, q => by rcases hk with rfl | rfl <;> cases q
theorem cr_max2B (hc : X.calm = true) : CallR X (.builtin "max") (rBi .max2 b) := by
  intro pins s σ H xs us Q I r hh
  obtain ⟨F, st, ds, z, sr, hd, hz, g, hb⟩ := hh
  obtain ⟨i, j, rfl⟩ := two_of (.inl rfl) ds z hz
  obtain ⟨x, y, rfl, hx, hy⟩ := pks2 hd
  cases intV hx
  cases intV hy
  cases hz
  exact call_max2 hc pins s σ H _ us Q I r ⟨_, _, rfl, Gd.int sr g hb⟩
theorem cr_min2B (hc : X.calm = true) : CallR X (.builtin "min") (rBi .min2 b) := by
  intro pins s σ H xs us Q I r hh
  obtain ⟨F, st, ds, z, sr, hd, hz, g, hb⟩ := hh
  obtain ⟨i, j, rfl⟩ := two_of (.inr rfl) ds z hz
  obtain ⟨x, y, rfl, hx, hy⟩ := pks2 hd
  cases intV hx
  cases intV hy
  cases hz
  exact call_min2 hc pins s σ H _ us Q I r ⟨_, _, rfl, Gd.int sr g hb⟩
theorem cr_strB : CallR X (.type "str") (rBi .str b) := by
  refine bi1_of (fun _ _ _ h => h) (fun st => one_of fun _ _ => rfl) fun pins s σ H x us Q F st d z I r sr hx hz g hb => ?_
  cases d <;> first | (simp only [biV, bi1, reduceCtorEq] at hz; done) | skip
  · cases hz
    have e1 := blV hx
    subst e1
    obtain ⟨u, rfl, ru⟩ := L2.vals1 r
    cases ru
    have gv := (g.val hb (fun z => z)).here sr (.str _)
    refine PySem.P.str_of_bool ⟨.str _, H, I.tok _, ⟨_, rfl⟩, gv⟩
  rename_i i
  simp only [biV, bi1] at hz
  split at hz <;> cases hz
  rename_i hl
  have hl : i.natAbs < 10 ^ 60 := of_decide_eq_true hl
  cases intV hx
  refine call_str_int pins s σ H _ us Q I r ⟨i, rfl, ?_, (g.val hb (fun z => z)).here sr (.str _)⟩
  by_cases z : i.natAbs = 0
  · rw [z]; decide
  · exact (Nat.log2_lt z).mpr (Nat.lt_of_lt_of_le hl (Nat.le_trans (show 10 ^ 60 ≤ 2 ^ 200 by decide) (Nat.pow_le_pow_right (by decide) (by decide))))
/-! isinstance -/
def tyN : Ty → String
  | .int => "int" | .bool => "bool" | .str => "str" | .tuple => "tuple" | .list => "list" | .dict => "dict"
def rIsT (t : Ty) : List V → Hp → VK → Prop := fun xs H Q => ∃ F d x k, xs = [x, .ty (tyN t)] ∧ Pk H F d x ∧ isTy t d = some k ∧ Q (.bl k) H
theorem tyOf {K : PySem.W.Frag} {H : Hp} {F : List Addr} {d : D} {x : V} {t : Ty} {k : Bool} (r : Pk H F d x) (h : isTy t d = some k) (hn : ∀ ks vs, d = .dct true ks vs → ∃ a kvs, x = .ref a ∧ H a = some (.dT kvs)) : ∃ n, TyX K H x (.type n) ∧ kitB n (tyN t) = some k := by
  rcases r with r | ⟨a, rfl, r, _⟩
  · cases r with
    | non => exact ⟨_, .base .non, by cases t <;> cases h <;> decide +kernel⟩
    | bl => exact ⟨_, .base (.bl _), by cases t <;> cases h <;> decide +kernel⟩
    | int => exact ⟨_, .base (.int _), by cases t <;> cases h <;> decide +kernel⟩
    | str => exact ⟨_, .base (.str _), by cases t <;> cases h <;> decide +kernel⟩
    | tup e => exact ⟨_, .base (.tup e), by cases t <;> cases h <;> decide +kernel⟩
    | lst e => exact ⟨_, .base (.frz e), by cases t <;> cases h <;> decide +kernel⟩
    | dK e => exact ⟨_, .fDict e, by cases t <;> cases h <;> decide +kernel⟩
    | dT e =>
      obtain ⟨a, kvs, e1, e2⟩ := hn _ _ rfl
      cases e1
      rw [e] at e2
      cases e2
    | ref e => cases t <;> cases h
    | exn e => cases t <;> cases h
  · cases r with
    | lst e => exact ⟨_, .base (.lst e), by cases t <;> cases h <;> decide +kernel⟩
    | dK e => exact ⟨_, .base (.dK e), by cases t <;> cases h <;> decide +kernel⟩
    | dT e => exact ⟨_, .base (.dT e), by cases t <;> cases h <;> decide +kernel⟩
theorem cr_isT {t : Ty} : CallR X (.builtin "isinstance") (rIsT t) := by
  intro pins s σ H xs us Q I r h
  obtain ⟨F, d, x, k, rfl, hd, ht, q⟩ := h
  by_cases hc : ∃ (ks vs : List D) (a : Addr) (ob : Obj) (kvs : List (List Key × V)), d = .dct true ks vs ∧ x = .ref a ∧ H a = some (.frz ob (.dT kvs))
  · obtain ⟨ks, vs, a, ob, kvs, rfl, rfl, ea⟩ := hc
    obtain ⟨u1, u2, rfl, r1, r2⟩ := vals2 r
    cases (show u1 = Value.ref a from r1)
    cases (show u2 = Value.type (tyN t) from r2)
    obtain ⟨_, _, _, xs, _, o, es, ep, h1, h2, _⟩ := (show ObjOk X.prog X.w H s.heap a (.frz ob (.dT kvs)) from I.hok a _ ea)
    have hb : kitB "dict" (tyN t) = some k := by cases t <;> cases ht <;> decide +kernel
    exact PySem.W.kia_one PySem.W.kitx_dict I.kIn ⟨o, h1, h2.1⟩ (kit_ty hb) (fun z => nomatch z) fun tk => ⟨.bl k, H, I.tok tk, rfl, q⟩
  obtain ⟨n, h1, h2⟩ := tyOf (K := X.K) hd ht fun ks vs e => by
    subst e
    rcases hd with hd | ⟨a, rfl, hd, _⟩
    · cases hd with
      | dT e _ => exact absurd ⟨_, _, _, _, _, rfl, rfl, e⟩ hc
    · cases hd with
      | dT e _ => exact ⟨_, _, rfl, e⟩
  exact call_isi pins s σ H _ us Q I r ⟨x, _, _, _, k, rfl, .ty _, h1, kit_ty h2, q⟩
end
end LB
/-! LB5r: the text of data with dicts in it, without lists. -/
namespace LB
open PySem PySem.Spec PyProof.Rows L2
variable [Clx]
theorem pdcts_cons (n : Nat) (d : D) (ds : List D) : pdcts n (d :: ds) = (pdct n d && pdcts n ds) := by cases n <;> rfl
theorem pdct_cps {n : Nat} {x : PySem.Str} (h : pdct n (.str x) = true) : ∀ c ∈ x.cps.toList, c < 16 ^ 8 := by
  have h : x.cps.all (· < 0x110000) = true := by cases n <;> exact h
  intro c hc
  have := (Array.all_eq_true_iff_forall_mem.mp h) c (by simpa using hc)
  have := of_decide_eq_true this
  omega
theorem kv_len : ∀ a b : List PyData, ((PyData.shownKv (a.zip b)).map (·.length)).sum + 2 * (a.zip b).length ≤ ((PyData.shownAll a).map (·.length)).sum + 2 * a.length + (((PyData.shownAll b).map (·.length)).sum + 2 * b.length)
  | [], _ => Nat.zero_le _
  | _ :: _, [] => Nat.zero_le _
  | x :: a, y :: b => by
    have h := kv_len a b
    show (((x.shown ++ ": " ++ y.shown) :: PyData.shownKv (a.zip b)).map (·.length)).sum + 2 * ((a.zip b).length + 1) ≤ ((x.shown :: PyData.shownAll a).map (·.length)).sum + 2 * (a.length + 1) + (((y.shown :: PyData.shownAll b).map (·.length)).sum + 2 * (b.length + 1))
    have e : (x.shown ++ ": " ++ y.shown).length = x.shown.length + 2 + y.shown.length := by
      rw [strLen_append, strLen_append]; rfl
    simp only [List.map_cons, List.sum_cons]
    rw [e]
    omega
mutual
theorem shownD_wt : ∀ (n : Nat) (d : D), pdct n d = true → tame d = true → (toPy d).shown.length + 2 ≤ 45 * wt d
  | _, .non, _, _ => by
    have e : (PyData.shown .none).length = 4 := rfl
    show (PyData.shown .none).length + 2 ≤ 45 * 1
    omega
  | _, .bl b, _, _ => by
    have e : (PyData.shown (.bool b)).length ≤ 5 := by cases b <;> decide
    show (PyData.shown (.bool b)).length + 2 ≤ 45 * 1
    omega
  | _, .int i, _, h => by
    have h : i.natAbs < 10 ^ 40 := of_decide_eq_true h
    have e := int_text_length_le10 (k := 40) (by decide) h
    show (PySem.Str.ofString (toString i)).length + 2 ≤ 45 * 1
    rw [PySem.ofString_length]
    omega
  | n, .str x, h, _ => by
    have e := PySem.StrLaws.reprText_len x (pdct_cps h)
    show (reprText x).length + 2 ≤ 45 * (x.length + 1)
    have : x.length = x.cps.size := rfl
    omega
  | 0, .tup l, h, _ => by cases h
  | 0, .lst l, h, _ => by cases h
  | n + 1, .tup l, h, k => by
    have h1 := shownDs_wt n l h k
    have h2 := tupleText_len_le (PyData.shownAll (toPys l))
    have h3 := PyData.shownAll_length (toPys l)
    show (tupleText (PyData.shownAll (toPys l))).length + 2 ≤ 45 * (wts l + 1)
    omega
  | n + 1, .lst l, h, k => by cases h
  | 0, .dct _ _ _, h, _ => by cases h
  | n + 1, .dct t ks vs, h, k => by
    have h : (pdcts n ks && pdcts n vs && Nat.beq ks.length vs.length) = true := h
    have k : (tames ks && tames vs) = true := k
    rw [Bool.and_eq_true, Bool.and_eq_true] at h
    rw [Bool.and_eq_true] at k
    have h1 := shownDs_wt n ks h.1.1 k.1
    have h2 := shownDs_wt n vs h.1.2 k.2
    have h3 := kv_len (toPys ks) (toPys vs)
    have h4 := dictText_len_le (PyData.shownKv ((toPys ks).zip (toPys vs)))
    have h5 := PyData.shownKv_length ((toPys ks).zip (toPys vs))
    show (dictText (PyData.shownKv ((toPys ks).zip (toPys vs)))).length + 2 ≤ 45 * (wts ks + wts vs + 1)
    omega
  | 0, .ref _, h, _ => by cases h
  | _ + 1, .ref _, h, _ => by cases h
  | 0, .exn _ _, h, _ => by cases h
  | _ + 1, .exn _ _, h, _ => by cases h
theorem shownDs_wt : ∀ (n : Nat) (ds : List D), pdcts n ds = true → tames ds = true → ((PyData.shownAll (toPys ds)).map (·.length)).sum + 2 * (toPys ds).length ≤ 45 * wts ds
  | _, [], _, _ => by
    show (0 : Nat) ≤ 0
    exact Nat.le_refl _
  | n, d :: ds, h, k => by
    rw [pdcts_cons, Bool.and_eq_true] at h
    have k : (tame d && tames ds) = true := k
    rw [Bool.and_eq_true] at k
    have h1 := shownD_wt n d h.1 k.1
    have h2 := shownDs_wt n ds h.2 k.2
    show (((toPy d).shown :: PyData.shownAll (toPys ds)).map (·.length)).sum + 2 * ((toPys ds).length + 1) ≤ 45 * (wt d + wts ds)
    rw [List.map_cons, List.sum_cons]
    omega
end
theorem kv_show : ∀ a b : List PyData, PyData.showableAll a = true → PyData.showableAll b = true → PyData.showableKv (a.zip b) = true
  | [], _, _, _ => rfl
  | _ :: _, [], _, _ => rfl
  | x :: a, y :: b, h, k => by
    have h : (x.showable && PyData.showableAll a) = true := h
    have k : (y.showable && PyData.showableAll b) = true := k
    rw [Bool.and_eq_true] at h k
    show (x.showable && y.showable && PyData.showableKv (a.zip b)) = true
    rw [h.1, k.1, kv_show a b h.2 k.2]; rfl
theorem kv_depth {n : Nat} : ∀ a b : List PyData, PyData.depthAll a ≤ n → PyData.depthAll b ≤ n → PyData.depthKv (a.zip b) ≤ n
  | [], _, _, _ => Nat.zero_le _
  | _ :: _, [], _, _ => Nat.zero_le _
  | x :: a, y :: b, h, k => by
    have h : max x.depth (PyData.depthAll a) ≤ n := h
    have k : max y.depth (PyData.depthAll b) ≤ n := k
    have r := kv_depth a b (Nat.le_trans (Nat.le_max_right _ _) h) (Nat.le_trans (Nat.le_max_right _ _) k)
    show max (max x.depth y.depth) (PyData.depthKv (a.zip b)) ≤ n
    have := Nat.le_trans (Nat.le_max_left _ _) h
    have := Nat.le_trans (Nat.le_max_left _ _) k
    exact Nat.max_le.mpr ⟨Nat.max_le.mpr ⟨by assumption, by assumption⟩, r⟩
mutual
theorem showsD_of : ∀ (n : Nat) (d : D), pdct n d = true → tame d = true → (toPy d).showable = true ∧ (toPy d).depth ≤ n
  | _, .non, _, _ => ⟨rfl, Nat.zero_le _⟩
  | _, .bl b, _, _ => ⟨rfl, Nat.zero_le _⟩
  | _, .int i, _, h => by
    have h : i.natAbs < 10 ^ 40 := of_decide_eq_true h
    refine ⟨decide_eq_true ?_, Nat.zero_le _⟩
    by_cases z : i.natAbs = 0
    · rw [z]; decide
    · exact (Nat.log2_lt z).mpr (Nat.lt_of_lt_of_le h (Nat.le_trans (show 10 ^ 40 ≤ 2 ^ 160 by decide) (Nat.pow_le_pow_right (by decide) (by decide))))
  | _, .str x, _, _ => ⟨rfl, Nat.zero_le _⟩
  | 0, .tup l, h, _ => by cases h
  | 0, .lst l, h, _ => by cases h
  | n + 1, .tup l, h, k => by
    obtain ⟨a, b⟩ := showsDs_of n l h k
    exact ⟨a, Nat.succ_le_succ b⟩
  | n + 1, .lst l, h, k => by cases h
  | 0, .dct _ _ _, h, _ => by cases h
  | n + 1, .dct _ ks vs, h, k => by
    have h : (pdcts n ks && pdcts n vs && Nat.beq ks.length vs.length) = true := h
    have k : (tames ks && tames vs) = true := k
    rw [Bool.and_eq_true, Bool.and_eq_true] at h
    rw [Bool.and_eq_true] at k
    obtain ⟨a, b⟩ := showsDs_of n ks h.1.1 k.1
    obtain ⟨a', b'⟩ := showsDs_of n vs h.1.2 k.2
    exact ⟨kv_show _ _ a a', Nat.succ_le_succ (kv_depth _ _ b b')⟩
  | 0, .ref _, h, _ => by cases h
  | _ + 1, .ref _, h, _ => by cases h
  | 0, .exn _ _, h, _ => by cases h
  | _ + 1, .exn _ _, h, _ => by cases h
theorem showsDs_of : ∀ (n : Nat) (ds : List D), pdcts n ds = true → tames ds = true → PyData.showableAll (toPys ds) = true ∧ PyData.depthAll (toPys ds) ≤ n
  | _, [], _, _ => ⟨rfl, Nat.zero_le _⟩
  | n, d :: ds, h, k => by
    rw [pdcts_cons, Bool.and_eq_true] at h
    have k : (tame d && tames ds) = true := k
    rw [Bool.and_eq_true] at k
    obtain ⟨a, b⟩ := showsD_of n d h.1 k.1
    obtain ⟨a', b'⟩ := showsDs_of n ds h.2 k.2
    refine ⟨?_, Nat.max_le.mpr ⟨b, b'⟩⟩
    show ((toPy d).showable && PyData.showableAll (toPys ds)) = true
    rw [a, a']; rfl
end
/-! .. read off the heap -/
section
variable {P : Program} {w : World} {H : Hp} {F : List Addr} {h : Heap}
theorem kv_reads {hh : Heap} : ∀ {ks : List Key} {us : List Value}, Paired (fun (k : Key) (u : Value) => (mixKind P w).is k u = true) ks us → ReadsAll hh us (toPys (ks.map kD)) []
  | _, _, .nil => .nil
  | _, _, .cons e r => by
    rename_i k u ks us
    rcases keyIs_shape e with ⟨i, t, rfl, rfl⟩ | ⟨x, t, rfl, rfl⟩
    · exact .cons (.int i t) (kv_reads r)
    · exact .cons (.str x t) (kv_reads r)
theorem pairs_reads {es : List DictEntry} {vs : List (Key × Value)} (p : Pairs (mixKind P w) es vs) : Paired (fun (k : Key) (u : Value) => (mixKind P w).is k u = true) (vs.map (·.1)) (es.map (·.key)) ∧ es.map (·.val) = vs.map (·.2) := by
  induction p with
  | nil => exact ⟨.nil, rfl⟩
  | cons h e _ ih => exact ⟨.cons h ih.1, by rw [List.map_cons, List.map_cons, e, ih.2]⟩
theorem KV_keys {κ : Type} {a : List (κ × V)} {b : List (κ × Value)} (r : KV a b) : b.map (·.1) = a.map (·.1) ∧ Vals (a.map (·.2)) (b.map (·.2)) := by
  induction r with
  | nil => exact ⟨rfl, .nil⟩
  | cons h _ ih => exact ⟨by rw [List.map_cons, List.map_cons, ih.1, h.1], .cons h.2 ih.2⟩
theorem toPys_map : ∀ l : List D, toPys l = l.map toPy
  | [] => rfl
  | d :: l => congrArg (toPy d :: ·) (toPys_map l)
theorem zip_fst : ∀ (a b : List PyData), a.length = b.length → (a.zip b).map (·.1) = a ∧ (a.zip b).map (·.2) = b
  | [], [], _ => ⟨rfl, rfl⟩
  | x :: a, y :: b, h => by
    obtain ⟨e1, e2⟩ := zip_fst a b (Nat.succ.inj h)
    exact ⟨congrArg (x :: ·) e1, congrArg (y :: ·) e2⟩
  | [], _ :: _, h => by cases h
  | _ :: _, [], h => by cases h
theorem tup_reads (ok : HOk P w H h) {a : Addr} {xs : List V} (e : H a = some (.tup xs)) : ∃ o its n, h.get? a = some o ∧ o.cls = .type "tuple" ∧ o.data = .seq its n ∧ Vals xs its.toList := by
  obtain ⟨_, its, r, o, h1, h2, n, h3⟩ := (show ObjOk P w H h a (.tup xs) from ok a _ e)
  exact ⟨o, its.toArray, n, h1, h2, h3, by simpa using r⟩
theorem keysT_reads (ok : HOk P w H h) : ∀ {kvs : List (List Key × V)} {xs : List (List Key × Addr × Value)}, KT H kvs xs → ReadsAll h (xs.map fun x => .ref x.2.1) (toPys (kvs.map fun kv => .tup (kv.1.map kD))) [] ∧ Vals (kvs.map (·.2)) (xs.map fun x => x.2.2)
  | _, _, .nil => ⟨.nil, .nil⟩
  | _, _, .cons e r => by
    rename_i kv x kvs xs
    obtain ⟨a1, a2⟩ := keysT_reads ok r
    obtain ⟨e1, e2, e3⟩ := e
    obtain ⟨o, its, n, h1, h2, h3, h4⟩ := tup_reads ok e2
    have q : ReadsAll h its.toList (toPys (kv.1.map kD)) [] := by
      refine kv_reads (P := P) (w := w) ?_
      have := items_are (P := P) (w := w) h4
      clear h3 h4 h2 e2
      revert this
      generalize its.toList = us
      generalize kv.1 = ks
      intro this
      induction this with
      | nil => exact .nil
      | cons hk _ ih => exact .cons hk ih
    exact ⟨.cons (.tuple h1 h2 h3 q) a1, .cons e3 a2⟩
theorem dct_reads {t : Bool} {ks vs : List D} {a : Addr} {as : List Addr} (ok : HOk P w H h) (hl : ks.length = vs.length) (r : (∃ kvs : List (Key × V), t = false ∧ Rd H a (.dK kvs) ∧ ks = (kvs.map fun kv => kD kv.1) ∧ Rps H F vs (kvs.map (·.2))) ∨
    ∃ kvs : List (List Key × V), t = true ∧ Rd H a (.dT kvs) ∧ ks = (kvs.map fun kv => .tup (kv.1.map kD)) ∧ Rps H F vs (kvs.map (·.2)))
    (ih : ∀ xs us, Rps H F vs xs → Vals xs us → ∃ as, ReadsAll h us (toPys vs) as ∧ sysModules ∉ as) : ∃ as, Reads h (.ref a) (toPy (.dct t ks vs)) as ∧ sysModules ∉ as := by
  have hz : (toPys ks).length = (toPys vs).length := by rw [toPys_map, toPys_map, List.length_map, List.length_map]; exact hl
  obtain ⟨z1, z2⟩ := zip_fst _ _ hz
  rcases r with ⟨kvs, rfl, rd, rfl, rv⟩ | ⟨kvs, rfl, rd, rfl, rv⟩
  · obtain ⟨_, lo, xs, kv, o, es, ep, h1, h2, h3, _, h5, _⟩ := dk_rd ok rd
    obtain ⟨p1, p2⟩ := pairs_reads h5
    obtain ⟨k1, k2⟩ := KV_keys kv
    obtain ⟨bs, b1, b2⟩ := ih _ _ rv k2
    refine ⟨a :: [] ++ bs, .dict h1 h2.1 h3 ?_ ?_, ?_⟩
    · rw [z1, show (kvs.map fun kv => kD kv.1) = (kvs.map (·.1)).map kD from by rw [List.map_map]; rfl]
      rw [k1] at p1
      exact kv_reads p1
    · rw [z2, p2]
      exact b1
    · intro m
      rcases List.mem_cons.mp m with e | m
      · rw [← e] at lo
        simp at lo
      · exact b2 m
  · obtain ⟨_, lo, xs, kt, o, es, ep, h1, h2, h3, h4, _⟩ := dt_rd ok rd
    obtain ⟨k1, k2⟩ := keysT_reads ok kt
    obtain ⟨bs, b1, b2⟩ := ih _ _ rv k2
    refine ⟨a :: [] ++ bs, .dict h1 h2.1 h3 ?_ ?_, ?_⟩
    · rw [z1, h4, List.map_map]
      exact k1
    · rw [z2, h4, List.map_map]
      exact b1
    · intro m
      rcases List.mem_cons.mp m with e | m
      · rw [← e] at lo
        simp at lo
      · exact b2 m
theorem beq_n {a b : Nat} (h : Nat.beq a b = true) : a = b := Nat.eq_of_beq_eq_true h
mutual
theorem readsD (ok : HOk P w H h) : ∀ (n : Nat) (d : D) (x : V) (u : Value), pdct n d = true → Rp H F d x → RelV x u → ∃ as, Reads h u (toPy d) as ∧ sysModules ∉ as
  | _, .non, x, u, _, r, v => by
    cases r
    cases (show u = Value.none from v)
    exact ⟨[], .none, by simp⟩
  | _, .bl b, x, u, _, r, v => by
    cases r
    cases (show u = Value.bool b from v)
    exact ⟨[], .bool b, by simp⟩
  | _, .int i, x, u, _, r, v => by
    cases r
    obtain ⟨t, rfl⟩ := (show ∃ t, u = Value.int i t from v)
    exact ⟨[], .int i t, by simp⟩
  | _, .str y, x, u, _, r, v => by
    cases r
    obtain ⟨t, rfl⟩ := (show ∃ t, u = Value.str y t from v)
    exact ⟨[], .str y t, by simp⟩
  | 0, .tup l, _, _, h, _, _ => by cases h
  | n + 1, .tup l, x, u, hp, r, v => by
    cases r with
    | tup e rs =>
      rename_i a xs
      cases (show u = Value.ref a from v)
      obtain ⟨o, its, m, h1, h2, h3, h4⟩ := tup_reads ok e
      obtain ⟨as, a1, a2⟩ := readsDs ok n l xs its.toList hp rs h4
      exact ⟨as, .tuple h1 h2 h3 a1, a2⟩
  | 0, .dct _ _ _, _, _, h, _, _ => by cases h
  | n + 1, .dct t ks vs, x, u, hp, r, v => by
    cases r with
    | dK e rs =>
      rename_i a o kvs
      have hp : (pdcts n _ && pdcts n vs && Nat.beq _ vs.length) = true := hp
      rw [Bool.and_eq_true, Bool.and_eq_true] at hp
      cases (show u = Value.ref a from v)
      exact dct_reads (as := []) ok (beq_n hp.2) (.inl ⟨kvs, rfl, .inr ⟨o, e⟩, rfl, rs⟩) fun xs us r v => readsDs ok n vs xs us hp.1.2 r v
    | dT e rs =>
      rename_i a o kvs
      have hp : (pdcts n _ && pdcts n vs && Nat.beq _ vs.length) = true := hp
      rw [Bool.and_eq_true, Bool.and_eq_true] at hp
      cases (show u = Value.ref a from v)
      exact dct_reads (as := []) ok (beq_n hp.2) (.inr ⟨kvs, rfl, .inr ⟨o, e⟩, rfl, rs⟩) fun xs us r v => readsDs ok n vs xs us hp.1.2 r v
  | 0, .lst _, _, _, h, _, _ => by cases h
  | _ + 1, .lst _, _, _, h, _, _ => by cases h
  | 0, .ref _, _, _, h, _, _ => by cases h
  | _ + 1, .ref _, _, _, h, _, _ => by cases h
  | 0, .exn _ _, _, _, h, _, _ => by cases h
  | _ + 1, .exn _ _, _, _, h, _, _ => by cases h
theorem readsDs (ok : HOk P w H h) : ∀ (n : Nat) (ds : List D) (xs : List V) (us : List Value), pdcts n ds = true → Rps H F ds xs → Vals xs us → ∃ as, ReadsAll h us (toPys ds) as ∧ sysModules ∉ as
  | _, [], _, _, _, .nil, .nil => ⟨[], .nil, by simp⟩
  | n, d :: ds, _, _, hp, .cons r rs, .cons v vs => by
    rw [pdcts_cons, Bool.and_eq_true] at hp
    obtain ⟨as, a1, a2⟩ := readsD ok n d _ _ hp.1 r v
    obtain ⟨bs, b1, b2⟩ := readsDs ok n ds _ _ hp.2 rs vs
    exact ⟨as ++ bs, .cons a1 b1, fun m => (List.mem_append.mp m).elim a2 b2⟩
end
theorem readsP (ok : HOk P w H h) {n : Nat} {d : D} {x : V} {u : Value} (hp : pdct n d = true) (r : Pk H F d x) (v : RelV x u) : ∃ as, Reads h u (toPy d) as ∧ sysModules ∉ as := by
  rcases r with r | ⟨a, rfl, ow, _⟩
  · exact readsD ok n d x u hp r v
  · cases (show u = Value.ref a from v)
    cases n with
    | zero => cases ow <;> cases hp
    | succ n =>
      cases ow with
      | lst e r => cases hp
      | dK e rs =>
        have hp : (pdcts n _ && pdcts n _ && Nat.beq _ _) = true := hp
        rw [Bool.and_eq_true, Bool.and_eq_true] at hp
        exact dct_reads (as := []) ok (beq_n hp.2) (.inl ⟨_, rfl, .inl e, rfl, rs⟩) fun xs us r v => readsDs ok n _ xs us hp.1.2 r v
      | dT e rs =>
        have hp : (pdcts n _ && pdcts n _ && Nat.beq _ _) = true := hp
        rw [Bool.and_eq_true, Bool.and_eq_true] at hp
        exact dct_reads (as := []) ok (beq_n hp.2) (.inr ⟨_, rfl, .inl e, rfl, rs⟩) fun xs us r v => readsDs ok n _ xs us hp.1.2 r v
end
end LB
/-! LB5b: repr, sorted. -/
namespace LB
open PySem PySem.Spec PyProof.Rows L2
variable [Clx]

/-! the length of a text of data -/
theorem plain_cps {n : Nat} {x : PySem.Str} (h : plain n (.str x) = true) : ∀ c ∈ x.cps.toList, c < 16 ^ 8 := by
  have h : x.cps.all (· < 0x110000) = true := by cases n <;> exact h
  intro c hc
  have := (Array.all_eq_true_iff_forall_mem.mp h) c (by simpa using hc)
  have := of_decide_eq_true this
  omega
mutual
theorem shown_wt : ∀ (n : Nat) (d : D), plain n d = true → tame d = true → (toPy d).shown.length + 2 ≤ 45 * wt d
  | _, .non, _, _ => by
    have e : (PyData.shown .none).length = 4 := rfl
    show (PyData.shown .none).length + 2 ≤ 45 * 1
    omega
  | _, .bl b, _, _ => by
    have e : (PyData.shown (.bool b)).length ≤ 5 := by cases b <;> decide
    show (PyData.shown (.bool b)).length + 2 ≤ 45 * 1
    omega
  | _, .int i, _, h => by
    have h : i.natAbs < 10 ^ 40 := of_decide_eq_true h
    have e := int_text_length_le10 (k := 40) (by decide) h
    show (PySem.Str.ofString (toString i)).length + 2 ≤ 45 * 1
    rw [PySem.ofString_length]
    omega
  | n, .str x, h, _ => by
    have e := PySem.StrLaws.reprText_len x (plain_cps h)
    show (reprText x).length + 2 ≤ 45 * (x.length + 1)
    have : x.length = x.cps.size := rfl
    omega
  | 0, .tup l, h, _ => by cases h
  | 0, .lst l, h, _ => by cases h
  | n + 1, .tup l, h, k => by
    have h1 := showns_wt n l h k
    have h2 := tupleText_len_le (PyData.shownAll (toPys l))
    have h3 := PyData.shownAll_length (toPys l)
    show (tupleText (PyData.shownAll (toPys l))).length + 2 ≤ 45 * (wts l + 1)
    omega
  | n + 1, .lst l, h, k => by
    have h1 := showns_wt n l h k
    have h2 := listText_len_le (PyData.shownAll (toPys l))
    have h3 := PyData.shownAll_length (toPys l)
    show (listText (PyData.shownAll (toPys l))).length + 2 ≤ 45 * (wts l + 1)
    omega
  | 0, .dct _ _ _, h, _ => by cases h
  | _ + 1, .dct _ _ _, h, _ => by cases h
  | 0, .ref _, h, _ => by cases h
  | _ + 1, .ref _, h, _ => by cases h
theorem showns_wt : ∀ (n : Nat) (ds : List D), plains n ds = true → tames ds = true → ((PyData.shownAll (toPys ds)).map (·.length)).sum + 2 * (toPys ds).length ≤ 45 * wts ds
  | _, [], _, _ => by
    show (0 : Nat) ≤ 0
    exact Nat.le_refl _
  | n, d :: ds, h, k => by
    rw [plains_cons, Bool.and_eq_true] at h
    have k : (tame d && tames ds) = true := k
    rw [Bool.and_eq_true] at k
    have h1 := shown_wt n d h.1 k.1
    have h2 := showns_wt n ds h.2 k.2
    show (((toPy d).shown :: PyData.shownAll (toPys ds)).map (·.length)).sum + 2 * ((toPys ds).length + 1) ≤ 45 * (wt d + wts ds)
    rw [List.map_cons, List.sum_cons]
    omega
end
mutual
theorem shows_of : ∀ (n : Nat) (d : D), plain n d = true → tame d = true → (toPy d).showable = true ∧ (toPy d).hasDict = false
  | _, .non, _, _ => ⟨rfl, rfl⟩
  | _, .bl b, _, _ => ⟨rfl, rfl⟩
  | _, .int i, _, h => by
    have h : i.natAbs < 10 ^ 40 := of_decide_eq_true h
    refine ⟨decide_eq_true ?_, rfl⟩
    by_cases z : i.natAbs = 0
    · rw [z]; decide
    · exact (Nat.log2_lt z).mpr (Nat.lt_of_lt_of_le h (Nat.le_trans (show 10 ^ 40 ≤ 2 ^ 160 by decide) (Nat.pow_le_pow_right (by decide) (by decide))))
  | _, .str x, _, _ => ⟨rfl, rfl⟩
  | 0, .tup l, h, _ => by cases h
  | 0, .lst l, h, _ => by cases h
  | n + 1, .tup l, h, k => showss_of n l h k
  | n + 1, .lst l, h, k => showss_of n l h k
  | 0, .dct _ _ _, h, _ => by cases h
  | _ + 1, .dct _ _ _, h, _ => by cases h
  | 0, .ref _, h, _ => by cases h
  | _ + 1, .ref _, h, _ => by cases h
theorem showss_of : ∀ (n : Nat) (ds : List D), plains n ds = true → tames ds = true → PyData.showableAll (toPys ds) = true ∧ PyData.hasDictAll (toPys ds) = false
  | _, [], _, _ => ⟨rfl, rfl⟩
  | n, d :: ds, h, k => by
    rw [plains_cons, Bool.and_eq_true] at h
    have k : (tame d && tames ds) = true := k
    rw [Bool.and_eq_true] at k
    obtain ⟨a, b⟩ := shows_of n d h.1 k.1
    obtain ⟨a', b'⟩ := showss_of n ds h.2 k.2
    refine ⟨?_, ?_⟩
    · show ((toPy d).showable && PyData.showableAll (toPys ds)) = true
      rw [a, a']; rfl
    · show ((toPy d).hasDict || PyData.hasDictAll (toPys ds)) = false
      rw [b, b']; rfl
end
section
variable {X : Cx} {b : Bool}
theorem cr_reprB (hg : X.A.guards = some []) (hu : X.A.units + 65 < cLine) : CallR X (.builtin "repr") (rBi .repr b) := by
  refine bi1_of (fun _ _ _ h => h) (fun st => one_of fun _ _ => rfl) fun pins s σ H x us Q F st d z I r sr hx hz g hb => ?_
  have hz : reprD d = some z := hz
  unfold reprD at hz
  split at hz <;> cases hz
  rename_i hc
  rw [Bool.and_eq_true, Bool.and_eq_true, decide_eq_true_eq, Bool.or_eq_true] at hc
  obtain ⟨⟨hp, ht⟩, hw⟩ := hc
  by_cases hpl : plain 60 d = true
  case neg =>
    have hp : pdct 60 d = true := hp.resolve_left hpl
    obtain ⟨c1, a3⟩ := showsD_of 60 d hp ht
    have c3 := shownD_wt 60 d hp ht
    have q : Q (.str (toPy d).shown) H := (g.val hb (fun z => z)).here sr (.str _)
    have hz : (toPy d).shown.length ≤ sizeLine := by rw [sizeLine_eq]; omega
    obtain ⟨u, rfl, ru⟩ := vals1 r
    obtain ⟨as, rd, lo⟩ := readsP I.hok hp hx ru
    cases u with
    | ref a => exact repr_of_reads' rd c1 (fun _ => lo) hg (by omega) (fun _ _ e => e) (fun h' u tk hk => ⟨.str _, H, I.kept hk, ⟨u, rfl⟩, q⟩) hz
    | _ => exact absurd (by cases d <;> cases rd <;> first | rfl | (cases hp; done) | exact hp) hpl
  have hp := hpl
  obtain ⟨a1, a2, a3⟩ := dpk_of (K := X.K) hp hx
  obtain ⟨c1, c2⟩ := shows_of 60 d hp ht
  have c3 := shown_wt 60 d hp ht
  have q : Q (.str (toPy d).shown) H := (g.val hb (fun z => z)).here sr (.str _)
  have hz : (toPy d).shown.length ≤ sizeLine := by rw [sizeLine_eq]; omega
  obtain ⟨u, rfl, ru⟩ := vals1 r
  obtain ⟨as, rd⟩ := Dp.reads I (toPy d) x u a1 ru
  cases u with
  | ref a =>
    refine repr_of_reads' rd c1 (fun z => by rw [c2] at z; cases z) hg (by omega) (fun _ _ e => e) (fun h' u tk hk => ⟨.str _, H, I.kept hk, ⟨u, rfl⟩, q⟩) hz
  | none =>
    cases e : toPy d <;> rw [e] at rd q <;> first | (cases rd; done) | skip
    exact P.repr_of_none ⟨.str "None", H, I.tok _, ⟨_, rfl⟩, q⟩
  | bool k =>
    cases e : toPy d <;> rw [e] at rd q <;> first | (cases rd; done) | skip
    cases rd
    exact P.repr_of_bool ⟨.str (if k = true then "True" else "False"), H, I.tok _, ⟨_, rfl⟩, q⟩
  | int i t =>
    cases e : toPy d <;> rw [e] at rd q c1 <;> first | (cases rd; done) | skip
    cases rd
    exact P.repr_of_int (of_decide_eq_true c1) ⟨.str (toString i), H, I.tok _, ⟨_, rfl⟩, q⟩
  | str y t =>
    cases e : toPy d <;> rw [e] at rd q hz <;> first | (cases rd; done) | skip
    cases rd
    exact P.repr_of_str ⟨.str (reprText y), H, I.tok _, ⟨_, rfl⟩, q⟩ hz
  | _ => cases e : toPy d <;> rw [e] at rd <;> cases rd
/-! sorted -/
theorem insI_perm (a : Int) : ∀ l : List Int, (insI a l).Perm (a :: l)
  | [] => .refl _
  | b :: r => by
    unfold insI
    split
    · exact .refl _
    · exact ((insI_perm a r).cons b).trans (.swap a b r)
theorem isort_perm : ∀ l : List Int, (isort l).Perm l
  | [] => .refl _
  | a :: r => (insI_perm a (isort r)).trans ((isort_perm r).cons a)
theorem insI_sorted (a : Int) : ∀ l : List Int, l.Pairwise (· ≤ ·) → (insI a l).Pairwise (· ≤ ·)
  | [], _ => List.pairwise_singleton _ _
  | b :: r, h => by
    unfold insI
    have h2 := List.pairwise_cons.mp h
    split
    · rename_i hab
      refine List.pairwise_cons.mpr ⟨fun c hc => ?_, h⟩
      rcases List.mem_cons.mp hc with e | hc
      · rw [e]; exact hab
      · exact Int.le_trans hab (h2.1 c hc)
    · rename_i hab
      refine List.pairwise_cons.mpr ⟨fun c hc => ?_, insI_sorted a r h2.2⟩
      rcases List.mem_cons.mp ((insI_perm a r).mem_iff.mp hc) with e | hc
      · rw [e]; omega
      · exact h2.1 c hc
theorem isort_sorted : ∀ l : List Int, (isort l).Pairwise (· ≤ ·)
  | [] => List.Pairwise.nil
  | a :: r => insI_sorted a _ (isort_sorted r)
theorem sorted_one {l m : List Int} (p : l.Perm m) (h : l.Pairwise (· ≤ ·)) (k : m.Pairwise (· ≤ ·)) : l = m :=
  p.eq_of_pairwise (fun a b _ _ h1 h2 => Int.le_antisymm h1 h2) h k
theorem toInts_map : ∀ {l : List D} {ns : List Int}, toInts l = some ns → l = ns.map .int
  | [], _, h => by cases h; rfl
  | d :: l, ns, h => by
    cases d <;> first | (cases h; done) | skip
    rename_i i
    cases e : toInts l with
    | none => simp [toInts, e] at h
    | some m => simp [toInts, e] at h; subst h; rw [toInts_map e]; rfl
theorem intsRps {H : Hp} {F : List Addr} : ∀ ns : List Int, Rps H F (ns.map D.int) (ns.map V.int)
  | [] => .nil
  | i :: r => .cons (.int i) (intsRps r)
end
end LB
/-! LB5c: sorted(set(pairs)). -/
namespace LB
open PySem PySem.Spec PyProof.Rows L2
variable [Clx]

theorem perm_map_inv {α β : Type} {f : α → β} {l m : List β} (p : l.Perm m) : ∀ L : List α, l = L.map f → ∃ L' : List α, m = L'.map f ∧ L'.Perm L := by
  induction p with
  | nil => intro L e; exact ⟨L, e, .refl _⟩
  | cons x p ih =>
    intro L e
    cases L with
    | nil => cases e
    | cons y L =>
      rw [List.map_cons] at e
      cases e
      obtain ⟨L', e', p'⟩ := ih L rfl
      exact ⟨y :: L', by rw [List.map_cons, e'], p'.cons y⟩
  | swap x y l =>
    intro L e
    cases L with
    | nil => cases e
    | cons a L =>
      cases L with
      | nil => cases e
      | cons b L =>
        cases e
        exact ⟨b :: a :: L, rfl, .swap a b L⟩
  | trans p q i1 i2 =>
    intro L e
    obtain ⟨L1, e1, p1⟩ := i1 L e
    obtain ⟨L2, e2, p2⟩ := i2 L1 e1
    exact ⟨L2, e2, p2.trans p1⟩
/-- the two ints of a tracked pair -/
def pairOf (H : Hp) : V → Int × Int
  | .ref t => (match H t with | some (.tup [.int i, .int j]) => (i, j) | _ => (0, 0))
  | _ => (0, 0)
theorem pairOf_eq {H : Hp} {t : Addr} {i j : Int} (h : H t = some (.tup [.int i, .int j])) : pairOf H (.ref t) = (i, j) := by
  simp only [pairOf, h]
def rSortSP (P : Program) (w : World) : List V → Hp → VK → Prop := fun vs H Q => ∃ (a : Addr) (L : List (Addr × List Int)), vs = [V.ref a] ∧ H a = some (SetTO P w a L) ∧ (∀ p ∈ L, ∃ i j, p.2 = [i, j] ∧ H p.1 = some (.tup [.int i, .int j])) ∧
  ∀ (M : List (Addr × List Int)) (p : Addr), M.Perm L → (M.map (·.2)).Nodup → M.Pairwise (fun q r => ltP2 (pairOf H (.ref r.1)) (pairOf H (.ref q.1)) = false) → H p = none → Q (.ref p) (upd H p (.lst (M.map fun q => V.ref q.1)))
section
variable {X : Cx}
theorem cr_sortSP (hc : X.calm = true) : CallR X (.builtin "sorted") (rSortSP X.prog X.w) := by
  intro pins s σ H vs us Q I r h
  obtain ⟨a, L, rfl, ha, hk, q⟩ := h
  have Z : SetT0 X.prog X.w s.heap a L := (I.hok a _ ha).1
  have isP : ∀ p ∈ L, ∃ i j, p.2 = [i, j] ∧ Srt.IsPair s.heap (.ref p.1) i j := fun p hp => by
    obtain ⟨i, j, e, hp⟩ := hk p hp
    obtain ⟨_, its, r2, o, ho, hcl, n, hd⟩ := I.hok _ _ hp
    obtain ⟨u1, u2, rfl, ri, rj⟩ := vals2 r2
    obtain ⟨t1, rfl⟩ := ri
    obtain ⟨t2, rfl⟩ := rj
    exact ⟨i, j, e, p.1, o, t1, t2, n, rfl, ho, hcl, hd⟩
  obtain ⟨es, ep, t, R⟩ := Z.full fun p hp => by
    obtain ⟨i, j, e, hp⟩ := hk p hp
    rw [e]
    exact I.isT (.inl (.inl hp))
  obtain rfl := Vals.ref1 r
  obtain ⟨o, ho, hex, hd⟩ := R.ob
  have few := R.few
  refine Calls.call_function_entry kind_sorted plain_sorted entry_sorted (args_sorted1 _) ?_
  unfold Builtin.«sorted»
  refine wpAny_bind (m := checkCount "sorted" 1 1 _) (wpAny_pure ?_)
  refine wpAny_bind (collect_set (A := X.A.in1) (I.ok.hd hc) ⟨o, ho, hex.1, hd⟩ R.fits (by unfold scanBound; have := R.size; omega) R.tab.ris R.led fun s1 got k1 hz g1 o1 pm => ?_)
  have rows : es.toList.map (·.2) = L.map fun q => Value.ref q.1 := by
    rw [R.rows]
    unfold rowsOf
    rw [List.map_map]
    rfl
  rw [rows] at pm
  have short : got.length < 64 := by rw [pm.length_eq, List.length_map]; exact few
  have kV : ∀ v ∈ got, ∃ p ∈ L, v = .ref p.1 := fun v hv => by
    obtain ⟨p, hp, e⟩ := List.mem_map.mp (pm.mem_iff.mp hv)
    exact ⟨p, hp, e.symm⟩
  refine wpAny_bind (wpAny_newList ?_ (by rw [sizeLine_eq]; omega))
  have new : (s1.heap.push (seqObj "list" got.toArray 0)).get? s1.heap.objs.size = some (seqObj "list" got.toArray 0) := Heap.get?_push_size _ rfl
  have isQ : ∀ v ∈ got, Srt.IsPair (s1.heap.push (seqObj "list" got.toArray 0)) v (pairOf H (backV v)).1 (pairOf H (backV v)).2 := fun v hv => by
    obtain ⟨p, hp, rfl⟩ := kV v hv
    obtain ⟨i, j, e, hq⟩ := hk p hp
    obtain ⟨i', j', e', hp'⟩ := isP p hp
    rw [e] at e'
    cases e'
    rw [show backV (.ref p.1) = V.ref p.1 from rfl, pairOf_eq hq]
    exact hp'.keeps fun b u eb _ => Heap.get?_push_of_some _ (k1 b u eb)
  refine wpAny_bind (wpAny_holding (wpAny_call_entry slot_list_sort ⟨_, new, rfl⟩ entry_list_sort (SrtO.list_sort_ord (SrtO.swo_lex fun v => pairOf H (backV v)) new (by rw [sizeLine_eq]; omega) (fun h2 => SrtO.pairs_sortableO (by omega) isQ fun u eu => ?_) fun out a1 a2 => ⟨_, rfl, ?_⟩) (args_list_sort _)))
  · cases new.symm.trans eu
    exact fun z => absurd (Value.type.inj z) (by decide)
  · obtain ⟨M, eM, pM⟩ := perm_map_inv (f := fun q : Addr × List Int => Value.ref q.1) (a2.perm.trans pm).symm L rfl
    obtain ⟨c, at_⟩ := sortedHeap_at (vs := got) (out := out.toArray) new
    have len : (M.map fun q => V.ref q.1).length ≤ sizeLine := by rw [List.length_map, pM.length_eq, sizeLine_eq]; omega
    have hvals : Vals (M.map fun q => V.ref q.1) out := by rw [eM]; exact vals_of_refs M
    have keep : ∀ b u, s.heap.get? b = some u → (sortedHeap (s1.heap.push (seqObj "list" got.toArray 0)) s1.heap.objs.size got out.toArray).get? b = some u := fun b u e => by
      have e1 := k1 b u e
      have lt := Heap.lt_size e1
      rw [sortedHeap_old (Nat.ne_of_lt lt) (by rw [size_push']; exact Nat.lt_succ_of_lt lt)]
      exact Heap.get?_push_of_some _ e1
    have free : H s1.heap.objs.size = none := I.hok.fresh hz
    have pw : M.Pairwise (fun q r => ltP2 (pairOf H (.ref r.1)) (pairOf H (.ref q.1)) = false) := by
      rw [eM] at a1
      exact List.pairwise_map.mp a1
    have J : L2.Inv X pins σ (upd H s1.heap.objs.size (.lst (M.map fun q => V.ref q.1))) { s with heap := sortedHeap (s1.heap.push (seqObj "list" got.toArray 0)) s1.heap.objs.size got out.toArray, gens := s1.gens, drawn := s1.drawn, toks := s1.toks } :=
      I.call (ch := []) (Un.laid keep hz free) (I.hok.laid keep hz ⟨len, out, c, hvals, at_⟩) (by rw [g1]; exact I.bare) (fun _ z => nomatch z)
    refine wpAny_pure ⟨_, rfl, .ref s1.heap.objs.size, _, ?_, rfl, q M _ pM ((pM.map (·.2)).nodup_iff.mpr R.nd) pw free⟩
    have e : ({ s1 with heap := sortedHeap (s1.heap.push (seqObj "list" got.toArray 0)) s1.heap.objs.size got out.toArray } : Shared) = { s with heap := sortedHeap (s1.heap.push (seqObj "list" got.toArray 0)) s1.heap.objs.size got out.toArray, gens := s1.gens, drawn := s1.drawn, toks := s1.toks } := by
      cases s1
      cases s
      cases o1
      rfl
    rw [← e] at J
    exact J
end
end LB
/-! LB5d: sorted of tuples of ints: lists, tuples, the keys of dicts. -/
namespace LB
open PySem PySem.Spec PyProof.Rows L2
variable [Clx]

theorem lexLt_irrefl : ∀ l : List Int, lexLt l l = false
  | [] => rfl
  | x :: l => by
    rw [lexLt, if_pos rfl]
    exact lexLt_irrefl l
theorem lexLt_asym : ∀ {l m : List Int}, lexLt l m = true → lexLt m l = false
  | [], [], h => by cases h
  | [], _ :: _, _ => rfl
  | _ :: _, [], h => by cases h
  | x :: l, y :: m, h => by
    rw [lexLt] at h ⊢
    by_cases e : x = y
    · rw [if_pos e] at h; rw [if_pos e.symm]; exact lexLt_asym h
    · rw [if_neg e, decide_eq_true_eq] at h
      rw [if_neg (fun z => e z.symm), decide_eq_false_iff_not]
      omega
/-- x is not above y, y not above z: x is not above z -/
theorem lexLe_trans : ∀ {x y z : List Int}, lexLt y x = false → lexLt z y = false → lexLt z x = false
  | [], _, [], _, _ => rfl
  | [], _, _ :: _, _, _ => rfl
  | _ :: _, [], _, h, _ => by cases h
  | _ :: _, _ :: _, [], _, h => by cases h
  | a :: x, b :: y, c :: z, h, k => by
    rw [lexLt] at h k ⊢
    by_cases e1 : b = a
    · subst e1
      rw [if_pos rfl] at h
      by_cases e2 : c = b
      · subst e2
        rw [if_pos rfl] at k ⊢
        exact lexLe_trans h k
      · rw [if_neg e2] at k ⊢; exact k
    · rw [if_neg e1, decide_eq_false_iff_not] at h
      by_cases e2 : c = b
      · subst e2
        rw [if_neg e1, decide_eq_false_iff_not]; exact h
      · rw [if_neg e2, decide_eq_false_iff_not] at k
        rw [if_neg (by omega), decide_eq_false_iff_not]
        omega
theorem lexLt_anti : ∀ {l m : List Int}, lexLt l m = false → lexLt m l = false → l = m
  | [], [], _, _ => rfl
  | [], _ :: _, h, _ => by cases h
  | _ :: _, [], _, h => by cases h
  | x :: l, y :: m, h, k => by
    rw [lexLt] at h k
    by_cases e : x = y
    · subst e
      rw [if_pos rfl] at h k
      rw [lexLt_anti h k]
    · rw [if_neg e, decide_eq_false_iff_not] at h
      rw [if_neg (fun z => e z.symm), decide_eq_false_iff_not] at k
      omega
theorem insT_perm (a : List Int) : ∀ l : List (List Int), (insT a l).Perm (a :: l)
  | [] => .refl _
  | b :: r => by
    unfold insT
    split
    · exact ((insT_perm a r).cons b).trans (.swap a b r)
    · exact .refl _
theorem tsort_perm : ∀ l : List (List Int), (tsort l).Perm l
  | [] => .refl _
  | a :: r => (insT_perm a (tsort r)).trans ((tsort_perm r).cons a)
theorem insT_sorted (a : List Int) : ∀ l : List (List Int), l.Pairwise (fun x y => lexLt y x = false) → (insT a l).Pairwise (fun x y => lexLt y x = false)
  | [], _ => List.pairwise_singleton _ _
  | b :: r, h => by
    unfold insT
    have h2 := List.pairwise_cons.mp h
    by_cases hab : lexLt b a = true
    · rw [if_pos hab]
      refine List.pairwise_cons.mpr ⟨fun c hc => ?_, insT_sorted a r h2.2⟩
      rcases List.mem_cons.mp ((insT_perm a r).mem_iff.mp hc) with e | hc
      · rw [e]; exact lexLt_asym hab
      · exact h2.1 c hc
    · have hab : lexLt b a = false := by simpa using hab
      rw [hab, if_neg Bool.false_ne_true]
      refine List.pairwise_cons.mpr ⟨fun c hc => ?_, h⟩
      rcases List.mem_cons.mp hc with e | hc
      · rw [e]; exact hab
      · exact lexLe_trans hab (h2.1 c hc)
theorem tsort_sorted : ∀ l : List (List Int), (tsort l).Pairwise (fun x y => lexLt y x = false)
  | [] => List.Pairwise.nil
  | a :: r => insT_sorted a _ (tsort_sorted r)
theorem tsorted_one {l m : List (List Int)} (p : l.Perm m) (h : l.Pairwise (fun x y => lexLt y x = false)) (k : m.Pairwise (fun x y => lexLt y x = false)) : l = m :=
  p.eq_of_pairwise (fun a b _ _ h1 h2 => lexLt_anti h2 h1) h k
theorem swo_lexL (k : Value → List Int) : SrtO.Swo fun v u => lexLt (k v) (k u) := ⟨fun _ _ h => lexLt_asym h, fun _ _ _ h1 h2 => lexLe_trans h1 h2⟩
section
variable {prog : Program} {w : World} {A : Around} {E : Value → Shared → Prop} {s : Shared} {Q : Bool → Shared → Prop}
theorem lex_kat {b : Bool} {xs ys : List Value} {ns ms : List Int} (i : Nat) (hx : IntsAre xs ns) (hy : IntsAre ys ms) (hl : ns.length = ms.length)
    (h : Q (lexLt ns ms) s) : PySem.W.KatLex prog w A b false Q (xs.zip ys) i s := by
  induction hx generalizing ys ms i with
  | nil =>
    cases hy with
    | nil => exact PySem.W.kat_nil h
    | cons q u hy => simp at hl
  | @cons p t xs ns hx ih =>
    cases hy with
    | nil => simp at hl
    | @cons q u ys ms hy =>
      have hl' : ns.length = ms.length := by simpa using hl
      show PySem.W.KatLex prog w A b false Q ((Value.int p t, Value.int q u) :: xs.zip ys) i s
      refine PySem.W.kat_cons (wpAny_eqBool_int ?_)
      by_cases e : p = q
      · subst e
        rw [beq_self_eq_true]
        rw [lexLt, if_pos rfl] at h
        refine PySem.W.kat_yes ?_
        exact ih (i + 1) hy hl' h
      · rw [show (p == q) = false from beq_eq_false_iff_ne.mpr e]
        rw [lexLt, if_neg e] at h
        exact PySem.W.kat_no (TS.oneLt_ints _ h)
theorem tup_cmp {vs : List Value} {k : Value → List Int} {d : Nat} {c : Bool} (hp : ∀ v ∈ vs, TS.TupInts s.heap v (k v) ∧ (k v).length = d) : SrtO.Cmp prog w A s (tuples' c) (fun p => p.1 ∈ vs) (SrtO.lt2 fun v u => lexLt (k v) (k u)) := by
  intro p q hm hm'
  obtain ⟨⟨a, xs, e, ⟨o, ho, hc, n, hd⟩, i1⟩, l1⟩ := hp _ hm
  obtain ⟨⟨a', ys, e', ⟨o', ho', hc', n', hd'⟩, i2⟩, l2⟩ := hp _ hm'
  show wpAny (model prog w) A (keyLt' (tuples' c) p.1 q.1) (fun r s' => s' = s ∧ r = lexLt (k p.1) (k q.1)) (fun _ _ => False) s
  generalize k p.1 = ns at i1 l1 ⊢
  generalize k q.1 = ms at i2 l2 ⊢
  rw [e, e']
  refine PySem.W.kat_lt ho hd ho' hd' ?_
  have z1 := i1.length
  have z2 := i2.length
  rw [Array.length_toList] at z1 z2
  have e0 : decide (xs.size < ys.size) = false := decide_eq_false (by omega)
  rw [e0]
  exact lex_kat 0 i1 i2 (by omega) ⟨rfl, rfl⟩
theorem tup_firsts {h : Heap} {k : Value → List Int} : ∀ vs : List Value, (∀ v ∈ vs, TS.TupInts h v (k v) ∧ 1 ≤ (k v).length) → ∃ fs, PySem.W.KatTups h vs fs ∧ fs.length = vs.length ∧ ∀ f, f ∈ fs → ∃ n t, f = Value.int n t
  | [], _ => ⟨[], PySem.W.KatTups.nil, rfl, fun f hf => by simp at hf⟩
  | v :: vs, x => by
    obtain ⟨fs, kt, hl, hi⟩ := tup_firsts vs fun u hu => x u (List.mem_cons_of_mem _ hu)
    obtain ⟨⟨a, xs, e0, ⟨o, ho, hc, n, hdt⟩, i⟩, hn⟩ := x v (List.mem_cons_self ..)
    generalize k v = ns at i hn
    subst e0
    obtain ⟨y, ys, e⟩ : ∃ y ys, xs.toList = y :: ys := by
      cases q : xs.toList with
      | nil =>
        rw [q] at i
        have l := i.length
        rw [List.length_nil] at l
        omega
      | cons y ys => exact ⟨y, ys, rfl⟩
    obtain ⟨m, t, hy⟩ := i.all y (by rw [e]; exact List.mem_cons_self ..)
    refine ⟨y :: fs, PySem.W.KatTups.cons ho hc hdt ?_ kt, by simp [hl], ?_⟩
    · have z := congrArg (fun l : List Value => l[0]?) e
      simpa using z
    · intro f hf
      rcases List.mem_cons.mp hf with rfl | hf
      · exact ⟨m, t, hy⟩
      · exact hi f hf
theorem tups_sortable {a : Addr} {vs : List Value} {k : Value → List Int} {d : Nat} (h0 : 0 < vs.length) (hd : 1 ≤ d) (hp : ∀ v ∈ vs, TS.TupInts s.heap v (k v) ∧ (k v).length = d) (ha : ∀ o, s.heap.get? a = some o → o.cls ≠ .type "tuple") : SrtO.SortableO prog w A s a vs fun v u => lexLt (k v) (k u) := by
  intro h' keep
  have hp' : ∀ v ∈ vs, TS.TupInts h' v (k v) ∧ (k v).length = d := fun v hm => ⟨(hp v hm).1.keeps fun b o e c => keep b o (fun z => by subst z; exact ha o e c) e, (hp v hm).2⟩
  obtain ⟨fs, h1, h2, h3⟩ := tup_firsts vs fun v hm => ⟨(hp' v hm).1, by rw [(hp' v hm).2]; exact hd⟩
  refine ⟨tuples' true, fun Q E hq => ?_, tup_cmp hp'⟩
  refine PySem.W.kat_kind (T := .type "int") h1 (by omega) (fun f hm => ?_) (by rfl) ?_
  · obtain ⟨x, t, rfl⟩ := h3 f hm
    exact PySem.W.Looks.now
  · have e : (Value.type "int" != Value.type "tuple") = true := by first | decide +kernel | rfl | decide
    rw [e]
    exact hq
end
section
variable {X : Cx} {pins : List (Addr × Obj)} {σ : L2.St} {H : Hp} {s : Shared} {r : Addr} {E : Value → Shared → Prop}
/-- sorted(..) of whatever the items of are tuples of ints -/
theorem sorted_of {as : List Addr} {k : Value → List Int} {Q : VK} {d : Nat} (I : L2.Inv X pins σ H s)
    (hcol : ∀ R : List Value → Shared → Prop, (∀ (h' : Heap) (tk : Nat), (∀ b o, s.heap.get? b = some o → h'.get? b = some o) → R (as.map Value.ref) { s with heap := h', toks := tk }) → wpAny (model X.prog X.w) X.A.in1 (collect (.ref r)) R E s)
    (hk : ∀ a ∈ as, H a = some (.tup ((k (.ref a)).map V.int))) (hd : 2 ≤ as.length → 1 ≤ d ∧ ∀ a ∈ as, (k (.ref a)).length = d) (hz : as.length ≤ sizeLine)
    (q : ∀ (M : List Addr) (p : Addr), M.Perm as → M.Pairwise (fun a b => lexLt (k (.ref b)) (k (.ref a)) = false) → H p = none → Q (.ref p) (upd H p (.lst (M.map V.ref)))) :
    wpAny (model X.prog X.w) X.A (PySem.call (.builtin "sorted") [.ref r]) (EP X pins σ Q) E s := by
  refine Calls.call_function_entry PyProof.Rows.kind_sorted PyProof.Rows.plain_sorted PyProof.Rows.entry_sorted (PyProof.Rows.args_sorted1 _) ?_
  unfold Builtin.«sorted»
  refine wpAny_bind (m := checkCount "sorted" 1 1 _) (wpAny_pure ?_)
  refine wpAny_bind (hcol _ fun h' tk keep => ?_)
  have I1 : L2.Inv X pins σ H { s with heap := h', toks := tk } := I.kept keep
  have hz' : (as.map Value.ref).length ≤ sizeLine := by rw [List.length_map]; exact hz
  refine wpAny_bind (wpAny_newList ?_ hz')
  have hoL : (h'.push (seqObj "list" (as.map Value.ref).toArray 0)).get? h'.objs.size = some (seqObj "list" (as.map Value.ref).toArray 0) := Heap.get?_push_size _ rfl
  show wpAny _ _ _ _ _ { s with heap := h'.push (seqObj "list" (as.map Value.ref).toArray 0), toks := tk }
  have tup : ∀ a ∈ as, TS.TupInts (h'.push (seqObj "list" (as.map Value.ref).toArray 0)) (.ref a) (k (.ref a)) := fun a ha => by
    obtain ⟨_, its, rv, ob, e, c⟩ := (show ObjOk X.prog X.w H h' a (.tup ((k (.ref a)).map V.int)) from I1.hok a _ (hk a ha))
    refine ⟨a, its.toArray, rfl, ⟨ob, Heap.get?_push_of_some _ e, c⟩, ?_⟩
    have : its.toArray.toList = its := by simp
    rw [this]
    exact ints_of_vals rv
  refine wpAny_bind (wpAny_holding (wpAny_call_entry PyProof.Rows.slot_list_sort ⟨_, hoL, rfl⟩ PyProof.Rows.entry_list_sort
    (SrtO.list_sort_ord (s := { s with heap := h'.push (seqObj "list" (as.map Value.ref).toArray 0), toks := tk }) (swo_lexL k) hoL hz' (fun h2 => ?_) fun out g1 g2 => ⟨_, rfl, ?_⟩) (PyProof.Rows.args_list_sort _)))
  · rw [List.length_map] at h2
    obtain ⟨d1, d2⟩ := hd h2
    refine tups_sortable (d := d) (by rw [List.length_map]; omega) d1 (fun v hv => ?_) fun u eu => ?_
    · obtain ⟨a, ha, rfl⟩ := List.mem_map.mp hv
      exact ⟨tup a ha, d2 a ha⟩
    · cases hoL.symm.trans eu
      exact fun z => absurd (Value.type.inj z) (by decide)
  · obtain ⟨M, eM, pM⟩ := perm_map_inv (f := Value.ref) g2.perm.symm as rfl
    obtain ⟨c, at_⟩ := PyProof.Rows.sortedHeap_at (vs := as.map Value.ref) (out := out.toArray) hoL
    have hlen : (M.map V.ref).length ≤ sizeLine := by rw [List.length_map, pM.length_eq]; exact hz
    have hvals : Vals (M.map V.ref) out := by
      rw [eM]
      clear eM pM hlen
      induction M with
      | nil => exact .nil
      | cons a M ih => exact .cons rfl ih
    have pw : M.Pairwise (fun a b => lexLt (k (.ref b)) (k (.ref a)) = false) := by
      rw [eM] at g1
      exact List.pairwise_map.mp g1
    have J : L2.Inv X pins σ (upd H h'.objs.size (.lst (M.map V.ref))) { s with heap := sortedHeap (h'.push (seqObj "list" (as.map Value.ref).toArray 0)) h'.objs.size (as.map Value.ref) out.toArray, toks := tk } :=
      I1.laid (t' := tk) (fun b u e => by
        have hb : b < h'.objs.size := Heap.lt_size e
        show (sortedHeap (h'.push (seqObj "list" (as.map Value.ref).toArray 0)) h'.objs.size (as.map Value.ref) out.toArray).get? b = some u
        rw [PyProof.Rows.sortedHeap_old (Nat.ne_of_lt hb) (by rw [size_push']; exact Nat.lt_succ_of_lt hb)]
        exact Heap.get?_push_of_some _ e) (Nat.le_refl _)
        (show ObjOk X.prog X.w _ _ _ (.lst (M.map V.ref)) from ⟨hlen, out, c, hvals, at_⟩)
    exact wpAny_pure ⟨_, rfl, .ref h'.objs.size, _, J, rfl, q M _ pM pw (I1.hok.fresh (Nat.le_refl _))⟩
end
/-! the dicts -/
section
variable {H : Hp} {F : List Addr}
/-- the ints of a tracked tuple -/
def vInts : List V → List Int
  | [] => []
  | .int i :: r => i :: vInts r
  | _ :: r => vInts r
theorem vInts_map : ∀ ns : List Int, vInts (ns.map V.int) = ns
  | [] => rfl
  | n :: ns => congrArg (n :: ·) (vInts_map ns)
def kH (H : Hp) : Value → List Int
  | .ref a => (match H a with | some (.tup xs) => vInts xs | _ => [])
  | _ => []
theorem kH_eq {a : Addr} {ns : List Int} (h : H a = some (.tup (ns.map V.int))) : kH H (.ref a) = ns := by
  simp only [kH, h, vInts_map]
theorem kD_int {ks : List Key} {ns : List Int} (h : toInts (ks.map kD) = some ns) : ks.map kV = ns.map V.int := by
  induction ks generalizing ns with
  | nil => cases h; rfl
  | cons k ks ih =>
    cases k with
    | inr => cases h
    | inl i =>
      have h : (toInts (ks.map kD)).map (i :: ·) = some ns := h
      cases e : toInts (ks.map kD) with
      | none => rw [e] at h; cases h
      | some ms => rw [e] at h; cases h; exact congrArg (V.int i :: ·) (ih e)
theorem tups_of : ∀ {ds : List D} {xs : List V} {nss : List (List Int)}, Rps H F ds xs → toTups ds = some nss → ∃ as : List Addr, xs = as.map V.ref ∧ as.map (fun a => kH H (.ref a)) = nss ∧ ∀ a ∈ as, H a = some (.tup ((kH H (.ref a)).map V.int))
  | _, _, _, .nil, h => by cases h; exact ⟨[], rfl, rfl, fun _ z => nomatch z⟩
  | _, _, nss, @Rps.cons _ _ _ d x ds xs r t, h => by
    cases r with
    | tup e rs =>
      rename_i a ys es
      have h : ((toInts es).bind fun ns => (toTups ds).map (ns :: ·)) = some nss := h
      cases e1 : toInts es with
      | none => rw [e1] at h; cases h
      | some ns =>
        rw [e1] at h
        have h : (toTups ds).map (ns :: ·) = some nss := h
        cases e2 : toTups ds with
        | none => rw [e2] at h; cases h
        | some ms =>
          rw [e2] at h
          cases h
          obtain ⟨as, h1, h2, h3⟩ := tups_of t e2
          have hy := rs.ints e1
          subst hy
          refine ⟨a :: as, by rw [h1]; rfl, by rw [List.map_cons, h2, kH_eq e], fun b hb => ?_⟩
          rcases List.mem_cons.mp hb with z | hb
          · rw [z, kH_eq e]; exact e
          · exact h3 b hb
    | _ => cases h
theorem keys_of : ∀ {kvs : List (List Key × V)} {bs : List Addr} {nss : List (List Int)}, IsKeys H kvs bs → toTups (kvs.map fun kv => D.tup (kv.1.map kD)) = some nss → bs.map (fun a => kH H (.ref a)) = nss ∧ ∀ a ∈ bs, H a = some (.tup ((kH H (.ref a)).map V.int)) := by
  intro kvs bs nss r h
  induction r generalizing nss with
  | nil => cases h; exact ⟨rfl, fun _ z => nomatch z⟩
  | @cons kv b kvs bs hb t ih =>
    have h : ((toInts (kv.1.map kD)).bind fun ns => (toTups (kvs.map fun kv => D.tup (kv.1.map kD))).map (ns :: ·)) = some nss := h
    cases e1 : toInts (kv.1.map kD) with
    | none => rw [e1] at h; cases h
    | some ns =>
      rw [e1] at h
      have h : (toTups (kvs.map fun kv => D.tup (kv.1.map kD))).map (ns :: ·) = some nss := h
      cases e2 : toTups (kvs.map fun kv => D.tup (kv.1.map kD)) with
      | none => rw [e2] at h; cases h
      | some ms =>
        rw [e2] at h
        cases h
        obtain ⟨h2, h3⟩ := ih e2
        rw [kD_int e1] at hb
        refine ⟨by rw [List.map_cons, h2, kH_eq hb], fun c hc => ?_⟩
        rcases List.mem_cons.mp hc with z | hc
        · rw [z, kH_eq hb]; exact hb
        · exact h3 c hc
theorem tupRps {G : Hp} : ∀ {M : List Addr}, (∀ a ∈ M, G a = some (.tup ((kH H (.ref a)).map V.int))) → Rps G F ((M.map fun a => kH H (.ref a)).map tupD) (M.map V.ref)
  | [], _ => .nil
  | a :: M, h => .cons (.tup (h a (.head _)) (intsRps _)) (tupRps fun b hb => h b (.tail _ hb))
theorem toTups_len : ∀ {ds : List D} {nss : List (List Int)}, toTups ds = some nss → nss.length = ds.length
  | [], _, h => by cases h; rfl
  | d :: ds, nss, h => by
    cases d <;> first | (cases h; done) | skip
    rename_i l
    have h : ((toInts l).bind fun ns => (toTups ds).map (ns :: ·)) = some nss := h
    cases e1 : toInts l with
    | none => rw [e1] at h; cases h
    | some ns =>
      rw [e1] at h
      have h : (toTups ds).map (ns :: ·) = some nss := h
      cases e2 : toTups ds with
      | none => rw [e2] at h; cases h
      | some ms => rw [e2] at h; cases h; exact congrArg (· + 1) (toTups_len e2)
theorem sameLen_of {nss : List (List Int)} (h : sameLen nss = true) : 2 ≤ nss.length → ∃ d, 1 ≤ d ∧ ∀ ns ∈ nss, ns.length = d := by
  intro h2
  match nss, h, h2 with
  | a :: b :: r, h, _ =>
    have h : (Nat.ble 1 a.length && (b :: r).all fun b => Nat.beq b.length a.length) = true := h
    rw [Bool.and_eq_true] at h
    refine ⟨a.length, Nat.le_of_ble_eq_true h.1, fun ns hn => ?_⟩
    rcases List.mem_cons.mp hn with z | hn
    · rw [z]
    · exact Nat.eq_of_beq_eq_true (List.all_eq_true.mp h.2 ns hn)
end
section
variable {X : Cx} {b : Bool}
/-- the end of a sort -/
theorem sortT_fin {pins : List (Addr × Obj)} {s : Shared} {σ : L2.St} {H : Hp} {F : List Addr} {st : Store} {z : D} {Q : VK} {r : Addr} {as : List Addr} {l : List D} {nss : List (List Int)} {E : Value → Shared → Prop} (I : L2.Inv X pins σ H s) (sr : SR H F st) (hz : sortedT l = some z) (g : Gd b H F st z Q)
    (e1 : toTups l = some nss) (e2 : as.map (fun a => kH H (.ref a)) = nss) (hk : ∀ a ∈ as, H a = some (.tup ((kH H (.ref a)).map V.int)))
    (hcol : ∀ R : List Value → Shared → Prop, (∀ (h' : Heap) (tk : Nat), (∀ b o, s.heap.get? b = some o → h'.get? b = some o) → R (as.map Value.ref) { s with heap := h', toks := tk }) → wpAny (model X.prog X.w) X.A.in1 (collect (.ref r)) R E s) :
    wpAny (model X.prog X.w) X.A (PySem.call (.builtin "sorted") [.ref r]) (EP X pins σ Q) E s := by
  have hz : ((toTups l).bind fun nss => if sameLen nss && lenOk l.length then some (D.lst ((tsort nss).map tupD)) else none) = some z := hz
  rw [e1] at hz
  have hz : (if (sameLen nss && lenOk l.length) = true then some (D.lst ((tsort nss).map tupD)) else none) = some z := hz
  split at hz
  case isFalse => cases hz
  rename_i hs
  cases hz
  rw [Bool.and_eq_true] at hs
  have al : as.length = l.length := by rw [← toTups_len e1, ← e2, List.length_map]
  have hlen : 2 ≤ as.length → ∃ d, 1 ≤ d ∧ ∀ a ∈ as, (kH H (.ref a)).length = d := fun h2 => by
    obtain ⟨d, h3, h4⟩ := sameLen_of hs.1 (by rw [← e2, List.length_map]; exact h2)
    exact ⟨d, h3, fun a ha => h4 _ (by rw [← e2]; exact List.mem_map.mpr ⟨a, ha, rfl⟩)⟩
  have hd : ∃ d, 2 ≤ as.length → 1 ≤ d ∧ ∀ a ∈ as, (kH H (.ref a)).length = d := by
    by_cases h2 : 2 ≤ as.length
    · obtain ⟨d, h⟩ := hlen h2
      exact ⟨d, fun _ => h⟩
    · exact ⟨0, fun z => absurd z h2⟩
  obtain ⟨d, hd⟩ := hd
  refine thn (sorted_of (k := kH H) (d := d) (Q := fun y H' => ∃ (M : List Addr) (p : Addr), y = .ref p ∧ H p = none ∧ H' = upd H p (.lst (M.map V.ref)) ∧ Rps H' F ((tsort nss).map tupD) (M.map V.ref)) I hcol hk hd (by rw [al]; exact sz_ok hs.2) fun M p pM pw hp => ?_) fun u s' ⟨v', H', I', r', M, p, e1, e2, e3, e4⟩ => ?_
  · refine ⟨M, p, rfl, hp, rfl, ?_⟩
    have eM : M.map (fun a => kH H (.ref a)) = tsort nss := by
      refine tsorted_one ((pM.map _).trans (by rw [e2]; exact (tsort_perm nss).symm)) (List.pairwise_map.mpr pw) (tsort_sorted nss)
    rw [← eM]
    refine tupRps fun a ha => ?_
    have := hk a (pM.mem_iff.mp ha)
    rw [upd_ne (ne_of_none this hp)]
    exact this
  · subst e1 e3
    cases r'
    exact Gd.new I' sr g e2 (Stp.laid sr e2) (sr.laid e2) (.lst upd_same e4)
theorem keysInt : ∀ {kvs : List (Key × V)} {ns : List Int}, toInts (kvs.map fun kv => kD kv.1) = some ns → kvs.map (·.1) = ns.map Sum.inl
  | [], _, h => by cases h; rfl
  | (.inr _, _) :: _, _, h => by cases h
  | (.inl i, v) :: kvs, ns, h => by
    have h : (toInts (kvs.map fun kv => kD kv.1)).map (i :: ·) = some ns := h
    cases e2 : toInts (kvs.map fun kv => kD kv.1) with
    | none => rw [e2] at h; cases h
    | some ms =>
      rw [e2] at h
      cases h
      exact congrArg (Sum.inl i :: ·) (keysInt e2)
theorem vals_ref_eq : ∀ {as : List Addr} {us : List Value}, Vals (as.map V.ref) us → us = as.map Value.ref
  | [], _, h => by cases h; rfl
  | a :: as, _, h => by
    cases h with
    | cons r t => cases r; rw [vals_ref_eq t]; rfl
theorem cr_sortedB (hc : X.calm = true) : CallR X (.builtin "sorted") (rBi .sorted b) := by
  refine bi1_of (fun _ _ _ h => h) (fun st => one_of fun _ _ => rfl) fun pins s σ H x us Q F st d z I r sr hx hz g hb => ?_
  have list : ∀ {l : List D}, d = .lst l → sortedT l = some z → wpAny (model X.prog X.w) X.A (PySem.call (.builtin "sorted") us) (EP X pins σ Q) X.xe s := fun {l} ed hzz => by
    subst ed
    obtain ⟨u, rfl, ru⟩ := vals1 r
    obtain ⟨p, xs, its, n, rfl, rfl, rx, _, hv, ho, hsz⟩ := list_of I hx ru
    have hT : ∃ nss, toTups l = some nss := by
      unfold sortedT at hzz
      cases e : toTups l with
      | none => rw [e] at hzz; cases hzz
      | some nss => exact ⟨nss, rfl⟩
    obtain ⟨nss, e1⟩ := hT
    obtain ⟨as, e2, e3, e4⟩ := tups_of rx e1
    subst e2
    have ev := vals_ref_eq hv
    subst ev
    refine sortT_fin I sr hzz g e1 e3 e4 fun R h => wpAny_collect_seq p (.inl rfl) ho rfl rfl (fun h' keep => ?_) (by rw [List.size_toArray, List.length_map]; rw [List.length_map] at hsz; exact hsz)
    have := h h' s.toks keep
    simpa using this
  cases d <;> first | (simp only [biV, bi1, reduceCtorEq] at hz; done) | skip
  · rename_i l
    have hz : sortedT l = some z := hz
    obtain ⟨u, rfl, ru⟩ := vals1 r
    obtain ⟨p, xs, rfl, rx, hp, _⟩ := tupV (K := X.K) hx
    cases ru
    have hT : ∃ nss, toTups l = some nss := by
      unfold sortedT at hz
      cases e : toTups l with
      | none => rw [e] at hz; cases hz
      | some nss => exact ⟨nss, rfl⟩
    obtain ⟨nss, e1⟩ := hT
    obtain ⟨as, e2, e3, e4⟩ := tups_of rx e1
    subst e2
    obtain ⟨hsz, its, hv, o, ho, hcl, n, hd⟩ := (show ObjOk X.prog X.w H s.heap p (.tup _) from I.hok p _ hp)
    have ev := vals_ref_eq hv
    subst ev
    refine sortT_fin I sr hz g e1 e3 e4 fun R h => wpAny_collect_seq p (.inr rfl) ho hcl hd (fun h' keep => ?_) (by rw [List.size_toArray, List.length_map]; rw [List.length_map] at hsz; exact hsz)
    have := h h' s.toks keep
    simpa using this
  · rename_i l
    have hz : sortedL l = some z := hz
    unfold sortedL at hz
    cases e : toInts l with
    | none => rw [e] at hz; exact list rfl hz
    | some ns =>
      rw [e] at hz; cases hz
      obtain ⟨p, xs, rfl, r1, t1⟩ := listV (K := X.K) hx
      rw [r1.ints e] at t1
      refine thn (cr_sortedI pins s σ H _ us (fun y H' => ∃ w, y = .ref w ∧ H w = none ∧ H' = upd H w (.lst ((isort ns).map V.int))) I r ⟨p, ns, rfl, t1, fun ns' w hp hs hw => ⟨w, rfl, hw, ?_⟩⟩) fun y s' ⟨v', H', I', r', w, e1, e2, e3⟩ => ?_
      · rw [sorted_one (hp.trans (isort_perm ns).symm) hs (isort_sorted ns)]
      · subst e1 e3
        cases r'
        exact Gd.new I' sr g e2 (Stp.laid sr e2) (sr.laid e2) (.lst upd_same ((intsRps _).mono (keeps_new e2)))
  · rename_i t ks vs
    cases t with
    | true =>
      have hz : sortedT ks = some z := hz
      obtain ⟨u, rfl, ru⟩ := vals1 r
      obtain ⟨a, kvs, rfl, hrd, ek, _⟩ := dctT hx
      cases ru
      subst ek
      have hT : ∃ nss, toTups (kvs.map fun kv => D.tup (kv.1.map kD)) = some nss := by
        unfold sortedT at hz
        cases e : toTups (kvs.map fun kv => D.tup (kv.1.map kD)) with
        | none => rw [e] at hz; cases hz
        | some nss => exact ⟨nss, rfl⟩
      obtain ⟨nss, e1⟩ := hT
      obtain ⟨zz, hs, xs, pr, o, es, ep, ho, hxx, hdt, he, hn⟩ := (show ObjOk X.prog X.w H s.heap a (.dT kvs) from hrd.ok I.hok)
      obtain ⟨e3, e4⟩ := keys_of (isKeys_of pr) e1
      have l1 : es.size = xs.length := size_of_entries he
      have l2 : kvs.length = xs.length := Paired.length pr
      refine sortT_fin I sr hz g e1 e3 e4 fun R h => PySem.W.kdu_collect (A := X.A.in1) (kdl_raw hs hxx hdt) (I.ok.hd hc) ho (by omega) fun h' tk acc keep it => ?_
      have ea : acc.toList = (xs.map fun x => x.2.1).map Value.ref := by
        have hl : acc.toList.length = xs.length := by rw [Array.length_toList, it.1]; exact l1
        rw [List.map_map]
        apply List.ext_getElem?
        intro j
        rw [List.getElem?_map]
        cases hj : acc.toList[j]? with
        | none =>
          have h1 := List.getElem?_eq_none_iff.mp hj
          rw [List.getElem?_eq_none (by omega)]
          all_goals rfl
        | some v =>
          obtain ⟨en, hen, hv⟩ := it.2 j v (by rw [← Array.getElem?_toList]; exact hj)
          have qe := entry_at he j
          rw [hen] at qe
          cases hb : xs[j]? with
          | none =>
            rw [hb] at qe
            exact nomatch (show some en = none from qe)
          | some b =>
            rw [hb] at qe
            have e2 : en = entryOfKey (tupleKind (mixKind X.prog X.w)) b := Option.some.inj qe
            rw [hv, e2]
            all_goals rfl
      rw [ea]
      exact h h' tk keep
    | false =>
      have hz : ((toInts ks).bind fun ns => if Nat.ble ns.length 63 then some (D.lst ((isort ns).map .int)) else none) = some z := hz
      obtain ⟨a, kvs, rfl, hrd, ek, _⟩ := dctK hx
      cases e : toInts ks with
      | none => rw [e] at hz; cases hz
      | some ns =>
        rw [e] at hz
        have hz : (if Nat.ble ns.length 63 = true then some (D.lst ((isort ns).map .int)) else none) = some z := hz
        split at hz
        case isFalse => cases hz
        rename_i h63
        cases hz
        have h63 := Nat.le_of_ble_eq_true h63
        have ks1 : kvs.map (·.1) = ns.map Sum.inl := by
          rw [ek] at e
          exact keysInt e
        refine thn (call_sortedDI hc pins s σ H _ us (fun y H' => ∃ w, y = .ref w ∧ H w = none ∧ H' = upd H w (.lst ((isort ns).map V.int))) I r ⟨a, kvs, ns, rfl, hrd, ks1, by omega, fun ys w hp hs hw => ⟨w, rfl, hw, ?_⟩⟩) fun y s' ⟨v', H', I', r', w, e1, e2, e3⟩ => ?_
        · rw [sorted_one (hp.trans (isort_perm ns).symm) hs (isort_sorted ns)]
        · subst e1 e3
          cases r'
          exact Gd.new I' sr g e2 (Stp.laid sr e2) (sr.laid e2) (.lst upd_same ((intsRps _).mono (keeps_new e2)))
end
end LB
/-! LB5i: an exception with two fields is made: its __init__ says super().__init__(..), then stores them. -/
namespace LB
open PySem PySem.Spec PyProof.Rows L2
def veTail : List Value := [.type "ValueError", .type "Exception", .type "BaseException", .type "object"]
open PySem.W (ksFn ksEnv ks_superObj kxs_mw)

/-- what the written part says of the def at f, __init__ of the class at C over the one at C0 -/
structure InitF (P : Program) (K : PySem.W.Frag) (C C0 f : Addr) (fd : FuncData) : Prop where
  ex : ∃ (name qual msg file : PySem.Str) (params : Arguments) (scope : Scope) (dV kV doc pm ct oc ccl cl : Value) (an od cdd cld : Option Addr) (osl ccs csl : Array (Option Value)) (cda cc : Addr) (ar : Arg) (vs : Array Value) (tf : Tok) (j : Nat) (p0 p1 p2 p3 p4 p5 q1 q2 q3 q4 r1 r2 r3 r4 : Pos),
    fd = ksFn name qual params [.Expr (.Call (.Attribute (.Call (.Name "super" p0) [] [] p1) "__init__" p2) [.Constant (.str msg) j p3] [] p4) p5, .Assign [.Attribute (.Name "self" q1) "amount" q2] (.Name "amount" q3) q4, .Assign [.Attribute (.Name "self" r1) "limit" r2] (.Name "limit" r3) r4] scope dV kV doc pm an (.ref cda) ct cc ∧
    K.lookup f = some ⟨oc, od, .func fd, osl⟩ ∧ PySem.W.codeIn K (.ref cda) qual = true ∧ (params.posonlyargs ++ params.args).head? = some ar ∧ ar.arg = "self" ∧ K.lookup cda = some ⟨ccl, cdd, .fields vs, ccs⟩ ∧ vs[2]? = some (.str file tf) ∧ ((P.main.file : PySem.Str) == file) = true ∧
    K.lookup cc = some ⟨cl, cld, .cell (some (.ref C)), csl⟩ ∧ (scope.kind = .function ∧ scope.isCoroutine = false ∧ scope.isGenerator = false ∧ (∀ x ∈ scope.names, x.2 ≠ .cell)) ∧
    (scope.names.lookup ("super" : PySem.Str) = some .globalImplicit ∧ scope.names.lookup ("__class__" : PySem.Str) = some .free ∧ scope.names.lookup ("self" : PySem.Str) = some .local ∧ scope.names.lookup ("amount" : PySem.Str) = some .local ∧ scope.names.lookup ("limit" : PySem.Str) = some .local) ∧ (p2.endLine == p4.line) = true
  cls : ∃ cd, PySem.W.clsIn K C = some cd ∧ cd.mro = .ref C :: .ref C0 :: veTail
  ne : C ≠ C0
  al : PySem.W.alongIn K "__init__" (.ref C0 :: veTail) = some (some (.builtin "ValueError.__init__"))
  su : PySem.W.nsIn K mainGlobals "super" = some none
  tp : PySem.W.nsIn K cStatics "thirdparty.any" = some none
  top : (P.main.scope.names.lookup ("super" : PySem.Str)).isSome = false
  ox : OexC K C
  fa : PySem.W.findIn K (.ref C) "amount" = some none
  fl : PySem.W.findIn K (.ref C) "limit" = some none

section
variable {P : Program} {w : World} {K : PySem.W.Frag} {mg : PySem.Str → Option Value} {base : Heap} {A : Around} {hp : Heap} {g : Array GenState} {d : Drawn} {t : Nat} {os : OsState} {C C0 f a t1 : Addr} {fd : FuncData} {args : Args} {u v : Value} {R : Result → Shared → Prop}
theorem init_raw (I : InitF P K C C0 f fd) (hM : Mod K mg base) (bs : ∀ b o, base.get? b = some o → hp.get? b = some o) (hna : base.get? a = none) (hroom : A.depth < recursionLimit) (he : hp.get? a = some (HandSPX.excO C t1))
    (hbind : BindsTo ⟨hp, g, d, t, os⟩ fd args [("self", .ref a), ("amount", u), ("limit", v)])
    (hq : ∀ h' tk dx t2, (∀ b o, b ≠ a → hp.get? b = some o → h'.get? b = some o) → hp.objs.size ≤ dx → dx ≠ a → h'.get? a = some { cls := .ref C, dict := some dx, data := .fields #[.ref t2, .none, .none, .none, .bool false, .none] } →
      h'.Ns1 dx (fun y => if y = "limit" then some v else if y = "amount" then some u else none) → R (.ok (.ret .none)) ⟨h', g, d, tk, os⟩) :
    codeAny (model P w) A (.call (.ref f) args) R ⟨hp, g, d, t, os⟩ := by
  obtain ⟨name, qual, msg, file, params, scope, dV, kV, doc, pm, ct, oc, ccl, cl, an, od, cdd, cld, osl, ccs, csl, cda, cc, ar, vs, tf, j, p0, p1, p2, p3, p4, p5, q1, q2, q3, q4, r1, r2, r3, r4, rfl, lk, hcd, hhd, har, hcode, hvs, hfile, hcell, ⟨s1, s2, s3, s4⟩, ⟨n1, n2, n3, n4, n5⟩, hln⟩ := I.ex
  obtain ⟨cd, hcls, hmro⟩ := I.cls
  cases scope
  dsimp only at s1 s2 s3 s4 n1 n2 n3 n4 n5
  subst s1 s2 s3
  have X0 : K.In hp := hM.kin.keeps bs
  have lim : hp.NoLimit := hM.nolimit.keeps bs
  refine PySem.ks_codeAny_call_defAt (o := ⟨oc, od, .func (ksFn name qual params _ _ dV kV doc pm an (.ref cda) ct cc), osl⟩) (fd := ksFn name qual params _ _ dV kV doc pm an (.ref cda) ct cc) hroom (X0 _ _ lk) rfl lim (PySem.W.codeRec_of X0 hcd) rfl hbind s4 (fun y hy => ?_) (fun h0 hns k0 => ?_) rfl rfl rfl
  · have hy : y = (("self" : PySem.Str), Value.ref a) ∨ y = (("amount" : PySem.Str), u) ∨ y = (("limit" : PySem.Str), v) := by simpa using hy
    rcases hy with rfl | rfl | rfl
    · exact n3
    · exact n4
    · exact n5
  have X1 : K.In h0 := X0.keeps k0
  have hmro' : cd.mro.contains (.ref C) = true := by rw [hmro]; simp
  have hsub : PySem.W.mroIn K C (.ref C) = some true := by unfold PySem.W.mroIn; rw [hcls, Option.bind_some, if_neg (by rw [hmro]; simp), hmro']
  have hsubV : PySem.W.mroIn K C (.type "ValueError") = some true := by unfold PySem.W.mroIn; rw [hcls, Option.bind_some, if_neg (by rw [hmro]; simp), hmro]; rfl
  have bs0 : ∀ b o, base.get? b = some o → h0.get? b = some o := fun b o e => k0 b o (bs b o e)
  obtain ⟨mb, hb1, hb2⟩ := hM.blt
  have clsO : ∀ {h : Heap}, K.In h → ∃ oD, h.get? C = some oD ∧ oD.data = .cls cd := fun {h} Xh => by
    unfold PySem.W.clsIn at hcls
    split at hcls
    · rename_i c d cd' sl ho
      cases hcls
      exact ⟨_, Xh _ _ ho, rfl⟩
    · cases hcls
  obtain ⟨oD, hD1, hD2⟩ := clsO X1
  refine PySem.ks_wpAt_execs_cons (PySem.ks_wpAt_Expr_any ?_)
  have hev : ∀ env : PySem.Env, eval (.Call (.Attribute (.Call (.Name "super" p0) [] [] p1) "__init__" p2) [.Constant (.str msg) j p3] [] p4) env = (do
      let ov ← attributeBase (.Call (.Name "super" p0) [] [] p1) "__init__" env (eval (.Call (.Name "super" p0) [] [] p1) env)
      standAt p2.atName
      let (f, first) ← holding [ov] (getMethod ov "__init__" (plainOf (.Call (.Name "super" p0) [] [] p1) env))
      callWith p4 f first (backTo p4 (starEach [.Constant (.str msg) j p3] env)) []) := fun env => by
    show (attributeBase _ _ _ _ >>= fun ov => standAt _ >>= fun _ => methodCall _ _ _ _ _ ov _ _ _) = _
    have hm : ∀ (o : Expr) (ov : Value) (m : PySem.Str) (args : List (Bool × Sem Value)) (kws : List (Option PySem.Str × Sem Value)) (n : Nat), methodCallForm n args kws = true → methodCall o m p2 p4 env ov n args kws = (do
      let (f, first) ← holding [ov] (getMethod ov m (plainOf o env))
      callWith p4 f first args kws) := fun o ov m args kws n h => mcall_line h hln
    simp only [hm _ _ _ (backTo p4 (starEach [.Constant (.str msg) j p3] env)) (backToKw p4 (keywordEach [] env)) ([Expr.Constant (Const.str msg) j p3].length + ([] : List Keyword).length) rfl]
    rfl
  refine PySem.ks_wpAt_MethodCall ?_ (hev _)
  refine PySem.ks_wpAt_super_base (env := ksEnv qual _ hp.objs.size f (.ref cda) cc) n1 n2 rfl rfl (X1 _ _ lk) rfl hhd rfl (X1 _ _ hcode) rfl hvs hfile I.top ?_
  refine PySem.W.ks_loadName_global (env := ksEnv qual _ hp.objs.size f (.ref cda) cc) rfl n1 (PySem.Calls.loadGlobal_builtin (hM.glob.keeps bs0) (PySem.W.mg_none_of hM.kin hM.glob I.su) (hb1.keeps bs0) ((hb2 _ (by decide)).trans (by decide +kernel : bootBuiltins "super" = some (.type "super"))) ⟨rfl, ?_⟩)
  refine wpAny_loadName_free rfl n2 rfl ⟨_, X1 _ _ hcell, rfl⟩ ?_
  refine wpAny_loadName_local (v := .ref a) rfl (by rw [har]; exact n3) hns (by rw [har]; rfl) ?_
  refine PySem.ks_wpAny_isType_cls hD1 hD2 ⟨rfl, ?_⟩
  refine PySem.ks_wpAny_call_super hD1 hD2 (k0 _ _ he) rfl (fun c e => by cases e) (PySem.W.looks_mroIn X1 hsub) (fun h1 e1 k1 => ?_)
  have X2 : K.In h1 := X1.keeps k1
  have I1 : PySem.W.InstAt h1 a (HandSPX.excO C t1) C none := ⟨k1 _ _ (k0 _ _ he), rfl, rfl, trivial⟩
  refine PySem.W.kxs_getMethod PySem.W.kxs_ValueError e1 (PySem.W.looks_opaque X2 I.tp) (l₀ := cd.mro) (l := .ref C0 :: veTail) ((PySem.W.looks_clsIn X2 hcls).andThen .now) (by rw [hmro]; simp [List.dropWhile]) X2 I.al (I1.type.andThen (PySem.W.looks_mroIn X2 hsubV)) (PySem.W.ks_ne X2 I1 hcls) rfl ?_
  show wpAny _ _ (callWith p4 (Value.ref h1.objs.size) [] (backTo p4 (starEach [Expr.Constant (.str msg) j p3] _)) []) _ _ _
  refine PySem.W.kxs_callWith (i := "ValueError.__init__") (x := a) rfl ?_
  show wpAny _ _ (evalArgs (.ref h1.objs.size) true ((false, eval (Expr.Constant (.str msg) j p3) _) :: backTo p4 (starEach [] _)) []) _ _ _
  refine PySem.Calls.evalArgs_plain (PySem.Calls.spliced_cons (PySem.Calls.Constant_str (PySem.Calls.spliced_nil ⟨?_, ?_⟩)))
  · exact Heap.get?_push_size _ rfl
  have k2 : ∀ b o, h1.get? b = some o → (h1.push (kxs_mw "ValueError.__init__" a)).get? b = some o := fun b o e => Heap.get?_push_of_some _ e
  have hu : (h1.push (kxs_mw "ValueError.__init__" a)).get? h1.objs.size = some (kxs_mw "ValueError.__init__" a) := Heap.get?_push_size _ rfl
  have ha2 : (h1.push (kxs_mw "ValueError.__init__" a)).get? a = some (HandSPX.excO C t1) := k2 _ _ (k1 _ _ (k0 _ _ he))
  have X3 : K.In (h1.push (kxs_mw "ValueError.__init__" a)) := X2.keeps k2
  obtain ⟨nm, qn, N, bsC, bm, sn, sub, ab, col, dd, c0, c1, c2, c3, c5, hC, hbm⟩ := I.ox.cls
  generalize h1.push (kxs_mw "ValueError.__init__" a) = h2 at *
  refine wpAny_call (codeAny_of_tree ?_)
  show wpAny _ _ (callAny (.ref h1.objs.size) ⟨[_], []⟩) _ _ _
  simp only [callAny]
  refine wpAny_bind (wpAny_load hu ?_)
  simp only [kxs_mw, show (Value.type "method-wrapper" == Value.type "method" || Value.type "method-wrapper" == Value.type "builtin_function_or_method" || Value.type "method-wrapper" == Value.type "method-wrapper") = true by decide, if_true]
  refine PySem.W.KFB.if_so (by decide) ?_
  refine wpAny_bind (PySem.W.check_bound_init F.excBase_ValueError.toExcCallFacts (X3 _ _ hC) ha2 rfl ?_)
  refine wpAny_bind (wpAny_pure (wpAny_pure ?_))
  refine ⟨plainId_quiet F.excBase_ValueError.init.plain _, codeAny_builtin F.excBase_ValueError.initEntry ?_⟩
  refine PySem.W.exc_init_tree (cls := .ref C) (t0 := t1) (dv := none) (c2 := .none) (c3 := .none) (b4 := .bool false) ha2 (by rw [sizeLine_eq]; show 1 ≤ 16777216; decide) fun h3 k3 e3 _ => ?_
  have nC : a ≠ C := PySem.W.ks_ne X2 I1 hcls
  have ka : ∀ b o, b ≠ a → hp.get? b = some o → h3.get? b = some o := fun b o hb e => k3 b o hb (k2 b o (k1 b o (k0 b o e)))
  have X4 : K.In h3 := hM.kin.keeps fun b o e => ka b o (fun z => by rw [z, hna] at e; cases e) (bs b o e)
  have lt : a < hp.objs.size := Heap.lt_size he
  have hns3 : h3.Ns hp.objs.size (fun x => List.lookup x (([(("self" : PySem.Str), Value.ref a), ("amount", u), ("limit", v)] : List (PySem.Str × Value)).reverse)) := hns.at fun o q => k3 _ o (Nat.ne_of_gt lt) (k2 _ o (k1 _ o q))
  have hclI : PySem.W.clsIn K C = some { name := nm, bases := bsC, mro := .ref C :: bm, ns := N, qualname := qn, hasDict := true, slotNames := sn, subclasses := sub, abstract := ab, collection := col, hasDel := false } := by unfold PySem.W.clsIn; rw [hC] <;> rfl
  have e3 : h3.get? a = some { cls := .ref C, dict := none, data := .fields #[.ref h2.objs.size, .none, .none, .none, .bool false, .none] } := e3
  refine PySem.ks_wpAt_execs_cons (wpAt_of_wpAny (plainObj_wpAny_Assign_Attribute ?_))
  refine wpAny_Name (wpAny_loadName_local (v := u) rfl n4 hns3 rfl (wpAny_Name (wpAny_loadName_local (v := .ref a) rfl n3 hns3 rfl ?_)))
  refine PySem.W.set_plain X4 (ox := { cls := .ref C, dict := none, data := .fields #[.ref h2.objs.size, .none, .none, .none, .bool false, .none] }) (od := none) ⟨e3, rfl, rfl, trivial⟩ I.ox.sa ?_
  refine PySem.HandSPX.exc_osa X4 e3 hclI (show PySem.HandSPX.refsVE (.ref C :: bm) = true from hbm) rfl I.fa (fun h4 tk4 dx k4 dn dne e4 n4' => ?_)
  have hL4 : hp.objs.size < dx := Nat.lt_of_lt_of_le hns3.lt dn
  have nb : ∀ {b : Addr} {o : Obj}, base.get? b = some o → b ≠ a := fun {b o} e z => by rw [z, hna] at e; cases e
  have X5 : K.In h4 := hM.kin.keeps fun b o e => k4 b o (nb e) (ka b o (nb e) (bs b o e))
  have hns4 := hns3.at fun o q => k4 _ o (Nat.ne_of_gt lt) q
  have wi : Within (fun y : PySem.Str => if y = "amount" then some u else none) [("amount" : PySem.Str)] := fun y hy => by
    by_cases e : y = "amount"
    · rw [e]; exact List.mem_singleton.mpr rfl
    · dsimp only at hy
      rw [if_neg e] at hy; exact absurd rfl hy
  obtain ⟨oX, esX, epX, hoX, _⟩ := id n4'
  refine PySem.ks_wpAt_execs_cons (wpAt_of_wpAny (plainObj_wpAny_Assign_Attribute ?_))
  refine wpAny_Name (wpAny_loadName_local (v := v) rfl n5 hns4 rfl (wpAny_Name (wpAny_loadName_local (v := .ref a) rfl n3 hns4 rfl ?_)))
  refine PySem.W.set_plain X5 (ox := { cls := .ref C, dict := some dx, data := .fields #[.ref h2.objs.size, .none, .none, .none, .bool false, .none] }) (od := some oX) ⟨e4, rfl, rfl, hoX⟩ I.ox.sa ?_
  refine PySem.OEX.osa_old X5 e4 n4' wi (by show 1 ≤ 1000; decide) hclI (show PySem.HandSPX.refsVE (.ref C :: bm) = true from hbm) rfl I.fl (fun h5 tk5 k5 n5' => ?_)
  refine wpAt_of_wpAny (wpAny_execs_nil ?_)
  exact hq h5 tk5 dx h2.objs.size (fun b o hb e => k5 b o (Nat.ne_of_lt (Nat.lt_of_lt_of_le (Heap.lt_size (ka b o hb e)) dn)) (k4 b o hb (ka b o hb e))) (Nat.le_of_lt hL4) dne (k5 _ _ (Ne.symm dne) e4) n5'
end
/-- C(e, f), both ints -/
def tMkI (C : Addr) (ta : TA) : L2.St → Hp → XK → Prop := fun σ H Q => ta σ H fun vs H1 => ∃ i j : Int, vs = [.int i, .int j] ∧ ∀ d, H1 d = none → Q (.ref C) (some d) (upd H1 d (.xd [("limit", .int j), ("amount", .int i)]))
section
variable {X : Cx} {C C0 fI : Addr} {fd : FuncData} {x : PySem.Str} {p pos : Pos} {e : Expr} {es : List Expr} {ta : TA}
theorem pmk_init (T : InitF X.prog X.K C C0 fI fd) (iC : PySem.W.findIn X.K (.ref C) "__init__" = some (some (.ref fI))) (tI : PySem.W.typeIn X.K (.ref fI) = some (.type "function")) (hb : Binds X.K fd ["self", "amount", "limit"] []) (hdp : X.A.depth + 1 < recursionLimit)
    (hg : Gl X x) (hm : X.mg x = some (.ref C)) (ha : PA X (e :: es) ta) (hdb : (x == ("__debug__" : PySem.Str)) = false) (he : starEach (e :: es) X.env = (false, eval e X.env) :: starEach es X.env) (hpl : (backTo pos (starEach es X.env)).any (·.1) = false) :
    PMk X (.Call (.Name x p) (e :: es) [] pos) (tMkI C ta) := by
  intro pins s σ H Q I h
  obtain ⟨nm, q, N, bs, bm, sn, sub, ab, col, dd, k0, k1, k2, k3, k5, hC, hbm⟩ := T.ox.cls
  refine wpAny_Call_Name_kw (ld_glob I hg hm ?_ hdb)
  refine PySem.W.callWith_K (h₀ := X.base) I.ok.mod.kin T.ox.kC (thn (ha.run pos pins s σ H _ I h) fun us s1 ⟨vs, H1, I1, r1, i, j, ev, q1⟩ => ⟨I1.kIn, ?_⟩) he hpl
  subst ev
  obtain ⟨ti, tj, rfl⟩ := Vals.int2 r1
  show wpAny _ _ (PySem.call (.ref C) [.int i ti, .int j tj]) _ _ _
  obtain ⟨hp, g, dr, tk, os⟩ := s1
  have hsz : hp.objs.size ≤ hp.objs.size + 1 := Nat.le_succ _
  have hn : H1 (hp.objs.size + 1) = none := I1.hok.fresh hsz
  let us : List Value := [.int i ti, .int j tj]
  let hp2 : Heap := (hp.push (PySem.W.kdv_tup us)).push (PySem.HandSPX.excO C hp.objs.size)
  have kk : ∀ b o, hp.get? b = some o → hp2.get? b = some o := fun b o e => Heap.get?_push_of_some _ (Heap.get?_push_of_some _ e)
  have hget : hp2.get? (hp.objs.size + 1) = some (PySem.HandSPX.excO C hp.objs.size) := by show ((hp.push (PySem.W.kdv_tup us)).push (PySem.HandSPX.excO C hp.objs.size)).get? (hp.objs.size + 1) = _; heap_get
  have bn : X.base.get? (hp.objs.size + 1) = none := by
    cases e : X.base.get? (hp.objs.size + 1) with
    | none => rfl
    | some o =>
      have := Heap.lt_size (I1.bk _ _ e)
      have z : hp.objs.size + 1 < hp.objs.size := this
      omega
  have I2 : L2.Inv X pins σ (upd H1 (hp.objs.size + 1) (exo (hp.objs.size + 1) C none)) ⟨hp2, g, dr, tk, os⟩ :=
    I1.laid (t' := tk) (a := hp.objs.size + 1) (o := exo (hp.objs.size + 1) C none) (h' := hp2) kk hsz (exo_ok hget)
  refine wpAny_call (PySem.HandSPX.call_own F.excBase_ValueError (fun Y => PySem.HandSPX.refsVE_contains Y bm hbm) (I1.kIn _ _ hC) (PySem.W.looks_findIn I1.kIn iC) (fun self => PySem.W.bind_fn I1.kIn self tI) (rest := us) (by rw [sizeLine_eq]; show 2 ≤ 16777216; decide)
    (init_raw (P := X.prog) (w := X.w) T I2.mod (fun b o e => I2.bk b o e) bn (by rw [make_depth]; exact hdp) hget (hb _ (Value.ref (hp.objs.size + 1) :: us) I2.kIn rfl) fun h' tk' dx t2 ka dn dne e3 n3 => ?_))
  let a : Addr := hp.objs.size + 1
  let fs : List (PySem.Str × V) := [("limit", .int j), ("amount", .int i)]
  have hsz2 : hp2.objs.size = hp.objs.size + 2 := by
    show ((hp.push (PySem.W.kdv_tup us)).push (PySem.HandSPX.excO C hp.objs.size)).objs.size = _
    simp [Heap.push]
  have hd1 : H1 dx = none := I1.hok.fresh (Nat.le_trans (by show hp.objs.size ≤ hp2.objs.size; rw [hsz2]; omega) dn)
  have e : upd H1 a (exo a C none) a = some (exo a C none) := upd_same
  have hnd : upd H1 a (exo a C none) dx = none := by rw [upd_ne dne]; exact hd1
  have nd : ∀ {b : Addr} {o : Obj}, hp2.get? b = some o → b ≠ dx := fun {b o} q => Nat.ne_of_lt (Nat.lt_of_lt_of_le (Heap.lt_size q) dn)
  have na : ∀ {b : Addr}, upd H1 a (exo a C none) b = none → b ≠ a := fun {b} n z => by
    rw [z, e] at n
    cases n
  have Un1 : Un (frs X.stack) [] (upd H1 a (exo a C none)) (upd (upd (upd H1 a (exo a C none)) dx (exd dx fs)) a (exo a C (some dx))) hp2 h' := {
    keep := fun b o q n _ _ => ka b o (na n) q
    slot := fun b o q n _ _ => ⟨o.slots, ka b o (na n) q⟩
    free := fun b o q n _ => by rw [upd_ne (na n), upd_ne (nd q)]; exact n
    there := fun b o q _ => by
      by_cases hb : b = a
      · exact ⟨_, by rw [hb]; exact e3⟩
      · exact ⟨o, ka b o hb q⟩
    tups := fun b xs q => by rw [upd_ne (at_ne e q exo_tup), upd_ne (ne_of_none q hnd)]; exact q
    frzs := fun b o v q => by rw [upd_ne (at_ne e q exo_frz), upd_ne (ne_of_none q hnd)]; exact q
    tbls := fun b ps q => ⟨#[], by rw [upd_ne (at_ne e q exo_tbl), upd_ne (ne_of_none q hnd), q]; simp⟩ }
  have hrel : ∀ f, RelO (fs.lookup f) (if f = ("limit" : PySem.Str) then some (Value.int j tj) else if f = ("amount" : PySem.Str) then some (Value.int i ti) else none) := by
    have r0 : ∀ g : PySem.Str, RelO (([] : List (PySem.Str × V)).lookup g) none := fun g => True.intro
    exact relO_put (f := ("limit" : PySem.Str)) (fs := [(("amount" : PySem.Str), V.int i)]) (y := .int j) (u := .int j tj) (mA := fun g => if g = ("amount" : PySem.Str) then some (Value.int i ti) else none) ⟨tj, rfl⟩ (relO_put (f := ("amount" : PySem.Str)) (fs := []) (y := .int i) (u := .int i ti) (mA := fun _ => none) ⟨ti, rfl⟩ r0)
  have hok2 : HOk X.prog X.w (upd (upd (upd H1 a (exo a C none)) dx (exd dx fs)) a (exo a C (some dx))) h' := fun b o q => by
    by_cases hb : b = a
    · subst hb
      rw [upd_same] at q
      cases q
      exact exo_ok e3
    · rw [upd_ne hb] at q
      by_cases hd : b = dx
      · subst hd
        rw [upd_same] at q
        cases q
        exact exd_ok n3 hrel
      · rw [upd_ne hd] at q
        exact (I2.hok b o q).stay (fun c v hc z => ka c v (by
            rcases hc with hc | hc
            · rw [hc]
              exact hb
            · exact at_ne e hc exo_own) z)
          (fun c hc => by rw [upd_ne (at_ne e hc exo_own), upd_ne (ne_of_none hc hnd)]; exact hc) (fun c xs hc => by rw [upd_ne (at_ne e hc exo_tup), upd_ne (ne_of_none hc hnd)]; exact hc)
  have ea : upd (upd (upd H1 a (exo a C none)) dx (exd dx fs)) a (exo a C (some dx)) a = some (exo a C (some dx)) := upd_same
  have ed : upd (upd (upd H1 a (exo a C none)) dx (exd dx fs)) a (exo a C (some dx)) dx = some (exd dx fs) := by rw [upd_ne dne]; exact upd_same
  have eH : upd (del (upd (upd (upd H1 a (exo a C none)) dx (exd dx fs)) a (exo a C (some dx))) a) dx (.xd fs) = upd H1 dx (.xd fs) := by
    funext b
    by_cases hd : b = dx
    · subst hd; rw [upd_same, upd_same]
    · rw [upd_ne hd, upd_ne hd]
      by_cases hb : b = a
      · subst hb
        rw [del_same]; exact hn.symm
      · rw [del_ne hb, upd_ne hb, upd_ne hd, upd_ne hb]
  exact ⟨rfl, mk_end (raises_own T.ox.exC T.ox.tyC) I1 hsz kk Un1 hok2 rfl I1.bare ea ed hd1 (by rw [eH]; exact q1 dx hd1)⟩
end
end LB
/-! LB5m: min of a list of ints, of tuples of ints. -/
namespace LB
open PySem PySem.Spec PyProof.Rows L2
open PyProof.Rows (itemOrd lex_irrefl)
open PySem.W (AlikeAll minD readsAll_len iter_listW cmpIn_lt moved_old argBest_fold alike alikeAll dataLt dataLt_cons dataLt_int dataLt_tuple keyToks keyToksAll)
variable [Clx]
section
variable {prog : Program} {w : World} {A : Around} {E : Value → Shared → Prop} {s : Shared}
theorem min_list_idx {l : Addr} {vs : Array Value} {x : PyData} {xs : List PyData} {as : List Addr} {Q : Value → Shared → Prop} (hh : A.handled = none) (hl : s.heap.IsList l vs) (hr : ReadsAll s.heap vs.toList (x :: xs) as) (ha : AlikeAll (x :: xs)) (hu : A.units + 1 + PyData.depthAll (x :: xs) < cLine)
    (h : ∀ (i : Nat) v h' tk, vs[i]? = some v → (x :: xs).getD i .none = minD x xs → (∀ b o, s.heap.get? b = some o → h'.get? b = some o) → Q v { s with heap := h', toks := tk }) :
    wpAny (model prog w) A (PySem.call (.builtin "min") [.ref l]) Q E s := by
  have hn : vs.size = xs.length + 1 := readsAll_len hr
  refine call_min_walkH (iter_listW (A := A.in1) hh hl fun s₂ e W st hfp hw hk => ?_)
  refine ⟨_, _, _, _, _, _, _, s.heap, _, rfl, W, st, hfp, by omega, hw, hk, cmpIn_lt (A := A.in1) hr ha (by show A.units + 1 + _ < _; exact hu), fun v s' hP m => ?_⟩
  obtain ⟨h', tk, rfl, hk'⟩ := moved_old e rfl m
  have e1 : vs.size - 1 = xs.length := by omega
  have e2 := (argBest_fold dataLt PyData.none x xs xs.length (Nat.le_refl _)).2
  rw [List.take_length] at e2
  rw [e1] at hP
  exact h _ v h' tk hP e2 hk'
end
theorem toTups_map : ∀ {l : List D} {nss : List (List Int)}, toTups l = some nss → l = nss.map tupD
  | [], _, h => by cases h; rfl
  | d :: l, nss, h => by
    cases d <;> first | (cases h; done) | skip
    rename_i m
    have h : ((toInts m).bind fun ns => (toTups l).map (ns :: ·)) = some nss := h
    cases e1 : toInts m with
    | none => rw [e1] at h; cases h
    | some ns =>
      rw [e1] at h
      have h : (toTups l).map (ns :: ·) = some nss := h
      cases e2 : toTups l with
      | none => rw [e2] at h; cases h
      | some ms => rw [e2] at h; cases h; rw [toInts_map e1, toTups_map e2]; rfl
theorem depth_tups : ∀ nss : List (List Int), PyData.depthAll (toPys (nss.map tupD)) ≤ 3
  | [] => by show PyData.depthAll [] ≤ 3; rw [PyData.depthAll]; omega
  | ns :: nss => by
    show PyData.depthAll (.tuple (toPys (ns.map .int)) :: toPys (nss.map tupD)) ≤ 3
    have := depth_ints ns
    have := depth_tups nss
    simp only [PyData.depthAll, PyData.depth]
    omega
theorem alike_tups (nss : List (List Int)) : AlikeAll (toPys (nss.map tupD)) := by
  rw [toPys_map]
  refine ⟨fun x hx y hy => ?_, fun x hx => ?_⟩
  · obtain ⟨d, hd, rfl⟩ := List.mem_map.mp hx
    obtain ⟨e, he, rfl⟩ := List.mem_map.mp hy
    obtain ⟨n, _, rfl⟩ := List.mem_map.mp hd
    obtain ⟨m, _, rfl⟩ := List.mem_map.mp he
    show alike (.tuple (toPys (n.map .int))) (.tuple (toPys (m.map .int))) = true
    rw [alike]
    exact alike_ints n m
  · obtain ⟨d, hd, rfl⟩ := List.mem_map.mp hx
    obtain ⟨n, _, rfl⟩ := List.mem_map.mp hd
    exact fun z => nomatch z
theorem pd_ints : ∀ ns : List Int, pdcts 1 (ns.map .int) = true
  | [] => rfl
  | n :: ns => by rw [List.map_cons, pdcts_cons, pd_ints ns]; rfl
theorem pd_tups : ∀ nss : List (List Int), pdcts 2 (nss.map tupD) = true
  | [] => rfl
  | ns :: nss => by rw [List.map_cons, pdcts_cons, pd_tups nss, show pdct 2 (tupD ns) = pdcts 1 (ns.map .int) from rfl, pd_ints ns]; rfl
theorem min_fold : ∀ (a : List Int) (l : List (List Int)), (toPys (l.map tupD)).foldl (fun a y => if dataLt y a then y else a) (toPy (tupD a)) = toPy (tupD (l.foldl (fun a y => if lexLt y a then y else a) a))
  | a, [] => rfl
  | a, b :: l => by
    show (toPys (l.map tupD)).foldl (fun a y => if dataLt y a then y else a) (if dataLt (toPy (tupD b)) (toPy (tupD a)) then toPy (tupD b) else toPy (tupD a)) = _
    rw [lt_tups, List.foldl_cons]
    by_cases e : lexLt b a = true
    · rw [if_pos e, if_pos e]; exact min_fold b l
    · rw [if_neg e, if_neg e]; exact min_fold a l
theorem vals_at : ∀ {xs : List V} {us : List Value} {i : Nat} {u : Value}, Vals xs us → us[i]? = some u → ∃ x, xs[i]? = some x ∧ RelV x u
  | _, _, 0, _, .cons r _, h => by simp at h; subst h; exact ⟨_, rfl, r⟩
  | _, _, i + 1, _, .cons _ r, h => by
    obtain ⟨x, h1, h2⟩ := vals_at (i := i) r (by simpa using h)
    exact ⟨x, by simpa using h1, h2⟩
section
variable {X : Cx} {b : Bool}
theorem cr_min1B (hc : X.calm = true) (hu : X.A.units + 65 < cLine) : CallR X (.builtin "min") (rBi .min1 b) := by
  refine bi1_of (fun _ _ _ h => h) (fun st => one_of fun _ _ => rfl) fun pins s σ H x us Q F st d z I r sr hx hz g hb => ?_
  cases d <;> first | (simp only [biV, bi1, reduceCtorEq] at hz; done) | skip
  rename_i l
  replace hz : (match toInts l with
    | some ns => (minL ns).map D.int
    | none => (toTups l).bind fun nss => (minTL nss).map tupD) = some z := hz
  cases e : toInts l with
  | none =>
    rw [e] at hz
    replace hz : ((toTups l).bind fun nss => (minTL nss).map tupD) = some z := hz
    cases e2 : toTups l with
    | none => rw [e2] at hz; cases hz
    | some nss =>
      rw [e2] at hz
      replace hz : (minTL nss).map tupD = some z := hz
      have el := toTups_map e2
      subst el
      cases nss with
      | nil => exact nomatch (show (none : Option D) = some z from hz)
      | cons a l =>
        replace hz : some (tupD (l.foldl (fun a y => if lexLt y a then y else a) a)) = some z := hz
        injection hz with hz
        subst hz
        obtain ⟨p, xs, rfl, r1, t1⟩ := listV (K := X.K) hx
        obtain ⟨its, rv, hl, _⟩ := I.list t1
        obtain ⟨as, rd, _⟩ := readsDs I.hok 2 _ xs its (pd_tups (a :: l)) r1 rv
        rw [Vals.ref1 r]
        have dp := depth_tups (a :: l)
        refine min_list_idx (x := toPy (tupD a)) (xs := toPys (l.map tupD)) (as := as) (I.ok.hd hc) hl.isList (show ReadsAll s.heap its.toArray.toList _ as by rw [show its.toArray.toList = its from by simp]; exact rd) (alike_tups (a :: l)) (by have : PyData.depthAll (toPy (tupD a) :: toPys (l.map tupD)) ≤ 3 := dp; omega) fun i v h' tk hv hm hk => ?_
        have hv : its[i]? = some v := by simpa using hv
        obtain ⟨y, hy, ry⟩ := vals_at rv hv
        obtain ⟨d, hd, rp⟩ := r1.getV hy
        have hd2 : (toPys ((a :: l).map tupD))[i]? = some (toPy d) := by rw [toPys_map, List.getElem?_map, hd]; rfl
        have hm2 : toPy d = toPy (tupD (l.foldl (fun a y => if lexLt y a then y else a) a)) := by
          rw [← min_fold]
          refine Eq.trans ?_ hm
          rw [List.getD_eq_getElem?_getD]
          show toPy d = ((toPys ((a :: l).map tupD))[i]?).getD .none
          rw [hd2]
          rfl
        have hd3 : d ∈ (a :: l).map tupD := List.mem_of_getElem? hd
        obtain ⟨n, _, rfl⟩ := List.mem_map.mp hd3
        have hn : n = l.foldl (fun a y => if lexLt y a then y else a) a := by
          have q : PyData.tuple (toPys (n.map .int)) = PyData.tuple (toPys ((l.foldl (fun a y => if lexLt y a then y else a) a).map .int)) := hm2
          injection q with q
          exact pys_inj q
        subst hn
        exact ⟨y, H, I.kept hk, ry, (g.val hb (fun z => z)).here sr rp⟩
  | some ns =>
    rw [e] at hz
    have hz : (minL ns).map D.int = some z := hz
    cases e2 : minL ns with
    | none => rw [e2] at hz; cases hz
    | some m =>
      rw [e2] at hz; cases hz
      obtain ⟨p, xs, rfl, r1, t1⟩ := listV (K := X.K) hx
      rw [r1.ints e] at t1
      refine L2.cr_min hc pins s σ H _ us Q I r ⟨p, ns, rfl, t1, ?_, fun w hw hle => ?_⟩
      · cases ns with
        | nil => cases e2
        | cons => exact Nat.succ_pos _
      · rw [minL_of e2 w hw hle]
        exact Gd.int sr g hb
end
end LB
/-! LB6: the check of a term against the program's own; the context; readings. -/
namespace LB
open PySem PySem.Spec PyProof.Rows L2
variable [Clx]

/-- said(lambda: w(f(es))): x the name of the def that calls it, s its number here, s2 the lambda's, k the number of the def that names what is raised; the names captured stand in slots is of n -/
structure Lam where
  x : PySem.Str
  s2 : Nat
  k : Nat
  n : Nat
  is : List Nat
  w : Nat
  f : Nat
  es : List E
/-- what is known of the module: the defs' names by number, the constants, the exceptions' classes -/
structure Sig where
  fn : Nat → Option PySem.Str
  con : List (PySem.Str × D)
  kw : List (Nat × Nat × List PySem.Str × List Nat) := []
  exn : List (Nat × PySem.Str) := []
  lam : List (Nat × Lam) := []
  hot : Bool := false
  raz : List Nat := []
  lf : List Nat := []
  pf : List Nat := []
  rp : Bool := true
  ini : List Nat := []
  prg : Option Program := none
def visB (sc : Scope) (x : PySem.Str) : Bool := match sc.names.lookup x with
  | some .local => true | some .cell => true | some .free => true | _ => false
def locB (sc : Scope) (x : PySem.Str) : Bool := match sc.names.lookup x with
  | some .local => true | some .cell => true | _ => false
def glB (sc : Scope) (x : PySem.Str) : Bool := decide (sc.names.lookup x = some .globalImplicit)
def nmB (x : PySem.Str) : Bool := !(x == ("__debug__" : PySem.Str)) && !(x == ("__classdict__" : PySem.Str))
def cstB : D → Const → Bool
  | .int i, .int j => decide (i = j)
  | .bl a, .bool b => a == b
  | .non, .none => true
  | .str x, .str y => decide (x = y)
  | _, _ => false
def eqD' : D → D → Bool
  | .int i, .int j => decide (i = j)
  | .str x, .str y => decide (x = y)
  | _, _ => false
def opB : Op2 → Operator → Bool
  | .add, .Add => true | .sub, .Sub => true | .mul, .Mult => true | .fdiv, .FloorDiv => true | .mod, .Mod => true | .pow, .Pow => true
  | _, _ => false
def cmB : Cm → CmpOp → Bool
  | .lt, .Lt => true | .le, .LtE => true | .gt, .Gt => true | .ge, .GtE => true | .eq, .Eq => true | .ne, .NotEq => true | .inn, .In => true | .nin, .NotIn => true
  | .isN, .Is => true | .notN, .IsNot => true
  | _, _ => false
def nonB : E → Expr → Bool
  | .lit .non, .Constant .none _ _ => true
  | _, _ => false
def isNC (b : E) (e : Expr) : Cm → Bool
  | .isN => nonB b e
  | .notN => nonB b e
  | _ => true
def noSt : Expr → Bool
  | .Starred _ _ => false
  | _ => true
def noSl : Expr → Bool
  | .Slice _ _ _ _ => false
  | _ => true
def noSet : Expr → Bool
  | .Set _ _ _ => false
  | _ => true
def chkL (f : E → Expr → Bool) : List E → List Expr → Bool
  | [], [] => true
  | e :: es, p :: ps => noSt p && f e p && chkL f es ps
  | _, _ => false
def chkLS (f : E → Expr → Bool) : List E → List Expr → Bool
  | [], [] => true
  | .star a :: es, .Starred p _ :: ps => f a p && chkLS f es ps
  | .star _ :: _, _ :: _ => false
  | e :: es, p :: ps => noSt p && f e p && chkLS f es ps
  | _, _ => false
def chkK (f : E → Expr → Bool) : List PySem.Str → List E → List Keyword → Bool
  | [], [], [] => true
  | k :: ks, e :: es, ⟨some x, p, _⟩ :: ps => decide (k = x) && f e p && chkK f ks es ps
  | _, _, _ => false
/-- the parts of an f-string -/
def chkF (f : E → Expr → Bool) : List E → List Expr → Bool
  | [], [] => true
  | e :: es, .FormattedValue p (-1) none _ :: ps => f e p && chkF f es ps
  | .lit (.str x) :: es, .Constant (.str y) _ _ :: ps => decide (x = y) && chkF f es ps
  | _, _ => false
def baseB : Expr → Bool
  | .Call (.Name _ _) [] [] _ => false
  | _ => true
def biNm : Bi → PySem.Str
  | .len => "len" | .tup => "tuple" | .lst => "list" | .sum => "sum" | .all => "all" | .any => "any" | .abs => "abs" | .int => "int"
  | .max1 => "max" | .min1 => "min" | .max2 => "max" | .min2 => "min" | .repr => "repr" | .sorted => "sorted" | .str => "str" | _ => ""
def biOk : Bi → Bool
  | .len => true | .tup => true | .lst => true | .sum => true | .all => true | .any => true | .abs => true | .int => true
  | .max1 => true | .min1 => true | .max2 => true | .min2 => true | .repr => true | .sorted => true | .str => true | _ => false
def rpB : Bi → Bool
  | .repr => false | _ => true
/-- what needs no calm -/
def hotB : Bi → Bool
  | .len => true | .tup => true | .abs => true | .int => true | .repr => true | .str => true | _ => false
mutual
def chkT (sc : Scope) (N : List PySem.Str) (own : List Nat) : Tg → Expr → Bool
  | .nm i, .Name x _ => decide (N[i]? = some x) && locB sc x && decide (i ∈ own)
  | .tp ts, .Tuple es _ _ => chkTs sc N own ts es
  | _, _ => false
def chkTs (sc : Scope) (N : List PySem.Str) (own : List Nat) : List Tg → List Expr → Bool
  | [], [] => true
  | t :: ts, e :: es => noSt e && chkT sc N own t e && chkTs sc N own ts es
  | _, _ => false
end
def isTup : Expr → Bool
  | .Tuple _ _ _ => true
  | _ => false
/-- what makes a new list -/
def isFr : E → Bool
  | .lzip3 _ _ _ => true | .spl _ _ => true | .dnew _ => true | .lstv _ => true | .dct1 _ _ _ => true | .dcomp _ _ _ _ _ => true | .lrng _ _ => true | .rev _ => true | .lst _ => true | .comp _ _ _ _ _ => true | .op _ _ _ => true | .sl _ _ _ => true | .bi .srtset _ => true | .bi b _ => biOk b | _ => false
/-- iterables that are read as values -/
def coreB : E → Bool
  | .no _ => false | .and _ => false | .or _ => false | .ite _ _ _ => false | .alloc _ => false | .nil => false | .rng1 _ => false | .rng2 _ _ => false | .rng3 _ _ _ => false | .zip _ _ => false | .enum _ => false
  | .star _ => false
  | .dvals _ => false
  | .ditems _ => false
  | _ => true
def chkI (f : E → Expr → Bool) (sc : Scope) (ptg : Expr) : E → Expr → Bool
  | .rng1 a, .Call (.Name x _) [pa] [] _ => decide (x = "range") && glB sc x && noSt pa && f a pa
  | .rng2 a b, .Call (.Name x _) [pa, pb] [] _ => decide (x = "range") && glB sc x && noSt pa && noSt pb && f a pa && f b pb
  | .rng3 a b c, .Call (.Name x _) [pa, pb, pc] [] _ => decide (x = "range") && glB sc x && noSt pa && noSt pb && noSt pc && f a pa && f b pb && f c pc
  | .zip a b, .Call (.Name x _) [pa, pb] [] _ => decide (x = "zip") && glB sc x && isTup ptg && noSt pa && noSt pb && f a pa && f b pb
  | .enum a, .Call (.Name x _) [pa] [] _ => decide (x = "enumerate") && glB sc x && isTup ptg && noSt pa && f a pa
  | .dvals a, .Call (.Attribute pa y ap) [] [] cp => decide (y = "values") && baseB pa && (ap.endLine == cp.line) && f a pa
  | .ditems a, .Call (.Attribute pa y ap) [] [] cp => decide (y = "items") && isTup ptg && baseB pa && (ap.endLine == cp.line) && f a pa
  | e, p => coreB e && f e p
def exnB (G : Sig) (c : Nat) (y : PySem.Str) : Bool := if Nat.beq c 1000 then decide (y = "ValueError") else G.exn.any fun q => Nat.beq q.1 c && decide (q.2 = y)
def lamOf (G : Sig) (s : Nat) : Option Lam := (G.lam.find? fun q => Nat.beq q.1 s).map (·.2)
/-- within a lambda: the program's own defs may be called -/
def Sig.bare (G : Sig) : Sig := { G with fn := fun f => if G.pf.any (fun n => Nat.beq n f) then G.fn f else none, kw := [], lam := [], lf := [], rp := false, hot := false, ini := [] }
/-- the Sig by which the def f is looked at: only those of lf make lambdas -/
def Sig.at_ (G : Sig) (f : Nat) : Sig := if G.lf.any (fun n => Nat.beq n f) then G else { G with lam := [] }
/-- the program's own defs: they make no lambdas, use no repr -/
def Sig.prog (G : Sig) : Sig := { G with fn := fun f => if G.pf.any (fun n => Nat.beq n f) then G.fn f else none, kw := [], lam := [], lf := [], rp := false }
/-- the names captured: in view within, cells of the maker -/
def capB (N : List PySem.Str) (sc : Scope) : List E → List Nat → Bool
  | [], [] => true
  | .var i :: es, j :: js => Nat.beq i j && (match N[i]? with | some x => visB sc x && nmB x | none => false) && capB N sc es js
  | _, _ => false
/-- texts, tuple(range) -/
def chkY (hot : Bool) (f : E → Expr → Bool) (sc : Scope) : E → Expr → Bool
  | .trng a, .Call (.Name x _) [.Call (.Name y _) [pa] [] _] [] _ => !hot && decide (x = "tuple") && glB sc x && decide (y = "range") && glB sc y && noSt pa && f a pa
  | .jn a e, .Call (.Attribute pa y ap) [pe] [] cp => decide (y = "join") && baseB pa && (ap.endLine == cp.line) && noSt pe && f a pa && f e pe
  | .spl a e, .Call (.Attribute pa y ap) [pe] [] cp => decide (y = "split") && baseB pa && (ap.endLine == cp.line) && noSt pe && f a pa && f e pe
  | .fs es, .JoinedStr ps _ => Nat.ble 2 ps.length && chkF (f) es ps
  | .eqs a x, .Compare pa [.Eq] [.Constant (.str y) _ _] _ => decide (x = y) && f a pa
  | _, _ => false
def chkE : Sig → List PySem.Str → Nat → Scope → E → Expr → Bool
  | _, _, 0, _, _, _ => false
  | G, N, n + 1, sc, e, p => match e, p with
    | .call f es, .Call (.Name x _) [.Lambda ⟨[], [], none, [], [], none, []⟩ body scope _] [] _ => (match lamOf G f with
      | some L => decide (L.x = x) && glB sc x && nmB x && decide (L.n = N.length) && capB N sc es L.is && LamX.lamSB sc scope &&
        (match L.w, body with
        | 0, .Call (.Name y _) ps [] _ => decide (G.fn L.f = some y) && glB scope y && nmB y && chkL (chkE G.bare N n scope) L.es ps
        | 2, .Call (.Name z _) [.Call (.Name y _) ps [] _] [] _ => decide (z = "len") && glB scope z && decide (G.fn L.f = some y) && glB scope y && nmB y && chkL (chkE G.bare N n scope) L.es ps
        | _, _ => false)
      | none => false)
    | .isx a c, .Call (.Name x _) [pa, .Name y _] [] _ => decide (x = "isinstance") && glB sc x && exnB G c y && glB sc y && nmB y && noSt pa && chkE G N n sc a pa
    | .fld a k, .Attribute (.Name z zp) y _ => decide (y = (if Nat.beq k 0 then ("amount" : PySem.Str) else "limit")) && chkE G N n sc a (.Name z zp)
    | .lit d, .Constant c _ _ => cstB d c
    | .var i, .Name x _ => decide (N[i]? = some x) && visB sc x && nmB x
    | .con x d, .Name y _ => decide (x = y) && glB sc x && nmB x && G.con.any fun q => decide (q.1 = x) && eqD' q.2 d
    | .tup es, .Tuple ps _ _ => chkLS (chkE G N n sc) es ps
    | .lst es, .List ps _ => chkLS (chkE G N n sc) es ps
    | .alloc a, p => isFr a && chkE G N n sc a p
    | .op o a b, .BinOp pa op pb _ => opB o op && chkE G N n sc a pa && chkE G N n sc b pb
    | .neg a, .UnaryOp .USub pa _ => chkE G N n sc a pa
    | .cmp c a b, .Compare pa [op] [pb] _ => cmB c op && isNC b pb c && noSet pb && chkE G N n sc a pa && chkE G N n sc b pb
    | .chn c c' a b d, .Compare pa [op, op'] [pb, pd] _ => cmB c op && cmB c' op' && isNC b pb c && isNC d pd c' && noSet pd && chkE G N n sc a pa && chkE G N n sc b pb && chkE G N n sc d pd
    | .no a, .UnaryOp .Not pa _ => chkE G N n sc a pa
    | .and es, .BoolOp .And ps _ => chkL (chkE G N n sc) es ps
    | .or es, .BoolOp .Or ps _ => chkL (chkE G N n sc) es ps
    | .ite t a b, .IfExp pt pa pb _ => chkE G N n sc t pt && chkE G N n sc a pa && chkE G N n sc b pb
    | .sl a lo hi, .Subscript pa (.Slice plo phi none _) _ => chkE G N n sc a pa &&
        (match lo, plo with | .nil, none => true | lo, some q => chkE G N n sc lo q | _, _ => false) && (match hi, phi with | .nil, none => true | hi, some q => chkE G N n sc hi q | _, _ => false)
    | .idx a i, .Subscript pa pi _ => noSl pi && chkE G N n sc a pa && chkE G N n sc i pi
    | .call f es, .Call (.Name x _) ps [] _ => decide (G.fn f = some x) && glB sc x && nmB x && chkL (chkE G N n sc) es ps
    | .bi (.isi t) [a], .Call (.Name x _) [pa, .Name y _] [] _ => decide (x = "isinstance") && glB sc x && decide (y = Str.ofString (tyN t)) && glB sc y && noSt pa && chkE G N n sc a pa
    | .bi .srtset [a], .Call (.Name x _) [.Call (.Name y _) [pa] [] _] [] _ => !G.hot && decide (x = "sorted") && glB sc x && decide (y = "set") && glB sc y && noSt pa && chkE G N n sc a pa
    | .bi b es, .Call (.Name x _) (q :: ps) [] _ => biOk b && (!G.hot || hotB b) && (G.rp || rpB b) && decide (x = biNm b) && glB sc x && chkL (chkE G N n sc) es (q :: ps)
    | .comp el tg it cs own, .ListComp pel [⟨ptg, pit, pcs, k⟩] scope _ => !G.hot && decide (k = 0) && blkC N sc scope own && chkT scope N (own.map (·.2)) tg ptg && noSet pit &&
        chkI (chkE G N n sc) sc ptg it pit &&
        (match cs, pcs with | [], [] => true | [c], [q] => chkE G N n (relS scope sc) c q | _, _ => false) && chkE G N n (relS scope sc) el pel
    | .callk f es ws inv ks, .Call (.Name x _) ps kws _ => decide (G.fn f = some x) && glB sc x && nmB x && chkL (chkE G N n sc) es ps && chkK (chkE G N n sc) ks ws kws && decide ((f, es.length, ks, inv) ∈ G.kw)
    | .dnew _, .Dict [] [] _ => true
    | .dct1 _ k v, .Dict [some pk] [pv] _ => noSt pk && noSt pv && chkE G N n sc k pk && chkE G N n sc v pv
    | .dcomp k v tg it own, .DictComp pk pv [⟨ptg, pit, [], j⟩] scope _ => !G.hot && decide (j = 0) && blkC N sc scope own && chkT scope N (own.map (·.2)) tg ptg && noSet pit &&
        chkI (chkE G N n sc) sc ptg it pit && chkE G N n (relS scope sc) k pk && chkE G N n (relS scope sc) v pv
    | .revt a, .Subscript pa (.Slice none none (some (.UnaryOp .USub (.Constant (.int j) _ _) _)) _) _ => decide (j = 1) && chkE G N n sc a pa
    | .rev a, .Subscript pa (.Slice none none (some (.UnaryOp .USub (.Constant (.int j) _ _) _)) _) _ => decide (j = 1) && chkE G N n sc a pa
    | .get a k .nil, .Call (.Attribute pa y ap) [pk] [] cp => decide (y = "get") && baseB pa && (ap.endLine == cp.line) && noSt pk && chkE G N n sc a pa && chkE G N n sc k pk
    | .get a k d, .Call (.Attribute pa y ap) [pk, pd] [] cp => decide (y = "get") && baseB pa && (ap.endLine == cp.line) && noSt pk && noSt pd && chkE G N n sc a pa && chkE G N n sc k pk && chkE G N n sc d pd
    | .lrng a b, .Call (.Name x _) [.Call (.Name y _) [pa, pb] [] _] [] _ => !G.hot && decide (x = "list") && glB sc x && decide (y = "range") && glB sc y && noSt pa && noSt pb && chkE G N n sc a pa && chkE G N n sc b pb
    | .lstv a, .Call (.Name x _) [.Call (.Attribute pa y ap) [] [] cp] [] _ => !G.hot && decide (x = "list") && glB sc x && decide (y = "values") && baseB pa && (ap.endLine == cp.line) && chkE G N n sc a pa
    | .sumv a, .Call (.Name x _) [.Call (.Attribute pa y ap) [] [] cp] [] _ => !G.hot && decide (x = "sum") && glB sc x && decide (y = "values") && baseB pa && (ap.endLine == cp.line) && chkE G N n sc a pa
    | .count a e, .Call (.Attribute pa y ap) [pe] [] cp => decide (y = "count") && baseB pa && (ap.endLine == cp.line) && noSt pe && chkE G N n sc a pa && chkE G N n sc e pe
    | .index a e, .Call (.Attribute pa y ap) [pe] [] cp => decide (y = "index") && baseB pa && (ap.endLine == cp.line) && noSt pe && chkE G N n sc a pa && chkE G N n sc e pe
    | e, p => chkY G.hot (chkE G N n sc) sc e p
end LB
/-! LB7: the context, the readings, how they go on. -/
namespace LB
open PySem PySem.Spec PyProof.Rows L2
variable [Clx]

/-- a result that is no exception -/
def RO {α : Type} (r : Res α) (Q : α → Store → Prop) : Prop :=
  match r with
  | .ok a st => Q a st
  | _ => False
theorem RO_bind {α β : Type} {r : Res α} {f : α → Store → Res β} {Q : β → Store → Prop} (h : RO (r.bind f) Q) : RO r (fun a st => RO (f a st) Q) := by
  cases r <;> exact h
theorem RO_opt {α : Type} {o : Option α} {st : Store} {Q : α → Store → Prop} (h : RO (Res.opt o st) Q) : ∃ a, o = some a ∧ Q a st := by
  cases o with
  | none => exact h.elim
  | some a => exact ⟨a, rfl, h⟩
theorem RO_mono {α : Type} {r : Res α} {Q Q' : α → Store → Prop} (h : RO r Q) (k : ∀ a st, Q a st → Q' a st) : RO r Q' := by
  cases r with
  | ok a st => exact k a st h
  | exc => exact h
  | bad => exact h

def RV (m : Md) (H : Hp) (F : List Addr) (d : D) (x : V) : Prop := match m with
  | .v => Rp H F d x
  | _ => Pk H F d x
/-- what comes: a value; a new thing that nothing else refers to -/
def OV (b : Bool) (m : Md) (H0 H' : Hp) (F' : List Addr) (d : D) (x : V) : Prop :=
  if b = true then ∃ p, x = .ref p ∧ Nw H0 p ∧ Ow H' F' d p ∧ p ∉ F' else RV m H' F' d x
theorem OV.v {b : Bool} {m : Md} {H0 H' : Hp} {F' : List Addr} {d : D} {x : V} (hb : b = false) (h : RV m H' F' d x) : OV b m H0 H' F' d x := by
  subst hb; exact h
theorem RV.of {m : Md} {H : Hp} {F : List Addr} {d : D} {x : V} (h : Rp H F d x) : RV m H F d x := by
  cases m <;> first | exact h | exact .inl h

/-- an expression's reading -/
def tE (T : Tab) (b : Bool) (m : Md) (e : E) : TE := fun σ H Q => ∃ G env F st, SR H F st ∧ ER G σ H F env ∧
  RO (evE T e m env st) fun d st' => (b = true → isSeq d) ∧ ∀ x H' F', Stp H F H' F' → SR H' F' st' → OV b m H H' F' d x → Q x H'
/-- a test's -/
def tT (T : Tab) (e : E) : TT := fun σ H Q => ∃ G env F st, SR H F st ∧ ER G σ H F env ∧
  RO (evE T e .t env st) fun d st' => ∃ k, d = .bl k ∧ ∀ H' F', Stp H F H' F' → SR H' F' st' → Q k H'
/-- arguments' -/
def tA (T : Tab) (es : List E) : TA := fun σ H Q => ∃ G env F st, SR H F st ∧ ER G σ H F env ∧
  RO (evL T es env st) fun ds st' => ∀ xs H' F', Stp H F H' F' → SR H' F' st' → Rps H' F' ds xs → Q xs H'
def tB (T : Tab) (es : List E) : TA := fun σ H Q => ∃ G env F st, SR H F st ∧ ER G σ H F env ∧
  RO (evB T es env st) fun ds st' => ∀ xs H' F', Stp H F H' F' → SR H' F' st' → Pks H' F' ds xs → Q xs H'

section
variable {T : Tab} {b : Bool} {m : Md} {e : E} {σ : L2.St} {G H : Hp} {F : List Addr} {env : Env} {st : Store}
theorem tE_go {Q : VK} {K : D → Store → Prop} (s : SR H F st) (r : ER G σ H F env) (h : RO (evE T e m env st) K)
    (k : ∀ d st1 x H1 F1, K d st1 → Stp H F H1 F1 → SR H1 F1 st1 → ER G σ H1 F1 env → RV m H1 F1 d x → Q x H1) : tE T false m e σ H Q :=
  ⟨G, env, F, st, s, r, RO_mono h fun d st1 kd => ⟨(fun z => nomatch z), fun x H1 F1 a s1 v => k d st1 x H1 F1 kd a s1 (r.step s a) v⟩⟩
theorem tT_go {Q : Bool → Hp → Prop} {K : D → Store → Prop} (s : SR H F st) (r : ER G σ H F env) (h : RO (evE T e .t env st) K) (hk : ∀ d st1, K d st1 → ∃ k, d = .bl k)
    (k : ∀ d st1 H1 F1, K (.bl d) st1 → Stp H F H1 F1 → SR H1 F1 st1 → ER G σ H1 F1 env → Q d H1) : tT T e σ H Q :=
  ⟨G, env, F, st, s, r, RO_mono h fun d st1 kd => by
    obtain ⟨q, rfl⟩ := hk d st1 kd
    exact ⟨q, rfl, fun H1 F1 a s1 => k q st1 H1 F1 kd a s1 (r.step s a)⟩⟩
theorem tA_go {es : List E} {Q : List V → Hp → Prop} {K : List D → Store → Prop} (s : SR H F st) (r : ER G σ H F env) (h : RO (evL T es env st) K)
    (k : ∀ ds st1 xs H1 F1, K ds st1 → Stp H F H1 F1 → SR H1 F1 st1 → ER G σ H1 F1 env → Rps H1 F1 ds xs → Q xs H1) : tA T es σ H Q :=
  ⟨G, env, F, st, s, r, RO_mono h fun d st1 kd xs H1 F1 a s1 v => k d st1 xs H1 F1 kd a s1 (r.step s a) v⟩
theorem tB_go {es : List E} {Q : List V → Hp → Prop} {K : List D → Store → Prop} (s : SR H F st) (r : ER G σ H F env) (h : RO (evB T es env st) K)
    (k : ∀ ds st1 xs H1 F1, K ds st1 → Stp H F H1 F1 → SR H1 F1 st1 → ER G σ H1 F1 env → Pks H1 F1 ds xs → Q xs H1) : tB T es σ H Q :=
  ⟨G, env, F, st, s, r, RO_mono h fun d st1 kd xs H1 F1 a s1 v => k d st1 xs H1 F1 kd a s1 (r.step s a) v⟩
end

section
variable {X : Cx}
theorem PE.imp {e : Expr} {t t' : TE} (h : PE X e t) (k : ∀ σ H Q, t' σ H Q → t σ H Q) : PE X e t' := ⟨fun pins s σ H Q I q => h.run pins s σ H Q I (k σ H Q q)⟩
theorem PT.imp {e : Expr} {t t' : TT} (h : PT X e t) (k : ∀ σ H Q, t' σ H Q → t σ H Q) : PT X e t' := ⟨fun pins s σ H Q I q => h.run pins s σ H Q I (k σ H Q q)⟩
theorem PA.imp {e : List Expr} {t t' : TA} (h : PA X e t) (k : ∀ σ H Q, t' σ H Q → t σ H Q) : PA X e t' := ⟨fun pos pins s σ H Q I q => h.run pos pins s σ H Q I (k σ H Q q)⟩
end

/-- two contexts of one module -/
structure Like (X Y : Cx) : Prop where
  prog : Y.prog = X.prog
  w : Y.w = X.w
  K : Y.K = X.K
  mg : Y.mg = X.mg
  base : Y.base = X.base
  A : Y.A = X.A
/-- the object at a does what T says of the def f -/
def RunF (X : Cx) (T : Tab) (f : Nat) (a : Addr) : Prop :=
  ∀ (pins : List (Addr × Obj)) (s : Shared) (σ : L2.St) (H : Hp) (us : List Value) (vs : List V) (Q : VK) (F : List Addr) (st : Store) (ds : List D), L2.Inv X pins σ H s → Vals vs us → SR H F st → Rps H F ds vs →
    RO (T f ds st) (fun d st' => ∀ x H' F', Stp H F H' F' → SR H' F' st' → Rp H' F' d x → Q x H') → wpAny (model X.prog X.w) X.A (PySem.call (.ref a) us) (EP X pins σ Q) X.xe s
/-- the same, called with keywords: n places, then the names ks -/
def RunFK (X : Cx) (T : Tab) (f : Nat) (a : Addr) (n : Nat) (ks : List PySem.Str) (inv : List Nat) : Prop :=
  ∀ (pins : List (Addr × Obj)) (s : Shared) (σ : L2.St) (H : Hp) (us ws : List Value) (vs zs : List V) (Q : VK) (F : List Addr) (st : Store) (ds es ys : List D), L2.Inv X pins σ H s → Vals vs us → Vals zs ws → SR H F st → Rps H F ds vs → Rps H F es zs →
    us.length = n → ws.length = ks.length → pickAll inv (ds ++ es) = some ys →
    RO (T f ys st) (fun d st' => ∀ x H' F', Stp H F H' F' → SR H' F' st' → Rp H' F' d x → Q x H') → wpAny (model X.prog X.w) X.A (PySem.call (.ref a) us (ks.zip ws)) (EP X pins σ Q) X.xe s
/-- a result, or what is raised -/
def RX {α : Type} (r : Res α) (Q : α → Store → Prop) (Z : Nat → List D → Store → Prop) : Prop :=
  match r with
  | .ok a st => Q a st
  | .exc c a st => Z c a st
  | .bad => False
/-- the class and the dict of an exception c with the fields as -/
def IsX (c : Nat) (as : List D) (cls : Value) (d : Option Addr) (H : Hp) : Prop := c < Clx.n ∧ cls = .ref (Clx.cls c) ∧ ExF H as d
/-- the object at a does what T says of the def f, what it raises too -/
def RunX (X : Cx) (T : Tab) (f : Nat) (a : Addr) : Prop :=
  ∀ (W : WX) (pins : List (Addr × Obj)) (s : Shared) (σ : L2.St) (H : Hp) (us : List Value) (vs : List V) (Q : VK) (F : List Addr) (st : Store) (ds : List D), Takes X W → L2.Inv X pins σ H s → Vals vs us → SR H F st → Rps H F ds vs →
    RX (T f ds st) (fun d st' => ∀ x H' F', Stp H F H' F' → SR H' F' st' → Rp H' F' d x → Q x H') (fun c as st' => ∀ cls d H' F', Stp H F H' F' → SR H' F' st' → IsX c as cls d H' → W cls d σ H') →
    wpAny (model X.prog X.w) X.A (PySem.call (.ref a) us) (EP X pins σ Q) X.xe s
/-- what the written part says of a class of exceptions -/
structure ExcOk (K : PySem.W.Frag) (C : Addr) : Prop where
  is : L2.ExcC K C
  ve : PySem.W.kitOne K (.ref C) (.type "ValueError") = some true
  kp : PySem.W.keepIn K (.ref C) = true
  ty : PySem.W.typeIn K (.ref C) = some (.type "type")
  fa : PySem.W.findIn K (.ref C) "amount" = some none
  fl : PySem.W.findIn K (.ref C) "limit" = some none
def bltNames : List PySem.Str := ["len", "tuple", "list", "sum", "all", "any", "abs", "int", "max", "min", "isinstance", "bool", "str", "dict", "range", "zip", "enumerate", "repr", "sorted", "set"]
/-- the body of a lambda -/
def lamB (T : Tab) (L : Lam) (env : Env) (st : Store) : Res D :=
  match evL T L.es env st with
  | .ok xs st1 => (T L.f xs st1).bind fun d st2 => Res.opt (wrapD L.w d) st2
  | _ => .bad
def tBody (T : Tab) (L : Lam) (E : XK) : TE := fun σ H Q => ∃ G env F st, SR H F st ∧ ER G σ H F env ∧
  RX (lamB T L env st) (fun d st' => ∀ x H' F', Stp H F H' F' → SR H' F' st' → Rp H' F' d x → Q x H') (fun c as st' => ∀ cls d H' F', Stp H F H' F' → SR H' F' st' → IsX c as cls d H' → E cls d H')
/-- try: return repr(a()) / except .. as e: return "! " + kind(e) -/
def TSaid (T : Tab) (k : Nat) : (XK → Hp → VK → Prop) → Hp → VK → Prop := fun tl H Q =>
  tl (fun cls d H' => ∃ F st c as, SR H' F st ∧ IsX c as cls d H' ∧ RO (T k [.exn c as] []) fun w _ => ∃ z, w = .str z ∧ lenOk (2 + z.length) = true ∧ ∀ H'' F'', Stp H' F H'' F'' → SR H'' F'' st → Q (.str ("! " ++ z)) H'') H
    (fun x H' => rBi .repr false [x] H' Q)
/-- the class at C, made with two ints -/
def IniC (P : Program) (K : PySem.W.Frag) (C : Addr) : Prop := ∃ (C0 fI : Addr) (fd : FuncData), InitF P K C C0 fI fd ∧ PySem.W.findIn K (.ref C) "__init__" = some (some (.ref fI)) ∧ PySem.W.typeIn K (.ref fI) = some (.type "function") ∧ Binds K fd ["self", "amount", "limit"] []
/-- what is known of a context but the lambdas -/
structure Gb (G : Sig) (T : Tab) (X : Cx) : Prop where
  calm : G.hot = false → X.calm = true
  nd : X.N.Nodup
  un : X.A.units + 65 < cLine
  gd : G.rp = true → X.A.guards = some []
  blt : ∀ x ∈ bltNames, X.mg x = none
  con : ∀ x d, (x, d) ∈ G.con → (∀ i, d = .int i → ∃ t, X.mg x = some (.int i t)) ∧ (∀ z, d = .str z → ∃ t, X.mg x = some (.str z t))
  fns : ∀ f x, G.fn f = some x → ∃ a, X.mg x = some (.ref a) ∧ PySem.W.keepIn X.K (.ref a) = true ∧ (∀ Y, Like X Y → RunF Y T f a) ∧ ∀ n ks inv, (f, n, ks, inv) ∈ G.kw → ∀ Y, Like X Y → RunFK Y T f a n ks inv
  fnx : ∀ f x, G.fn f = some x → ∀ a, X.mg x = some (.ref a) → ∀ Y, Like X Y → RunX Y T f a
  exo : ∀ c, c < Clx.n → ExcOk X.K (Clx.cls c)
  exu : ∀ c, c < Clx.n → PySem.W.subIn X.K (.ref (Clx.cls c)) (.ref (Clx.cls 0)) = some true
  exk : ∀ c c', c < Clx.n → c' < Clx.n → PySem.W.kitOne X.K (.ref (Clx.cls c)) (.ref (Clx.cls c')) = some (Nat.beq c c' || Nat.beq c' 0)
  exm : ∀ c x, (c, x) ∈ G.exn → c < Clx.n ∧ X.mg x = some (.ref (Clx.cls c))
  mve : X.mg "ValueError" = none
  exs : Clx.exs = [] ∨ (G.hot = true ∧ ∀ a oe c d, (a, oe, c, d) ∈ Clx.exs → Zx oe c d ∧ (a, oe) ∈ X.pn)
  rz : ∀ c ∈ G.raz, PySem.W.excIn X.K (Clx.cls c) veTail "ValueError.__new__" = true
  ini : ∀ c ∈ G.ini, IniC X.prog X.K (Clx.cls c)
  dpi : G.hot = false → X.A.depth + 1 < recursionLimit
/-- what is known of said(lambda: ..) -/
structure LamF (G : Sig) (T : Tab) (X : Cx) (s : Nat) (L : Lam) : Prop where
  ex : (∀ ds st, T s ds st = .bad) ∨ ∃ (k : Nat) (T1 T2 : Tab) (g c P : Addr) (pg : Arguments) (bg : List Stmt) (sg : Scope) (dV kV doc pm cdv ct oc : Value) (an od : Option Addr) (osl : Array (Option Value)) (Ng : List PySem.Str) (a : PySem.Str),
    (X.mg L.x = some (.ref g) ∧ PySem.W.keepIn X.K (.ref g) = true ∧ X.K.lookup g = some ⟨oc, od, .func (PySem.W.fnOf L.x L.x pg bg sg dV kV doc pm an cdv ct), osl⟩ ∧ PySem.W.codeIn X.K cdv L.x = true ∧
      L2.Binds X.K (PySem.W.fnOf L.x L.x pg bg sg dV kV doc pm an cdv ct) [a] [] ∧ FnScope Ng [a] sg ∧ Ng[0]? = some a ∧ Vis sg a ∧ nmB a = true) ∧
    LamX.GivesTo X Ng L.x sg g cdv bg a (X.env.qual ++ "<lambda>") (TSaid T1 L.k) ∧
    (LamX.TabB X.base X.mg c P ∧ X.env.code = .ref c ∧ (P, X.env.qual ++ "<lambda>") ∈ Clx.tabs ∧ (∀ p ∈ Clx.tabs, p.1 = P → p.2 = X.env.qual ++ "<lambda>") ∧ Room (k + 2) X.A) ∧
    (∀ Y : Cx, Y.prog = X.prog → Y.w = X.w → Y.K = X.K → Y.mg = X.mg → Y.base = X.base → Room k Y.A → Y.calm = true → Y.N.Nodup → Gb G.bare T2 Y ∧
      ∀ y, G.fn L.f = some y → ∃ a', X.mg y = some (.ref a') ∧ PySem.W.keepIn X.K (.ref a') = true ∧ RunX Y T2 L.f a') ∧
    (∀ ds st Q, RO (T s ds st) Q → RX (T1 L.s2 ds st) (fun d st' => ∃ z, reprD d = some z ∧ Q z st') (fun c as st' => RO (T1 L.k [.exn c as] []) fun w _ => ∃ z, w = .str z ∧ lenOk (2 + z.length) = true ∧ Q (.str ("! " ++ z)) st')) ∧
    (∀ ds st Q Z, ds.length = L.is.length → RX (T1 L.s2 ds st) Q Z → RX (lamB T2 L (plcE L.n L.is (ds.map .v)) st) Q Z)
structure Gc (G : Sig) (T : Tab) (X : Cx) : Prop extends Gb G T X where
  lam : ∀ s L, (s, L) ∈ G.lam → LamF G T X s L
theorem Gb.ren {G : Sig} {T : Tab} {X Y : Cx} (g : Gb G T X) (L : Like X Y) (hc : G.hot = false → Y.calm = true) (hN : Y.N.Nodup) (he : Clx.exs = [] ∨ (G.hot = true ∧ ∀ a oe c d, (a, oe, c, d) ∈ Clx.exs → Zx oe c d ∧ (a, oe) ∈ Y.pn)) : Gb G T Y := by
  obtain ⟨l1, l2, l3, l4, l5, l6⟩ := L
  refine ⟨hc, hN, by rw [l6]; exact g.un, by rw [l6]; exact g.gd, by rw [l4]; exact g.blt, by rw [l4]; exact g.con, fun f x h => ?_, fun f x h a ha Z L => ?_, by rw [l3]; exact g.exo, by rw [l3]; exact g.exu, by rw [l3]; exact g.exk, by rw [l4]; exact g.exm, by rw [l4]; exact g.mve, he, by rw [l3]; exact g.rz, by rw [l1, l3]; exact g.ini, by rw [l6]; exact g.dpi⟩
  · obtain ⟨a, h1, h2, h3, h4⟩ := g.fns f x h
    have lk : ∀ {Z : Cx}, Like Y Z → Like X Z := fun L => ⟨L.prog.trans l1, L.w.trans l2, L.K.trans l3, L.mg.trans l4, L.base.trans l5, L.A.trans l6⟩
    exact ⟨a, by rw [l4]; exact h1, by rw [l3]; exact h2, fun Z L => h3 Z (lk L), fun n ks inv hk Z L => h4 n ks inv hk Z (lk L)⟩
  · exact g.fnx f x h a (by rw [l4] at ha; exact ha) Z ⟨L.prog.trans l1, L.w.trans l2, L.K.trans l3, L.mg.trans l4, L.base.trans l5, L.A.trans l6⟩
theorem LamF.blk {G : Sig} {T : Tab} {X : Cx} {n : Nat} {L : Lam} (h : LamF G T X n L) (s : Shared) (H : Hp) (scope : Scope) (cenv : PySem.Env) (fp : List Addr) (hq : cenv.qual = X.env.qual) (hc : cenv.code = X.env.code) : LamF G T (X.blk s H scope cenv fp) n L := by
  rcases h.ex with h | ⟨k, T1, T2, g, c, P, pg, bg, sg, dV, kV, doc, pm, cdv, ct, oc, an, od, osl, Ng, a, h1, h2, ⟨h3, h4, h5, h6, h7⟩, h8, h9, h10⟩
  · exact ⟨.inl h⟩
  refine ⟨.inr ⟨k, T1, T2, g, c, P, pg, bg, sg, dV, kV, doc, pm, cdv, ct, oc, an, od, osl, Ng, a, h1, ?_, ⟨h3, ?_, ?_, ?_, h7⟩, h8, h9, h10⟩⟩
  · show LamX.GivesTo _ Ng L.x sg g cdv bg a (cenv.qual ++ "<lambda>") _
    rw [hq]
    exact h2
  · show cenv.code = _
    rw [hc]; exact h4
  · show (P, cenv.qual ++ "<lambda>") ∈ _
    rw [hq]; exact h5
  · intro p hp e
    show p.2 = cenv.qual ++ "<lambda>"
    rw [hq]; exact h6 p hp e
theorem Gc.blk {G : Sig} {T : Tab} {X : Cx} (g : Gc G T X) (hh : G.hot = false) (s : Shared) (H : Hp) (scope : Scope) (cenv : PySem.Env) (fp : List Addr) (hq : cenv.qual = X.env.qual := by rfl) (hc : cenv.code = X.env.code := by rfl) : Gc G T (X.blk s H scope cenv fp) :=
  ⟨g.toGb.ren ⟨rfl, rfl, rfl, rfl, rfl, rfl⟩ g.calm g.nd (g.exs.imp (fun z => z) fun z => by rw [hh] at z; cases z.1), fun n L h => (g.lam n L h).blk s H scope cenv fp hq hc⟩

section
variable {X : Cx} {sc : Scope} {x : PySem.Str}
theorem vis_of (h : visB sc x = true) : Vis sc x := by
  unfold visB at h
  unfold Vis
  split at h <;> first | (cases h; done) | skip
  · rename_i e; exact .inl e
  · rename_i e; exact .inr (.inl e)
  · rename_i e; exact .inr (.inr e)
theorem loc_of (h : locB sc x = true) : L2.Loc sc x := by
  unfold locB at h
  unfold L2.Loc
  split at h <;> first | (cases h; done) | skip
  · rename_i e; exact .inl e
  · rename_i e; exact .inr e
theorem gl_of (h : glB X.env.scope x = true) : Gl X x := of_decide_eq_true (p := X.env.scope.names.lookup x = some .globalImplicit) h
theorem nm_of (h : nmB x = true) : (x == ("__debug__" : PySem.Str)) = false ∧ (x == ("__classdict__" : PySem.Str)) = false := by
  unfold nmB at h
  simpa using h
theorem star_cons {e : Expr} {es : List Expr} {env : PySem.Env} (h : noSt e = true) : starEach (e :: es) env = (false, eval e env) :: starEach es env := by
  cases e <;> first | rfl | (cases h; done)
theorem noStar_any {f : E → Expr → Bool} {pos : Pos} {env : PySem.Env} : ∀ {es : List E} {ps : List Expr}, chkL f es ps = true → (backTo pos (starEach ps env)).any (·.1) = false
  | [], [], _ => rfl
  | [], _ :: _, h => by cases h
  | _ :: _, [], h => by cases h
  | e :: es, p :: ps, h => by
    have h' : (noSt p && f e p && chkL f es ps) = true := h
    rw [Bool.and_eq_true, Bool.and_eq_true] at h'
    rw [star_cons h'.1.1]
    have ih := noStar_any (pos := pos) (env := env) h'.2
    unfold backTo at ih ⊢
    rw [List.map_cons, List.any_cons, ih]; rfl
end
end LB
/-! LB8: soundness of expressions, construct by construct. -/
namespace LB
open PySem PySem.Spec PyProof.Rows L2
variable [Clx]

theorem tru_of {K : PySem.W.Frag} {H : Hp} {F : List Addr} {d : D} {x : V} {k : Bool} (r : Pk H F d x) (h : truth d = some k) : TruV K x H k := by
  cases d <;> first | (simp only [truth, reduceCtorEq] at h; done) | skip
  · cases nonV r; cases h; rfl
  · cases blV r; cases h; rfl
  · cases intV r; cases h; rfl
  · cases h
    obtain ⟨a, xs, rfl, q, t, t'⟩ := tupV (K := K) r
    exact .inr (.inl ⟨xs, t', by cases q <;> rfl⟩)
  · cases h
    obtain ⟨a, xs, rfl, q, t⟩ := listV (K := K) r
    exact .inl ⟨xs, t, by cases q <;> rfl⟩

section
variable {X : Cx} {G : Sig} {T : Tab} {m : Md}
/-- for m = v, p: what is given as it is -/
def vp : Md → Prop
  | .v => True
  | .p => True
  | _ => False
theorem post_vp {m : Md} {d : D} {st : Store} {Q : D → Store → Prop} (hm : vp m) (h : RO (post m d st) Q) : Q d st := by
  cases m <;> first | exact h | exact hm.elim
theorem OVp {m : Md} {H0 H' : Hp} {F' : List Addr} {d : D} {x : V} (h : Rp H' F' d x) : OV false m H0 H' F' d x := RV.of h
/-- the end: a value that is given on the spot -/
theorem fin_v {H0 H1 : Hp} {F0 F1 : List Addr} {st1 : Store} {d : D} {x : V} {b : Bool} {Q : VK} (hb : b = false)
    (k : (b = true → isSeq d) ∧ ∀ x H' F', Stp H0 F0 H' F' → SR H' F' st1 → OV b m H0 H' F' d x → Q x H') (a : Stp H0 F0 H1 F1) (s : SR H1 F1 st1) (r : Rp H1 F1 d x) : Q x H1 := by
  subst hb
  exact k.2 x H1 F1 a s (OVp r)
/-- .. by an operation that gives a new thing or a value -/
theorem fin_d {H0 H1 : Hp} {F0 F1 : List Addr} {st1 : Store} {d : D} {b : Bool} {Q : VK} (hb : b = true → m = .v)
    (k : (b = true → isSeq d) ∧ ∀ x H' F', Stp H0 F0 H' F' → SR H' F' st1 → OV b m H0 H' F' d x → Q x H') (a : Stp H0 F0 H1 F1) (s : SR H1 F1 st1) : Gd b H1 F1 st1 d Q := by
  cases b with
  | false => exact fun v H' a' s' r' => k.2 v H' F1 (a.trans a') s' (OVp r')
  | true =>
    refine fun p H' hp a' s' w => k.2 (.ref p) H' F1 (a.trans a') s' ?_
    exact ⟨p, rfl, a.nw s (.of hp), w, s.notNew hp⟩
theorem pe_lit {d : D} {c : Const} {k : Nat} {pos : Pos} (hm : vp m) (h : cstB d c = true) : PE X (.Constant c k pos) (tE T false m (.lit d)) := by
  have go : ∀ {v : V}, (∀ H F, Rp H F d v) → PE X (.Constant c k pos) (tC v) → PE X (.Constant c k pos) (tE T false m (.lit d)) := fun {v} hr hp => PE.imp hp fun σ H Q q => by
    obtain ⟨G, env, F, st, s, r, q⟩ := q
    exact fin_v rfl (post_vp hm (show RO (post m d st) _ from q)) Stp.refl s (hr H F)
  cases d <;> cases c <;> first | (cases h; done) | skip
  · exact go (v := .non) (fun _ _ => .non) pe_non
  · rename_i a b
    have e : a = b := by simpa [cstB] using h
    subst e
    exact go (fun _ _ => .bl a) pe_bl
  · rename_i a b
    have e : a = b := by simpa [cstB] using h
    subst e
    exact go (fun _ _ => .int a) pe_int
  · rename_i a b
    have e : a = b := by simpa [cstB] using h
    subst e
    exact go (fun _ _ => .str a) pe_str
theorem slot_v {env : Env} {i : Nat} {d : D} {σ : L2.St} {G0 H : Hp} {F : List Addr} (hm : vp m) (r : ER G0 σ H F env) (h : slot env i m = some d) : ∃ x, σ[i]? = some (some x) ∧ OV false m H H F d x := by
  cases m <;> first | exact hm.elim | skip
  · have h' : (match env[i]? with | some (.v d) => some d | _ => none) = some d := h
    split at h' <;> cases h'
    rename_i e
    obtain ⟨x, e1, e2⟩ := r.val i d e
    exact ⟨x, e1, OVp e2⟩
  · have h' : (match env[i]? with | some (.v d) => some d | some (.o d) => some d | _ => none) = some d := h
    split at h' <;> cases h'
    · rename_i e
      obtain ⟨x, e1, e2⟩ := r.val i d e
      exact ⟨x, e1, OVp e2⟩
    · rename_i e
      obtain ⟨a, e1, e2, e3, _⟩ := r.own i d e
      exact ⟨_, e1, .inr ⟨a, rfl, e2, e3⟩⟩
theorem pe_varE {i : Nat} {x : PySem.Str} {pos : Pos} (hm : vp m) (hN : X.N[i]? = some x) (hv : visB X.env.scope x = true) (hn : nmB x = true) : PE X (.Name x pos) (tE T false m (.var i)) := by
  refine PE.imp (pe_var hN (vis_of hv) (nm_of hn).1 (nm_of hn).2) fun σ H Q q => ?_
  obtain ⟨G, env, F, st, s, r, q⟩ := q
  have q : RO ((Res.opt (slot env i m) st).bind (post m)) _ := q
  obtain ⟨d, e, q⟩ := RO_opt (RO_bind q)
  obtain ⟨x, e1, e2⟩ := slot_v hm r e
  exact ⟨x, e1, (post_vp hm q).2 x H F Stp.refl s e2⟩
theorem pe_conE {d : D} {x : PySem.Str} {pos : Pos} (g : Gc G T X) (hm : vp m) (hg : glB X.env.scope x = true) (hn : nmB x = true) (hc : (G.con.any fun q => decide (q.1 = x) && eqD' q.2 d) = true) : PE X (.Name x pos) (tE T false m (.con x d)) := by
  obtain ⟨⟨y, d'⟩, h1, h2⟩ := List.any_eq_true.mp hc
  simp only [Bool.and_eq_true, decide_eq_true_eq] at h2
  obtain ⟨rfl, h3⟩ := h2
  obtain ⟨c1, c2⟩ := g.con _ _ h1
  have go : ∀ {v : V} {u : Value}, X.mg y = some u → RelV v u → (∀ H F, Rp H F d v) → PE X (.Name y pos) (tE T false m (.con y d)) := fun {v u} e rv hr => PE.imp (pe_glob (gl_of hg) e rv (nm_of hn).1) fun σ H Q q => by
    obtain ⟨G, env, F, st, s, r, q⟩ := q
    exact fin_v rfl (post_vp hm (show RO (post m d st) _ from q)) Stp.refl s (hr H F)
  cases d' <;> cases d <;> first | (cases h3; done) | skip
  · rename_i i j
    have e : i = j := by simpa [eqD'] using h3
    subst e
    obtain ⟨t, e⟩ := c1 i rfl
    exact go (v := .int i) e ⟨t, rfl⟩ fun _ _ => .int i
  · rename_i i j
    have e : i = j := by simpa [eqD'] using h3
    subst e
    obtain ⟨t, e⟩ := c2 i rfl
    exact go (v := .str i) e ⟨t, rfl⟩ fun _ _ => .str i
/-! arguments -/
theorem evL_cons {e : E} {es : List E} {env : Env} {st : Store} (h : ∀ a, e ≠ .star a) : evL T (e :: es) env st = (evE T e .v env st).bind fun x st1 => (evL T es env st1).bind fun r st2 => .ok (x :: r) st2 := by
  cases e <;> first | rfl | exact absurd rfl (h _)
theorem pa_E {f : E → Expr → Bool} (hf : ∀ e p, f e p = true → PE X p (tE T false .v e)) (hs : ∀ a p, f (.star a) p = false) : ∀ {es : List E} {ps : List Expr}, chkL f es ps = true → PA X ps (tA T es)
  | [], [], _ => PA.imp pa_nil fun σ H Q q => by
    obtain ⟨G, env, F, st, s, r, q⟩ := q
    exact q [] H F Stp.refl s .nil
  | [], _ :: _, h => by cases h
  | _ :: _, [], h => by cases h
  | e :: es, p :: ps, h => by
    have h' : (noSt p && f e p && chkL f es ps) = true := h
    rw [Bool.and_eq_true, Bool.and_eq_true] at h'
    refine PA.imp (pa_cons (hf e p h'.1.2) (pa_E hf hs h'.2) (star_cons h'.1.1)) fun σ H Q q => ?_
    obtain ⟨G, env, F, st, s, r, q⟩ := q
    rw [evL_cons (fun a z => by rw [z, hs] at h'; cases h'.1.2)] at q
    refine tE_go s r (RO_bind q) fun d st1 x H1 F1 k a1 s1 r1 v1 => tA_go s1 r1 (RO_bind k) fun ds st2 xs H2 F2 k2 a2 s2 r2 v2 => ?_
    exact k2 _ H2 F2 (a1.trans a2) s2 (.cons (Rp.mono (a2.keeps s1) v1) v2)
theorem pa_B {f : E → Expr → Bool} (hf : ∀ e p, f e p = true → PE X p (tE T false .p e)) : ∀ {es : List E} {ps : List Expr}, chkL f es ps = true → PA X ps (tB T es)
  | [], [], _ => PA.imp pa_nil fun σ H Q q => by
    obtain ⟨G, env, F, st, s, r, q⟩ := q
    exact q [] H F Stp.refl s .nil
  | [], _ :: _, h => by cases h
  | _ :: _, [], h => by cases h
  | e :: es, p :: ps, h => by
    have h' : (noSt p && f e p && chkL f es ps) = true := h
    rw [Bool.and_eq_true, Bool.and_eq_true] at h'
    refine PA.imp (pa_cons (hf e p h'.1.2) (pa_B hf h'.2) (star_cons h'.1.1)) fun σ H Q q => ?_
    obtain ⟨G, env, F, st, s, r, q⟩ := q
    refine tE_go s r (RO_bind q) fun d st1 x H1 F1 k a1 s1 r1 v1 => tB_go s1 r1 (RO_bind k) fun ds st2 xs H2 F2 k2 a2 s2 r2 v2 => ?_
    exact k2 _ H2 F2 (a1.trans a2) s2 (.cons (Pk.step s1 a2 v1) v2)
/-! displays -/
theorem lenOk_ite {n : Nat} {α : Type} {r : Res α} {Q : α → Store → Prop} (h : RO (if lenOk n = true then r else .bad) Q) : lenOk n = true ∧ RO r Q := by
  by_cases q : lenOk n = true
  · rw [if_pos q] at h; exact ⟨q, h⟩
  · rw [if_neg q] at h; exact h.elim
theorem pe_tupE {es : List E} {ps : List Expr} {k : Nat} {pos : Pos} (hm : vp m) (ha : PA X ps (tA T es)) : PE X (.Tuple ps k pos) (tE T false m (.tup es)) := by
  refine PE.imp (pe_tup ha) fun σ H Q q => ?_
  obtain ⟨G, env, F, st, s, r, q⟩ := q
  refine tA_go s r (RO_bind q) fun ds st1 xs H1 F1 k a1 s1 r1 v1 => ?_
  obtain ⟨hl, k⟩ := lenOk_ite k
  have k := post_vp hm k
  refine ⟨by rw [← v1.length]; exact sz_ok hl, fun p hp => fin_v rfl k (a1.trans (Stp.laid s1 hp)) (s1.laid hp) (.tup upd_same (v1.mono (keeps_new hp)))⟩
/-- a reading that gives a new thing, locked -/
theorem PE.lockE {p : Expr} {e : E} (h : PE X p (tE T true .v e)) (hseq : ∀ env st, RO (evE T e .v env st) (fun _ _ => True) → RO (evE T e .v env st) fun d _ => isSeq d) (hmm : ∀ env st, evE T e m env st = evE T e .v env st) : PE X p (tE T false m e) := by
  refine ⟨fun pins s σ H Q I q => ?_⟩
  obtain ⟨G, env, F, st, sr, r, q⟩ := q
  rw [hmm] at q
  have hs := hseq env st (RO_mono q fun _ _ _ => trivial)
  refine thn (h.run pins s σ H (fun x H' => ∃ d st' F' p, x = .ref p ∧ Stp H F H' F' ∧ SR H' F' st' ∧ Ow H' F' d p ∧ p ∉ F' ∧ Nw H p ∧ ∀ x H' F', Stp H F H' F' → SR H' F' st' → Rp H' F' d x → Q x H') I
    ⟨G, env, F, st, sr, r, ?_⟩) fun u s' hu => ?_
  · cases e1 : evE T e .v env st with
    | ok d st' =>
      rw [e1] at q hs
      refine ⟨fun _ => hs, fun x H' F' a s' o => ?_⟩
      obtain ⟨p, rfl, hp, w, nf⟩ := (show ∃ p, x = .ref p ∧ Nw H p ∧ Ow H' F' d p ∧ p ∉ F' from o)
      exact ⟨d, st', F', p, rfl, a, s', w, nf, hp, fun x H' F' a s' o => q.2 x H' F' a s' (OVp o)⟩
    | exc => rw [e1] at q; exact q
    | bad => rw [e1] at q; exact q
  · obtain ⟨x, H', I', rx, d, st', F', p, rfl, a, s', w, nf, hp, k⟩ := hu
    cases rx
    obtain ⟨u, hu, mu, t1, t2⟩ := w.at
    obtain ⟨o, J⟩ := I'.lock hu mu
    have kp : Kps H' F' (upd H' p (.frz o u)) F' := keeps_upd hu t1 t2
    refine ⟨.ref p, upd H' p (.frz o u), J, rfl, k _ _ F' (a.updN hu t2 hp) (s'.other hu t1 t2 nf) ?_⟩
    · cases w with
      | lst h r => rw [h] at hu; cases hu; exact .lst upd_same (r.mono kp)
      | dK h r => rw [h] at hu; cases hu; exact .dK upd_same (r.mono kp)
      | dT h r => rw [h] at hu; cases hu; exact .dT upd_same (r.mono kp)
theorem pe_lstF {es : List E} {ps : List Expr} {pos : Pos} (ha : PA X ps (tA T es)) : PE X (.List ps pos) (tE T true .v (.lst es)) := by
  refine PE.imp (pe_lst ha) fun σ H Q q => ?_
  obtain ⟨G, env, F, st, s, r, q⟩ := q
  refine tA_go s r (RO_bind q) fun ds st1 xs H1 F1 k a1 s1 r1 v1 => ?_
  obtain ⟨hl, k⟩ := lenOk_ite k
  have k := post_vp (m := .v) trivial k
  refine ⟨by rw [← v1.length]; exact sz_ok hl, fun p hp => fin_d (b := true) (m := .v) (fun _ => rfl) k a1 s1 p _ hp (Stp.laid s1 hp) (s1.laid hp) (.lst upd_same (v1.mono (keeps_new hp)))⟩
/-! operators -/
theorem pe_opE {o : Op2} {a b : E} {pa pb : Expr} {op : Operator} {pos : Pos} {fr : Bool} (hm : vp m) (hfr : fr = true → m = .v) (ho : opB o op = true) (ha : PE X pa (tE T false .p a)) (hb : PE X pb (tE T false .p b))
    : PE X (.BinOp pa op pb pos) (tE T fr m (.op o a b)) := by
  have e : op = opOf o := by cases o <;> cases op <;> first | rfl | (cases ho; done)
  subst e
  refine PE.imp (pe_op (op_rOp (b := fr) o) ha hb) fun σ H Q q => ?_
  obtain ⟨G, env, F, st, s, r, q⟩ := q
  refine tE_go s r (RO_bind q) fun d st1 x H1 F1 k a1 s1 r1 v1 => tE_go s1 r1 (RO_bind k) fun d2 st2 y H2 F2 k2 a2 s2 r2 v2 => ?_
  obtain ⟨z, hz, k3⟩ := RO_opt (RO_bind k2)
  have k3 := post_vp hm k3
  exact ⟨F2, st2, d, d2, z, s2, Pk.step s1 a2 v1, v2, hz, fin_d hfr k3 (a1.trans a2) s2, k3.1⟩
theorem int_neg_bool (a : Bool) : Gives (Builtin.«int.__neg__» ⟨[.bool a], []⟩) (.int (-(if a = true then (1 : Int) else 0))) :=
  .of_wp fun M A E s Q h => by obtain ⟨hp, g, d, tk, os⟩ := s; wp_walk; exact ⟨_, rfl, h⟩
def rNeg : V → Hp → VK → Prop := fun x H Q => (∃ i, x = .int i ∧ Q (.int (-i)) H) ∨ ∃ b, x = .bl b ∧ Q (.int (-(if b then 1 else 0))) H
theorem un_negB {X : Cx} : UnR X (unaryOp .USub) rNeg := by
  intro pins s σ H x v Q I rx h
  rcases h with ⟨i, rfl, q⟩ | ⟨b, rfl, q⟩
  · exact un_neg pins s σ H _ v Q I rx ⟨i, rfl, q⟩
  · cases rx
    exact unaryOp_gives (op := .USub) rfl rfl PySem.F.slot_bool_neg PySem.F.entry_int_neg (PySem.F.args_int_neg_1 _) (int_neg_bool b) ⟨.int _, H, I.tok _, ⟨_, rfl⟩, q⟩
theorem pe_negE {a : E} {pa : Expr} {pos : Pos} (hm : vp m) (ha : PE X pa (tE T false .v a)) : PE X (.UnaryOp .USub pa pos) (tE T false m (.neg a)) := by
  refine PE.imp (pe_un un_negB ha) fun σ H Q q => ?_
  obtain ⟨G, env, F, st, s, r, q⟩ := q
  refine tE_go s r (RO_bind q) fun d st1 x H1 F1 k a1 s1 r1 v1 => ?_
  cases d <;> first | exact k.elim | skip
  · cases v1
    exact .inr ⟨_, rfl, fin_v rfl (post_vp hm k) a1 s1 (.int _)⟩
  · cases v1
    exact .inl ⟨_, rfl, fin_v rfl (post_vp hm k) a1 s1 (.int _)⟩
end
end LB
/-! LB9: soundness of expressions: comparisons, and, or, not, items, calls. -/
namespace LB
open PySem PySem.Spec PyProof.Rows L2
variable [Clx]
section
variable {X : Cx} {G : Sig} {T : Tab} {m : Md}

theorem cm_eq {c : Cm} {op : CmpOp} (h : cmB c op = true) : op = cmOf c := by
  cases c <;> cases op <;> first | rfl | (cases h; done)
theorem nobeh {op : CmpOp} {e : Expr} (h : noSet e = true) : behindInMarks op e = false := by
  cases e <;> first | rfl | (cases h; done)
theorem nonK {c : Cm} {b : E} {env : Env} {st : Store} {K : D → Store → Prop} (hn : (c = .isN ∨ c = .notN) → b = .lit .non) (h : RO (evE T b .p env st) K) : RO (evE T b .p env st) fun d st1 => K d st1 ∧ ((c = .isN ∨ c = .notN) → d = .non) := by
  by_cases hq : c = .isN ∨ c = .notN
  · have e := hn hq
    subst e
    exact ⟨h, fun _ => rfl⟩
  · exact RO_mono h fun d st1 hk => ⟨hk, fun z => absurd z hq⟩
theorem nonKv {c : Cm} {b : E} {env : Env} {st : Store} {K : D → Store → Prop} (hn : (c = .isN ∨ c = .notN) → b = .lit .non) (h : RO (evE T b .v env st) K) : RO (evE T b .v env st) fun d st1 => K d st1 ∧ ((c = .isN ∨ c = .notN) → d = .non) := by
  by_cases hq : c = .isN ∨ c = .notN
  · have e := hn hq
    subst e
    exact ⟨h, fun _ => rfl⟩
  · exact RO_mono h fun d st1 hk => ⟨hk, fun z => absurd z hq⟩
theorem map_bl {o : Option Bool} {z : D} (h : o.map D.bl = some z) : ∃ b, o = some b ∧ z = .bl b := by
  cases o with
  | none => cases h
  | some b => cases h; exact ⟨b, rfl, rfl⟩
theorem pe_cmpE {c : Cm} {a b : E} {pa pb : Expr} {op : CmpOp} {pos : Pos} (g : Gc G T X) (hm : vp m) (hc : cmB c op = true) (hs : noSet pb = true) (ha : PE X pa (tE T false .p a)) (hb : PE X pb (tE T false .p b))
    (hn : (c = .isN ∨ c = .notN) → b = .lit .non) : PE X (.Compare pa [op] [pb] pos) (tE T false m (.cmp c a b)) := by
  have e := cm_eq hc
  subst e
  refine PE.imp (pe_cmpR (op_rCm g.un c) ha hb (nobeh hs)) fun σ H Q q => ?_
  obtain ⟨G, env, F, st, s, r, q⟩ := q
  refine tE_go s r (RO_bind q) fun d st1 x H1 F1 k a1 s1 r1 v1 => tE_go s1 r1 (nonK hn (RO_bind k)) fun d2 st2 y H2 F2 k2 a2 s2 r2 v2 => ?_
  obtain ⟨z, hz, k3⟩ := RO_opt (RO_bind k2.1)
  obtain ⟨b, e, rfl⟩ := map_bl hz
  refine ⟨F2, d, d2, b, Pk.step s1 a2 v1, v2, e, fun h => ?_, fin_v rfl (post_vp hm k3) (a1.trans a2) s2 (.bl b)⟩
  have e2 := k2.2 h
  subst e2
  exact nonV v2
theorem pt_cmpE {c : Cm} {a b : E} {pa pb : Expr} {op : CmpOp} {pos : Pos} (g : Gc G T X) (hc : cmB c op = true) (hs : noSet pb = true) (ha : PE X pa (tE T false .p a)) (hb : PE X pb (tE T false .p b))
    (hn : (c = .isN ∨ c = .notN) → b = .lit .non) : PT X (.Compare pa [op] [pb] pos) (tT T (.cmp c a b)) := by
  have e := cm_eq hc
  subst e
  refine PT.imp (pt_cmpR (op_rCm g.un c) ha hb (nobeh hs)) fun σ H Q q => ?_
  obtain ⟨G, env, F, st, s, r, q⟩ := q
  refine tE_go s r (RO_bind q) fun d st1 x H1 F1 k a1 s1 r1 v1 => tE_go s1 r1 (nonK hn (RO_bind k)) fun d2 st2 y H2 F2 k2 a2 s2 r2 v2 => ?_
  obtain ⟨z, hz, k3⟩ := RO_opt (RO_bind k2.1)
  obtain ⟨b, e, rfl⟩ := map_bl hz
  obtain ⟨k, e3, k4⟩ := (show ∃ k, D.bl b = .bl k ∧ _ from k3)
  cases e3
  refine ⟨F2, d, d2, b, Pk.step s1 a2 v1, v2, e, fun h => ?_, b, rfl, k4 H2 F2 (a1.trans a2) s2⟩
  have e2 := k2.2 h
  subst e2
  exact nonV v2
theorem eqsD_bl {x : PySem.Str} {d z : D} (h : eqsD x d = some z) : ∃ b, z = .bl b := by
  unfold eqsD at h
  split at h
  · cases h; exact ⟨false, rfl⟩
  · obtain ⟨b, _, e⟩ := Option.map_eq_some_iff.mp h
    exact ⟨b, e.symm⟩
/-- == a text that is written -/
theorem pe_eqsE {a : E} {pa : Expr} {x : PySem.Str} {k : Nat} {p pos : Pos} (g : Gc G T X) (hm : vp m) (ha : PE X pa (tE T false .p a)) : PE X (.Compare pa [.Eq] [.Constant (.str x) k p] pos) (tE T false m (.eqs a x)) := by
  have hu := g.un
  refine PE.imp (pe_cmpR (op_rEqs hu x) ha pe_str (nobeh rfl)) fun σ H Q q => ?_
  obtain ⟨G, env, F, st, s, r, q⟩ := q
  refine tE_go s r (RO_bind q) fun d st1 y H1 F1 k a1 s1 r1 v1 => ?_
  obtain ⟨z, hz, k3⟩ := RO_opt (RO_bind k)
  obtain ⟨b, rfl⟩ := eqsD_bl hz
  exact ⟨F1, d, b, v1, rfl, hz, fin_v rfl (post_vp hm k3) a1 s1 (.bl _)⟩
theorem pt_eqsE {a : E} {pa : Expr} {x : PySem.Str} {k : Nat} {p pos : Pos} (g : Gc G T X) (ha : PE X pa (tE T false .p a)) : PT X (.Compare pa [.Eq] [.Constant (.str x) k p] pos) (tT T (.eqs a x)) := by
  have hu := g.un
  refine PT.imp (pt_cmpR (op_rEqs hu x) ha pe_str (nobeh rfl)) fun σ H Q q => ?_
  obtain ⟨G, env, F, st, s, r, q⟩ := q
  refine tE_go s r (RO_bind q) fun d st1 y H1 F1 k a1 s1 r1 v1 => ?_
  obtain ⟨z, hz, k3⟩ := RO_opt (RO_bind k)
  obtain ⟨b, rfl⟩ := eqsD_bl hz
  obtain ⟨k, e3, k4⟩ := (show ∃ k, D.bl b = .bl k ∧ _ from k3)
  cases e3
  exact ⟨F1, d, b, v1, rfl, hz, b, rfl, k4 H1 F1 a1 s1⟩
theorem noMarks {op op' : CmpOp} {b c : Expr} (h : noSet c = true) : lastMarks [op, op'] [b, c] = false := nobeh h
theorem pe_chnE {c c' : Cm} {a b d : E} {pa pb pd : Expr} {op op' : CmpOp} {pos : Pos} (g : Gc G T X) (hm : vp m) (hc : cmB c op = true) (hc' : cmB c' op' = true) (hs : noSet pd = true) (ha : PE X pa (tE T false .v a)) (hb : PE X pb (tE T false .v b))
    (hd : PE X pd (tE T false .v d)) (hn : (c = .isN ∨ c = .notN) → b = .lit .non) (hn' : (c' = .isN ∨ c' = .notN) → d = .lit .non) : PE X (.Compare pa [op, op'] [pb, pd] pos) (tE T false m (.chn c c' a b d)) := by
  have e := cm_eq hc
  have e' := cm_eq hc'
  subst e e'
  refine PE.imp (pe_chain (op_rCm g.un c) (op_rCm g.un c') ha hb hd (noMarks hs)) fun σ H Q q => ?_
  obtain ⟨G, env, F, st, s, r, q⟩ := q
  refine tE_go s r (RO_bind q) fun d1 st1 x H1 F1 k a1 s1 r1 v1 => tE_go s1 r1 (nonKv hn (RO_bind k)) fun d2 st2 y H2 F2 k2 a2 s2 r2 v2 => ?_
  obtain ⟨z, hz, k3⟩ := RO_opt (RO_bind k2.1)
  refine ⟨F2, d1, d2, z, .inl (Rp.mono (a2.keeps s1) v1), .inl v2, hz, fun h => ?_, z, rfl, ?_⟩
  · have e2 := k2.2 h
    subst e2
    exact nonV (.inl v2)
  · cases z with
    | false => exact fin_v rfl (post_vp hm k3) (a1.trans a2) s2 (.bl false)
    | true =>
      refine tE_go s2 r2 (nonKv hn' (RO_bind k3)) fun d3 st3 w H3 F3 k4 a3 s3 r3 v3 => ?_
      obtain ⟨z, hz, k5⟩ := RO_opt (RO_bind k4.1)
      obtain ⟨b, e, rfl⟩ := map_bl hz
      refine ⟨F3, d2, d3, b, .inl (Rp.mono (a3.keeps s2) v2), .inl v3, e, fun h => ?_, fin_v rfl (post_vp hm k5) ((a1.trans a2).trans a3) s3 (.bl b)⟩
      have e2 := k4.2 h
      subst e2
      exact nonV (.inl v3)
theorem pt_chnE {c c' : Cm} {a b d : E} {pa pb pd : Expr} {op op' : CmpOp} {pos : Pos} (g : Gc G T X) (hc : cmB c op = true) (hc' : cmB c' op' = true) (hs : noSet pd = true) (ha : PE X pa (tE T false .v a)) (hb : PE X pb (tE T false .v b))
    (hd : PE X pd (tE T false .v d)) (hn : (c = .isN ∨ c = .notN) → b = .lit .non) (hn' : (c' = .isN ∨ c' = .notN) → d = .lit .non) : PT X (.Compare pa [op, op'] [pb, pd] pos) (tT T (.chn c c' a b d)) := by
  have e := cm_eq hc
  have e' := cm_eq hc'
  subst e e'
  refine PT.imp (pt_chain (op_rCm g.un c) (op_rCm g.un c') ha hb hd (noMarks hs)) fun σ H Q q => ?_
  obtain ⟨G, env, F, st, s, r, q⟩ := q
  refine tE_go s r (RO_bind q) fun d1 st1 x H1 F1 k a1 s1 r1 v1 => tE_go s1 r1 (nonKv hn (RO_bind k)) fun d2 st2 y H2 F2 k2 a2 s2 r2 v2 => ?_
  obtain ⟨z, hz, k3⟩ := RO_opt (RO_bind k2.1)
  refine ⟨F2, d1, d2, z, .inl (Rp.mono (a2.keeps s1) v1), .inl v2, hz, fun h => ?_, z, rfl, ?_⟩
  · have e2 := k2.2 h
    subst e2
    exact nonV (.inl v2)
  · cases z with
    | false =>
      obtain ⟨k, e3, k4⟩ := (show ∃ k, D.bl false = .bl k ∧ _ from k3)
      cases e3
      exact ⟨false, rfl, k4 H2 F2 (a1.trans a2) s2⟩
    | true =>
      refine tE_go s2 r2 (nonKv hn' (RO_bind k3)) fun d3 st3 w H3 F3 k4 a3 s3 r3 v3 => ?_
      obtain ⟨z, hz, k5⟩ := RO_opt (RO_bind k4.1)
      obtain ⟨b, e, rfl⟩ := map_bl hz
      obtain ⟨k, e3, k6⟩ := (show ∃ k, D.bl b = .bl k ∧ _ from k5)
      cases e3
      refine ⟨F3, d2, d3, b, .inl (Rp.mono (a3.keeps s2) v2), .inl v3, e, fun h => ?_, b, rfl, k6 H3 F3 ((a1.trans a2).trans a3) s3⟩
      have e2 := k4.2 h
      subst e2
      exact nonV (.inl v3)
/-! tests of values -/
theorem bind_m {α : Type} {r : Res α} {f g : α → Store → Res D} (h : ∀ a st, f a st = (g a st).bind (post m)) : r.bind f = (r.bind g).bind (post m) := by
  cases r <;> first | exact h _ _ | rfl
theorem core_m {e : E} {env : Env} {st : Store} (hm : m ≠ .p) (h : coreB e = true) : evE T e m env st = (evE T e .v env st).bind (post m) := by
  cases e <;> first | (cases h; done) | skip
  · rfl
  · have e : ∀ i, slot env i m = slot env i .v := fun i => by cases m <;> first | rfl | exact absurd rfl hm
    show (Res.opt (slot env _ m) st).bind (post m) = ((Res.opt (slot env _ .v) st).bind (post .v)).bind (post m)
    rw [e]
    exact bind_m fun _ _ => rfl
  · rfl
  · exact bind_m fun ds st1 => by split <;> rfl
  · exact bind_m fun ds st1 => by split <;> rfl
  · exact bind_m fun _ _ => bind_m fun _ _ => bind_m fun _ _ => rfl
  · exact bind_m fun d st1 => by cases d <;> rfl
  · exact bind_m fun _ _ => bind_m fun _ _ => bind_m fun _ _ => rfl
  · exact bind_m fun _ _ => bind_m fun _ _ => bind_m fun k _ => by
      cases k
      · rfl
      · exact bind_m fun _ _ => bind_m fun _ _ => rfl
  · exact bind_m fun _ _ => bind_m fun _ _ => bind_m fun _ _ => rfl
  · exact bind_m fun _ _ => bind_m fun _ _ => bind_m fun _ _ => by
      split
      · exact bind_m fun _ _ => rfl
      · rfl
  · exact bind_m fun _ _ => bind_m fun _ _ => rfl
  · exact bind_m fun _ _ => bind_m fun _ _ => rfl
  · exact bind_m fun _ _ => bind_m fun _ _ => rfl
  · refine bind_m fun x _ => bind_m fun y _ => ?_
    cases x <;> cases y <;> first | rfl | skip
    rename_i l k
    show (match toBls l with | some bs => post m (.int (bs.count k)) _ | none => .bad) = ((match toBls l with | some bs => post .v (.int (bs.count k)) _ | none => .bad) : Res D).bind (post m)
    cases toBls l <;> rfl
  · refine bind_m fun x _ => ?_
    cases x <;> first | rfl | skip
    exact bind_m fun r st2 => by split <;> rfl
  · exact bind_m fun _ _ => bind_m fun _ _ => bind_m fun _ _ => bind_m fun _ _ => rfl
  · exact bind_m fun _ _ => bind_m fun _ _ => bind_m fun _ _ => rfl
  · rfl
  · exact bind_m fun _ _ => bind_m fun _ _ => by split <;> rfl
  · refine bind_m fun x _ => ?_
    cases x <;> first | rfl | skip
    exact bind_m fun r st2 => by split <;> rfl
  · exact bind_m fun _ _ => bind_m fun _ _ => bind_m fun _ _ => bind_m fun _ _ => rfl
  · refine bind_m fun x _ => bind_m fun y st2 => ?_
    cases x <;> cases y <;> first | rfl | skip
    rename_i i j
    show (if (mid i && mid j && lenOk (j - i).toNat) = true then post m (.lst (upto i (j - i).toNat)) st2 else .bad) = ((if (mid i && mid j && lenOk (j - i).toNat) = true then post .v (.lst (upto i (j - i).toNat)) st2 else .bad) : Res D).bind (post m)
    split <;> rfl
  · exact bind_m fun _ _ => bind_m fun _ _ => rfl
  · exact bind_m fun _ _ => bind_m fun _ _ => rfl
  · refine bind_m fun x _ => ?_
    cases x <;> first | rfl | skip
    rename_i t ks vs
    cases t
    · rfl
    · show (if lenOk vs.length = true then post m (.lst vs) _ else .bad) = ((if lenOk vs.length = true then post .v (.lst vs) _ else .bad) : Res D).bind (post m)
      split <;> rfl
  · exact bind_m fun _ _ => bind_m fun _ _ => rfl
  · exact bind_m fun _ _ => bind_m fun _ _ => rfl
  · refine bind_m fun x st1 => ?_
    cases x <;> first | rfl | skip
    rename_i j
    show (if (mid j && lenOk j.toNat) = true then post m (.tup (upto 0 j.toNat)) st1 else .bad) = ((if (mid j && lenOk j.toNat) = true then post .v (.tup (upto 0 j.toNat)) st1 else .bad) : Res D).bind (post m)
    split <;> rfl
  · refine bind_m fun x st1 => bind_m fun y st2 => bind_m fun z st3 => ?_
    cases x <;> cases y <;> cases z <;> first | rfl | skip
    rename_i k l n
    show (if lenOk k.length = true then post m (.lst (trips k l n)) st3 else .bad) = ((if lenOk k.length = true then post .v (.lst (trips k l n)) st3 else .bad) : Res D).bind (post m)
    split <;> rfl
  · exact bind_m fun _ _ => bind_m fun _ _ => bind_m fun _ _ => rfl
  · exact bind_m fun _ _ => bind_m fun _ _ => bind_m fun _ _ => rfl
  · exact bind_m fun _ _ => bind_m fun _ _ => rfl
  · exact bind_m fun _ _ => bind_m fun _ _ => rfl
/-- how a plain expression is tested -/
def plainT : Expr → Bool
  | .UnaryOp .Not _ _ => false
  | .BoolOp _ _ _ => false
  | .IfExp _ _ _ _ => false
  | .Compare _ _ _ _ => false
  | _ => true
theorem isTrue_of {p : Expr} (h : plainT p = true) : ∀ whole, isTrue p X.env whole = (do let v ← whole; standAt p.pos; holding [v] (truthy v)) := by
  intro whole
  cases p <;> first | rfl | (cases h; done) | skip
  rename_i o a q
  cases o <;> first | rfl | (cases h; done)
theorem pt_core {e : E} {p : Expr} (h : coreB e = true) (hp : plainT p = true) (he : PE X p (tE T false .v e)) : PT X p (tT T e) := by
  refine PT.imp (pt_truth he (isTrue_of hp)) fun σ H Q q => ?_
  obtain ⟨G, env, F, st, s, r, q⟩ := q
  rw [core_m (m := .t) (fun z => nomatch z) h] at q
  refine tE_go s r (RO_bind q) fun d st1 x H1 F1 k a1 s1 r1 v1 => ?_
  obtain ⟨z, hz, k, e3, k4⟩ := RO_opt k
  obtain ⟨b, e', rfl⟩ := map_bl hz
  cases e3
  exact ⟨_, tru_of (.inl v1) e', k4 H1 F1 a1 s1⟩
/-! not -/
theorem pe_noE {a : E} {pa : Expr} {pos : Pos} (hm : vp m) (ha : PE X pa (tE T false .v a)) : PE X (.UnaryOp .Not pa pos) (tE T false m (.no a)) := by
  refine PE.imp (pe_notT ha) fun σ H Q q => ?_
  obtain ⟨G, env, F, st, s, r, q⟩ := q
  have q : RO ((evE T a .v env st).bind fun d st1 => (Res.opt (truth d) st1).bind fun k st2 => post m (.bl (!k)) st2) (fun d st' => (false = true → isSeq d) ∧ ∀ x H' F', Stp H F H' F' → SR H' F' st' → OV false m H H' F' d x → Q x H') := by
    cases m <;> first | exact q | exact hm.elim
  refine tE_go s r (RO_bind q) fun d st1 x H1 F1 k a1 s1 r1 v1 => ?_
  obtain ⟨z, hz, k⟩ := RO_opt (RO_bind k)
  exact ⟨z, tru_of (.inl v1) hz, fin_v rfl (post_vp hm k) a1 s1 (.bl _)⟩
theorem pt_noE {a : E} {pa : Expr} {pos : Pos} (ha : PT X pa (tT T a)) (hb : ∀ env st K, RO (evE T a .t env st) K → RO (evE T a .t env st) fun d st1 => K d st1 ∧ ∃ k, d = .bl k) : PT X (.UnaryOp .Not pa pos) (tT T (.no a)) := by
  refine PT.imp (pt_not ha) fun σ H Q q => ?_
  obtain ⟨G, env, F, st, s, r, q⟩ := q
  refine tT_go s r (hb env st _ (RO_bind q)) (fun d st1 h => h.2) fun d st1 H1 F1 k a1 s1 r1 => ?_
  obtain ⟨z, hz, k⟩ := RO_opt (RO_bind k.1)
  cases hz
  obtain ⟨k, e3, k4⟩ := (show ∃ k, D.bl (!d) = .bl k ∧ _ from k)
  cases e3
  exact k4 H1 F1 a1 s1
/-- a test gives a truth -/
def TB (T : Tab) (e : E) : Prop := ∀ env st K, RO (evE T e .t env st) K → RO (evE T e .t env st) fun d st1 => K d st1 ∧ ∃ k, d = .bl k
theorem RO_and {α : Type} {r : Res α} {P Q : α → Store → Prop} (h : RO r P) (h' : RO r Q) : RO r fun a st => P a st ∧ Q a st := by
  cases r with
  | ok a st => exact ⟨h, h'⟩
  | exc => exact h
  | bad => exact h
theorem RO_of_bind {α β : Type} {r : Res α} {f : α → Store → Res β} {Q : β → Store → Prop} (h : RO r fun a st => RO (f a st) Q) : RO (r.bind f) Q := by
  cases r <;> exact h
theorem RO_of_opt {α : Type} {o : Option α} {st : Store} {Q : α → Store → Prop} (h : ∀ a, o = some a → Q a st) (h' : ∃ a, o = some a) : RO (Res.opt o st) Q := by
  obtain ⟨a, rfl⟩ := h'
  exact h a rfl
theorem tb_core {e : E} (h : coreB e = true) : TB T e := fun env st K q => by
  refine RO_and q ?_
  rw [core_m (m := .t) (fun z => nomatch z) h] at q ⊢
  refine RO_of_bind (RO_mono (RO_bind q) fun d st1 k => ?_)
  obtain ⟨z, hz, k⟩ := RO_opt k
  obtain ⟨b, e', rfl⟩ := map_bl hz
  show RO (Res.opt ((truth d).map D.bl) st1) _
  rw [e']
  exact ⟨b, rfl⟩
theorem tb_no {a : E} : TB T (.no a) := fun env st K q => by
  refine RO_and q ?_
  have q : RO ((evE T a .t env st).bind fun d st1 => (Res.opt (truth d) st1).bind fun k st2 => post .t (.bl (!k)) st2) K := q
  show RO ((evE T a .t env st).bind fun d st1 => (Res.opt (truth d) st1).bind fun k st2 => post .t (.bl (!k)) st2) _
  refine RO_of_bind (RO_mono (RO_bind q) fun d st1 k => RO_of_bind (RO_mono (RO_bind k) fun k st2 q => ⟨_, rfl⟩))
/-! if-else -/
theorem ite_RO {d : D} {r1 r2 : Res D} {K : D → Store → Prop} (h : RO (match d with | .bl true => r1 | .bl false => r2 | _ => .bad) K) : ∃ k, d = .bl k ∧ (k = true → RO r1 K) ∧ (k = false → RO r2 K) := by
  cases d <;> first | exact h.elim | skip
  rename_i k
  cases k
  · exact ⟨false, rfl, (fun z => nomatch z), fun _ => h⟩
  · exact ⟨true, rfl, fun _ => h, fun z => nomatch z⟩
theorem tb_ite {t a b : E} (ha : TB T a) (hb : TB T b) : TB T (.ite t a b) := fun env st K q => by
  refine RO_and q ?_
  have q : RO ((evE T t .t env st).bind fun d st1 => (match d with | .bl true => evE T a .t env st1 | .bl false => evE T b .t env st1 | _ => .bad)) K := q
  show RO ((evE T t .t env st).bind fun d st1 => (match d with | .bl true => evE T a .t env st1 | .bl false => evE T b .t env st1 | _ => .bad)) _
  refine RO_of_bind (RO_mono (RO_bind q) fun d st1 k => ?_)
  obtain ⟨k0, rfl, h1, h2⟩ := ite_RO k
  cases k0
  · exact RO_mono (hb env st1 K (h2 rfl)) fun _ _ q => q.2
  · exact RO_mono (ha env st1 K (h1 rfl)) fun _ _ q => q.2
theorem pe_iteE {t a b : E} {pt pa pb : Expr} {pos : Pos} (hm : vp m) (ht : PT X pt (tT T t)) (tb : TB T t) (ha : PE X pa (tE T false m a)) (hb : PE X pb (tE T false m b)) : PE X (.IfExp pt pa pb pos) (tE T false m (.ite t a b)) := by
  refine PE.imp (pe_ifExp ht ha hb) fun σ H Q q => ?_
  obtain ⟨G, env, F, st, s, r, q⟩ := q
  refine tT_go s r (tb env st _ (RO_bind q)) (fun d st1 h => h.2) fun d st1 H1 F1 k a1 s1 r1 => ?_
  obtain ⟨k0, e, h1, h2⟩ := ite_RO k.1
  cases e
  cases d
  · exact ⟨G, env, F1, st1, s1, r1, RO_mono (h2 rfl) fun d st2 q => ⟨q.1, fun x H' F' a2 s2 o => q.2 x H' F' (a1.trans a2) s2 (OV_back o)⟩⟩
  · exact ⟨G, env, F1, st1, s1, r1, RO_mono (h1 rfl) fun d st2 q => ⟨q.1, fun x H' F' a2 s2 o => q.2 x H' F' (a1.trans a2) s2 (OV_back o)⟩⟩
where OV_back {m : Md} {H0 H1 H' : Hp} {F' : List Addr} {d : D} {x : V} (o : OV false m H1 H' F' d x) : OV false m H0 H' F' d x := o
theorem pt_iteE {t a b : E} {pt pa pb : Expr} {pos : Pos} (ht : PT X pt (tT T t)) (tb : TB T t) (ha : PT X pa (tT T a)) (hb : PT X pb (tT T b)) : PT X (.IfExp pt pa pb pos) (tT T (.ite t a b)) := by
  refine ⟨fun pins s σ H Q I q => ?_⟩
  obtain ⟨G, env, F, st, sr, r, q⟩ := q
  show wpAny _ _ (do if ← isTrue pt X.env (eval pt X.env) then isTrue pa X.env (eval pa X.env) else isTrue pb X.env (eval pb X.env)) _ _ _
  refine wpAny_bind (thn (ht.run pins s σ H (fun c H1 => if c = true then tT T a σ H1 Q else tT T b σ H1 Q) I (tT_go sr r (tb env st _ (RO_bind q)) (fun d st1 h => h.2) fun d st1 H1 F1 k a1 s1 r1 => ?_)) fun c s1 ⟨H1, I1, q1⟩ => ?_)
  · obtain ⟨k0, e, h1, h2⟩ := ite_RO k.1
    cases e
    cases d
    · exact ⟨G, env, F1, st1, s1, r1, RO_mono (h2 rfl) fun d st2 ⟨k, e, q⟩ => ⟨k, e, fun H' F' a2 s2 => q H' F' (a1.trans a2) s2⟩⟩
    · exact ⟨G, env, F1, st1, s1, r1, RO_mono (h1 rfl) fun d st2 ⟨k, e, q⟩ => ⟨k, e, fun H' F' a2 s2 => q H' F' (a1.trans a2) s2⟩⟩
  · cases c with
    | true => exact ha.run pins s1 σ H1 Q I1 q1
    | false => exact hb.run pins s1 σ H1 Q I1 q1
end
end LB
/-! LB10: soundness of expressions: and, or, items, slices, calls. -/
namespace LB
open PySem PySem.Spec PyProof.Rows L2
variable [Clx]
section
variable {X : Cx} {G : Sig} {T : Tab} {m : Md}
/-! and, or -/
theorem and_RO {es : List E} {d : D} {r : Res D} {st : Store} {K : D → Store → Prop} (h : RO (match es, d with | [], d => .ok d st | _ :: _, .bl true => r | _ :: _, .bl false => .ok (.bl false) st | _, _ => .bad) K) :
    (es = [] ∧ K d st) ∨ (es ≠ [] ∧ ∃ k, d = .bl k ∧ (k = true → RO r K) ∧ (k = false → K (.bl false) st)) := by
  cases es with
  | nil => exact .inl ⟨rfl, h⟩
  | cons a l =>
    refine .inr ⟨by simp, ?_⟩
    cases d <;> first | exact h.elim | skip
    rename_i k
    cases k
    · exact ⟨false, rfl, (fun z => nomatch z), fun _ => h⟩
    · exact ⟨true, rfl, fun _ => h, fun z => nomatch z⟩
theorem or_RO {es : List E} {d : D} {r : Res D} {st : Store} {K : D → Store → Prop} (h : RO (match es, d with | [], d => .ok d st | _ :: _, .bl true => .ok (.bl true) st | _ :: _, .bl false => r | _ :: _, .non => r | _ :: _, .tup (y :: l) => .ok (.tup (y :: l)) st | _, _ => .bad) K) :
    (es = [] ∧ K d st) ∨ (es ≠ [] ∧ ((∃ k, d = .bl k ∧ (k = false → RO r K) ∧ (k = true → K (.bl true) st)) ∨ (d = .non ∧ RO r K) ∨ ∃ y l, d = .tup (y :: l) ∧ K (.tup (y :: l)) st)) := by
  cases es with
  | nil => exact .inl ⟨rfl, h⟩
  | cons a l =>
    refine .inr ⟨by simp, ?_⟩
    cases d <;> first | exact h.elim | skip
    case non => exact .inr (.inl ⟨rfl, h⟩)
    case tup ds =>
      cases ds with
      | nil => exact h.elim
      | cons y l => exact .inr (.inr ⟨y, l, rfl, h⟩)
    case bl k =>
      refine .inl ?_
      cases k
      · exact ⟨false, rfl, fun _ => h, fun z => nomatch z⟩
      · exact ⟨true, rfl, (fun z => nomatch z), fun _ => h⟩
theorem pe_andE {pos : Pos} {f : E → Expr → Bool} (hm : vp m) (hf : ∀ e p, f e p = true → PE X p (tE T false m e)) : ∀ {es : List E} {ps : List Expr}, chkL f es ps = true → es ≠ [] → PE X (.BoolOp .And ps pos) (tE T false m (.and es))
  | [], _, _, h => absurd rfl h
  | _ :: _, [], h, _ => by cases h
  | e :: es, p :: ps, h, _ => by
    have h' : (noSt p && f e p && chkL f es ps) = true := h
    rw [Bool.and_eq_true, Bool.and_eq_true] at h'
    have hp := hf e p h'.1.2
    cases es with
    | nil =>
      cases ps with
      | cons => exact absurd h'.2 (by simp [chkL])
      | nil =>
        refine PE.imp (pe_one hp) fun σ H Q q => ?_
        obtain ⟨G, env, F, st, s, r, q⟩ := q
        refine ⟨G, env, F, st, s, r, RO_mono (RO_bind q) fun d st1 k => k⟩
    | cons e2 es =>
      cases ps with
      | nil => exact absurd h'.2 (by simp [chkL])
      | cons p2 ps =>
        refine PE.imp (pe_and hp (pe_andE (pos := pos) hm hf h'.2 (by simp))) fun σ H Q q => ?_
        obtain ⟨G, env, F, st, s, r, q⟩ := q
        refine tE_go s r (RO_bind q) fun d st1 x H1 F1 k a1 s1 r1 v1 => ?_
        rcases and_RO k with ⟨z, _⟩ | ⟨_, k0, e, h1, h2⟩
        · cases z
        · subst e
          have ex : x = .bl k0 := by
            cases m <;> first | exact hm.elim | exact blV (.inl v1) | exact blV v1
          subst ex
          refine ⟨k0, rfl, ?_⟩
          cases k0
          · exact (h2 rfl).2 _ H1 F1 a1 s1 (OVp (.bl false))
          · exact ⟨G, env, F1, st1, s1, r1, RO_mono (h1 rfl) fun d st2 q => ⟨q.1, fun x H' F' a2 s2 o => q.2 x H' F' (a1.trans a2) s2 o⟩⟩
theorem pe_orE {pos : Pos} {f : E → Expr → Bool} (hm : vp m) (hf : ∀ e p, f e p = true → PE X p (tE T false m e)) : ∀ {es : List E} {ps : List Expr}, chkL f es ps = true → es ≠ [] → PE X (.BoolOp .Or ps pos) (tE T false m (.or es))
  | [], _, _, h => absurd rfl h
  | _ :: _, [], h, _ => by cases h
  | e :: es, p :: ps, h, _ => by
    have h' : (noSt p && f e p && chkL f es ps) = true := h
    rw [Bool.and_eq_true, Bool.and_eq_true] at h'
    have hp := hf e p h'.1.2
    cases es with
    | nil =>
      cases ps with
      | cons => exact absurd h'.2 (by simp [chkL])
      | nil =>
        refine PE.imp (pe_one hp) fun σ H Q q => ?_
        obtain ⟨G, env, F, st, s, r, q⟩ := q
        refine ⟨G, env, F, st, s, r, RO_mono (RO_bind q) fun d st1 k => k⟩
    | cons e2 es =>
      cases ps with
      | nil => exact absurd h'.2 (by simp [chkL])
      | cons p2 ps =>
        refine PE.imp (pe_orT hp (pe_orE (pos := pos) hm hf h'.2 (by simp))) fun σ H Q q => ?_
        obtain ⟨G, env, F, st, s, r, q⟩ := q
        refine tE_go s r (RO_bind q) fun d st1 x H1 F1 k a1 s1 r1 v1 => ?_
        rcases or_RO k with ⟨z, _⟩ | ⟨_, ⟨k0, e, h1, h2⟩ | ⟨e, h1⟩ | ⟨y, l, e, h1⟩⟩
        · cases z
        · subst e
          have ex : x = .bl k0 := by
            cases m <;> first | exact hm.elim | exact blV (.inl v1) | exact blV v1
          subst ex
          refine ⟨k0, rfl, ?_⟩
          cases k0
          · exact ⟨G, env, F1, st1, s1, r1, RO_mono (h1 rfl) fun d st2 q => ⟨q.1, fun x H' F' a2 s2 o => q.2 x H' F' (a1.trans a2) s2 o⟩⟩
          · exact (h2 rfl).2 _ H1 F1 a1 s1 (OVp (.bl true))
        · subst e
          have pk : Pk H1 F1 .non x := by cases m <;> first | exact hm.elim | exact .inl v1 | exact v1
          have ex : x = .non := by
            rcases pk with r | ⟨_, _, w, _⟩
            · cases r; rfl
            · cases w
          subst ex
          refine ⟨false, rfl, ?_⟩
          exact ⟨G, env, F1, st1, s1, r1, RO_mono h1 fun d st2 q => ⟨q.1, fun x H' F' a2 s2 o => q.2 x H' F' (a1.trans a2) s2 o⟩⟩
        · subst e
          have pk : Pk H1 F1 (.tup (y :: l)) x := by cases m <;> first | exact hm.elim | exact .inl v1 | exact v1
          obtain ⟨p, xs, rfl, rx, t1, t1'⟩ := tupV (K := X.K) pk
          refine ⟨true, .inr (.inl ⟨xs, t1', by cases rx; rfl⟩), ?_⟩
          rw [if_pos rfl]
          exact h1.2 _ H1 F1 a1 s1 (OV.v rfl v1)
theorem tb_and {f : E → Expr → Bool} (hf : ∀ e p, f e p = true → TB T e) : ∀ {es : List E} {ps : List Expr}, chkL f es ps = true → TB T (.and es)
  | [], _, _ => fun env st K q => q.elim
  | e :: es, [], h => by cases h
  | e :: es, p :: ps, h => fun env st K q => by
    have h' : (noSt p && f e p && chkL f es ps) = true := h
    rw [Bool.and_eq_true, Bool.and_eq_true] at h'
    refine RO_and q ?_
    refine RO_of_bind (RO_mono (hf e p h'.1.2 env st _ (RO_bind q)) fun d st1 k => ?_)
    obtain ⟨k, b, rfl⟩ := k
    rcases and_RO k with ⟨z, q⟩ | ⟨z, k0, e, h1, h2⟩
    · subst z; exact ⟨b, rfl⟩
    · cases e
      cases es with
      | nil => exact absurd rfl z
      | cons e2 es =>
        cases b
        · exact ⟨false, rfl⟩
        · exact RO_mono (tb_and hf h'.2 env st1 K (h1 rfl)) fun _ _ q => q.2
theorem tb_or {f : E → Expr → Bool} (hf : ∀ e p, f e p = true → TB T e) : ∀ {es : List E} {ps : List Expr}, chkL f es ps = true → TB T (.or es)
  | [], _, _ => fun env st K q => q.elim
  | e :: es, [], h => by cases h
  | e :: es, p :: ps, h => fun env st K q => by
    have h' : (noSt p && f e p && chkL f es ps) = true := h
    rw [Bool.and_eq_true, Bool.and_eq_true] at h'
    refine RO_and q ?_
    refine RO_of_bind (RO_mono (hf e p h'.1.2 env st _ (RO_bind q)) fun d st1 k => ?_)
    obtain ⟨k, b, rfl⟩ := k
    rcases or_RO k with ⟨z, q⟩ | ⟨z, ⟨k0, e, h1, h2⟩ | ⟨e, _⟩ | ⟨_, _, e, _⟩⟩
    rotate_left 2
    · cases e
    · cases e
    · subst z; exact ⟨b, rfl⟩
    · cases e
      cases es with
      | nil => exact absurd rfl z
      | cons e2 es =>
        cases b
        · exact RO_mono (tb_or hf h'.2 env st1 K (h1 rfl)) fun _ _ q => q.2
        · exact ⟨true, rfl⟩
theorem pw_andE {pos : Pos} {f : E → Expr → Bool} (hf : ∀ e p, f e p = true → PT X p (tT T e)) (hb : ∀ e p, f e p = true → TB T e) : ∀ {es : List E} {ps : List Expr}, chkL f es ps = true → es ≠ [] → PW X (.BoolOp .And ps pos) (tT T (.and es))
  | [], _, _, h => absurd rfl h
  | _ :: _, [], h, _ => by cases h
  | e :: es, p :: ps, h, _ => by
    have h' : (noSt p && f e p && chkL f es ps) = true := h
    rw [Bool.and_eq_true, Bool.and_eq_true] at h'
    have hp := hf e p h'.1.2
    have hk := hb e p h'.1.2
    cases es with
    | nil =>
      cases ps with
      | cons => exact absurd h'.2 (by simp [chkL])
      | nil =>
        refine PW.imp (pw_and1 hp) fun σ H Q q => ?_
        obtain ⟨G, env, F, st, s, r, q⟩ := q
        refine ⟨G, env, F, st, s, r, RO_mono (RO_bind q) fun d st1 k => k⟩
    | cons e2 es =>
      cases ps with
      | nil => exact absurd h'.2 (by simp [chkL])
      | cons p2 ps =>
        refine PW.imp (pw_and hp (pw_andE (pos := pos) hf hb h'.2 (by simp))) fun σ H Q q => ?_
        obtain ⟨G, env, F, st, s, r, q⟩ := q
        refine tT_go s r (hk env st _ (RO_bind q)) (fun d st1 h => h.2) fun d st1 H1 F1 k a1 s1 r1 => ?_
        rcases and_RO k.1 with ⟨z, _⟩ | ⟨_, k0, e, h1, h2⟩
        · cases z
        · cases e
          cases d
          · obtain ⟨k, e, q⟩ := h2 rfl
            cases e
            exact q H1 F1 a1 s1
          · exact ⟨G, env, F1, st1, s1, r1, RO_mono (h1 rfl) fun d st2 ⟨k, e, q⟩ => ⟨k, e, fun H' F' a2 s2 => q H' F' (a1.trans a2) s2⟩⟩
where PW.imp {e : Expr} {t t' : TT} (h : PW X e t) (k : ∀ σ H Q, t' σ H Q → t σ H Q) : PW X e t' := ⟨fun w pins s σ H Q I q => h.run w pins s σ H Q I (k σ H Q q)⟩
theorem pw_orE {pos : Pos} {f : E → Expr → Bool} (hf : ∀ e p, f e p = true → PT X p (tT T e)) (hb : ∀ e p, f e p = true → TB T e) : ∀ {es : List E} {ps : List Expr}, chkL f es ps = true → es ≠ [] → PW X (.BoolOp .Or ps pos) (tT T (.or es))
  | [], _, _, h => absurd rfl h
  | _ :: _, [], h, _ => by cases h
  | e :: es, p :: ps, h, _ => by
    have h' : (noSt p && f e p && chkL f es ps) = true := h
    rw [Bool.and_eq_true, Bool.and_eq_true] at h'
    have hp := hf e p h'.1.2
    have hk := hb e p h'.1.2
    cases es with
    | nil =>
      cases ps with
      | cons => exact absurd h'.2 (by simp [chkL])
      | nil =>
        refine PW.imp (pw_or1 hp) fun σ H Q q => ?_
        obtain ⟨G, env, F, st, s, r, q⟩ := q
        refine ⟨G, env, F, st, s, r, RO_mono (RO_bind q) fun d st1 k => k⟩
    | cons e2 es =>
      cases ps with
      | nil => exact absurd h'.2 (by simp [chkL])
      | cons p2 ps =>
        refine PW.imp (pw_or hp (pw_orE (pos := pos) hf hb h'.2 (by simp))) fun σ H Q q => ?_
        obtain ⟨G, env, F, st, s, r, q⟩ := q
        refine tT_go s r (hk env st _ (RO_bind q)) (fun d st1 h => h.2) fun d st1 H1 F1 k a1 s1 r1 => ?_
        rcases or_RO k.1 with ⟨z, _⟩ | ⟨_, ⟨k0, e, h1, h2⟩ | ⟨e, _⟩ | ⟨_, _, e, _⟩⟩
        rotate_left 2
        · cases e
        · cases e
        · cases z
        · cases e
          cases d
          · exact ⟨G, env, F1, st1, s1, r1, RO_mono (h1 rfl) fun d st2 ⟨k, e, q⟩ => ⟨k, e, fun H' F' a2 s2 => q H' F' (a1.trans a2) s2⟩⟩
          · obtain ⟨k, e, q⟩ := h2 rfl
            cases e
            exact q H1 F1 a1 s1
where PW.imp {e : Expr} {t t' : TT} (h : PW X e t) (k : ∀ σ H Q, t' σ H Q → t σ H Q) : PW X e t' := ⟨fun w pins s σ H Q I q => h.run w pins s σ H Q I (k σ H Q q)⟩
/-! items, slices -/
theorem plainIx_of {p : Expr} (h : noSl p = true) : PlainIx p := by
  intro o i
  cases p <;> first | rfl | (cases h; done)
theorem pe_idxE {a i : E} {pa pi : Expr} {pos : Pos} (g : Gc G T X) (hm : vp m) (hs : noSl pi = true) (ha : PE X pa (tE T false .p a)) (hi : PE X pi (tE T false .v i)) : PE X (.Subscript pa pi pos) (tE T false m (.idx a i)) := by
  refine PE.imp (pe_ix (ix_rIdx (by have := g.un; omega)) ha hi (plainIx_of hs)) fun σ H Q q => ?_
  obtain ⟨G, env, F, st, s, r, q⟩ := q
  refine tE_go s r (RO_bind q) fun d st1 x H1 F1 k a1 s1 r1 v1 => tE_go s1 r1 (RO_bind k) fun d2 st2 y H2 F2 k2 a2 s2 r2 v2 => ?_
  obtain ⟨z, hz, k3⟩ := RO_opt (RO_bind k2)
  exact ⟨F2, st2, d, d2, z, s2, Pk.step s1 a2 v1, .inl v2, hz, fun v hv => fin_v rfl (post_vp hm k3) (a1.trans a2) s2 hv⟩
/-- a slice's end: left out or an int -/
def tO (T : Tab) (e : E) : TO := fun σ H Q => ∃ G env F st, SR H F st ∧ ER G σ H F env ∧
  RO (evE T e .v env st) fun d st' => ∃ o, d = oD o ∧ ∀ H' F', Stp H F H' F' → SR H' F' st' → Q o H'
theorem po_nilE : PO X none (tO T .nil) := ⟨fun pins s σ H Q I q => by
  obtain ⟨G, env, F, st, sr, r, q⟩ := q
  obtain ⟨o, e, q⟩ := (show ∃ o, D.non = oD o ∧ _ from q)
  cases o with
  | some => cases e
  | none => exact po_none.run pins s σ H Q I (q H F Stp.refl sr)⟩
theorem po_E {e : E} {p : Expr} (h : PE X p (tE T false .v e)) : PO X (some p) fun σ H Q => ∃ G env F st, SR H F st ∧ ER G σ H F env ∧
    RO (evE T e .v env st) fun d st' => ∃ i, d = .int i ∧ ∀ H' F', Stp H F H' F' → SR H' F' st' → Q (some i) H' := ⟨fun pins s σ H Q I q => by
  obtain ⟨G, env, F, st, sr, r, q⟩ := q
  refine (po_some h).run pins s σ H Q I (tE_go sr r q fun d st1 x H1 F1 k a1 s1 r1 v1 => ?_)
  obtain ⟨i, e, q⟩ := k
  cases e
  cases v1
  exact ⟨i, rfl, q H1 F1 a1 s1⟩⟩
/-- a part of a slice and its reading -/
def PartOk (X : Cx) (T : Tab) (e : E) (p : Option Expr) : Prop := ∃ t : TO, PO X p t ∧ ∀ (σ : L2.St) (H : Hp) (Q : Option Int → Hp → Prop) (G : Hp) (env : Env) (F : List Addr) (st : Store), SR H F st → ER G σ H F env →
  RO (evE T e .v env st) (fun d st' => okS e d = true ∧ ∀ o H' F', d = oD o → Stp H F H' F' → SR H' F' st' → Q o H') → t σ H Q
theorem part_nil : PartOk X T .nil none := ⟨tO T .nil, po_nilE, fun σ H Q G env F st s r q => ⟨G, env, F, st, s, r, ⟨none, rfl, fun H' F' a s' => (show RO (.ok D.non st) _ from q).2 none H' F' rfl a s'⟩⟩⟩
theorem part_some {e : E} {p : Expr} (hn : e ≠ .nil) (h : PE X p (tE T false .v e)) : PartOk X T e (some p) := ⟨_, po_E h, fun σ H Q G env F st s r q => ⟨G, env, F, st, s, r, RO_mono q fun d st1 k => by
  have e1 : ∃ i, d = .int i := by
    have k1 := k.1
    unfold okS at k1
    split at k1 <;> first | (cases k1; done) | exact absurd rfl hn | exact ⟨_, rfl⟩
  obtain ⟨i, rfl⟩ := e1
  exact ⟨i, rfl, fun H' F' a s' => k.2 (some i) H' F' rfl a s'⟩⟩⟩
theorem okS_D {e : E} {d : D} (h : okS e d = true) : ∃ o, d = oD o := by
  unfold okS at h
  split at h <;> first | (cases h; done) | exact ⟨none, rfl⟩ | exact ⟨some _, rfl⟩
theorem pe_slE {a lo hi : E} {pa : Expr} {plo phi : Option Expr} {p2 pos : Pos} {fr : Bool} (hm : vp m) (hfr : fr = true → m = .v) (ha : PE X pa (tE T false .p a)) (hlo : PartOk X T lo plo) (hhi : PartOk X T hi phi) :
    PE X (.Subscript pa (.Slice plo phi none p2) pos) (tE T fr m (.sl a lo hi)) := by
  obtain ⟨t1, q1, k1⟩ := hlo
  obtain ⟨t2, q2, k2⟩ := hhi
  refine PE.imp (pe_slice (sl_rSl (b := fr)) ha q1 q2) fun σ H Q q => ?_
  obtain ⟨G, env, F, st, s, r, q⟩ := q
  refine tE_go s r (RO_bind q) fun d st1 x H1 F1 k a1 s1 r1 v1 => ?_
  have k := RO_bind k
  refine k1 σ H1 _ G env F1 st1 s1 r1 (RO_mono k fun y st2 ky => ?_)
  have ky := RO_bind ky
  have ky2 : RO (evE T hi .v env st2) fun z st3 => (okS lo y = true ∧ okS hi z = true) ∧ ∃ w, slice d y z = some w ∧ (fr = true → isSeq w) ∧ ∀ x H' F', Stp H F H' F' → SR H' F' st3 → OV fr m H H' F' w x → Q x H' := RO_mono ky fun z st3 kz => by
    by_cases hc : (okS lo y && okS hi z) = true
    · rw [if_pos hc] at kz
      obtain ⟨w, hw, kw⟩ := RO_opt (RO_bind kz)
      exact ⟨by simpa using hc, w, hw, post_vp hm kw⟩
    · rw [if_neg hc] at kz
      exact kz.elim
  have hy : okS lo y = true := by
    cases e : evE T hi .v env st2 with
    | ok z st3 => rw [e] at ky2; exact ky2.1.1
    | exc => rw [e] at ky2; exact ky2.elim
    | bad => rw [e] at ky2; exact ky2.elim
  refine ⟨hy, fun o1 H2 F2 e1 a2 s2 => ?_⟩
  refine k2 σ H2 _ G env F2 st2 s2 (r1.step s1 a2) (RO_mono ky2 fun z st3 kz => ⟨kz.1.2, fun o2 H3 F3 e2 a3 s3 => ?_⟩)
  obtain ⟨_, w, hw, kq⟩ := kz
  subst e1 e2
  exact ⟨F3, st3, d, w, s3, Pk.step s2 a3 (Pk.step s1 a2 v1), hw, fin_d hfr kq ((a1.trans a2).trans a3) s3, kq.1⟩
/-! calls -/
theorem pe_callE {f : Nat} {es : List E} {ps : List Expr} {x : PySem.Str} {p pos : Pos} (g : Gc G T X) (hm : vp m) (hf : G.fn f = some x) (hx : glB X.env.scope x = true) (hn : nmB x = true) {c : E → Expr → Bool} (hc : chkL c es ps = true)
    (ha : PA X ps (tA T es)) : PE X (.Call (.Name x p) ps [] pos) (tE T false m (.call f es)) := by
  obtain ⟨a, e1, e2, e3, _⟩ := g.fns f x hf
  have run := e3 X ⟨rfl, rfl, rfl, rfl, rfl, rfl⟩
  refine ⟨fun pins s σ H Q I q => ?_⟩
  obtain ⟨G0, env, F, st, sr, r, q⟩ := q
  refine wpAny_Call_Name_kw (ld_glob I (gl_of hx) e1 ?_ (nm_of hn).1)
  have go : ∀ {us : List Value} {s1 : Shared} {xs : List V} {H1 : Hp} {F1 : List Addr} {st1 : Store} {ds : List D}, L2.Inv X pins σ H1 s1 → Vals xs us → Stp H F H1 F1 → SR H1 F1 st1 → Rps H1 F1 ds xs →
      RO ((T f ds st1).bind (post m)) (fun d st' => (false = true → isSeq d) ∧ ∀ x H' F', Stp H F H' F' → SR H' F' st' → OV false m H H' F' d x → Q x H') → wpAny (model X.prog X.w) X.A (PySem.call (.ref a) us) (EP X pins σ Q) X.xe s1 :=
    fun {us s1 xs H1 F1 st1 ds} I1 rv a1 s1' rd k => run pins s1 σ H1 us xs Q F1 st1 ds I1 rv s1' rd (RO_mono (RO_bind k) fun d st2 k2 x H' F' a2 s2 rx => (post_vp hm k2).2 x H' F' (a1.trans a2) s2 (OVp rx))
  cases ps with
  | nil =>
    cases es with
    | cons => cases hc
    | nil => exact PySem.W.callWith_K0 I.kIn e2 (go (us := []) (xs := []) (ds := []) I .nil Stp.refl sr .nil q)
  | cons p0 ps =>
    cases es with
    | nil => cases hc
    | cons e0 es =>
      have hc' : (noSt p0 && c e0 p0 && chkL c es ps) = true := hc
      rw [Bool.and_eq_true, Bool.and_eq_true] at hc'
      refine PySem.W.callWith_K (h₀ := X.base) I.ok.mod.kin e2 (thn (ha.run pos pins s σ H _ I (tA_go sr r (RO_bind q) (Q := fun xs H1 => ∃ F1 st1 ds, Stp H F H1 F1 ∧ SR H1 F1 st1 ∧ Rps H1 F1 ds xs ∧
        RO ((T f ds st1).bind (post m)) (fun d st' => (false = true → isSeq d) ∧ ∀ x H' F', Stp H F H' F' → SR H' F' st' → OV false m H H' F' d x → Q x H')) fun ds st1 xs H1 F1 k a1 s1 r1 v1 => ⟨F1, st1, ds, a1, s1, v1, k⟩)) fun us s1 hq => ?_) (star_cons hc'.1.1) (noStar_any hc'.2)
      obtain ⟨xs, H1, I1, rv, F1, st1, ds, a1, s1', rd, k⟩ := hq
      exact ⟨I1.kIn, go I1 rv a1 s1' rd k⟩
/-! built-in functions -/
theorem pe_biE {k : Bi} {es : List E} {q0 : Expr} {ps : List Expr} {p pos : Pos} {fr : Bool} (g : Gc G T X) (hh : G.hot = false ∨ hotB k = true) (hr : G.rp = true ∨ rpB k = true) (hm : vp m) (hfr : fr = true → m = .v) (hk : biOk k = true) (hx : glB X.env.scope (biNm k) = true) {c : E → Expr → Bool} (hc : chkL c es (q0 :: ps) = true)
    (ha : PA X (q0 :: ps) (tB T es)) : PE X (.Call (.Name (biNm k) p) (q0 :: ps) [] pos) (tE T fr m (.bi k es)) := by
  have go : ∀ {t : TE}, t = tCB (rBi k fr) (tB T es) → PE X (.Call (.Name (biNm k) p) (q0 :: ps) [] pos) t → PE X (.Call (.Name (biNm k) p) (q0 :: ps) [] pos) (tE T fr m (.bi k es)) := fun {t} et h => PE.imp h fun σ H Q q => by
    subst et
    obtain ⟨G, env, F, st, s, r, q⟩ := q
    refine tB_go s r (RO_bind q) fun ds st1 xs H1 F1 k1 a1 s1 r1 v1 => ?_
    obtain ⟨z, hz, k2⟩ := RO_opt (RO_bind k1)
    have k2 := post_vp hm k2
    exact ⟨F1, st1, ds, z, s1, v1, hz, fin_d hfr k2 a1 s1, k2.1⟩
  have hb : ∀ n ∈ bltNames, X.mg n = none := g.blt
  cases es with
  | nil => cases hc
  | cons e0 es =>
    have hc' : (noSt q0 && c e0 q0 && chkL c es ps) = true := hc
    rw [Bool.and_eq_true, Bool.and_eq_true] at hc'
    have s1 := star_cons (env := X.env) (es := ps) hc'.1.1
    have s2 := noStar_any (pos := pos) (env := X.env) hc'.2
    cases k <;> first | (cases hk; done) | skip
    · exact go rfl (pe_callB cr_len (gl_of hx) (hb _ (by decide)) (by decide +kernel) ha (he := s1) (hpl := s2))
    · exact go rfl (pe_callTy cr_tup (gl_of hx) (hb _ (by decide)) (by decide +kernel) ha (he := s1) (hpl := s2))
    · exact go rfl (pe_callTy (cr_lst (g.calm (hh.resolve_right fun z => by cases z))) (gl_of hx) (hb _ (by decide)) (by decide +kernel) ha (he := s1) (hpl := s2))
    · exact go rfl (pe_callB (cr_sumB (g.calm (hh.resolve_right fun z => by cases z))) (gl_of hx) (hb _ (by decide)) (by decide +kernel) ha (he := s1) (hpl := s2))
    · exact go rfl (pe_callB (cr_allB (g.calm (hh.resolve_right fun z => by cases z))) (gl_of hx) (hb _ (by decide)) (by decide +kernel) ha (he := s1) (hpl := s2))
    · exact go rfl (pe_callB (cr_anyB (g.calm (hh.resolve_right fun z => by cases z))) (gl_of hx) (hb _ (by decide)) (by decide +kernel) ha (he := s1) (hpl := s2))
    · exact go rfl (pe_callB cr_absB (gl_of hx) (hb _ (by decide)) (by decide +kernel) ha (he := s1) (hpl := s2))
    · exact go rfl (pe_callTy cr_intB (gl_of hx) (hb _ (by decide)) (by decide +kernel) ha (he := s1) (hpl := s2))
    · exact go rfl (pe_callTy cr_strB (gl_of hx) (hb _ (by decide)) (by decide +kernel) ha (he := s1) (hpl := s2))
    · exact go rfl (pe_callB (cr_max1B (g.calm (hh.resolve_right fun z => by cases z))) (gl_of hx) (hb _ (by decide)) (by decide +kernel) ha (he := s1) (hpl := s2))
    · exact go rfl (pe_callB (cr_min1B (g.calm (hh.resolve_right fun z => by cases z)) g.un) (gl_of hx) (hb _ (by decide)) (by decide +kernel) ha (he := s1) (hpl := s2))
    · exact go rfl (pe_callB (cr_max2B (g.calm (hh.resolve_right fun z => by cases z))) (gl_of hx) (hb _ (by decide)) (by decide +kernel) ha (he := s1) (hpl := s2))
    · exact go rfl (pe_callB (cr_min2B (g.calm (hh.resolve_right fun z => by cases z))) (gl_of hx) (hb _ (by decide)) (by decide +kernel) ha (he := s1) (hpl := s2))
    · exact go rfl (pe_callB (cr_reprB (g.gd (hr.resolve_right fun z => by cases z)) g.un) (gl_of hx) (hb _ (by decide)) (by decide +kernel) ha (he := s1) (hpl := s2))
    · exact go rfl (pe_callB (cr_sortedB (g.calm (hh.resolve_right fun z => by cases z))) (gl_of hx) (hb _ (by decide)) (by decide +kernel) ha (he := s1) (hpl := s2))
theorem tyVal (t : Ty) : bootBuiltins (Str.ofString (tyN t)) = some (.type (tyN t)) := by
  cases t <;> decide +kernel
theorem pe_isiE {t : Ty} {a : E} {pa : Expr} {p p1 pos : Pos} (g : Gc G T X) (hm : vp m) (hx : glB X.env.scope "isinstance" = true) (hy : glB X.env.scope (Str.ofString (tyN t)) = true) (hn : noSt pa = true) (ha : PE X pa (tE T false .p a)) :
    PE X (.Call (.Name "isinstance" p) [pa, .Name (Str.ofString (tyN t)) p1] [] pos) (tE T false m (.bi (.isi t) [a])) := by
  have hb : ∀ n ∈ bltNames, X.mg n = none := g.blt
  have e2 : PE X (.Name (Str.ofString (tyN t)) p1) (tC (.ty (tyN t))) := pe_bltn (gl_of hy) (hb _ (by cases t <;> decide)) (tyVal t) rfl (by cases t <;> decide) (by cases t <;> decide)
  refine PE.imp (pe_callB (cr_isT (t := t)) (gl_of hx) (hb _ (by decide)) (by decide +kernel) (pa_cons ha (pa_cons e2 pa_nil) (star_cons hn)) (he := star_cons hn) (hpl := rfl)) fun σ H Q q => ?_
  obtain ⟨G, env, F, st, s, r, q⟩ := q
  have q : RO (((evE T a .p env st).bind fun x st1 => (evB T [] env st1).bind fun r st2 => .ok (x :: r) st2).bind fun ds st1 => (Res.opt (biV st1 (.isi t) ds) st1).bind (post m)) _ := q
  refine tE_go s r (RO_bind (RO_bind q)) fun d st1 x H1 F1 k a1 s1 r1 v1 => ?_
  obtain ⟨z, hz, k⟩ := RO_opt (RO_bind (show RO ((Res.opt (biV st1 (.isi t) [d]) st1).bind (post m)) _ from k))
  have hz : (isTy t d).map D.bl = some z := hz
  obtain ⟨b, e, rfl⟩ := map_bl hz
  exact ⟨F1, d, x, b, rfl, v1, e, fin_v rfl (post_vp hm k) a1 s1 (.bl b)⟩
end
end LB
/-! LB5e: set(list of ints); sorted(set(tuples)). -/
namespace LBs
open PySem PySem.Spec PyProof.Rows L2
/-- a new set -/
abbrev newSet (w : World) : Obj := { cls := .type "set", dict := none, data := .set #[] 0 (.fresh 0 0 (!w.params.followText "set-order")) }
section
variable {P : Program} {w : World} {A : Around} {E : Value → Shared → Prop} {s : Shared}
theorem call_set_lstI {l : Addr} {items : Array Value} (ns : List Int) {Q : Value → Shared → Prop} (hh : A.handled = none) (hl : s.heap.IsList l items) (hit : IntsAre items.toList ns) (hb : ns.length + 1 < scanBound)
    (h : ∀ (h' : Heap) (tk c : Nat), SetR w h' s.heap.objs.size (fun j => decide (j ∈ ns)) c → c ≤ ns.length → (∀ b o, s.heap.get? b = some o → h'.get? b = some o) → Q (.ref s.heap.objs.size) { s with heap := h', toks := tk }) :
    wpAny (model P w) A (call (.type "set") [.ref l]) Q E s := by
  have size : items.size = ns.length := by
    have := hit.length
    rw [Array.length_toList] at this
    exact this
  obtain ⟨c, tl, mro⟩ := F.called_set.mro
  have made := F.called_set.made
  have sub := F.called_set.sub
  refine wpAny_call (codeAny_of_tree ?_)
  show wpAny _ _ (callAny (.type "set") _) _ _ _
  refine wpAny_pure ⟨Code.quiet_builtin _ (by decide +kernel), codeAny_builtin F.entry_type_call ?_⟩
  rw [Around.under_plain (weight_type_call_type "set" [.ref l] []) rfl]
  have g1 := F.called_set.notType
  have g2 := F.called_set.canCreate
  have g3 := F.typeCall_set_1 (.ref l)
  repeat (any_goals (first | assumption | wp_step))
  refine codeAny_mono (code_set_led1 (.ref l) (E := E) (Q₁ := fun r s1 => r = .ref s.heap.objs.size ∧ s1 = { s with heap := s.heap.push (newSet w) }) ⟨rfl, rfl⟩) fun r s1 hr => ?_
  cases r with
  | error e => exact hr
  | ok fl =>
    cases fl with
    | ret ob =>
      obtain ⟨rfl, rfl⟩ := hr
      have at_ : (s.heap.push (newSet w)).get? s.heap.objs.size = some (newSet w) := Heap.get?_push_size _ rfl
      have ty : Shared.TypeIs { s with heap := s.heap.push (newSet w) } (.ref s.heap.objs.size) "set" := ⟨_, at_, rfl⟩
      have g4 := F.called_set.init.lookup
      have g5 := F.called_set.init.bind (.ref s.heap.objs.size)
      repeat (any_goals (first | assumption | wp_step))
      refine codeAny_mono (codeAny_call_builtin (R := wants (fun r s2 => r = .none ∧ ∃ h' tk c, s2 = { s with heap := h', toks := tk } ∧ SetR w h' s.heap.objs.size (fun j => decide (j ∈ ns)) c ∧ c ≤ ns.length ∧
          (∀ b o, s.heap.get? b = some o → h'.get? b = some o)) E) F.called_set.init.plain F.entry_set_init (check_set_init_1 ty ?_)) fun r2 s2 hr2 => ?_
      · obtain ⟨ol, hol, hcl, nl, hdl⟩ := hl
        obtain ⟨oc, od, odata, osl⟩ := ol
        replace hcl : oc = .type "list" := hcl
        replace hdl : odata = .seq items nl := hdl
        subst hcl hdl
        have hol' : (s.heap.push (newSet w)).get? l = some { cls := .type "list", dict := od, data := .seq items nl, slots := osl } := Heap.get?_push_of_some _ hol
        have n1 := F.sub_list_set
        have n2 := F.sub_list_frozenset
        have n3 : (Value.type "list" == Value.type "dict") = false := by decide
        have lst1 : (s.heap.push (newSet w)).IsList l items := ⟨_, hol', rfl, nl, rfl⟩
        unfold Builtin.«set.__init__» noKeywords Builtin.Frozenset.updateFrom
        generalize hPI : pyIter = PI
        wp_walk
        subst hPI
        refine wpAny_pyIter_list lst1 ?_
        refine wpAny_bind (wpAny_runValue ?_)
        have lt : l < s.heap.objs.size := Heap.lt_size hol
        have hd3 : A.in1.in1.in1.handled = none := by simp [hh]
        have ne : l ≠ (s.heap.push (newSet w)).objs.size := by
          rw [Heap.size_push]; exact Nat.ne_of_lt (Nat.lt_succ_of_lt lt)
        have nf : s.heap.objs.size ∉ [(s.heap.push (newSet w)).objs.size, l] := by
          rw [Heap.size_push]
          intro z
          simp only [List.mem_cons, List.not_mem_nil, or_false] at z
          rcases z with z | z
          · exact Nat.ne_of_lt (Nat.lt_succ_self _) z
          · exact Nat.ne_of_gt lt z
        have val : ∀ (i : Nat) (v : Value), items[i]? = some v → ∃ k t, ns[i]? = some k ∧ v = .int k t := fun i v hv => by
          have hi : i < ns.length := by rw [← size]; exact (Array.getElem?_eq_some_iff.mp hv).1
          obtain ⟨t, e⟩ := hit.get i ns[i] (List.getElem?_eq_getElem hi)
          rw [Array.getElem?_toList, hv] at e
          exact ⟨ns[i], t, List.getElem?_eq_getElem hi, Option.some.inj e⟩
        refine set_update_ints ((Walks.list hd3 _ l ne items).toS) s.heap.objs.size nf ns size hb val (items.size - 0) 0 _ (by omega) (Nat.zero_le _)
          ⟨⟨_, Heap.get?_push_size _ rfl, rfl, rfl⟩, lst1.push _⟩ ?start ?fin
        case start => exact ⟨0, Nat.le_refl 0, setR_new_at (Heap.get?_push_of_some _ at_)⟩
        case fin =>
          intro s' c' hm hc' hS'
          obtain ⟨h', gg, dd, tk, os⟩ := s'
          have q1 : gg = s.gens := hm.gens
          have q2 : dd = s.drawn := hm.drawn
          have q3 : os = s.os := hm.os
          subst q1 q2 q3
          show wpAny _ _ _ _ _ _
          refine wpAny_pure ?_
          show wpAny _ _ (ret Value.none) _ _ _
          rw [size] at hc'
          refine wpAny_pure ⟨rfl, h', tk, c', rfl, hS', hc', fun b o e => ?_⟩
          have b0 : b < s.heap.objs.size := Heap.lt_size e
          refine hm.heap b o (fun z => ?_) (Heap.get?_push_of_some _ (Heap.get?_push_of_some _ e))
          rw [Heap.size_push] at z
          simp only [List.mem_cons, List.not_mem_nil, or_false] at z
          rcases z with z | z
          · exact Nat.ne_of_lt b0 z
          · exact Nat.ne_of_lt (Nat.lt_succ_of_lt b0) z
      · cases r2 with
        | error e => exact hr2
        | ok fl2 =>
          cases fl2 with
          | ret r =>
            obtain ⟨rfl, h', tk, c', rfl, hS', hc', hk'⟩ := hr2
            repeat (any_goals (first | assumption | wp_step))
            exact h _ _ _ hS' hc' hk'
          | _ => exact hr2.elim
    | _ => exact hr.elim
end
end LBs
/-! LB5f: sorted(set(tuples)). -/
namespace LB
open PySem PySem.Spec PyProof.Rows L2
variable [Clx]
def rSetI (K : PySem.W.Frag) (w : World) : List V → Hp → VK → Prop := fun xs H Q => ∃ (l : Addr) (ns : List Int), xs = [V.ref l] ∧ SqL K H l (ns.map V.int) ∧ ns.length < 64 ∧ ∀ a c, H a = none → c ≤ ns.length → Q (.ref a) (upd H a (SetO w a (fun j => decide (j ∈ ns)) c))
theorem cr_setI {X : Cx} (hc : X.calm = true) : CallR X (.type "set") (rSetI X.K X.w) := by
  intro pins s σ H xs us Q I r h
  obtain ⟨l, ns, rfl, hs, hl, q⟩ := h
  obtain ⟨its, rv, p, hz⟩ := I.list hs
  rw [Vals.ref1 r]
  refine LBs.call_set_lstI ns (I.ok.hd hc) p.isList (by have := ints_of_vals rv; simpa using this) (by unfold scanBound; omega) fun h' tk c R hle k => ?_
  have free : H s.heap.objs.size = none := I.hok.fresh (Nat.le_refl _)
  exact ⟨.ref _, _, I.laid (t' := tk) k (Nat.le_refl _) (setO_new R), rfl, q _ c free hle⟩
/-! usort, vsort -/
theorem insU_mem {a b : Int} : ∀ {l : List Int}, b ∈ insU a l ↔ b = a ∨ b ∈ l
  | [] => by simp [insU]
  | c :: l => by
    unfold insU
    split
    · simp
    split
    · rw [List.mem_cons, insU_mem, List.mem_cons]
      exact ⟨fun h => by rcases h with h | h | h <;> simp [h], fun h => by rcases h with h | h | h <;> simp [h]⟩
    · have e : a = c := by omega
      rw [e]
      simp
theorem usort_mem {b : Int} : ∀ {l : List Int}, b ∈ usort l ↔ b ∈ l
  | [] => by simp [usort]
  | a :: l => by
    unfold usort
    rw [insU_mem, usort_mem, List.mem_cons]
theorem insU_sorted {a : Int} : ∀ {l : List Int}, l.Pairwise (· < ·) → (insU a l).Pairwise (· < ·)
  | [], _ => List.pairwise_singleton _ _
  | c :: l, h => by
    have hh := List.pairwise_cons.mp h
    unfold insU
    split
    · rename_i h1
      refine List.pairwise_cons.mpr ⟨fun x hx => ?_, h⟩
      rcases List.mem_cons.mp hx with e | hx
      · rw [e]; exact h1
      · exact Int.lt_trans h1 (hh.1 x hx)
    split
    · rename_i h1
      refine List.pairwise_cons.mpr ⟨fun x hx => ?_, insU_sorted hh.2⟩
      rcases insU_mem.mp hx with e | hx
      · rw [e]; exact h1
      · exact hh.1 x hx
    · exact h
theorem usort_sorted : ∀ l : List Int, (usort l).Pairwise (· < ·)
  | [] => List.Pairwise.nil
  | _ :: l => insU_sorted (usort_sorted l)
theorem usort_one {l m : List Int} (h : m.Pairwise (· < ·)) (mem : ∀ k, k ∈ m ↔ k ∈ l) : m = usort l := by
  refine ((List.perm_ext_iff_of_nodup (h.imp fun h => Int.ne_of_lt h) ((usort_sorted l).imp fun h => Int.ne_of_lt h)).mpr fun k => (mem k).trans usort_mem.symm).eq_of_pairwise (le := (· < ·)) (fun a b _ _ h1 h2 => absurd h1 (Int.not_lt.mpr (Int.le_of_lt h2))) h (usort_sorted l)
theorem insV_mem {a b : List Int} : ∀ {l : List (List Int)}, b ∈ insV a l ↔ b = a ∨ b ∈ l
  | [] => by simp [insV]
  | c :: l => by
    unfold insV
    split
    · simp
    split
    · rw [List.mem_cons, insV_mem, List.mem_cons]
      exact ⟨fun h => by rcases h with h | h | h <;> simp [h], fun h => by rcases h with h | h | h <;> simp [h]⟩
    · rename_i h1 h2
      have e : a = c := lexLt_anti (by simpa using h1) (by simpa using h2)
      rw [e]
      simp
theorem vsort_mem {b : List Int} : ∀ {l : List (List Int)}, b ∈ vsort l ↔ b ∈ l
  | [] => by simp [vsort]
  | a :: l => by
    unfold vsort
    rw [insV_mem, vsort_mem, List.mem_cons]
theorem lexLt_trans {a b c : List Int} (h : lexLt a b = true) (k : lexLt b c = true) : lexLt a c = true := by
  cases e : lexLt a c with
  | true => rfl
  | false =>
    have := lexLe_trans (x := c) (y := a) (z := b) e (lexLt_asym h)
    rw [k] at this; cases this
theorem insV_sorted {a : List Int} : ∀ {l : List (List Int)}, l.Pairwise (fun x y => lexLt x y = true) → (insV a l).Pairwise (fun x y => lexLt x y = true)
  | [], _ => List.pairwise_singleton _ _
  | c :: l, h => by
    have hh := List.pairwise_cons.mp h
    unfold insV
    split
    · rename_i h1
      refine List.pairwise_cons.mpr ⟨fun x hx => ?_, h⟩
      rcases List.mem_cons.mp hx with e | hx
      · rw [e]; exact h1
      · exact lexLt_trans h1 (hh.1 x hx)
    split
    · rename_i h1
      refine List.pairwise_cons.mpr ⟨fun x hx => ?_, insV_sorted hh.2⟩
      rcases insV_mem.mp hx with e | hx
      · rw [e]; exact h1
      · exact hh.1 x hx
    · exact h
theorem vsort_sorted : ∀ l : List (List Int), (vsort l).Pairwise (fun x y => lexLt x y = true)
  | [] => List.Pairwise.nil
  | _ :: l => insV_sorted (vsort_sorted l)
theorem vsort_nd (l : List (List Int)) : (vsort l).Nodup := (vsort_sorted l).imp fun {a b} h e => by
  rw [e, lexLt_irrefl] at h; cases h
theorem vsort_one {l m : List (List Int)} (h : m.Pairwise fun x y => lexLt y x = false) (nd : m.Nodup) (mem : ∀ k, k ∈ m ↔ k ∈ l) : m = vsort l :=
  tsorted_one ((List.perm_ext_iff_of_nodup nd (vsort_nd l)).mpr fun k => (mem k).trans vsort_mem.symm) h ((vsort_sorted l).imp fun h => lexLt_asym h)
end LB
/-! LB5g: sorted(set(tuples)). -/
namespace LB
open PySem PySem.Spec PyProof.Rows L2
variable [Clx]
/-! sorted(set(tuples)) -/
def rSortST (P : Program) (w : World) : List V → Hp → VK → Prop := fun vs H Q => ∃ (a : Addr) (L : List (Addr × List Int)) (d : Nat), vs = [V.ref a] ∧ H a = some (SetTO P w a L) ∧ (∀ p ∈ L, H p.1 = some (.tup (p.2.map V.int)) ∧ p.2.length = d) ∧
  ∀ (M : List (Addr × List Int)) (p : Addr), M.Perm L → (M.map (·.2)).Nodup → M.Pairwise (fun q r => lexLt r.2 q.2 = false) → H p = none → Q (.ref p) (upd H p (.lst (M.map fun q => V.ref q.1)))
theorem two_pos {d : Nat} : ∀ {L : List (Addr × List Int)}, (∀ p ∈ L, p.2.length = d) → (L.map (·.2)).Nodup → 2 ≤ L.length → 1 ≤ d
  | [], _, _, h => by simp at h
  | [_], _, _, h => by simp at h
  | x :: y :: r, hk, nd, _ => by
    have e1 := hk x (.head _)
    have e2 := hk y (.tail _ (.head _))
    refine Nat.succ_le_of_lt (Nat.pos_of_ne_zero fun z => ?_)
    rw [z] at e1 e2
    have n := (List.nodup_cons.mp nd).1
    refine n (List.mem_map.mpr ⟨y, .head _, ?_⟩)
    show y.2 = x.2
    rw [List.length_eq_zero_iff.mp e1, List.length_eq_zero_iff.mp e2]
theorem cr_sortST {X : Cx} (hc : X.calm = true) : CallR X (.builtin "sorted") (rSortST X.prog X.w) := by
  intro pins s σ H vs us Q I r h
  obtain ⟨a, L, d, rfl, ha, hk, q⟩ := h
  have Z : SetT0 X.prog X.w s.heap a L := (I.hok a _ ha).1
  obtain ⟨es, ep, t, R⟩ := Z.full fun p hp => I.isT (.inl (.inl (hk p hp).1))
  obtain rfl := Vals.ref1 r
  obtain ⟨o, ho, hex, hd⟩ := R.ob
  have few := R.few
  refine Calls.call_function_entry kind_sorted plain_sorted entry_sorted (args_sorted1 _) ?_
  unfold Builtin.«sorted»
  refine wpAny_bind (m := checkCount "sorted" 1 1 _) (wpAny_pure ?_)
  refine wpAny_bind (collect_set (A := X.A.in1) (I.ok.hd hc) ⟨o, ho, hex.1, hd⟩ R.fits (by have := R.size; unfold scanBound; omega) R.tab.ris R.led fun s1 got k1 hz g1 o1 pm => ?_)
  have rows : es.toList.map (·.2) = L.map fun q => Value.ref q.1 := by
    rw [R.rows, rowsOf, List.map_map]
    rfl
  rw [rows] at pm
  have short : got.length < 64 := by rw [pm.length_eq, List.length_map]; exact few
  have d1 : 2 ≤ got.length → 1 ≤ d := fun h2 => two_pos (fun p hp => (hk p hp).2) R.nd (by rw [pm.length_eq, List.length_map] at h2; exact h2)
  have of : ∀ v ∈ got, ∃ p ∈ L, v = .ref p.1 := fun v hv => by
    obtain ⟨p, hp, e⟩ := List.mem_map.mp (pm.mem_iff.mp hv)
    exact ⟨p, hp, e.symm⟩
  refine wpAny_bind (wpAny_newList ?_ (by rw [sizeLine_eq]; omega))
  have new : (s1.heap.push (seqObj "list" got.toArray 0)).get? s1.heap.objs.size = some (seqObj "list" got.toArray 0) := Heap.get?_push_size _ rfl
  have isQ : ∀ v ∈ got, TS.TupInts (s1.heap.push (seqObj "list" got.toArray 0)) v (kH H v) ∧ (kH H v).length = d := fun v hv => by
    obtain ⟨p, hp, rfl⟩ := of v hv
    obtain ⟨hq, hl⟩ := hk p hp
    rw [kH_eq hq]
    refine ⟨?_, hl⟩
    obtain ⟨_, its, rv, ob, e, c⟩ := (show ObjOk X.prog X.w H s.heap p.1 (.tup (p.2.map V.int)) from I.hok _ _ hq)
    refine ⟨p.1, its.toArray, rfl, ⟨ob, Heap.get?_push_of_some _ (k1 _ _ e), c⟩, ?_⟩
    have : its.toArray.toList = its := by simp
    rw [this]
    exact ints_of_vals rv
  refine wpAny_bind (wpAny_holding (wpAny_call_entry slot_list_sort ⟨_, new, rfl⟩ entry_list_sort (SrtO.list_sort_ord (swo_lexL (kH H)) new (by rw [sizeLine_eq]; omega) (fun h2 => tups_sortable (d := d) (by omega) (d1 h2) isQ fun u eu => ?_) fun out a1 a2 => ⟨_, rfl, ?_⟩) (args_list_sort _)))
  · cases new.symm.trans eu
    exact fun z => absurd (Value.type.inj z) (by decide)
  · obtain ⟨M, eM, pM⟩ := perm_map_inv (f := fun q : Addr × List Int => Value.ref q.1) (a2.perm.trans pm).symm L rfl
    obtain ⟨c, at_⟩ := sortedHeap_at (vs := got) (out := out.toArray) new
    have len : (M.map fun q => V.ref q.1).length ≤ sizeLine := by rw [List.length_map, pM.length_eq, sizeLine_eq]; omega
    have hvals : Vals (M.map fun q => V.ref q.1) out := by rw [eM]; exact vals_of_refs M
    have keep : ∀ b u, s.heap.get? b = some u → (sortedHeap (s1.heap.push (seqObj "list" got.toArray 0)) s1.heap.objs.size got out.toArray).get? b = some u := fun b u e => by
      have e1 := k1 b u e
      have lt := Heap.lt_size e1
      rw [sortedHeap_old (Nat.ne_of_lt lt) (by rw [size_push']; exact Nat.lt_succ_of_lt lt)]
      exact Heap.get?_push_of_some _ e1
    have free : H s1.heap.objs.size = none := I.hok.fresh hz
    have pw : M.Pairwise (fun q r => lexLt r.2 q.2 = false) := by
      rw [eM] at a1
      refine (List.pairwise_map.mp a1).imp_of_mem fun {q r} hq hr z => ?_
      have e1 := (hk q (pM.mem_iff.mp hq)).1
      have e2 := (hk r (pM.mem_iff.mp hr)).1
      have z : lexLt (kH H (.ref r.1)) (kH H (.ref q.1)) = false := z
      rw [kH_eq e1, kH_eq e2] at z
      exact z
    have J : L2.Inv X pins σ (upd H s1.heap.objs.size (.lst (M.map fun q => V.ref q.1))) { s with heap := sortedHeap (s1.heap.push (seqObj "list" got.toArray 0)) s1.heap.objs.size got out.toArray, gens := s1.gens, drawn := s1.drawn, toks := s1.toks } :=
      I.call (ch := []) (Un.laid keep hz free) (I.hok.laid keep hz ⟨len, out, c, hvals, at_⟩) (by rw [g1]; exact I.bare) (fun _ z => nomatch z)
    refine wpAny_pure ⟨_, rfl, .ref s1.heap.objs.size, _, ?_, rfl, q M _ pM ((pM.map (·.2)).nodup_iff.mpr R.nd) pw free⟩
    have e : ({ s1 with heap := sortedHeap (s1.heap.push (seqObj "list" got.toArray 0)) s1.heap.objs.size got out.toArray } : Shared) = { s with heap := sortedHeap (s1.heap.push (seqObj "list" got.toArray 0)) s1.heap.objs.size got out.toArray, gens := s1.gens, drawn := s1.drawn, toks := s1.toks } := by
      cases s1
      cases s
      cases o1
      rfl
    rw [← e] at J
    exact J
end LB
/-! LB10b: sorted(set(e)). -/
namespace LB
open PySem PySem.Spec PyProof.Rows L2
variable [Clx]
theorem ltP2_iff {p q : Int × Int} : ltP2 p q = true ↔ p.1 < q.1 ∨ (p.1 = q.1 ∧ p.2 < q.2) := by
  unfold ltP2
  split
  · rename_i e; rw [decide_eq_true_eq]; omega
  · rename_i e; rw [decide_eq_true_eq]; omega
theorem ltP2_no {p q : Int × Int} : ltP2 p q = false ↔ ¬ (p.1 < q.1 ∨ (p.1 = q.1 ∧ p.2 < q.2)) := by
  rw [← ltP2_iff]
  cases ltP2 p q <;> simp
theorem insP_mem {p q : Int × Int} : ∀ {l : List (Int × Int)}, q ∈ insP p l ↔ q = p ∨ q ∈ l
  | [] => by simp [insP]
  | r :: l => by
    unfold insP
    split
    · simp
    split
    · rw [List.mem_cons, insP_mem, List.mem_cons]
      constructor
      · rintro (h | h | h)
        · exact .inr (.inl h)
        · exact .inl h
        · exact .inr (.inr h)
      · rintro (h | h | h)
        · exact .inr (.inl h)
        · exact .inl h
        · exact .inr (.inr h)
    · rename_i h1 h2
      have e : r = p := by
        have a := ltP2_no.mp (by simpa using h1)
        have b := ltP2_no.mp (by simpa using h2)
        exact Prod.ext (by omega) (by omega)
      rw [e]
      simp
theorem psort_mem {q : Int × Int} : ∀ {l : List (Int × Int)}, q ∈ psort l ↔ q ∈ l
  | [] => by simp [psort]
  | p :: l => by
    unfold psort
    rw [insP_mem, psort_mem, List.mem_cons]
theorem insP_sorted {p : Int × Int} : ∀ {l : List (Int × Int)}, l.Pairwise (fun x y => ltP2 x y = true) → (insP p l).Pairwise (fun x y => ltP2 x y = true)
  | [], _ => List.pairwise_singleton _ _
  | r :: l, h => by
    have hh := List.pairwise_cons.mp h
    unfold insP
    split
    · rename_i hp
      refine List.pairwise_cons.mpr ⟨fun c hc => ?_, h⟩
      rcases List.mem_cons.mp hc with e | hc
      · rw [e]; exact hp
      · have a := ltP2_iff.mp hp
        have b := ltP2_iff.mp (hh.1 c hc)
        exact ltP2_iff.mpr (by omega)
    split
    · rename_i hp
      refine List.pairwise_cons.mpr ⟨fun c hc => ?_, insP_sorted hh.2⟩
      rcases insP_mem.mp hc with e | hc
      · rw [e]; exact hp
      · exact hh.1 c hc
    · exact h
theorem psort_sorted : ∀ l : List (Int × Int), (psort l).Pairwise (fun x y => ltP2 x y = true)
  | [] => List.Pairwise.nil
  | p :: l => insP_sorted (psort_sorted l)
theorem strict_nd {l : List (Int × Int)} (h : l.Pairwise (fun x y => ltP2 x y = true)) : l.Nodup :=
  h.imp fun {x y} k e => by
    subst e
    have := ltP2_iff.mp k
    omega
theorem psort_one {l m : List (Int × Int)} (h : m.Pairwise fun x y => ltP2 y x = false) (nd : m.Nodup) (mem : ∀ p, p ∈ m ↔ p ∈ l) : m = psort l := by
  refine ((List.perm_ext_iff_of_nodup nd (strict_nd (psort_sorted l))).mpr fun p => (mem p).trans psort_mem.symm).eq_of_pairwise (le := fun x y => ltP2 y x = false) (fun a b _ _ h1 h2 => ?_) h ((psort_sorted l).imp fun {x y} k => ?_)
  · have a := ltP2_no.mp h1
    have b := ltP2_no.mp h2
    exact Prod.ext (by omega) (by omega)
  · have a := ltP2_iff.mp k
    exact ltP2_no.mpr (by omega)
/-- a list of pairs in the heap -/
theorem pairs_of {H : Hp} {F : List Addr} : ∀ {l : List D} {xs : List V} {ps : List (Int × Int)}, Rps H F l xs → toPairs l = some ps →
    ∃ ks : List (Addr × List Int), xs = ks.map (fun q => V.ref q.1) ∧ ks.map (·.2) = ps.map (fun p => [p.1, p.2]) ∧ ∀ q ∈ ks, ∃ i j, q.2 = [i, j] ∧ H q.1 = some (.tup [.int i, .int j])
  | [], _, _, .nil, h => by cases h; exact ⟨[], rfl, rfl, fun _ z => nomatch z⟩
  | d :: l, _, ps, .cons r t, h => by
    unfold toPairs at h
    split at h
    · rename_i z; cases z
    · rename_i a b l' e
      cases e
      cases e2 : toPairs l with
      | none => rw [e2] at h; cases h
      | some qs =>
        rw [e2] at h
        cases h
        obtain ⟨ks, h1, h2, h3⟩ := pairs_of t e2
        cases r with
        | tup ht rt =>
          rename_i p xs
          cases rt with
          | cons ra rt =>
            cases rt with
            | cons rb rt =>
              cases rt
              cases ra
              cases rb
              refine ⟨(p, [a, b]) :: ks, by rw [h1]; rfl, by rw [List.map_cons, h2]; rfl, fun q hq => ?_⟩
              rcases List.mem_cons.mp hq with e | hq
              · subst e; exact ⟨a, b, rfl, ht⟩
              · exact h3 q hq
    · cases h
theorem pairsRps {H : Hp} {F : List Addr} {f : Addr × List Int → Int × Int} : ∀ M : List (Addr × List Int), (∀ q ∈ M, H q.1 = some (.tup [.int (f q).1, .int (f q).2])) → Rps H F ((M.map f).map pairD) (M.map fun q => V.ref q.1)
  | [], _ => .nil
  | q :: M, h => .cons (.tup (h q (.head _)) (.cons (.int _) (.cons (.int _) .nil))) (pairsRps M fun r hr => h r (.tail _ hr))
theorem RO_ex' {α : Type} {r : Res α} {Q : α → Store → Prop} (h : RO r Q) : ∃ a st, r = .ok a st ∧ Q a st := by
  cases r with
  | ok a st => exact ⟨a, st, rfl, h⟩
  | exc => exact h.elim
  | bad => exact h.elim
theorem srtsetD_seq {l : List D} {z : D} (h : srtsetD l = some z) : isSeq z := by
  unfold srtsetD at h
  split at h
  case isFalse => cases h
  split at h
  · cases h; trivial
  split at h
  · cases h; trivial
  · cases e : toTups l with
    | none => rw [e] at h; cases h
    | some nss =>
      rw [e] at h
      have h : (if sameLenA nss = true then some (D.lst ((vsort nss).map tupD)) else none) = some z := h
      split at h <;> cases h
      trivial
theorem seq_srtset {T : Tab} {a : E} : ∀ env st, RO (evE T (.bi .srtset [a]) .v env st) (fun _ _ => True) → RO (evE T (.bi .srtset [a]) .v env st) fun d _ => isSeq d := fun env st q => by
  refine RO_of_bind (RO_mono (RO_bind q) fun ds st1 k => ?_)
  obtain ⟨z, hz, _⟩ := RO_opt (RO_bind k)
  refine RO_of_bind ?_
  rw [hz]
  show isSeq z
  cases ds with
  | nil => cases hz
  | cons d ds => cases ds with
    | cons d2 ds => cases ds <;> cases hz
    | nil =>
      cases d <;> first | (simp only [biV, bi1, reduceCtorEq] at hz; done) | skip
      exact srtsetD_seq hz
/-- distinct lists, each once -/
theorem pairs_mem {f : Addr × List Int → List Int} {ks L M : List (Addr × List Int)} {nss : List (List Int)} (ek : ks.map (·.2) = nss) (hsub : ∀ p ∈ L, p ∈ ks) (hall : ∀ p ∈ ks, p.2 ∈ L.map (·.2)) (pM : M.Perm L) (k : List Int) : k ∈ M.map (·.2) ↔ k ∈ nss := by
  rw [← ek]
  constructor
  · intro h
    obtain ⟨q, hq, rfl⟩ := List.mem_map.mp h
    exact List.mem_map.mpr ⟨q, hsub q (pM.mem_iff.mp hq), rfl⟩
  · intro h
    obtain ⟨q, hq, rfl⟩ := List.mem_map.mp h
    exact (pM.map (·.2)).mem_iff.mpr (hall q hq)
section
variable {X : Cx} {G : Sig} {T : Tab}
/-- sorted(set(..)) of a list of one kind -/
def tK (T : Tab) (a : E) (P : List D → Prop) : TE := fun σ H Q => ∃ G env F st, SR H F st ∧ ER G σ H F env ∧
  RO (evE T a .p env st) fun d st1 => ∃ l z, d = .lst l ∧ P l ∧ srtsetD l = some z ∧ ∀ x H' F', Stp H F H' F' → SR H' F' st1 → OV true .v H H' F' z x → Q x H'
theorem srtset_lt {l : List D} {z : D} (h : srtsetD l = some z) : l.length < 64 := by
  unfold srtsetD at h
  split at h
  · assumption
  · cases h
theorem pe_srtset2 {a : E} {pa : Expr} {p p2 q2 pos : Pos} (g : Gc G T X) (hh : G.hot = false) (hx : glB X.env.scope "sorted" = true) (hy : glB X.env.scope "set" = true) (hn : noSt pa = true) (ha : PE X pa (tE T false .p a)) :
    PE X (.Call (.Name "sorted" p) [.Call (.Name "set" p2) [pa] [] q2] [] pos) (tK T a fun l => ∃ ps, toPairs l = some ps) := by
  have hb : ∀ n ∈ bltNames, X.mg n = none := g.blt
  have un := g.un
  have inner : PE X (.Call (.Name "set" p2) [pa] [] q2) _ := pe_callTy (cr_setOfT (g.calm hh) (by omega)) (gl_of hy) (hb _ (by decide)) (by decide +kernel) (pa_cons ha pa_nil (star_cons hn)) (he := star_cons hn) (hpl := rfl)
  refine PE.imp (pe_callB (cr_sortSP (g.calm hh)) (gl_of hx) (hb _ (by decide)) (by decide +kernel) (pa_cons inner pa_nil rfl) (he := rfl) (hpl := rfl)) fun σ H Q q => ?_
  obtain ⟨G0, env, F, st, s, r, q⟩ := q
  refine tE_go s r q fun d st1 x H1 F1 k a1 s1 r1 v1 => ?_
  obtain ⟨l, z, rfl, ⟨ps, e⟩, hz, k⟩ := k
  have hl := srtset_lt hz
  have ez : z = .lst ((psort ps).map pairD) := by
    unfold srtsetD at hz
    rw [if_pos hl, e] at hz
    exact (Option.some.inj hz).symm
  subst ez
  have k : (true = true → isSeq (.lst ((psort ps).map pairD))) ∧ ∀ x H' F', Stp H F H' F' → SR H' F' st1 → OV true .v H H' F' (.lst ((psort ps).map pairD)) x → Q x H' := ⟨fun _ => trivial, k⟩
  obtain ⟨p1, xs, rfl, rx, t1⟩ := listV (K := X.K) v1
  obtain ⟨ks, ex, ek, hk⟩ := pairs_of rx e
  have eks : ks.length = l.length := by
    have := rx.length
    rw [ex, List.length_map] at this
    exact this.symm
  rw [ex] at t1
  refine ⟨p1, ks, rfl, t1, fun q hq => ?_, by rw [eks]; exact hl, fun b L hbn hsub hall => ?_⟩
  · obtain ⟨i, j, e2, h2⟩ := hk q hq
    rw [e2]
    exact .inl (.inl h2)
  have nb : ∀ q ∈ L, q.1 ≠ b := fun q hq z => by
    obtain ⟨i, j, e2, h2⟩ := hk q (hsub q hq)
    rw [z, hbn] at h2; cases h2
  have at2 : ∀ q ∈ L, ∃ i j, q.2 = [i, j] ∧ upd H1 b (SetTO X.prog X.w b L) q.1 = some (.tup [.int i, .int j]) := fun q hq => by
    obtain ⟨i, j, e2, h2⟩ := hk q (hsub q hq)
    exact ⟨i, j, e2, by rw [upd_ne (nb q hq)]; exact h2⟩
  refine ⟨b, L, rfl, upd_same, at2, fun M w pM nd pw hw => ?_⟩
  have s2 : SR (upd H1 b (SetTO X.prog X.w b L)) F1 st1 := s1.laid hbn
  have a2 : Stp H1 F1 (upd H1 b (SetTO X.prog X.w b L)) F1 := Stp.laid s1 hbn
  have hw1 : H1 w = none := by
    by_cases z : w = b
    · rw [z, upd_same] at hw; cases hw
    · rw [upd_ne z] at hw; exact hw
  have one : ∀ q ∈ M, q.2 = [(pairOf (upd H1 b (SetTO X.prog X.w b L)) (.ref q.1)).1, (pairOf (upd H1 b (SetTO X.prog X.w b L)) (.ref q.1)).2] ∧ upd H1 b (SetTO X.prog X.w b L) q.1 = some (.tup [.int (pairOf (upd H1 b (SetTO X.prog X.w b L)) (.ref q.1)).1, .int (pairOf (upd H1 b (SetTO X.prog X.w b L)) (.ref q.1)).2]) := fun q hq => by
    obtain ⟨i, j, e2, h2⟩ := at2 q (pM.mem_iff.mp hq)
    rw [pairOf_eq h2]
    exact ⟨e2, h2⟩
  have eM : M.map (fun q => pairOf (upd H1 b (SetTO X.prog X.w b L)) (.ref q.1)) = psort ps := by
    refine psort_one (List.pairwise_map.mpr pw) ?_ fun y => ?_
    · refine List.pairwise_map.mpr ((List.pairwise_map.mp nd).imp_of_mem fun {q r} hq hr hne z => hne ?_)
      rw [(one q hq).1, (one r hr).1, z]
    · constructor
      · intro hy
        obtain ⟨q, hq, rfl⟩ := List.mem_map.mp hy
        have h1 : q.2 ∈ ks.map (·.2) := List.mem_map.mpr ⟨q, hsub q (pM.mem_iff.mp hq), rfl⟩
        rw [ek] at h1
        obtain ⟨y, hy, e3⟩ := List.mem_map.mp h1
        rw [(one q hq).1] at e3
        have e4 := (List.cons.inj e3).1
        have e5 := (List.cons.inj (List.cons.inj e3).2).1
        have e6 : pairOf (upd H1 b (SetTO X.prog X.w b L)) (.ref q.1) = y := Prod.ext e4.symm e5.symm
        rw [e6]
        exact hy
      · intro hy
        have h1 : [y.1, y.2] ∈ ks.map (·.2) := by rw [ek]; exact List.mem_map.mpr ⟨y, hy, rfl⟩
        obtain ⟨q, hq, e3⟩ := List.mem_map.mp h1
        have h2 := hall q hq
        obtain ⟨q', hq', e4⟩ := List.mem_map.mp h2
        have hq' := pM.mem_iff.mpr hq'
        refine List.mem_map.mpr ⟨q', hq', ?_⟩
        have e5 := (one q' hq').1
        rw [e4, e3] at e5
        exact Prod.ext (List.cons.inj e5).1.symm (List.cons.inj (List.cons.inj e5).2).1.symm
  have rp : Rps (upd H1 b (SetTO X.prog X.w b L)) F1 ((psort ps).map pairD) (M.map fun q => V.ref q.1) := by
    rw [← eM]
    exact pairsRps M fun q hq => (one q hq).2
  have gd := fin_d (b := true) (m := .v) (fun _ => rfl) k a1 s1
  exact gd w _ hw1 (a2.trans (Stp.laid s2 hw)) (s2.laid hw) (.lst upd_same (rp.mono (keeps_new hw)))

theorem pe_srtsetI {a : E} {pa : Expr} {p p2 q2 pos : Pos} (g : Gc G T X) (hh : G.hot = false) (hx : glB X.env.scope "sorted" = true) (hy : glB X.env.scope "set" = true) (hn : noSt pa = true) (ha : PE X pa (tE T false .p a)) :
    PE X (.Call (.Name "sorted" p) [.Call (.Name "set" p2) [pa] [] q2] [] pos) (tK T a fun l => toPairs l = none ∧ ∃ ns, toInts l = some ns) := by
  have hb : ∀ n ∈ bltNames, X.mg n = none := g.blt
  have inner : PE X (.Call (.Name "set" p2) [pa] [] q2) _ := pe_callTy (cr_setI (g.calm hh)) (gl_of hy) (hb _ (by decide)) (by decide +kernel) (pa_cons ha pa_nil (star_cons hn)) (he := star_cons hn) (hpl := rfl)
  refine PE.imp (pe_callB (cr_sortedSet (g.calm hh)) (gl_of hx) (hb _ (by decide)) (by decide +kernel) (pa_cons inner pa_nil rfl) (he := rfl) (hpl := rfl)) fun σ H Q q => ?_
  obtain ⟨G0, env, F, st, s, r, q⟩ := q
  refine tE_go s r q fun d st1 x H1 F1 k a1 s1 r1 v1 => ?_
  obtain ⟨l, z, rfl, ⟨e0, ns, e⟩, hz, k⟩ := k
  have hl := srtset_lt hz
  have ez : z = .lst ((usort ns).map .int) := by
    unfold srtsetD at hz
    rw [if_pos hl, e0] at hz
    simp only [e] at hz
    exact (Option.some.inj hz).symm
  subst ez
  have k : (true = true → isSeq (.lst ((usort ns).map .int))) ∧ ∀ x H' F', Stp H F H' F' → SR H' F' st1 → OV true .v H H' F' (.lst ((usort ns).map .int)) x → Q x H' := ⟨fun _ => trivial, k⟩
  obtain ⟨p1, xs, rfl, rx, t1⟩ := listV (K := X.K) v1
  have ln : l.length = ns.length := by
    have := rx.length
    rw [rx.ints e, List.length_map] at this
    exact this
  rw [rx.ints e] at t1
  refine ⟨p1, ns, rfl, t1, by omega, fun b c hbn hc => ⟨b, _, c, rfl, upd_same, by omega, fun ms w pw mem hlen hw => ?_⟩⟩
  have em : ms = usort ns := usort_one pw fun k => (mem k).trans decide_eq_true_iff
  rw [em]
  have s2 : SR (upd H1 b (SetO X.w b (fun j => decide (j ∈ ns)) c)) F1 st1 := s1.laid hbn
  have a2 : Stp H1 F1 (upd H1 b (SetO X.w b (fun j => decide (j ∈ ns)) c)) F1 := Stp.laid s1 hbn
  have hw1 : H1 w = none := by
    by_cases z : w = b
    · rw [z, upd_same] at hw; cases hw
    · rw [upd_ne z] at hw; exact hw
  exact fin_d (b := true) (m := .v) (fun _ => rfl) k a1 s1 w _ hw1 (a2.trans (Stp.laid s2 hw)) (s2.laid hw) (.lst upd_same (intsRps _))
theorem pe_srtsetT {a : E} {pa : Expr} {p p2 q2 pos : Pos} (g : Gc G T X) (hh : G.hot = false) (hx : glB X.env.scope "sorted" = true) (hy : glB X.env.scope "set" = true) (hn : noSt pa = true) (ha : PE X pa (tE T false .p a)) :
    PE X (.Call (.Name "sorted" p) [.Call (.Name "set" p2) [pa] [] q2] [] pos) (tK T a fun l => toPairs l = none ∧ toInts l = none) := by
  have hb : ∀ n ∈ bltNames, X.mg n = none := g.blt
  have un := g.un
  have inner : PE X (.Call (.Name "set" p2) [pa] [] q2) _ := pe_callTy (cr_setOfT (g.calm hh) (by omega)) (gl_of hy) (hb _ (by decide)) (by decide +kernel) (pa_cons ha pa_nil (star_cons hn)) (he := star_cons hn) (hpl := rfl)
  refine PE.imp (pe_callB (cr_sortST (g.calm hh)) (gl_of hx) (hb _ (by decide)) (by decide +kernel) (pa_cons inner pa_nil rfl) (he := rfl) (hpl := rfl)) fun σ H Q q => ?_
  obtain ⟨G0, env, F, st, s, r, q⟩ := q
  refine tE_go s r q fun d st1 x H1 F1 k a1 s1 r1 v1 => ?_
  obtain ⟨l, z, rfl, ⟨e0, e1⟩, hz, k⟩ := k
  have hl := srtset_lt hz
  have which : ∃ nss, toTups l = some nss ∧ sameLenA nss = true ∧ z = .lst ((vsort nss).map tupD) := by
    unfold srtsetD at hz
    rw [if_pos hl, e0] at hz
    simp only [e1] at hz
    cases e : toTups l with
    | none => rw [e] at hz; cases hz
    | some nss =>
      rw [e] at hz
      have hz : (if sameLenA nss = true then some (D.lst ((vsort nss).map tupD)) else none) = some z := hz
      split at hz
      · rename_i h; exact ⟨nss, rfl, h, (Option.some.inj hz).symm⟩
      · cases hz
  obtain ⟨nss, e, hs, rfl⟩ := which
  have k : (true = true → isSeq (.lst ((vsort nss).map tupD))) ∧ ∀ x H' F', Stp H F H' F' → SR H' F' st1 → OV true .v H H' F' (.lst ((vsort nss).map tupD)) x → Q x H' := ⟨fun _ => trivial, k⟩
  obtain ⟨p1, xs, rfl, rx, t1⟩ := listV (K := X.K) v1
  obtain ⟨as, rfl, ek, hk⟩ := tups_of rx e
  have l2 : as.length = l.length := by
    have := rx.length
    rw [List.length_map] at this
    exact this.symm
  have dd : ∃ d, ∀ a ∈ as, (kH H1 (.ref a)).length = d := by
    have lm : ∀ a ∈ as, kH H1 (.ref a) ∈ nss := fun a ha => by rw [← ek]; exact List.mem_map.mpr ⟨a, ha, rfl⟩
    match nss, hs, lm with
    | [], _, lm => exact ⟨1, fun a ha => by cases lm a ha⟩
    | n :: r, hs, lm =>
      refine ⟨n.length, fun a ha => ?_⟩
      rcases List.mem_cons.mp (lm a ha) with z | z
      · rw [z]
      · exact Nat.eq_of_beq_eq_true (List.all_eq_true.mp hs _ z)
  obtain ⟨d, hd⟩ := dd
  have t1' : SqL X.K H1 p1 ((as.map fun a => (a, kH H1 (.ref a))).map fun q => V.ref q.1) := by
    rw [List.map_map]; exact t1
  refine ⟨p1, as.map fun a => (a, kH H1 (.ref a)), rfl, t1', fun q hq => ?_, by rw [List.length_map]; omega, fun b L hbn hsub hall => ?_⟩
  · obtain ⟨a, ha, rfl⟩ := List.mem_map.mp hq
    exact .inl (.inl (hk a ha))
  have inL : ∀ q ∈ L, H1 q.1 = some (.tup (q.2.map V.int)) ∧ q.2.length = d := fun q hq => by
    obtain ⟨a, ha, e⟩ := List.mem_map.mp (hsub q hq)
    rw [← e]
    exact ⟨hk a ha, hd a ha⟩
  have nb : ∀ q ∈ L, q.1 ≠ b := fun q hq z => by
    have := (inL q hq).1
    rw [z, hbn] at this; cases this
  refine ⟨b, L, d, rfl, upd_same, fun q hq => ⟨by rw [upd_ne (nb q hq)]; exact (inL q hq).1, (inL q hq).2⟩, fun M w pM nd pw hw => ?_⟩
  have s2 : SR (upd H1 b (SetTO X.prog X.w b L)) F1 st1 := s1.laid hbn
  have a2 : Stp H1 F1 (upd H1 b (SetTO X.prog X.w b L)) F1 := Stp.laid s1 hbn
  have hw1 : H1 w = none := by
    by_cases z : w = b
    · rw [z, upd_same] at hw; cases hw
    · rw [upd_ne z] at hw; exact hw
  have eM : M.map (·.2) = vsort nss := vsort_one (List.pairwise_map.mpr pw) nd (pairs_mem (f := fun q => q.2) (by rw [List.map_map]; exact ek) hsub hall pM)
  have rp : Rps (upd H1 b (SetTO X.prog X.w b L)) F1 ((vsort nss).map tupD) (M.map fun q => V.ref q.1) := by
    rw [← eM]
    have : ∀ M' : List (Addr × List Int), (∀ q ∈ M', q ∈ M) → Rps (upd H1 b (SetTO X.prog X.w b L)) F1 ((M'.map (·.2)).map tupD) (M'.map fun q => V.ref q.1) := by
      intro M'
      induction M' with
      | nil => exact fun _ => .nil
      | cons q M' ih =>
        intro h
        refine .cons (.tup ?_ (intsRps q.2)) (ih fun r hr => h r (.tail _ hr))
        have hq := pM.mem_iff.mp (h q (.head _))
        rw [upd_ne (nb q hq)]
        exact (inL q hq).1
    exact this M fun _ h => h
  exact fin_d (b := true) (m := .v) (fun _ => rfl) k a1 s1 w _ hw1 (a2.trans (Stp.laid s2 hw)) (s2.laid hw) (.lst upd_same (rp.mono (keeps_new hw)))
theorem pe_srtsetF {a : E} {pa : Expr} {p p2 q2 pos : Pos} (g : Gc G T X) (hh : G.hot = false) (hx : glB X.env.scope "sorted" = true) (hy : glB X.env.scope "set" = true) (hn : noSt pa = true) (ha : PE X pa (tE T false .p a)) :
    PE X (.Call (.Name "sorted" p) [.Call (.Name "set" p2) [pa] [] q2] [] pos) (tE T true .v (.bi .srtset [a])) := by
  refine ⟨fun pins sh σ H Q I q => ?_⟩
  obtain ⟨G0, env, F, st, s, r, q⟩ := q
  have q : RO (((evE T a .p env st).bind fun x st1 => (evB T [] env st1).bind fun r st2 => .ok (x :: r) st2).bind fun ds st1 => (Res.opt (biV st1 .srtset ds) st1).bind (post .v)) _ := q
  obtain ⟨d, st1, ev, k⟩ := RO_ex' (RO_bind (RO_bind q))
  obtain ⟨z, hz, k2⟩ := RO_opt (RO_bind (show RO ((Res.opt (biV st1 .srtset [d]) st1).bind (post .v)) _ from k))
  cases d <;> first | (simp only [biV, bi1, reduceCtorEq] at hz; done) | skip
  rename_i l
  have hz : srtsetD l = some z := hz
  have fin : ∀ P : List D → Prop, P l → tK T a P σ H Q := fun P h => ⟨G0, env, F, st, s, r, by rw [ev]; exact ⟨l, z, rfl, h, hz, k2.2⟩⟩
  cases e : toPairs l with
  | some ps => exact (pe_srtset2 g hh hx hy hn ha).run pins sh σ H Q I (fin _ ⟨ps, e⟩)
  | none =>
    cases e2 : toInts l with
    | some ns => exact (pe_srtsetI g hh hx hy hn ha).run pins sh σ H Q I (fin _ ⟨e, ns, e2⟩)
    | none => exact (pe_srtsetT g hh hx hy hn ha).run pins sh σ H Q I (fin _ ⟨e, e2⟩)
end
end LB
/-! LB11b: enumerate(a tuple). -/
namespace LBe
open PySem
open PySem.Sem (wp)
open AutoSeq1 (wpAny_loadPart')
theorem meets_new (tu : Addr) (its : Array Value) (ep : Nat) (dc : Option Addr) (sl : Array (Option Value)) :
    Meets (Builtin.«enumerate.__new__» ⟨[.type "enumerate", .ref tu], []⟩) (fun _ R s => s.heap.get? tu = some { cls := .type "tuple", dict := dc, data := .seq its ep, slots := sl } ∧
      R (.ok (.ret (.ref (s.heap.push { cls := .type "tuple_iterator", data := .fields #[.ref tu, .int 0 0] }).objs.size)))
        { s with heap := (s.heap.push { cls := .type "tuple_iterator", data := .fields #[.ref tu, .int 0 0] }).push { cls := .type "enumerate", data := .fields #[.none, .bool false, .ref s.heap.objs.size, rawInt 0, .none, .none] } }) :=
  .of_wp fun prog w A R s z => by
    obtain ⟨hh, gg, dd, tt, oo⟩ := s
    obtain ⟨at_, z⟩ := z
    have sub := sub_enumerate
    have isT : Heap.IsTuple (Shared.heap ⟨hh, gg, dd, tt, oo⟩) tu its := ⟨_, at_, rfl, ep, rfl⟩
    wp_walk using wpAny_loadPart' at_
    refine wpAny_stack_any fun stk => wpAny_pure ?_
    split
    · rename_i cl _ _ _ _ _
      cases (cl == Value.type "enumerate")
      · wp_walk using wpAny_loadPart' at_, wpAny_pyIter_tuple isT
        exact ⟨_, rfl, z⟩
      · wp_walk using wpAny_loadPart' at_, wpAny_pyIter_tuple isT
        exact ⟨_, rfl, z⟩
    · wp_walk using wpAny_loadPart' at_, wpAny_pyIter_tuple isT
      exact ⟨_, rfl, z⟩
section
variable {prog : Program} {w : World} {A : Around} {E : Value → Shared → Prop} {s : Shared}
theorem call_new {tu : Addr} {its : Array Value} {Q : Value → Shared → Prop} (isT : s.heap.IsTuple tu its)
    (k : ∀ h', IsEnum h' (s.heap.objs.size + 1) s.heap.objs.size 0 .none → h'.IsTupleIter s.heap.objs.size tu 0 → h'.objs.size = s.heap.objs.size + 2 → (∀ b o, s.heap.get? b = some o → h'.get? b = some o) → Q (.ref (s.heap.objs.size + 1)) { s with heap := h' }) :
    wpAny (model prog w) A (call (.type "enumerate") [.ref tu]) Q E s := by
  obtain ⟨⟨cl, dc, dt, sl⟩, at_, ec, ep, ed⟩ := isT
  replace ec : cl = .type "tuple" := ec
  replace ed : dt = .seq its ep := ed
  subst ec ed
  refine callType_new F.called_enumerate (by decide) (F.typeCall_enumerate_1 _) (F.newCall_enumerate_1 _) (fun ob => F.args_object_init_2 ob _) F.entry_enumerate_new (meets_new tu its ep dc sl) ⟨at_, ?_⟩
  have size1 : (s.heap.push { cls := .type "tuple_iterator", data := .fields #[.ref tu, .int 0 0] }).objs.size = s.heap.objs.size + 1 := Heap.size_push ..
  show _ ∧ _
  rw [size1]
  have en : IsEnum ((s.heap.push { cls := .type "tuple_iterator", data := .fields #[.ref tu, .int 0 0] }).push { cls := .type "enumerate", data := .fields #[.none, .bool false, .ref s.heap.objs.size, rawInt 0, .none, .none] }) (s.heap.objs.size + 1) s.heap.objs.size 0 .none := by
    have q := Heap.get?_push_size (s.heap.push { cls := .type "tuple_iterator", data := .fields #[.ref tu, .int 0 0] }) (o := { cls := .type "enumerate", data := .fields #[.none, .bool false, .ref s.heap.objs.size, rawInt 0, .none, .none] }) rfl
    rw [size1] at q
    exact q
  exact ⟨⟨_, en, rfl⟩, k _ en ⟨_, Heap.get?_push_of_some _ (Heap.get?_push_size _ rfl), rfl, rfl⟩ (by rw [Heap.size_push, size1]) fun b o x => Heap.get?_push_of_some _ (Heap.get?_push_of_some _ x)⟩
theorem next_item {en ti tu : Addr} {i : Nat} {its : Array Value} {x old : Value} {Q : Value → Shared → Prop} (isE : IsEnum s.heap en ti i old) (isI : s.heap.IsTupleIter ti tu i) (isT : s.heap.IsTuple tu its) (hx : its[i]? = some x) (ne : en ≠ ti)
    (k : ∀ h', IsEnumOut h' en ti ((i : Int) + 1) x s.heap.objs.size → h'.IsTupleIter ti tu (i + 1) → h'.get? s.heap.objs.size = some { cls := .type "tuple", data := .seq #[.int i s.toks, x] } → h'.objs.size = s.heap.objs.size + 1 →
      (∀ b o, b ≠ en → b ≠ ti → s.heap.get? b = some o → h'.get? b = some o) → Q (.ref s.heap.objs.size) { s with heap := h', toks := s.toks + 1 }) :
    wpAny (model prog w) A (Builtin.«enumerate.__next__» ⟨[.ref en], []⟩) (fun fin s' => ∃ v, fin = .done (.ret v) ∧ Q v s') E s := by
  obtain ⟨h0, gg, dd, tt, oo⟩ := s
  show wpAny _ _ (field (.ref en) 2 >>= _) _ _ _
  refine wpAny_bind (wpAny_field isE rfl (x := .ref ti) rfl ?_)
  refine wpAny_bind (RZ.nextOf_tuple_item isI isT hx fun h1 i1 b1 => ?_)
  replace b1 : Heap.SameBut ti h0 h1 := b1
  have e1 : IsEnum h1 en ti i old := (b1.2 en ne).trans isE
  show wpAny _ _ (field (.ref en) 3 >>= _) _ _ ⟨h1, gg, dd, tt, oo⟩
  refine wpAny_bind (wpAny_field e1 rfl (x := rawInt i) rfl ?_)
  show wpAny _ _ (field (.ref en) 4 >>= _) _ _ ⟨h1, gg, dd, tt, oo⟩
  refine wpAny_bind (wpAny_field e1 rfl (x := .none) rfl ?_)
  show wpAny _ _ (mkInt i >>= _) _ _ ⟨h1, gg, dd, tt, oo⟩
  refine wpAny_bind (wpAny_mkInt ?_)
  show wpAny _ _ (setField (.ref en) 3 (rawInt ((i : Int) + 1)) >>= _) _ _ ⟨h1, gg, dd, tt + 1, oo⟩
  refine wpAny_bind (wpAny_setField_rec e1 (by simp) fun h2 e2 b2 => ?_)
  replace b2 : Heap.SameBut en h1 h2 := b2
  replace e2 : IsEnum h2 en ti ((i : Int) + 1) old := e2
  show wpAny _ _ (setField (.ref en) 4 .none >>= _) _ _ ⟨h2, gg, dd, tt + 1, oo⟩
  refine wpAny_bind (wpAny_setField_rec e2 (by simp) fun h3 e3 b3 => ?_)
  replace b3 : Heap.SameBut en h2 h3 := b3
  replace e3 : IsEnum h3 en ti ((i : Int) + 1) old := e3
  show wpAny _ _ (newTuple [.int i tt, x] >>= _) _ _ ⟨h3, gg, dd, tt + 1, oo⟩
  refine wpAny_bind (wpAny_newTuple ?_)
  have e4 : IsEnum (h3.push { cls := .type "tuple", data := .seq #[.int i tt, x] }) en ti ((i : Int) + 1) old := Heap.get?_push_of_some _ e3
  generalize eh : h3.push { cls := .type "tuple", data := .seq #[.int i tt, x] } = h4 at e4
  have size3 : h3.objs.size = h0.objs.size := by rw [b3.1, b2.1, b1.1]
  have lt : en < h0.objs.size := Heap.lt_size isE
  have new4 : h4.get? h0.objs.size = some { cls := .type "tuple", data := .seq #[.int i tt, x] } := by rw [← eh, ← size3]; exact Heap.get?_push_size _ rfl
  have size4 : h4.objs.size = h0.objs.size + 1 := by rw [← eh, Heap.size_push, size3]
  have keep4 : ∀ b o, b ≠ en → b ≠ ti → h0.get? b = some o → h4.get? b = some o := fun b o n1 n2 hb => by
    rw [← eh]; exact Heap.get?_push_of_some _ (b3.extBut b o n1 (b2.extBut b o n1 (b1.extBut b o n2 hb)))
  have i4 : h4.IsTupleIter ti tu (i + 1) := by
    rw [← eh]
    obtain ⟨o, ho, r⟩ := i1
    exact ⟨o, Heap.get?_push_of_some _ (b3.extBut _ _ (Ne.symm ne) (b2.extBut _ _ (Ne.symm ne) ho)), r⟩
  have stepI : ∀ {p q : Heap}, Heap.SameBut en p q → p.IsTupleIter ti tu (i + 1) → q.IsTupleIter ti tu (i + 1) := fun sb z => by
    obtain ⟨o, ho, r⟩ := z
    exact ⟨o, sb.extBut _ _ (Ne.symm ne) ho, r⟩
  show wpAny _ _ (Builtin.SmallTypes.ownedTupleIsFree (.ref en) >>= _) _ _ ⟨h4, gg, dd, tt + 1, oo⟩
  rw [size3]
  clear eh e3 b3 e2 b2 e1 b1 i1 size3 h3 h2 h1
  refine wpAny_bind ?_
  unfold Builtin.SmallTypes.ownedTupleIsFree
  refine wpAny_bind (wpAny_field e4 rfl (x := .none) rfl (wpAny_pure ?_))
  simp only [if_true]
  refine wpAny_bind (wpAny_rule ?_)
  refine wpAny_bind (wpAny_field e4 rfl (x := old) rfl ?_)
  refine wpAny_bind (wpAny_setField_rec e4 (by simp) fun h5 e5 b5 => ?_)
  replace b5 : Heap.SameBut en h4 h5 := b5
  replace e5 : IsEnum h5 en ti ((i : Int) + 1) x := e5
  show wpAny _ _ (Builtin.SmallTypes.ownedTupleHandOut (.ref en) (.ref h0.objs.size) >>= _) _ _ ⟨h5, gg, dd, tt + 1, oo⟩
  refine wpAny_bind ?_
  unfold Builtin.SmallTypes.ownedTupleHandOut
  refine wpAny_bind (wpAny_setField_rec e5 (by simp) fun h6 e6 b6 => ?_)
  replace b6 : Heap.SameBut en h5 h6 := b6
  replace e6 : IsEnumOut h6 en ti ((i : Int) + 1) x h0.objs.size := e6
  refine wpAny_setField_rec e6 (by simp) fun h7 e7 b7 => ?_
  replace b7 : Heap.SameBut en h6 h7 := b7
  replace e7 : IsEnumOut h7 en ti ((i : Int) + 1) x h0.objs.size := e7
  refine wpAny_bind (wpAny_letGo (wpAny_pure ⟨_, rfl, k h7 e7 (stepI b7 (stepI b6 (stepI b5 i4))) ?_ ?_ ?_⟩))
  · exact b7.extBut _ _ (Nat.ne_of_gt lt) (b6.extBut _ _ (Nat.ne_of_gt lt) (b5.extBut _ _ (Nat.ne_of_gt lt) new4))
  · rw [b7.1, b6.1, b5.1, size4]
  · exact fun b o n1 n2 hb => b7.extBut b o n1 (b6.extBut b o n1 (b5.extBut b o n1 (keep4 b o n1 n2 hb)))
theorem pyNext_item {en ti tu : Addr} {i : Nat} {its : Array Value} {x old : Value} {Q : Option Value → Shared → Prop} (isE : IsEnum s.heap en ti i old) (isI : s.heap.IsTupleIter ti tu i) (isT : s.heap.IsTuple tu its) (hx : its[i]? = some x) (ne : en ≠ ti)
    (k : ∀ h', IsEnumOut h' en ti ((i : Int) + 1) x s.heap.objs.size → h'.IsTupleIter ti tu (i + 1) → h'.get? s.heap.objs.size = some { cls := .type "tuple", data := .seq #[.int i s.toks, x] } → h'.objs.size = s.heap.objs.size + 1 →
      (∀ b o, b ≠ en → b ≠ ti → s.heap.get? b = some o → h'.get? b = some o) → Q (some (.ref s.heap.objs.size)) { s with heap := h', toks := s.toks + 1 }) :
    wpAny (model prog w) A (pyNext (.ref en)) Q E s := by
  have ty : s.TypeIs (.ref en) "enumerate" := ⟨_, isE, rfl⟩
  unfold pyNext
  exact wpAny_bind (wpAny_attempt (wpAny_callSpecial?_slot (name := Str.ofString "__next__") ty F.slot_enumerate_next (wpAny_call_entry F.slot_enumerate_next ty F.entry_enumerate_next
    (next_item isE isI isT hx ne fun h' a b c d e => wpAny_pure (k h' a b c d e)) (F.args_enumerate_next_1 _))))
theorem pyNext_end {en ti tu : Addr} {i : Nat} {its : Array Value} {old : Value} {Q : Option Value → Shared → Prop} (hh : A.handled = none) (isE : IsEnum s.heap en ti i old) (isI : s.heap.IsTupleIter ti tu i) (isT : s.heap.IsTuple tu its) (hx : its[i]? = none)
    (k : ∀ h', Heap.ExtBut ti s.heap h' → Q none { s with heap := h' }) : wpAny (model prog w) A (pyNext (.ref en)) Q E s := by
  have ty : s.TypeIs (.ref en) "enumerate" := ⟨_, isE, rfl⟩
  unfold pyNext
  refine wpAny_bind (wpAny_attempt (wpAny_callSpecial?_slot (name := Str.ofString "__next__") ty F.slot_enumerate_next (wpAny_call_entry F.slot_enumerate_next ty F.entry_enumerate_next ?_ (F.args_enumerate_next_1 _))))
  show wpAny _ _ (field (.ref en) 2 >>= _) _ _ _
  refine wpAny_bind (wpAny_field isE rfl (x := .ref ti) rfl ?_)
  refine wpAny_bind (RZ.nextOf_tuple_end hh isI isT hx fun h' ex ext st => ?_)
  obtain ⟨o, ho, hc⟩ := st
  refine wpAny_bind (wpAny_isInstance (T := "StopIteration") (b := true) ⟨o, ho, hc⟩ isSubtype_stop ?_)
  exact wpAny_pure (k _ ext)
end
end LBe

namespace LB
open PySem PySem.Spec PyProof.Rows L2
/-- the tuple at a, counted -/
def IteT (K : PySem.W.Frag) (a : Addr) : It :=
  ⟨fun i H => ∃ (xs : List V) (x : V), SqT K H a xs ∧ xs[i]? = some x, fun i H v H' => ∃ p x, v = .ref p ∧ H p = none ∧ H' = upd H p (.tup [.int (i : Nat), x]) ∧ ∀ xs, SqT K H a xs → xs[i]? = some x, fun i H => ∃ xs : List V, SqT K H a xs ∧ xs.length ≤ i⟩
theorem turn_enT {P : Program} {w : World} {K : PySem.W.Frag} {elts : List Expr} {kk : Nat} {tpos : Pos} (a en ti : Addr) :
    Turn P w K (.Tuple elts kk tpos) (IteT K a) [en, ti] en (fun i h => (∃ old, IsEnum h en ti ((i : Nat) : Int) old) ∧ h.IsTupleIter ti a i ∧ en ≠ ti) where
  mem := by simp
  obj := fun i h z b hb => by
    obtain ⟨⟨old, he⟩, ⟨o, ho, hc, hd⟩, _⟩ := z
    rcases (show b = en ∨ b = ti by simpa using hb) with e | e
    · rw [e]; exact ⟨_, he, fun v q => nomatch q⟩
    · rw [e]; exact ⟨o, ho, fun v q => by rw [hd] at q; cases q⟩
  keep := fun i h h' z k => by
    obtain ⟨⟨old, he⟩, ⟨o, ho, r⟩, hne⟩ := z
    exact ⟨⟨old, k en (by simp) _ he⟩, ⟨o, k ti (by simp) o ho, r⟩, hne⟩
  item := by
    intro X hP hw hK hc i pins s σ H E I hf z hg
    subst hP hw hK
    obtain ⟨⟨old, he⟩, hit, hne⟩ := z
    obtain ⟨xs, x, hq, hx⟩ := hg
    obtain ⟨its, rv, p, hz⟩ := I.tuple hq
    obtain ⟨u, hu, ru⟩ := rv.get hx
    have l1 : en < s.heap.objs.size := Heap.lt_size he
    have l2 : ti < s.heap.objs.size := by obtain ⟨_, q, _⟩ := hit; exact Heap.lt_size q
    refine LBe.pyNext_item he hit (show s.heap.IsTuple a its.toArray from p) (x := u) (by simpa using hu) hne fun h1 ho hit' hT hsz hk => ?_
    refine ⟨_, rfl, wpAny_letOwnedTupleGo_enum (s := { s with heap := h1, toks := s.toks + 1 }) ho fun h2 he' sb => ?_⟩
    have at2 : h2.get? s.heap.objs.size = some { cls := .type "tuple", data := .seq #[.int i s.toks, u] } := (sb.2 _ (Nat.ne_of_gt l1)).trans hT
    have new : ObjOk X.prog X.w (upd H s.heap.objs.size (.tup [.int (i : Nat), x])) h2 s.heap.objs.size (.tup [.int (i : Nat), x]) :=
      ⟨(show 2 ≤ sizeLine by decide), [.int i s.toks, u], .cons ⟨_, rfl⟩ (.cons ru .nil), ⟨_, at2, rfl, _, rfl⟩⟩
    have J : L2.Inv X pins σ (upd H s.heap.objs.size (.tup [.int (i : Nat), x])) { s with heap := h2, toks := s.toks + 1 } :=
      I.turnedNew (ch := [en, ti]) (fun b ob hb q => (sb.2 b (fun e => hb (by simp [e]))).trans (hk b ob (fun e => hb (by simp [e])) (fun e => hb (by simp [e])) q)) hf (Nat.le_refl _) new
    have free := I.hok.fresh (Nat.le_refl s.heap.objs.size)
    have it2 : h2.IsTupleIter ti a (i + 1) := by
      obtain ⟨o, ho, r⟩ := hit'
      exact ⟨o, (sb.2 ti (Ne.symm hne)).trans ho, r⟩
    refine ⟨.ref s.heap.objs.size, _, J, rfl, ⟨_, x, rfl, free, rfl, fun ys hy => by rw [I.tuple_inj hy hq]; exact hx⟩, ⟨⟨u, ?_⟩, it2, hne⟩, fun b hb => ?_⟩
    · rw [show ((i + 1 : Nat) : Int) = (i : Int) + 1 by omega]
      exact he'
    · have lb : b < s.heap.objs.size := by
        rcases (show b = en ∨ b = ti by simpa using hb) with e | e
        · rw [e]; exact l1
        · rw [e]; exact l2
      rw [upd_ne (Nat.ne_of_lt lb)]
      exact (hf b hb).1
  done := by
    intro X hP hw hK hc i pins s σ H E I hf z hg
    subst hP hw hK
    obtain ⟨⟨old, he⟩, hit, hne⟩ := z
    obtain ⟨xs, hq, hx⟩ := hg
    obtain ⟨its, rv, p, hz⟩ := I.tuple hq
    obtain ⟨f0, f1, f2, f3, f4, f5⟩ := hf ti (by simp)
    have hl := rv.length
    exact LBe.pyNext_end (I.ok.hd hc) he hit (show s.heap.IsTuple a its.toArray from p) (by simp; omega) fun h1 eb => ⟨rfl, I.turned (t' := s.toks) (fun b o hb q => eb b o hb q) f0 f1 f3 f4 f5⟩
  self := fun A i s Q E z k => by
    obtain ⟨⟨_, he⟩, _⟩ := z
    exact wpAny_pyIter_enum he k
def iEnT (K : PySem.W.Frag) (ta : TA) : TI := fun σ H R => ta σ H fun vs H1 => ∃ a xs, vs = [.ref a] ∧ SqT K H1 a xs ∧ R (IteT K a) H1
theorem pi_enT {X : Cx} {e : Expr} {ta : TA} {p pos tpos : Pos} {elts : List Expr} {kk : Nat} (hg : Gl X "enumerate") (hm : X.mg "enumerate" = none) (ha : PA X [e] ta) (hs : starEach [e] X.env = [(false, eval e X.env)]) :
    PI X (.Tuple elts kk tpos) (.Call (.Name "enumerate" p) [e] [] pos) (iEnT X.K ta) := by
  refine ⟨fun pins s σ H R I q => ?_⟩
  refine Call_ (ld_blt I hg hm boot_enumerate (PyProof.Rows.callWith_type1 (thn (ha.run pos pins s σ H _ I q) fun us s1 ⟨vs, H1, I1, r1, q1⟩ => ?_) hs rfl))
  obtain ⟨a, xs, rfl, hq, q2⟩ := q1
  obtain rfl := Vals.ref1 r1
  obtain ⟨its, rv, isT, hz⟩ := I1.tuple hq
  refine LBe.call_new (show s1.heap.IsTuple a its.toArray from isT) fun h1 he hit hsz hk => wpAny_pyIter_enum he ?_
  refine ⟨s1.heap.objs.size + 1, [s1.heap.objs.size + 1, s1.heap.objs.size], _, _, H1, rfl, I1.kept (t' := s1.toks) hk, turn_enT a (s1.heap.objs.size + 1) s1.heap.objs.size, ⟨⟨.none, he⟩, hit, Nat.succ_ne_self _⟩, fun b hb => ?_, q2⟩
  have le : s1.heap.objs.size ≤ b := by
    rcases (show b = s1.heap.objs.size + 1 ∨ b = s1.heap.objs.size by simpa using hb) with e | e
    · rw [e]; exact Nat.le_add_right _ _
    · rw [e]; exact Nat.le_refl _
  exact I1.fpOk le (I1.hok.fresh le)
end LB
/-! LB11c: the values and the items of a dict whose keys are tuples. -/
namespace LB
open PySem PySem.Spec PyProof.Rows L2
variable [Clx]
section
variable {X : Cx} {pins : List (Addr × Obj)} {σ : L2.St} {H : Hp} {s : Shared} {d : Addr} {o : Obj}
/-- a locked dict of tuple keys, entry by entry -/
theorem frz_ents {kvs : List (List Key × V)} (I : L2.Inv X pins σ H s) (h : H d = some (.frz o (.dT kvs))) :
    (d == sysModules) = false ∧ ∃ (es : Array DictEntry) (ep : Nat), o.data = .dict es ep ∧ s.heap.DictRaw d es ep ∧ es.size = kvs.length ∧
      ∀ (i : Nat) (hi : i < es.size), ∃ (k : List Key) (v : V) (q : Addr), kvs[i]? = some (k, v) ∧ es[i].key = .ref q ∧ H q = some (.tup (k.map kV)) ∧ RelV v es[i].val := by
  obtain ⟨hd, z, ns, xs, pr, o', es, ep, ho, ex, dt, ee, _⟩ := I.hok d _ h
  rw [hd] at ho
  cases ho
  have n1 : es.size = xs.length := size_of_entries ee
  have n2 : kvs.length = xs.length := Paired.length pr
  refine ⟨ns, es, ep, dt, ⟨o, hd, ex, dt⟩, by omega, fun i hi => ?_⟩
  have hk : i < kvs.length := by omega
  obtain ⟨b, hb, e1, e2, e3⟩ := paired_get pr (List.getElem?_eq_getElem hk)
  have at_ := entry_at ee i
  rw [hb, Array.getElem?_eq_getElem hi] at at_
  have e4 := Option.some.inj at_
  refine ⟨kvs[i].1, kvs[i].2, b.2.1, List.getElem?_eq_getElem hk, ?_, e2, ?_⟩
  · rw [e4]; rfl
  · rw [e4]; exact e3
end
def ItdT (d : Addr) (o : Obj) (kvs : List (List Key × V)) : It :=
  ⟨fun i H => i < kvs.length ∧ H d = some (.frz o (.dT kvs)), fun i H x H' => (∃ k, kvs[i]? = some (k, x)) ∧ H' = H, fun i H => kvs.length ≤ i ∧ H d = some (.frz o (.dT kvs))⟩
def ItiT (d : Addr) (o : Obj) (kvs : List (List Key × V)) : It :=
  ⟨fun i H => i < kvs.length ∧ H d = some (.frz o (.dT kvs)), fun i H x H' => ∃ T k v q, kvs[i]? = some (k, v) ∧ H q = some (.tup (k.map kV)) ∧ x = .ref T ∧ H T = none ∧ H' = upd H T (.tup [.ref q, v]), fun i H => kvs.length ≤ i ∧ H d = some (.frz o (.dT kvs))⟩
section
variable {P : Program} {w : World} {K : PySem.W.Frag} {tg : Expr} {d : Addr} {o : Obj}
theorem same_dict {o : Obj} {es es' : Array DictEntry} {ep ep' : Nat} (h : o.data = .dict es ep) (h' : o.data = .dict es' ep') : es' = es ∧ ep' = ep := by
  rw [h] at h'
  cases h'
  exact ⟨rfl, rfl⟩
theorem turn_valsT {es : Array DictEntry} {ep : Nat} {kvs : List (List Key × V)} (it : Addr) (hod : o.data = .dict es ep) : Turn P w K tg (ItdT d o kvs) [it] it (fun i h => h.IsValIter it d i es.size ep) where
  mem := by simp
  obj := fun i h z b hb => by
    obtain rfl : b = it := by simpa using hb
    obtain ⟨oi, e, _, dd⟩ := z
    exact ⟨oi, e, fun v q => by rw [dd] at q; cases q⟩
  keep := fun i h h' z k => z.at fun oi e => k it (by simp) oi e
  item := by
    intro X hP hw hK hc i pins s σ H E I hf z hg
    subst hP hw hK
    obtain ⟨hi, hd⟩ := hg
    obtain ⟨f0, f1, f2, f3, f4, f5⟩ := hf it (by simp)
    obtain ⟨ns, es', ep', dt, raw, sz, ent⟩ := frz_ents I hd
    obtain ⟨rfl, rfl⟩ := same_dict hod dt
    have hi' : i < es'.size := by omega
    obtain ⟨k, v, q, e1, _, _, rv⟩ := ent i hi'
    refine wpAny_pyNext_values_item_raw z raw hi' fun h1 z1 sb => ?_
    have J : L2.Inv X pins σ H { s with heap := h1 } := I.turned (t' := s.toks) (fun b ob hb e => (sb.2 b hb).trans e) f0 f1 f3 f4 f5
    obtain ⟨oi, e, c, dd⟩ := id z1
    exact ⟨_, rfl, go_of (s := { s with heap := h1 }) e c dd (by decide) ⟨v, H, J, rv, ⟨⟨k, e1⟩, rfl⟩, z1, fun b hb => (hf b hb).1⟩⟩
  done := by
    intro X hP hw hK hc i pins s σ H E I hf z hg
    subst hP hw hK
    obtain ⟨hi, hd⟩ := hg
    obtain ⟨f0, f1, f2, f3, f4, f5⟩ := hf it (by simp)
    obtain ⟨ns, es', ep', dt, raw, sz, ent⟩ := frz_ents I hd
    obtain ⟨rfl, rfl⟩ := same_dict hod dt
    exact wpAny_pyNext_values_end_raw (I.ok.hd hc) z raw (by omega) fun h1 eb => ⟨rfl, I.turned (t' := s.toks) (fun b ob hb e => eb b ob hb e) f0 f1 f3 f4 f5⟩
  self := fun A i s Q E z h => wpAny_pyIter_valiter z h
theorem turn_itemsT {es : Array DictEntry} {ep : Nat} {kvs : List (List Key × V)} {elts : List Expr} {kk : Nat} {tpos : Pos} (it : Addr) (hod : o.data = .dict es ep) :
    Turn P w K (.Tuple elts kk tpos) (ItiT d o kvs) [it] it (fun i h => ∃ a b, IsItemIter h it d i es.size ep a b) where
  mem := by simp
  obj := fun i h z b hb => by
    obtain rfl : b = it := by simpa using hb
    obtain ⟨x, y, e⟩ := z
    exact ⟨_, e, fun v q => nomatch q⟩
  keep := fun i h h' z k => let ⟨x, y, e⟩ := z; ⟨x, y, k it (by simp) _ e⟩
  item := by
    intro X hP hw hK hc i pins s σ H E I hf z hg
    subst hP hw hK
    obtain ⟨hi, hd⟩ := hg
    obtain ⟨ns, es', ep', dt, raw, sz, ent⟩ := frz_ents I hd
    obtain ⟨rfl, rfl⟩ := same_dict hod dt
    have hi' : i < es'.size := by omega
    obtain ⟨k, v, q, e1, ek, hq, rv⟩ := ent i hi'
    obtain ⟨x0, y0, he⟩ := z
    have lt : it < s.heap.objs.size := Heap.lt_size he
    refine wpAny_pyNext_items_item_raw he raw hi' fun h1 out hT hz kp => ?_
    refine ⟨_, rfl, wpAny_letOwnedTupleGo_items (s := { s with heap := h1 }) out fun h2 he2 sb => ?_⟩
    have at2 : h2.get? s.heap.objs.size = some { cls := .type "tuple", data := .seq #[es'[i].key, es'[i].val] } := (sb.2 _ (Nat.ne_of_gt lt)).trans hT
    have rk : RelV (.ref q) es'[i].key := ek
    have new : ObjOk X.prog X.w (upd H s.heap.objs.size (.tup [.ref q, v])) h2 s.heap.objs.size (.tup [.ref q, v]) :=
      ⟨(show 2 ≤ sizeLine by decide), [es'[i].key, es'[i].val], .cons rk (.cons rv .nil), ⟨_, at2, rfl, _, rfl⟩⟩
    have J : L2.Inv X pins σ (upd H s.heap.objs.size (.tup [.ref q, v])) { s with heap := h2 } :=
      I.turnedNew (t' := s.toks) (ch := [it]) (fun b ob hb e => (sb.2 b (by simpa using hb)).trans (kp b ob (by simpa using hb) e)) hf (Nat.le_refl _) new
    refine ⟨.ref s.heap.objs.size, _, J, rfl, ⟨_, k, v, q, e1, hq, rfl, I.hok.fresh (Nat.le_refl _), rfl⟩, ⟨_, _, he2⟩, fun b hb => ?_⟩
    obtain rfl : b = it := by simpa using hb
    rw [upd_ne (Nat.ne_of_lt lt)]
    exact (hf b hb).1
  done := by
    intro X hP hw hK hc i pins s σ H E I hf z hg
    subst hP hw hK
    obtain ⟨hi, hd⟩ := hg
    obtain ⟨f0, f1, f2, f3, f4, f5⟩ := hf it (by simp)
    obtain ⟨ns, es', ep', dt, raw, sz, ent⟩ := frz_ents I hd
    obtain ⟨rfl, rfl⟩ := same_dict hod dt
    obtain ⟨x0, y0, he⟩ := z
    exact wpAny_pyNext_items_end_raw (I.ok.hd hc) he raw (by omega) fun h1 eb => ⟨rfl, I.turned (t' := s.toks) (fun b ob hb e => eb b ob hb e) f0 f1 f3 f4 f5⟩
  self := fun A i s Q E z h => let ⟨_, _, e⟩ := z; PySem.W.kcp_self e h
end
def iValsT (td : TE) : TI := fun σ H R => td σ H fun x H1 => ∃ d o kvs, x = .ref d ∧ H1 d = some (.frz o (.dT kvs)) ∧ R (ItdT d o kvs) H1
def iItemsT (td : TE) : TI := fun σ H R => td σ H fun x H1 => ∃ d o kvs, x = .ref d ∧ H1 d = some (.frz o (.dT kvs)) ∧ R (ItiT d o kvs) H1
section
variable {X : Cx} {tg e : Expr} {td : TE} {apos cpos : Pos}
theorem pi_valuesT (he : PE X e td) (hbase : attributeBase e "values" X.env (eval e X.env) = eval e X.env) (hline : (apos.endLine == cpos.line) = true) : PI X tg (.Call (.Attribute e "values" apos) [] [] cpos) (iValsT td) := by
  refine ⟨fun pins s σ H R I h => ?_⟩
  refine wpAny_Call_method (T := "dict") (id := "dict.values") hbase rfl hline F.plainAttrs_dict F.slot_dict_values F.type_dict_values (thn (he.run pins s σ H _ I h) fun u s1 ⟨x, H1, I1, rx, d, o, kvs, ex, hd, q⟩ => ?_)
  subst ex
  obtain rfl : u = Value.ref d := rx
  obtain ⟨ns, es, ep, dt, raw, sz, _⟩ := frz_ents I1 hd
  obtain ⟨ob, hob, exd, _⟩ := id raw
  refine ⟨raw.typeIs, fun b z => ?_, ?_⟩
  · cases z; exact ⟨ob, hob, exd.2.1⟩
  have I2 : L2.Inv X pins σ H1 { s1 with heap := s1.heap.push { cls := .type "dict_values", data := .fields #[.ref d] } } := I1.kept (t' := s1.toks) fun b u z => Heap.get?_push_of_some _ z
  have fin : wpAny (model X.prog X.w) X.A (pyIter (.ref s1.heap.objs.size)) (PIE X pins σ tg R) X.xe { s1 with heap := s1.heap.push { cls := .type "dict_values", data := .fields #[.ref d] } } :=
    wpAny_pyIter_values_raw (d := d) ⟨_, Heap.get?_push_size _ rfl, rfl, rfl⟩ (raw.at fun z y => Heap.get?_push_of_some _ y) (pi_one (tk := s1.toks) I2 _ (turn_valsT _ dt) ⟨_, Heap.get?_push_size _ rfl, rfl, rfl⟩ q)
  show wpAny _ _ (callWith cpos (.builtin "dict.values") [.ref d] [] []) _ X.xe s1
  exact method_meetsIn F.slot_dict_values F.entry_dict_values rfl (PySem.evalArgs_none ⟨rfl, raw.typeIs, F.args_dict_values_1 _, _, meets_dict_values_raw d ns, ⟨es, ep, raw⟩, fin⟩)
theorem pi_itemsT {elts : List Expr} {kk : Nat} {tpos : Pos} (he : PE X e td) (hbase : attributeBase e "items" X.env (eval e X.env) = eval e X.env) (hline : (apos.endLine == cpos.line) = true) :
    PI X (.Tuple elts kk tpos) (.Call (.Attribute e "items" apos) [] [] cpos) (iItemsT td) := by
  refine ⟨fun pins s σ H R I h => ?_⟩
  refine wpAny_Call_method (T := "dict") (id := "dict.items") hbase rfl hline F.plainAttrs_dict F.slot_dict_items F.type_dict_items (thn (he.run pins s σ H _ I h) fun u s1 ⟨x, H1, I1, rx, d, o, kvs, ex, hd, q⟩ => ?_)
  subst ex
  obtain rfl : u = Value.ref d := rx
  obtain ⟨ns, es, ep, dt, raw, sz, _⟩ := frz_ents I1 hd
  obtain ⟨ob, hob, exd, _⟩ := id raw
  refine ⟨raw.typeIs, fun b z => ?_, ?_⟩
  · cases z; exact ⟨ob, hob, exd.2.1⟩
  have I2 : L2.Inv X pins σ H1 { s1 with heap := s1.heap.push { cls := .type "dict_items", data := .fields #[.ref d] } } := I1.kept (t' := s1.toks) fun b u z => Heap.get?_push_of_some _ z
  have fin : wpAny (model X.prog X.w) X.A (pyIter (.ref s1.heap.objs.size)) (PIE X pins σ (.Tuple elts kk tpos) R) X.xe { s1 with heap := s1.heap.push { cls := .type "dict_items", data := .fields #[.ref d] } } :=
    wpAny_pyIter_items_raw (d := d) ⟨_, Heap.get?_push_size _ rfl, rfl, rfl⟩ (raw.at fun z y => Heap.get?_push_of_some _ y) (pi_one (tk := s1.toks) I2 _ (turn_itemsT _ dt) ⟨.none, .none, Heap.get?_push_size _ rfl⟩ q)
  show wpAny _ _ (callWith cpos (.builtin "dict.items") [.ref d] [] []) _ X.xe s1
  exact method_meetsIn F.slot_dict_items F.entry_dict_items rfl (PySem.evalArgs_none ⟨rfl, raw.typeIs, F.args_dict_items_1 _, _, meets_dict_items_raw d ns, ⟨es, ep, raw⟩, fin⟩)
/-! walks -/
theorem walk_valuesT {d : Addr} {o : Obj} {kvs : List (List Key × V)} : Walk (ItdT d o kvs) kvs.length (fun H => H d = some (.frz o (.dT kvs))) (fun i H x H' => H' = H ∧ ∃ k, kvs[i]? = some (k, x)) :=
  ⟨fun _ _ hi q => ⟨hi, q⟩, fun _ q => ⟨Nat.le_refl _, q⟩, fun _ _ _ _ _ _ y => ⟨y.2, y.1⟩⟩
theorem walk_itemsT {d : Addr} {o : Obj} {kvs : List (List Key × V)} : Walk (ItiT d o kvs) kvs.length (fun H => H d = some (.frz o (.dT kvs)))
    (fun i H x H' => ∃ T k v q, kvs[i]? = some (k, v) ∧ H q = some (.tup (k.map kV)) ∧ x = .ref T ∧ H T = none ∧ H' = upd H T (.tup [.ref q, v])) :=
  ⟨fun _ _ hi q => ⟨hi, q⟩, fun _ q => ⟨Nat.le_refl _, q⟩, fun _ _ _ _ _ _ y => y⟩
end
end LB
/-! LB10c: x[::-1], d.get(k), {k: v}, list(range(..)), sum(d.values()). -/
namespace LB
open PySem PySem.Spec PyProof.Rows L2
variable [Clx]
section
variable {X : Cx} {G : Sig} {T : Tab} {m : Md}
theorem base_of {o : Expr} {y : PySem.Str} (h : baseB o = true) : attributeBase o y X.env (eval o X.env) = eval o X.env := by
  cases o <;> first | rfl | skip
  rename_i f args kws pos
  cases f <;> first | rfl | skip
  cases args <;> first | rfl | skip
  cases kws <;> first | rfl | skip
  cases h
/-! x[::-1] -/
theorem seq_rev {a : E} : ∀ env st, RO (evE T (.rev a) .v env st) (fun _ _ => True) → RO (evE T (.rev a) .v env st) fun d _ => isSeq d := fun env st q => by
  refine RO_of_bind (RO_mono (RO_bind q) fun d st1 k => ?_)
  obtain ⟨z, hz, _⟩ := RO_opt (RO_bind k)
  refine RO_of_bind ?_
  rw [hz]
  show isSeq z
  cases d <;> first | (cases hz; done) | (cases hz; trivial)
theorem pe_revF {a : E} {e : Expr} {k : Nat} {p1 p2 p3 pos : Pos} (he : PE X e (tE T false .p a)) : PE X (.Subscript e (.Slice none none (some (.UnaryOp .USub (.Constant (.int 1) k p1) p2)) p3) pos) (tE T true .v (.rev a)) := by
  refine PE.imp (pe_revL he) fun σ H Q q => ?_
  obtain ⟨G0, env, F, st, s, r, q⟩ := q
  refine tE_go s r (RO_bind q) fun d st1 x H1 F1 k1 a1 s1 r1 v1 => ?_
  obtain ⟨z, hz, k2⟩ := RO_opt (RO_bind k1)
  cases d <;> first | (cases hz; done) | skip
  cases hz
  obtain ⟨p, xs, rfl, rx, t1⟩ := listV (K := X.K) v1
  have k2 := post_vp (m := .v) trivial k2
  exact ⟨p, xs, rfl, t1, fun w hw => fin_d (b := true) (m := .v) (fun _ => rfl) k2 a1 s1 w _ hw (Stp.laid s1 hw) (s1.laid hw) (.lst upd_same (rx.rev.mono (keeps_new hw)))⟩
/-! t[::-1] of a tuple -/
theorem rev_applied {prog : Program} {w : World} {A : Around} {E : Value → Shared → Prop} {s : Shared} {sl : Addr} {vl vu vs : Value} {n : Nat} {Q : Int × Int × Nat → Shared → Prop} (hs : s.heap.IsSliceOf sl vl vu vs) (pl : IsPart vl none) (pu : IsPart vu none) (ps : IsPart vs (some (-1)))
    (h : Q ((n : Int) - 1, -1, n) s) : wpAny (model prog w) A (Builtin.Slice.sliceApplied (.ref sl) (pure (n : Int))) Q E s := by
  obtain ⟨os, hos, hcs, hds⟩ := id hs
  unfold Builtin.Slice.sliceApplied Builtin.Slice.sliceFields
  refine wpAny_bind (wpAny_bind (wpAny_field hos hds (x := vl) rfl (wpAny_bind (wpAny_field hos hds (x := vu) rfl (wpAny_bind (wpAny_field hos hds (x := vs) rfl (wpAny_pure ?_)))))))
  refine wpAny_bind (HT.slicePart_ ps ?_)
  show wpAny _ _ (if ((-1 : Int) == 0) = true then _ else _) _ _ s
  rw [if_neg (by decide)]
  refine wpAny_bind (HT.slicePart_ pl (wpAny_bind (HT.slicePart_ pu (wpAny_bind (wpAny_pure ?_)))))
  show wpAny _ _ (match Builtin.Slice.sliceAdjust none none (-1) (n : Int) with | (lo, hi) => pure (lo, (-1 : Int), Builtin.Slice.slicePlaces lo hi (-1))) _ _ s
  have e : Builtin.Slice.sliceAdjust none none (-1) (n : Int) = ((n : Int) - 1, -1) := by
    unfold Builtin.Slice.sliceAdjust
    simp
  have e2 : Builtin.Slice.slicePlaces ((n : Int) - 1) (-1) (-1) = n := by
    unfold Builtin.Slice.slicePlaces
    rw [if_neg (by decide)]
    split
    · rw [show (- -1 : Int) = 1 from rfl, Int.ediv_one]; omega
    · omega
  rw [e]
  show wpAny _ _ (pure ((n : Int) - 1, (-1 : Int), Builtin.Slice.slicePlaces ((n : Int) - 1) (-1) (-1))) _ _ s
  rw [e2]
  exact wpAny_pure h
theorem rev_pick (xs : Array Value) : ((List.range xs.size).filterMap fun (m : Nat) => xs[((xs.size : Int) - 1 + (m : Int) * -1).toNat]?).toArray = xs.toList.reverse.toArray := by
  have e : (fun (m : Nat) => xs[((xs.size : Int) - 1 + (m : Int) * -1).toNat]?) = (xs[·]?) ∘ fun m => xs.size - 1 - m := by
    funext m
    have e : ((xs.size : Int) - 1 + (m : Int) * -1).toNat = xs.size - 1 - m := by omega
    show xs[_]? = xs[xs.size - 1 - m]?
    rw [e]
  rw [e, ← List.filterMap_map, PySem.W.krv_range, List.filterMap_reverse, PySem.W.krv_all]
theorem getItem_tuple_rev {prog : Program} {w : World} {A : Around} {E : Value → Shared → Prop} {s : Shared} {t sl : Addr} {items : Array Value} {vl vu vs : Value} {Q : Value → Shared → Prop} (ht : IsTup s.heap t items) (hs : s.heap.IsSliceOf sl vl vu vs) (pl : IsPart vl none) (pu : IsPart vu none) (ps : IsPart vs (some (-1)))
    (h : Q (.ref s.heap.objs.size) { s with heap := s.heap.push { cls := .type "tuple", data := .seq items.toList.reverse.toArray } })
    (hsz : items.size ≤ sizeLine) : wpAny (model prog w) A (getItem (.ref t) (.ref sl)) Q E s := by
  have htake : sizeOk (.seq items.toList.reverse.toArray) := by
    show items.toList.reverse.toArray.size ≤ sizeLine
    rw [List.size_toArray, List.length_reverse, Array.length_toList]
    exact hsz
  obtain ⟨os, hos, hcs, hds⟩ := id hs
  have hTs : s.TypeIs (.ref sl) "slice" := ⟨os, hos, hcs⟩
  unfold getItem
  try with_reducible refine wpAny_holding ?_
  first | refine wpAny_bind (wpAny_pure ?_) | skip
  refine wpAny_bind (wpAny_sequenceKey ht.typeIs (by decide) ?_)
  refine wpAny_bind (wpAny_callSpecial?_slot (name := PySem.Str.ofString "__getitem__") ht.typeIs PyProof.Rows.slot_tuple_getitem
    (wpAny_call_entry PyProof.Rows.slot_tuple_getitem ht.typeIs entry_tuple_getitem ?_ (args_tuple_getitem _ _)))
  show wpAny _ _ (Builtin.Tuple.tupleItemsOf (.ref t) >>= _) _ _ s
  refine wpAny_bind (tupleItemsOf_ ht ?_)
  refine wpAny_bind (wpAny_typeOf hTs ?_)
  rw [if_pos (by decide)]
  refine wpAny_bind (rev_applied hs pl pu ps ?_)
  show wpAny _ _ (if ((items.size : Int) - 1 == 0 && (-1 : Int) == 1 && items.size == items.size) = true then _ else _) _ _ s
  rw [if_neg (by simp), rev_pick]
  first
    | exact wpAny_bind (m := Builtin.Tuple.tupleExact _) (wpAny_newObj_type (wpAny_pure ⟨_, rfl, wpAny_pure h⟩) htake)
    | exact wpAny_bind (m := Builtin.Tuple.tupleExact _) (wpAny_newObj_type (wpAny_bind (wpAny_pure (wpAny_pure ⟨_, rfl, wpAny_pure h⟩))) htake)
    | exact wpAny_bind (wpAny_bind (m := Builtin.Tuple.tupleExact _) (wpAny_newObj_type (wpAny_pure (wpAny_pure ⟨_, rfl, wpAny_pure h⟩)) htake))
    | exact wpAny_bind (wpAny_bind (m := Builtin.Tuple.tupleExact _) (wpAny_newObj_type (wpAny_pure ⟨_, rfl, wpAny_pure h⟩) htake))
def tRevT (K : PySem.W.Frag) (te : TE) : TE := fun σ H Q => te σ H fun x H1 => ∃ a xs, x = .ref a ∧ SqT K H1 a xs ∧ ∀ p, H1 p = none → Q (.ref p) (upd H1 p (.tup xs.reverse))
theorem pe_revT {e : Expr} {te : TE} {k : Nat} {p1 p2 p3 pos : Pos} (he : PE X e te) : PE X (.Subscript e (.Slice none none (some (.UnaryOp .USub (.Constant (.int 1) k p1) p2)) p3) pos) (tRevT X.K te) := by
  refine ⟨fun pins s σ H Q I h => ?_⟩
  refine Subscript_ (thn (he.run pins s σ H _ I h) fun v s1 ⟨x, H1, I1, r1, q1⟩ => ?_)
  obtain ⟨a, xs, ex, hx, q⟩ := q1
  subst ex
  cases r1
  have hst : PO X (some (.UnaryOp .USub (.Constant (.int 1) k p1) p2)) (tPart (tUn (rU fun i => .int (-i)) (tC (.int 1)))) := po_some (pe_un un_neg pe_int)
  refine wpAny_Slice (thn (po_none.run pins s1 σ H1 (fun o H2 => o = none ∧ H2 = H1) I1 ⟨rfl, rfl⟩) fun vl s2 ⟨l, H2, I2, pl, el, e2⟩ => ?_)
  subst el e2
  refine thn (po_none.run pins s2 σ H2 (fun o H3 => o = none ∧ H3 = H2) I2 ⟨rfl, rfl⟩) fun vu s3 ⟨u, H3, I3, pu, eu, e3⟩ => ?_
  subst eu e3
  refine thn (hst.run pins s3 σ H3 (fun o H4 => o = some (-1) ∧ H4 = H3) I3 ⟨1, rfl, -1, rfl, rfl, rfl⟩) fun vs s4 ⟨o, H4, I4, ps, eo, e4⟩ => ?_
  subst eo e4
  have I5 : L2.Inv X pins σ H4 { s4 with heap := s4.heap.push { cls := .type "slice", data := .fields #[vl, vu, vs] } } := I4.kept (t' := s4.toks) fun b ob q => Heap.get?_push_of_some _ q
  obtain ⟨its, r, ht, hz⟩ := I5.tuple hx
  have hlen := r.length
  show wpAny (model X.prog X.w) X.A (subscriptTail e (.Slice none none (some (.UnaryOp .USub (.Constant (.int 1) k p1) p2)) p3) (.ref a) (.ref s4.heap.objs.size)) (EP X pins σ Q) X.xe { s4 with heap := s4.heap.push { cls := .type "slice", data := .fields #[vl, vu, vs] } }
  refine tail_any (ops := [.ref a, .ref s4.heap.objs.size]) ht.typeIs (PyProof.Rows.slot_tuple_getitem.lookup) ?_ (by with_unfolding_all rfl)
  refine getItem_tuple_rev ht (Heap.IsSliceOf.new _ vl vu vs) pl pu ps ?_ (by rw [List.size_toArray]; omega)
  refine ⟨.ref _, _, I5.laid (t' := s4.toks) (o := .tup xs.reverse) (fun b ob q => Heap.get?_push_of_some _ q) (Nat.le_refl _) ?_, rfl, q _ (I5.hok.fresh (Nat.le_refl _))⟩
  exact ⟨by rw [List.length_reverse]; exact hz, _, r.reverse, IsTup.new _ _⟩
theorem pe_revtE {a : E} {e : Expr} {k : Nat} {p1 p2 p3 pos : Pos} (hm : vp m) (he : PE X e (tE T false .p a)) : PE X (.Subscript e (.Slice none none (some (.UnaryOp .USub (.Constant (.int 1) k p1) p2)) p3) pos) (tE T false m (.revt a)) := by
  refine PE.imp (pe_revT he) fun σ H Q q => ?_
  obtain ⟨G0, env, F, st, s, r, q⟩ := q
  refine tE_go s r (RO_bind q) fun d st1 x H1 F1 k1 a1 s1 r1 v1 => ?_
  obtain ⟨z, hz, k2⟩ := RO_opt (RO_bind k1)
  cases d <;> first | (cases hz; done) | skip
  cases hz
  obtain ⟨p, xs, rfl, rx, t1, t1'⟩ := tupV (K := X.K) v1
  have k2 := post_vp hm k2
  exact ⟨p, xs, rfl, t1', fun w hw => Gv.tupAt (fin_d (b := false) (fun z => nomatch z) k2 a1 s1) s1 rx.rev hw⟩
/-! d.get(k), d.get(k, x) -/
theorem isD_of {H : Hp} {F : List Addr} {t : Bool} {ks vs : List D} {x : V} (h : Pk H F (.dct t ks vs) x) : ∃ a, x = .ref a ∧ IsD H a := by
  cases t with
  | false =>
    obtain ⟨a, kvs, rfl, hr, _⟩ := dctK h
    exact ⟨a, rfl, .inl ⟨kvs, hr⟩⟩
  | true =>
    obtain ⟨a, kvs, rfl, hr, _⟩ := dctT h
    exact ⟨a, rfl, .inr ⟨kvs, hr⟩⟩
theorem getD'_dct {x y z w : D} (h : getD' x y z = some w) : ∃ t ks vs, x = .dct t ks vs ∧ keyB t y = true ∧ w = (findD y ks vs).getD z := by
  cases x <;> first | (cases h; done) | skip
  rename_i t ks vs
  have h : (if keyB t y = true then some ((findD y ks vs).getD z) else none) = some w := h
  split at h
  · rename_i hk; cases h; exact ⟨_, _, _, rfl, hk, rfl⟩
  · cases h
/-- what comes of a look-up -/
theorem get_fin {H : Hp} {F : List Addr} {t : Bool} {ks vs : List D} {x w zv : V} {y z : D} (h : Pk H F (.dct t ks vs) x) (ry : Rp H F y w) (rz : Rp H F z zv) (hk : keyB t y = true) :
    ∃ a o, x = .ref a ∧ DGet H a w o ∧ Rp H F ((findD y ks vs).getD z) (o.getD zv) := by
  obtain ⟨a, o, rfl, g, h1, h2⟩ := dget_of h ry hk
  refine ⟨a, o, rfl, g, ?_⟩
  cases e : findD y ks vs with
  | none =>
    rw [e] at h1
    cases o with
    | none => exact rz
    | some v => cases h1
  | some d =>
    obtain ⟨v, rfl, rv⟩ := h2 d e
    exact rv
theorem pe_getE {a k d : E} {pa pk pd : Expr} {ap cp : Pos} (g : Gc G T X) (hm : vp m) (hb : baseB pa = true) (hl : (ap.endLine == cp.line) = true) (hn : noSt pk = true) (hn' : noSt pd = true) (ha : PE X pa (tE T false .p a)) (hk : PE X pk (tE T false .v k)) (hd : PE X pd (tE T false .v d)) :
    PE X (.Call (.Attribute pa "get" ap) [pk, pd] [] cp) (tE T false m (.get a k d)) := by
  have un := g.un
  refine PE.imp (pe_dget2 (by omega) ha hk hd ⟨base_of hb, by rw [star_cons hn, star_cons hn']; rfl, hl, by rw [star_cons hn, star_cons hn']; rfl⟩) fun σ H Q q => ?_
  obtain ⟨G0, env, F, st, s, r, q⟩ := q
  refine tE_go s r (RO_bind q) fun x0 st1 x H1 F1 k1 a1 s1 r1 v1 => ?_
  have isd : ∃ t ks vs, x0 = .dct t ks vs := by
    obtain ⟨_, _, _, k2⟩ := RO_ex' (RO_bind k1)
    obtain ⟨_, _, _, k3⟩ := RO_ex' (RO_bind k2)
    obtain ⟨_, e, _⟩ := RO_opt (RO_bind k3)
    obtain ⟨t, ks, vs, e1, _⟩ := getD'_dct e
    exact ⟨t, ks, vs, e1⟩
  obtain ⟨t, ks, vs, rfl⟩ := isd
  obtain ⟨p, rfl, isD⟩ := isD_of v1
  refine ⟨p, rfl, isD, tE_go s1 r1 (RO_bind k1) fun y st2 w H2 F2 k2 a2 s2 r2 v2 => tE_go s2 r2 (RO_bind k2) fun z st3 zv H3 F3 k3 a3 s3 r3 v3 => ?_⟩
  obtain ⟨f, e, k4⟩ := RO_opt (RO_bind k3)
  obtain ⟨_, _, _, e1, hkb, rfl⟩ := getD'_dct e
  cases e1
  obtain ⟨_, o, e2, g1, rf⟩ := get_fin (Pk.step s2 a3 (Pk.step s1 a2 v1)) (Rp.mono (a3.keeps s2) v2) v3 hkb
  cases e2
  exact ⟨o, g1, fin_v rfl (post_vp hm k4) ((a1.trans a2).trans a3) s3 rf⟩
theorem pe_get1E {a k : E} {pa pk : Expr} {ap cp : Pos} (g : Gc G T X) (hm : vp m) (hb : baseB pa = true) (hl : (ap.endLine == cp.line) = true) (hn : noSt pk = true) (ha : PE X pa (tE T false .p a)) (hk : PE X pk (tE T false .v k)) :
    PE X (.Call (.Attribute pa "get" ap) [pk] [] cp) (tE T false m (.get a k .nil)) := by
  have un := g.un
  refine PE.imp (pe_dget1 (by omega) ha hk ⟨base_of hb, by rw [star_cons hn]; rfl, hl, by rw [star_cons hn]; rfl⟩) fun σ H Q q => ?_
  obtain ⟨G0, env, F, st, s, r, q⟩ := q
  refine tE_go s r (RO_bind q) fun x0 st1 x H1 F1 k1 a1 s1 r1 v1 => ?_
  have isd : ∃ t ks vs, x0 = .dct t ks vs := by
    obtain ⟨_, _, _, k2⟩ := RO_ex' (RO_bind k1)
    obtain ⟨_, _, _, k3⟩ := RO_ex' (RO_bind k2)
    obtain ⟨_, e, _⟩ := RO_opt (RO_bind k3)
    obtain ⟨t, ks, vs, e1, _⟩ := getD'_dct e
    exact ⟨t, ks, vs, e1⟩
  obtain ⟨t, ks, vs, rfl⟩ := isd
  obtain ⟨p, rfl, isD⟩ := isD_of v1
  refine ⟨p, rfl, isD, tE_go s1 r1 (RO_bind k1) fun y st2 w H2 F2 k2 a2 s2 r2 v2 => ?_⟩
  have k3 : RO ((Res.opt (getD' (.dct t ks vs) y .non) st2).bind (post m)) _ := k2
  obtain ⟨f, e, k4⟩ := RO_opt (RO_bind k3)
  obtain ⟨_, _, _, e1, hkb, rfl⟩ := getD'_dct e
  cases e1
  obtain ⟨_, o, e2, g1, rf⟩ := get_fin (Pk.step s1 a2 v1) v2 (.non) hkb
  cases e2
  exact ⟨o, g1, fin_v rfl (post_vp hm k4) (a1.trans a2) s2 rf⟩
/-! list(range(a, b)) -/
theorem seq_lrng {a b : E} : ∀ env st, RO (evE T (.lrng a b) .v env st) (fun _ _ => True) → RO (evE T (.lrng a b) .v env st) fun d _ => isSeq d := fun env st q => by
  refine RO_of_bind (RO_mono (RO_bind q) fun d st1 k => RO_of_bind (RO_mono (RO_bind k) fun d2 st2 k2 => ?_))
  cases d <;> cases d2 <;> first | exact k2.elim | skip
  rename_i i j
  have k2 : RO (if (mid i && mid j && lenOk (j - i).toNat) = true then post .v (.lst (upto i (j - i).toNat)) st2 else .bad) (fun _ _ => True) := k2
  show RO (if (mid i && mid j && lenOk (j - i).toNat) = true then post .v (.lst (upto i (j - i).toNat)) st2 else .bad) fun d _ => isSeq d
  split at k2
  · rename_i h; rw [if_pos h]; trivial
  · exact k2.elim
theorem upto_rg : ∀ (n : Nat) (lo : Int), upto lo n = ((List.range n).map fun (i : Nat) => lo + (i : Int)).map D.int
  | 0, _ => rfl
  | n + 1, lo => by
    rw [List.range_succ_eq_map, List.map_cons, List.map_map, List.map_cons]
    show D.int lo :: upto (lo + 1) n = _
    rw [upto_rg n]
    congr 1
    · simp
    · rw [List.map_map, List.map_map]
      refine List.map_congr_left fun i _ => ?_
      show D.int (lo + 1 + (i : Int)) = D.int (lo + ((i + 1 : Nat) : Int))
      congr 1
      omega
theorem intsR {H : Hp} {F : List Addr} : ∀ ns : List Int, Rps H F (ns.map D.int) (ns.map V.int)
  | [] => .nil
  | n :: ns => .cons (.int n) (intsR ns)
theorem pe_lrngF {a b : E} {pa pb : Expr} {p p2 q2 pos : Pos} (g : Gc G T X) (hh : G.hot = false) (hx : glB X.env.scope "list" = true) (hy : glB X.env.scope "range" = true) (hn : noSt pa = true) (hn' : noSt pb = true) (ha : PE X pa (tE T false .v a)) (hb : PE X pb (tE T false .v b)) :
    PE X (.Call (.Name "list" p) [.Call (.Name "range" p2) [pa, pb] [] q2] [] pos) (tE T true .v (.lrng a b)) := by
  have bl : ∀ n ∈ bltNames, X.mg n = none := g.blt
  refine PE.imp (pe_listRg (g.calm hh) (gl_of hx) (bl _ (by decide)) (prg_2 (gl_of hy) (bl _ (by decide)) ha hb (star_cons hn) (star_cons hn') (by rw [star_cons hn']; rfl))) fun σ H Q q => ?_
  obtain ⟨G0, env, F, st, s, r, q⟩ := q
  refine tE_go s r (RO_bind q) fun d st1 x H1 F1 k1 a1 s1 r1 v1 => tE_go s1 r1 (RO_bind k1) fun d2 st2 y H2 F2 k2 a2 s2 r2 v2 => ?_
  cases d <;> cases d2 <;> first | exact k2.elim | skip
  rename_i i j
  cases v1
  cases v2
  have k2 : RO (if (mid i && mid j && lenOk (j - i).toNat) = true then post .v (.lst (upto i (j - i).toNat)) st2 else .bad) _ := k2
  split at k2
  case isFalse => exact k2.elim
  rename_i h
  simp only [Bool.and_eq_true] at h
  obtain ⟨⟨h1, h2⟩, h3⟩ := h
  have k2 := post_vp (m := .v) trivial k2
  have m1 : -(2 ^ 62) ≤ i ∧ i < 2 ^ 62 := by simpa [mid] using h1
  have m2 : -(2 ^ 62) ≤ j ∧ j < 2 ^ 62 := by simpa [mid] using h2
  have m3 : (j - i).toNat ≤ 1000000 := by
    have := Nat.le_of_ble_eq_true h3
    exact this
  refine ⟨i, j, rfl, rfl, ⟨m1.1, m1.2, m2.1, m2.2, Nat.le_trans m3 (by decide)⟩, fun w hw => ?_⟩
  refine fin_d (b := true) (m := .v) (fun _ => rfl) k2 (a1.trans a2) s2 w _ hw (Stp.laid s2 hw) (s2.laid hw) (.lst upd_same ?_)
  rw [upto_rg]
  have e : rgV i j = ((List.range (j - i).toNat).map fun (n : Nat) => i + (n : Int)).map V.int := by
    unfold rgV
    rw [List.map_map]
    rfl
  rw [e]
  exact intsR _
end
end LB
/-! LB11z: zip of a list and a tuple, either way; range downwards. -/
namespace LB
open PySem PySem.Spec PyProof.Rows L2 RZ
section
def IsSq (k : Bool) (h : Heap) (a : Addr) (its : Array Value) : Prop := match k with | true => h.IsList a its | false => h.IsTuple a its
def IsItr (k : Bool) (h : Heap) (it a : Addr) (i : Nat) : Prop := match k with | true => h.IsListIter it a i | false => h.IsTupleIter it a i
def SqB (k : Bool) (K : PySem.W.Frag) (H : Hp) (a : Addr) (xs : List V) : Prop := match k with | true => SqL K H a xs | false => SqT K H a xs
abbrev itOb (k : Bool) (l : Addr) : Obj := { cls := .type (match k with | true => "list_iterator" | false => "tuple_iterator"), data := .fields #[.ref l, .int 0 0] }
section
variable {k : Bool} {h h' : Heap} {it a : Addr} {i : Nat}
theorem IsItr.at_ (x : IsItr k h it a i) (e : ∀ o, h.get? it = some o → h'.get? it = some o) : IsItr k h' it a i := by
  cases k
  · exact Heap.IsTupleIter.at x e
  · exact Heap.IsListIter.at x e
theorem IsItr.ob (x : IsItr k h it a i) : ∃ o, h.get? it = some o ∧ ∀ v, o.data ≠ .cell v := by
  cases k
  · obtain ⟨o, e, _, d⟩ := (show h.IsTupleIter it a i from x)
    exact ⟨o, e, fun v q => by rw [d] at q; cases q⟩
  · obtain ⟨o, e, _, d⟩ := (show h.IsListIter it a i from x)
    exact ⟨o, e, fun v q => by rw [d] at q; cases q⟩
theorem IsSq.lt {its : Array Value} (x : IsSq k h a its) : a < h.objs.size := by
  cases k
  · obtain ⟨o, e, _⟩ := (show h.IsTuple a its from x)
    exact Heap.lt_size e
  · obtain ⟨o, e, _⟩ := (show h.IsList a its from x)
    exact Heap.lt_size e
theorem IsItr.of (e : h.get? it = some (itOb k a)) : IsItr k h it a 0 := by
  cases k
  · exact ⟨_, e, rfl, rfl⟩
  · exact ⟨_, e, rfl, rfl⟩
theorem drawsB {prog : Program} {w : World} {A : Around} (hh : A.handled = none) (k : Bool) (it l : Addr) (hne : l ≠ it) (items : Array Value) :
    Draws prog w A it [it, l] items.size (fun i v => items[i]? = some v) (fun i h => IsItr k h it l i ∧ IsSq k h l items) := by
  cases k
  · exact Draws.tuple hh it l hne items
  · exact Draws.list hh it l hne items
end
section
variable {X : Cx} {pins : List (Addr × Obj)} {σ : L2.St} {H : Hp} {s : Shared} {k : Bool}
theorem inv_sq {a : Addr} {xs : List V} (I : L2.Inv X pins σ H s) (h : SqB k X.K H a xs) : ∃ its : List Value, Vals xs its ∧ IsSq k s.heap a its.toArray := by
  cases k
  · obtain ⟨its, r, p, _⟩ := I.tuple h
    exact ⟨its, r, p⟩
  · obtain ⟨its, r, p, _⟩ := I.list h
    exact ⟨its, r, p.isList⟩
theorem sq_inj {a : Addr} {xs ys : List V} (I : L2.Inv X pins σ H s) (h : SqB k X.K H a xs) (h' : SqB k X.K H a ys) : xs = ys := by
  cases k
  · exact I.tuple_inj h h'
  · exact I.list_inj h h'
end
def ItzG (K : PySem.W.Frag) (k1 k2 : Bool) (a b : Addr) : It :=
  ⟨fun i H => ∃ (xs ys : List V) (x y : V), SqB k1 K H a xs ∧ SqB k2 K H b ys ∧ xs[i]? = some x ∧ ys[i]? = some y,
    fun i H v H' => ∃ T x y, v = .ref T ∧ H T = none ∧ H' = upd H T (.tup [x, y]) ∧ (∀ xs, SqB k1 K H a xs → xs[i]? = some x) ∧ ∀ ys, SqB k2 K H b ys → ys[i]? = some y,
    fun i H => ∃ xs ys : List V, SqB k1 K H a xs ∧ SqB k2 K H b ys ∧ ((i ≤ ys.length ∧ xs.length = i) ∨ (i ≤ xs.length ∧ ys.length = i))⟩
theorem sep_of {z TI TO i1 i2 a b : Addr} (D : ZipApart z TI TO i1 i2 a b) : ZipSep2 z TI TO i1 i2 [i1, a] [i2, b] where
  TIz := D.TIz
  TOz := D.TOz
  TITO := D.TITO
  TIi1 := D.TIi1
  mem1 := by simp
  zf1 := by simp [D.i1z.symm, D.l1z.symm]
  Tf1 := by simp [D.TOi1, D.l1TO.symm]
  TIi2 := D.TIi2
  mem2 := by simp
  zf2 := by simp [D.i2z.symm, D.l2z.symm]
  Tf2 := by simp [D.TOi2, D.l2TO.symm]
  sep1_2 := by simp [D.i12, D.l2i1.symm]
  sep2_1 := by simp [D.i12.symm, D.l1i2.symm]
theorem turn_zipG {P : Program} {w : World} {K : PySem.W.Frag} {elts : List Expr} {kk : Nat} {tpos : Pos} {k1 k2 : Bool} {a b z TI TO i1 i2 : Addr} (D : ZipApart z TI TO i1 i2 a b) :
    Turn P w K (.Tuple elts kk tpos) (ItzG K k1 k2 a b) [z, TI, TO, i1, i2] z (fun i h => IsZip h z TI TO .none ∧ IsPair h TI (.ref i1) (.ref i2) ∧ (∃ x y, IsPair h TO x y) ∧ IsItr k1 h i1 a i ∧ IsItr k2 h i2 b i) where
  mem := by simp
  obj := fun i h st c hc => by
    obtain ⟨hz, hTI, ⟨x, y, hTO⟩, h1, h2⟩ := st
    have e' : c = z ∨ c = TI ∨ c = TO ∨ c = i1 ∨ c = i2 := by simpa using hc
    rcases e' with q | q | q | q | q
    · rw [q]; exact ⟨_, hz, fun v q => nomatch q⟩
    · rw [q]; exact ⟨_, hTI, fun v q => nomatch q⟩
    · rw [q]; exact ⟨_, hTO, fun v q => nomatch q⟩
    · rw [q]; exact h1.ob
    · rw [q]; exact h2.ob
  keep := fun i h h' st k => by
    obtain ⟨hz, hTI, ⟨x, y, hTO⟩, h1, h2⟩ := st
    exact ⟨k z (by simp) _ hz, k TI (by simp) _ hTI, ⟨x, y, k TO (by simp) _ hTO⟩, h1.at_ fun o q => k i1 (by simp) o q, h2.at_ fun o q => k i2 (by simp) o q⟩
  item := by
    intro X hP hw hK hc i pins s σ H E I hf st hg
    subst hP hw hK
    obtain ⟨hz, hTI, ⟨x0, y0, hTO⟩, h1, h2⟩ := st
    obtain ⟨xs, ys, x, y, hqx, hqy, hx, hy⟩ := hg
    obtain ⟨its, rv, p⟩ := inv_sq I hqx
    obtain ⟨its2, rv2, p2⟩ := inv_sq I hqy
    obtain ⟨u, hu, ru⟩ := rv.get hx
    obtain ⟨u2, hu2, ru2⟩ := rv2.get hy
    have hzl : z < s.heap.objs.size := Heap.lt_size hz
    have l1 : i < its.toArray.size := by
      have := (List.getElem?_eq_some_iff.mp hu).1
      simpa using this
    have l2 : i < its2.toArray.size := by
      have := (List.getElem?_eq_some_iff.mp hu2).1
      simpa using this
    refine wpAny_pyNext_zipD2_item (sep_of D) (drawsB (A := X.A.in1) (I.ok.hd hc) k1 i1 a D.l1i1 its.toArray) (drawsB (A := X.A.in1) (I.ok.hd hc) k2 i2 b D.l2i2 its2.toArray) hz hTI hTO ⟨h1, p⟩ ⟨h2, p2⟩ l1 l2 fun v1 v2 h' tk e1 e2 z' TO' h1' h2' hT hsz hk => ?_
    have q1 : v1 = u := by
      have e1 : its[i]? = some v1 := by simpa using e1
      rw [hu] at e1; cases e1; rfl
    have q2 : v2 = u2 := by
      have e2 : its2[i]? = some v2 := by simpa using e2
      rw [hu2] at e2; cases e2; rfl
    subst q1 q2
    refine ⟨_, rfl, wpAny_letOwnedTupleGo_zip (s := { s with heap := h', toks := tk }) z' fun h'' z'' sb => ?_⟩
    have hT2 : h''.get? s.heap.objs.size = some { cls := .type "tuple", data := .seq #[v1, v2] } := (sb.2 _ (Nat.ne_of_gt hzl)).trans hT
    have new : ObjOk X.prog X.w (upd H s.heap.objs.size (.tup [x, y])) h'' s.heap.objs.size (.tup [x, y]) :=
      ⟨by show 2 ≤ sizeLine; decide, [v1, v2], .cons ru (.cons ru2 .nil), ⟨_, hT2, rfl, _, rfl⟩⟩
    have I1 : L2.Inv X pins σ (upd H s.heap.objs.size (.tup [x, y])) { s with heap := h'', toks := tk } :=
      I.turnedNew (t' := tk) (ch := [z, TI, TO, i1, i2]) (fun c o hb q => (sb.2 c (fun q' => hb (by simp [q']))).trans (hk c o (fun q' => hb (by simp [q'])) (fun q' => hb (by simp [q'])) (fun q' => hb (by simp [q'])) (fun q' => hb (by simp [q'])) q)) hf (Nat.le_refl _) new
    refine ⟨.ref s.heap.objs.size, _, I1, rfl, ⟨_, x, y, rfl, I.hok.fresh (Nat.le_refl _), rfl, fun l hl => by rw [sq_inj I hl hqx]; exact hx, fun l hl => by rw [sq_inj I hl hqy]; exact hy⟩, ⟨z'', ?_, ⟨v1, v2, ?_⟩, ?_, ?_⟩, fun c hcm => ?_⟩
    · exact (sb.2 _ D.TIz).trans (hk _ _ D.TIz D.TITO D.TIi1 D.TIi2 hTI)
    · exact (sb.2 _ D.TOz).trans TO'
    · exact h1'.1.at_ fun o q => (sb.2 _ D.i1z).trans q
    · exact h2'.1.at_ fun o q => (sb.2 _ D.i2z).trans q
    · have hlt : c < s.heap.objs.size := by
        have e' : c = z ∨ c = TI ∨ c = TO ∨ c = i1 ∨ c = i2 := by simpa using hcm
        rcases e' with q | q | q | q | q
        · rw [q]; exact hzl
        · rw [q]; exact Heap.lt_size hTI
        · rw [q]; exact Heap.lt_size hTO
        · rw [q]; obtain ⟨_, e1, _⟩ := h1.ob; exact Heap.lt_size e1
        · rw [q]; obtain ⟨_, e2, _⟩ := h2.ob; exact Heap.lt_size e2
      rw [upd_ne (Nat.ne_of_lt hlt)]
      exact (hf c hcm).1
  done := by
    intro X hP hw hK hc i pins s σ H E I hf st hg
    subst hP hw hK
    obtain ⟨hz, hTI, ⟨x0, y0, hTO⟩, h1, h2⟩ := st
    obtain ⟨xs, ys, hqx, hqy, hend⟩ := hg
    obtain ⟨its, rv, p⟩ := inv_sq I hqx
    obtain ⟨its2, rv2, p2⟩ := inv_sq I hqy
    have l1 : its.toArray.size = xs.length := by have := rv.length; simp; omega
    have l2 : its2.toArray.size = ys.length := by have := rv2.length; simp; omega
    exact wpAny_pyNext_zipD2_end (sep_of D) (drawsB (A := X.A.in1) (I.ok.hd hc) k1 i1 a D.l1i1 its.toArray) (drawsB (A := X.A.in1) (I.ok.hd hc) k2 i2 b D.l2i2 its2.toArray) hz hTI hTO ⟨h1, p⟩ ⟨h2, p2⟩ (by omega) (by omega) (by omega) fun h' tk hk => ⟨rfl, I.turnedL (t' := tk) (ch := [z, TI, TO, i1, i2]) (fun c o hb q =>
      hk c o (fun q' => hb (by simp [q'])) (fun q' => hb (by simp [q'])) (fun q' => hb (by simp [q'])) (fun q' => hb (by simp [q'])) q) hf⟩
  self := fun A i s Q E st h => wpAny_pyIter_zip st.1 h
abbrev zgH1 (k : Bool) (h : Heap) (l1 : Addr) : Heap := h.push (itOb k l1)
abbrev zgH2 (k1 k2 : Bool) (h : Heap) (l1 l2 : Addr) : Heap := (zgH1 k1 h l1).push (itOb k2 l2)
abbrev zgH3 (k1 k2 : Bool) (h : Heap) (l1 l2 : Addr) : Heap := (zgH2 k1 k2 h l1 l2).push { cls := .type "tuple", data := .seq #[.ref h.objs.size, .ref (zgH1 k1 h l1).objs.size] }
abbrev zgH4 (k1 k2 : Bool) (h : Heap) (l1 l2 : Addr) : Heap := (zgH3 k1 k2 h l1 l2).push { cls := .type "tuple", data := .seq #[.none, .none] }
abbrev zgH5 (k1 k2 : Bool) (h : Heap) (l1 l2 : Addr) : Heap := (zgH4 k1 k2 h l1 l2).push { cls := .type "zip", data := .fields #[.none, .bool false, .bool false, .ref (zgH2 k1 k2 h l1 l2).objs.size, .ref (zgH3 k1 k2 h l1 l2).objs.size] }
theorem meets_zipLT (l1 l2 : Addr) (xs ys : Array Value) :
    Meets (Builtin.«zip.__new__» ⟨[.type "zip", .ref l1, .ref l2], []⟩) (fun _ R s => s.heap.IsList l1 xs ∧ s.heap.IsTuple l2 ys ∧
      R (.ok (.ret (.ref (zgH4 true false s.heap l1 l2).objs.size))) { s with heap := zgH5 true false s.heap l1 l2 }) :=
  .of_wp fun prog w A R s h => by
    obtain ⟨hp, g, d, tk, os⟩ := s; obtain ⟨hl1, hl2, h⟩ := h
    have hsub := sub_zip
    have hL1 : Heap.IsList (Shared.heap ⟨hp, g, d, tk, os⟩) l1 xs := hl1
    have hL2 : Heap.IsTuple (Shared.heap ⟨hp.push { cls := .type "list_iterator", data := .fields #[.ref l1, .int 0 0] }, g, d, tk, os⟩) l2 ys := Heap.IsTuple.push hl2 _
    wp_walk using wpAny_pyIter_list hL1, wpAny_pyIter_tuple hL2
    exact ⟨_, rfl, h⟩
theorem meets_zipTL (l1 l2 : Addr) (xs ys : Array Value) :
    Meets (Builtin.«zip.__new__» ⟨[.type "zip", .ref l1, .ref l2], []⟩) (fun _ R s => s.heap.IsTuple l1 xs ∧ s.heap.IsList l2 ys ∧
      R (.ok (.ret (.ref (zgH4 false true s.heap l1 l2).objs.size))) { s with heap := zgH5 false true s.heap l1 l2 }) :=
  .of_wp fun prog w A R s h => by
    obtain ⟨hp, g, d, tk, os⟩ := s; obtain ⟨hl1, hl2, h⟩ := h
    have hsub := sub_zip
    have hL1 : Heap.IsTuple (Shared.heap ⟨hp, g, d, tk, os⟩) l1 xs := hl1
    have hL2 : Heap.IsList (Shared.heap ⟨hp.push { cls := .type "tuple_iterator", data := .fields #[.ref l1, .int 0 0] }, g, d, tk, os⟩) l2 ys := Heap.IsList.push hl2 _
    wp_walk using wpAny_pyIter_tuple hL1, wpAny_pyIter_list hL2
    exact ⟨_, rfl, h⟩
section
variable {prog : Program} {w : World} {A : Around} {E : Value → Shared → Prop} {s : Shared}
theorem call_zipLT {l1 l2 : Addr} {xs ys : Array Value} {Q : Value → Shared → Prop} (hl1 : s.heap.IsList l1 xs) (hl2 : s.heap.IsTuple l2 ys)
    (h : ∀ h', IsZip h' (s.heap.objs.size + 4) (s.heap.objs.size + 2) (s.heap.objs.size + 3) .none → IsPair h' (s.heap.objs.size + 2) (.ref s.heap.objs.size) (.ref (s.heap.objs.size + 1)) →
      IsPair h' (s.heap.objs.size + 3) .none .none → IsItr true h' s.heap.objs.size l1 0 → IsItr false h' (s.heap.objs.size + 1) l2 0 →
      (∀ c o, s.heap.get? c = some o → h'.get? c = some o) → Q (.ref (s.heap.objs.size + 4)) { s with heap := h' }) :
    wpAny (model prog w) A (PySem.call (.type "zip") [.ref l1, .ref l2]) Q E s := by
  refine callType_new F.called_zip (by decide) (F.typeCall_zip_2 _ _) (F.newCall_zip_2 _ _) (fun obj => F.args_object_init_3 obj _ _) F.entry_zip_new
    (meets_zipLT l1 l2 xs ys) ⟨hl1, hl2, ?_⟩
  have z1 : (zgH1 true s.heap l1).objs.size = s.heap.objs.size + 1 := Heap.size_push ..
  have z2 : (zgH2 true false s.heap l1 l2).objs.size = s.heap.objs.size + 2 := by rw [Heap.size_push, z1]
  have z3 : (zgH3 true false s.heap l1 l2).objs.size = s.heap.objs.size + 3 := by rw [Heap.size_push, z2]
  have z4 : (zgH4 true false s.heap l1 l2).objs.size = s.heap.objs.size + 4 := by rw [Heap.size_push, z3]
  have g5 : (zgH5 true false s.heap l1 l2).get? (zgH4 true false s.heap l1 l2).objs.size = some _ := Heap.get?_push_size _ rfl
  have g4 : (zgH5 true false s.heap l1 l2).get? (zgH3 true false s.heap l1 l2).objs.size = some _ := Heap.get?_push_of_some _ (Heap.get?_push_size _ rfl)
  have g3 : (zgH5 true false s.heap l1 l2).get? (zgH2 true false s.heap l1 l2).objs.size = some _ := Heap.get?_push_of_some _ (Heap.get?_push_of_some _ (Heap.get?_push_size _ rfl))
  have g2 : (zgH5 true false s.heap l1 l2).get? (zgH1 true s.heap l1).objs.size = some (itOb false l2) := Heap.get?_push_of_some _ (Heap.get?_push_of_some _ (Heap.get?_push_of_some _ (Heap.get?_push_size _ rfl)))
  have g1 : (zgH5 true false s.heap l1 l2).get? s.heap.objs.size = some (itOb true l1) := Heap.get?_push_of_some _ (Heap.get?_push_of_some _ (Heap.get?_push_of_some _ (Heap.get?_push_of_some _ (Heap.get?_push_size _ rfl))))
  show _ ∧ _
  rw [z2, z3, z4] at g5
  rw [z1, z2] at g3
  rw [z3] at g4
  rw [z1] at g2
  rw [z4]
  exact ⟨⟨_, g5, rfl⟩, h _ g5 g3 g4 (.of g1) (.of g2) fun c o x =>
    Heap.get?_push_of_some _ (Heap.get?_push_of_some _ (Heap.get?_push_of_some _ (Heap.get?_push_of_some _ (Heap.get?_push_of_some _ x))))⟩
theorem call_zipTL {l1 l2 : Addr} {xs ys : Array Value} {Q : Value → Shared → Prop} (hl1 : s.heap.IsTuple l1 xs) (hl2 : s.heap.IsList l2 ys)
    (h : ∀ h', IsZip h' (s.heap.objs.size + 4) (s.heap.objs.size + 2) (s.heap.objs.size + 3) .none → IsPair h' (s.heap.objs.size + 2) (.ref s.heap.objs.size) (.ref (s.heap.objs.size + 1)) →
      IsPair h' (s.heap.objs.size + 3) .none .none → IsItr false h' s.heap.objs.size l1 0 → IsItr true h' (s.heap.objs.size + 1) l2 0 →
      (∀ c o, s.heap.get? c = some o → h'.get? c = some o) → Q (.ref (s.heap.objs.size + 4)) { s with heap := h' }) :
    wpAny (model prog w) A (PySem.call (.type "zip") [.ref l1, .ref l2]) Q E s := by
  refine callType_new F.called_zip (by decide) (F.typeCall_zip_2 _ _) (F.newCall_zip_2 _ _) (fun obj => F.args_object_init_3 obj _ _) F.entry_zip_new
    (meets_zipTL l1 l2 xs ys) ⟨hl1, hl2, ?_⟩
  have z1 : (zgH1 false s.heap l1).objs.size = s.heap.objs.size + 1 := Heap.size_push ..
  have z2 : (zgH2 false true s.heap l1 l2).objs.size = s.heap.objs.size + 2 := by rw [Heap.size_push, z1]
  have z3 : (zgH3 false true s.heap l1 l2).objs.size = s.heap.objs.size + 3 := by rw [Heap.size_push, z2]
  have z4 : (zgH4 false true s.heap l1 l2).objs.size = s.heap.objs.size + 4 := by rw [Heap.size_push, z3]
  have g5 : (zgH5 false true s.heap l1 l2).get? (zgH4 false true s.heap l1 l2).objs.size = some _ := Heap.get?_push_size _ rfl
  have g4 : (zgH5 false true s.heap l1 l2).get? (zgH3 false true s.heap l1 l2).objs.size = some _ := Heap.get?_push_of_some _ (Heap.get?_push_size _ rfl)
  have g3 : (zgH5 false true s.heap l1 l2).get? (zgH2 false true s.heap l1 l2).objs.size = some _ := Heap.get?_push_of_some _ (Heap.get?_push_of_some _ (Heap.get?_push_size _ rfl))
  have g2 : (zgH5 false true s.heap l1 l2).get? (zgH1 false s.heap l1).objs.size = some (itOb true l2) := Heap.get?_push_of_some _ (Heap.get?_push_of_some _ (Heap.get?_push_of_some _ (Heap.get?_push_size _ rfl)))
  have g1 : (zgH5 false true s.heap l1 l2).get? s.heap.objs.size = some (itOb false l1) := Heap.get?_push_of_some _ (Heap.get?_push_of_some _ (Heap.get?_push_of_some _ (Heap.get?_push_of_some _ (Heap.get?_push_size _ rfl))))
  show _ ∧ _
  rw [z2, z3, z4] at g5
  rw [z1, z2] at g3
  rw [z3] at g4
  rw [z1] at g2
  rw [z4]
  exact ⟨⟨_, g5, rfl⟩, h _ g5 g3 g4 (.of g1) (.of g2) fun c o x =>
    Heap.get?_push_of_some _ (Heap.get?_push_of_some _ (Heap.get?_push_of_some _ (Heap.get?_push_of_some _ (Heap.get?_push_of_some _ x))))⟩
end
def iZipU (K : PySem.W.Frag) (ta : TA) : TI := fun σ H R => ta σ H fun vs H1 => ∃ k l a b xs ys, vs = [.ref a, .ref b] ∧ SqB k K H1 a xs ∧ SqB l K H1 b ys ∧ R (ItzG K k l a b) H1
theorem pi_zipU {X : Cx} {e e2 : Expr} {ta : TA} {p pos tpos : Pos} {elts : List Expr} {kk : Nat} (hg : Gl X "zip") (hm : X.mg "zip" = none) (ha : PA X [e, e2] ta)
    (hs : starEach [e, e2] X.env = (false, eval e X.env) :: starEach [e2] X.env := by rfl) (hpl : (backTo pos (starEach [e2] X.env)).any (·.1) = false := by rfl) :
    PI X (.Tuple elts kk tpos) (.Call (.Name "zip" p) [e, e2] [] pos) (iZipU X.K ta) := by
  refine ⟨fun pins s σ H R I h => ?_⟩
  refine Call_ (ld_blt I hg hm PyProof.Rows.boot_zip (PyProof.Rows.callWith_type1 (thn (ha.run pos pins s σ H _ I h) fun us s1 ⟨vs, H1, I1, r1, q1⟩ => ?_) hs hpl))
  obtain ⟨k, l, a, b, xs, ys, ex, hqx, hqy, q⟩ := q1
  subst ex
  cases r1 with
  | cons r rr =>
    cases rr with
    | cons r' rr =>
      cases rr
      cases r
      cases r'
      have fresh5 : ∀ c, c ∈ [s1.heap.objs.size + 4, s1.heap.objs.size + 2, s1.heap.objs.size + 3, s1.heap.objs.size, s1.heap.objs.size + 1] → FpOk X pins H1 c := fun c hcm => by
        have e' : c = s1.heap.objs.size + 4 ∨ c = s1.heap.objs.size + 2 ∨ c = s1.heap.objs.size + 3 ∨ c = s1.heap.objs.size ∨ c = s1.heap.objs.size + 1 := by simpa using hcm
        have hle : s1.heap.objs.size ≤ c := by
          rcases e' with z | z | z | z | z
          · rw [z]; exact Nat.le_add_right _ _
          · rw [z]; exact Nat.le_add_right _ _
          · rw [z]; exact Nat.le_add_right _ _
          · rw [z]; exact Nat.le_refl _
          · rw [z]; exact Nat.le_add_right _ _
        exact I1.fpOk hle (I1.hok.fresh hle)
      obtain ⟨its, rv, p1⟩ := inv_sq I1 hqx
      obtain ⟨its2, rv2, p2⟩ := inv_sq I1 hqy
      have go : ∀ h', IsZip h' (s1.heap.objs.size + 4) (s1.heap.objs.size + 2) (s1.heap.objs.size + 3) .none → IsPair h' (s1.heap.objs.size + 2) (.ref s1.heap.objs.size) (.ref (s1.heap.objs.size + 1)) →
          IsPair h' (s1.heap.objs.size + 3) .none .none → IsItr k h' s1.heap.objs.size a 0 → IsItr l h' (s1.heap.objs.size + 1) b 0 → (∀ c o, s1.heap.get? c = some o → h'.get? c = some o) →
          wpAny (model X.prog X.w) X.A (pyIter (.ref (s1.heap.objs.size + 4))) (PIE X pins σ (.Tuple elts kk tpos) R) X.xe { s1 with heap := h' } := fun h' hz hTI hTO h1 h2 hk => by
        have I2 : L2.Inv X pins σ H1 { s1 with heap := h' } := I1.kept (t' := s1.toks) hk
        exact wpAny_pyIter_zip hz ⟨s1.heap.objs.size + 4, [s1.heap.objs.size + 4, s1.heap.objs.size + 2, s1.heap.objs.size + 3, s1.heap.objs.size, s1.heap.objs.size + 1], _, _, H1, rfl, I2, turn_zipG (PySem.W.ktu_apart s1.heap.objs.size a b p1.lt p2.lt), ⟨hz, hTI, ⟨_, _, hTO⟩, h1, h2⟩, fresh5, q⟩
      cases k <;> cases l
      · exact call_zipT p1 p2 fun h' hz hTI hTO h1 h2 _ hk => go h' hz hTI hTO h1 h2 hk
      · exact call_zipTL p1 p2 fun h' hz hTI hTO h1 h2 hk => go h' hz hTI hTO h1 h2 hk
      · exact call_zipLT p1 p2 fun h' hz hTI hTO h1 h2 hk => go h' hz hTI hTO h1 h2 hk
      · exact call_zip_2 p1 p2 fun h' hz hTI hTO h1 h2 _ hk => go h' hz hTI hTO h1 h2 hk
end
end LB
/-! LB11: what is walked; targets; comprehensions. -/
namespace LB
open PySem PySem.Spec PyProof.Rows L2
variable [Clx]
open RZ (ItzT)

/-- J walks the data ds as they stand at H0 -/
def ItD (J : It) (H0 : Hp) (F0 : List Addr) (ds : List D) : Prop := ∃ (P : Hp → Prop) (Y : Nat → Hp → V → Hp → Prop), Walk J ds.length P Y ∧ (∀ H F, Kps H0 F0 H F → P H) ∧
  ∀ i H F x H' st, Kps H0 F0 H F → SR H F st → Y i H x H' → i < ds.length → ∃ d, ds[i]? = some d ∧ Stp H F H' F ∧ SR H' F st ∧ Rp H' F d x
/-- an iterable's reading -/
def tI (T : Tab) (e : E) : TI := fun σ H R => ∃ G env F st, SR H F st ∧ ER G σ H F env ∧
  RO (evE T e .i env st) fun d st' => ∃ ds, d = .lst ds ∧ ∀ J H' F', Stp H F H' F' → SR H' F' st' → ItD J H' F' ds → R J H'
theorem Kps.trans {H H1 H2 : Hp} {F F1 F2 : List Addr} (a : Kps H F H1 F1) (b : Kps H1 F1 H2 F2) : Kps H F H2 F2 :=
  ⟨fun x xs h => b.tup _ _ (a.tup x xs h), fun x o u h => b.frz _ _ _ (a.frz x o u h), fun n x h => b.pre _ _ (a.pre n x h), fun x o h => b.ext _ _ (a.ext x o h), fun x o h => b.xd _ _ (a.xd x o h)⟩
theorem Kps.refl {H : Hp} {F : List Addr} : Kps H F H F := ⟨fun _ _ h => h, (fun _ _ _ h => h), (fun _ _ h => h), (fun _ _ h => h), fun _ _ h => h⟩
section
variable {K : PySem.W.Frag} {H : Hp} {F : List Addr}
theorem get_lt {ds : List D} {i : Nat} (h : i < ds.length) : ∃ d, ds[i]? = some d := ⟨ds[i], by simp [h]⟩
theorem it_list {a : Addr} {o : Obj} {xs : List V} {ds : List D} (e : H a = some (.frz o (.lst xs))) (r : Rps H F ds xs) : ItD (Itl K a) H F ds := by
  refine ⟨fun H => SqL K H a xs, YAt xs, by rw [r.length]; exact walk_list, fun H' F' k => .inl (.inr ⟨o, k.frz _ _ _ e⟩), fun i H' F' x H'' st k s y hi => ?_⟩
  obtain ⟨rfl, hx⟩ := y
  obtain ⟨d, e1, e2⟩ := r.getV hx
  exact ⟨d, e1, Stp.refl, s, e2.mono k⟩
theorem it_tup {a : Addr} {xs : List V} {ds : List D} (e : H a = some (.tup xs)) (r : Rps H F ds xs) : ItD (Itt K a) H F ds := by
  refine ⟨fun H => SqT K H a xs, YAt xs, by rw [r.length]; exact walk_tup, fun H' F' k => .inl (.inl (k.tup _ _ e)), fun i H' F' x H'' st k s y hi => ?_⟩
  obtain ⟨rfl, hx⟩ := y
  obtain ⟨d, e1, e2⟩ := r.getV hx
  exact ⟨d, e1, Stp.refl, s, e2.mono k⟩
theorem upto_get : ∀ (n : Nat) (lo : Int) (i : Nat), i < n → (upto lo n)[i]? = some (.int (lo + i))
  | 0, _, _, h => absurd h (Nat.not_lt_zero _)
  | n + 1, lo, 0, _ => by simp [upto]
  | n + 1, lo, i + 1, h => by
    show (upto (lo + 1) n)[i]? = _
    rw [upto_get n (lo + 1) i (Nat.lt_of_succ_lt_succ h)]
    congr 2; omega
theorem upto_len : ∀ (n : Nat) (lo : Int), (upto lo n).length = n
  | 0, _ => rfl
  | n + 1, lo => by show (upto (lo + 1) n).length + 1 = _; rw [upto_len]
theorem it_rng {lo : Int} {n : Nat} : ItD (Itr lo n) H F (upto lo n) := by
  refine ⟨_, _, by rw [upto_len]; exact walk_range, fun _ _ _ => trivial, fun i H' F' x H'' st k s y hi => ?_⟩
  rw [upto_len] at hi
  obtain ⟨rfl, rfl⟩ := y
  exact ⟨_, upto_get n lo i hi, Stp.refl, s, .int _⟩
theorem dnto_get : ∀ (n : Nat) (i : Int) (j : Nat), j < n → (dnto i n)[j]? = some (.int (i + (j : Nat) * (-1)))
  | 0, _, _, h => absurd h (Nat.not_lt_zero _)
  | n + 1, i, 0, _ => by simp [dnto]
  | n + 1, i, j + 1, h => by
    show (dnto (i - 1) n)[j]? = _
    rw [dnto_get n (i - 1) j (Nat.lt_of_succ_lt_succ h)]
    congr 2; omega
theorem dnto_len : ∀ (n : Nat) (i : Int), (dnto i n).length = n
  | 0, _ => rfl
  | n + 1, i => by show (dnto (i - 1) n).length + 1 = _; rw [dnto_len]
theorem it_rng3 {i : Int} {n : Nat} : ItD (Itc i (-1) n) H F (dnto i n) := by
  refine ⟨fun _ => True, fun j H x H' => H' = H ∧ x = .int (i + (j : Nat) * (-1)), by rw [dnto_len]; exact ⟨fun _ _ hi _ => hi, fun _ _ => Nat.le_refl _, fun _ _ _ _ _ _ y => y⟩, fun _ _ _ => trivial, fun j H' F' x H'' st k s y hi => ?_⟩
  rw [dnto_len] at hi
  obtain ⟨rfl, rfl⟩ := y
  exact ⟨_, dnto_get n i j hi, Stp.refl, s, .int _⟩
theorem pairs_len : ∀ (l m : List D), (pairs l m).length = min l.length m.length
  | [], [] => rfl
  | [], _ :: _ => by simp [pairs]
  | _ :: _, [] => by simp [pairs]
  | a :: l, b :: m => by
    show (pairs l m).length + 1 = _
    rw [pairs_len l m, List.length_cons, List.length_cons]; omega
theorem pairs_get : ∀ (l m : List D) (i : Nat) (a b : D), l[i]? = some a → m[i]? = some b → (pairs l m)[i]? = some (.tup [a, b])
  | [], _, _, _, _, h, _ => by simp at h
  | _ :: _, [], _, _, _, _, h => by simp at h
  | x :: l, y :: m, 0, a, b, h, h' => by simp at h h'; subst h h'; rfl
  | x :: l, y :: m, i + 1, a, b, h, h' => pairs_get l m i a b (by simpa using h) (by simpa using h')
/-- a new pair -/
theorem pair_step {H' H'' : Hp} {F' : List Addr} {st : Store} {p : Addr} {a b : D} {x y : V} (s : SR H' F' st) (hp : H' p = none) (e : H'' = upd H' p (.tup [x, y])) (ra : Rp H' F' a x) (rb : Rp H' F' b y) :
    Stp H' F' H'' F' ∧ SR H'' F' st ∧ Rp H'' F' (.tup [a, b]) (.ref p) := by
  subst e
  exact ⟨Stp.laid s hp, s.laid hp, .tup upd_same (.cons (ra.mono (keeps_new hp)) (.cons (rb.mono (keeps_new hp)) .nil))⟩
theorem walk_zipG {k1 k2 : Bool} {a b : Addr} {xs ys : List V} {n : Nat} (hn : n = min xs.length ys.length) : Walk (ItzG K k1 k2 a b) n (fun H => SqB k1 K H a xs ∧ SqB k2 K H b ys) (YPair (fun i => xs[i]?) (fun i => ys[i]?)) := by
  subst hn
  refine ⟨fun i _ hi q => ?_, fun _ q => ⟨xs, ys, q.1, q.2, by omega⟩, fun i H v H' _ q y => ?_⟩
  · exact ⟨xs, ys, xs[i]'(by omega), ys[i]'(by omega), q.1, q.2, by simp [show i < xs.length by omega], by simp [show i < ys.length by omega]⟩
  · obtain ⟨p, x, z, h1, h2, h3, h4, h5⟩ := y
    exact ⟨p, x, z, h1, h2, h3, h4 xs q.1, h5 ys q.2⟩
theorem it_zipG {k1 k2 : Bool} {a b : Addr} {xs ys : List V} {l m : List D} (_ : SqB k1 K H a xs) (r : Rps H F l xs) (_ : SqB k2 K H b ys) (r' : Rps H F m ys) (ke : ∀ H' F', Kps H F H' F' → SqB k1 K H' a xs) (ke' : ∀ H' F', Kps H F H' F' → SqB k2 K H' b ys) : ItD (ItzG K k1 k2 a b) H F (pairs l m) := by
  refine ⟨_, _, walk_zipG (K := K) (k1 := k1) (k2 := k2) (a := a) (b := b) (xs := xs) (ys := ys) (by rw [pairs_len, r.length, r'.length]), fun H' F' k => ⟨ke H' F' k, ke' H' F' k⟩, fun i H' F' x H'' st k s y hi => ?_⟩
  obtain ⟨p, x1, y1, rfl, hp, he, h1, h2⟩ := y
  obtain ⟨d1, q1, q2⟩ := r.getV h1
  obtain ⟨d2, q3, q4⟩ := r'.getV h2
  obtain ⟨z1, z2, z3⟩ := pair_step s hp he (q2.mono k) (q4.mono k)
  exact ⟨_, pairs_get l m i d1 d2 q1 q3, z1, z2, z3⟩
theorem counted_len : ∀ (l : List D) (n : Nat), (counted n l).length = l.length
  | [], _ => rfl
  | _ :: l, n => by show (counted (n + 1) l).length + 1 = _; rw [counted_len]; rfl
theorem counted_get : ∀ (l : List D) (n i : Nat) (a : D), l[i]? = some a → (counted n l)[i]? = some (.tup [.int ((n + i : Nat)), a])
  | [], _, _, _, h => by simp at h
  | x :: l, n, 0, a, h => by simp at h; subst h; rfl
  | x :: l, n, i + 1, a, h => by
    show (counted (n + 1) l)[i]? = _
    rw [counted_get l (n + 1) i a (by simpa using h)]
    congr 5; omega
theorem it_enum {a : Addr} {o : Obj} {xs : List V} {l : List D} (e : H a = some (.frz o (.lst xs))) (r : Rps H F l xs) : ItD (Ite K a) H F (counted 0 l) := by
  refine ⟨fun H => SqL K H a xs, YPair (fun i => some (.int (i : Nat))) (fun i => xs[i]?), by rw [counted_len, r.length]; exact walk_enum, fun H' F' k => .inl (.inr ⟨o, k.frz _ _ _ e⟩), fun i H' F' x H'' st k s y hi => ?_⟩
  obtain ⟨p, x1, y1, rfl, hp, he, h1, h2⟩ := y
  cases h1
  obtain ⟨d2, q3, q4⟩ := r.getV h2
  obtain ⟨z1, z2, z3⟩ := pair_step s hp he (.int _) (q4.mono k)
  refine ⟨_, counted_get l 0 i d2 q3, z1, z2, ?_⟩
  rw [Nat.zero_add]
  exact z3
theorem walk_enT {a : Addr} {xs : List V} : Walk (IteT K a) xs.length (fun H => SqT K H a xs) (YPair (fun i => some (.int (i : Nat))) (fun i => xs[i]?)) := by
  refine ⟨fun i _ hi q => ⟨xs, xs[i], q, List.getElem?_eq_getElem hi⟩, fun _ q => ⟨xs, q, Nat.le_refl _⟩, fun i H v H' _ q y => ?_⟩
  obtain ⟨p, x, e1, e2, e3, e4⟩ := y
  exact ⟨p, .int (i : Nat), x, e1, e2, e3, rfl, e4 xs q⟩
theorem it_enT {a : Addr} {xs : List V} {l : List D} (e : H a = some (.tup xs)) (r : Rps H F l xs) : ItD (IteT K a) H F (counted 0 l) := by
  refine ⟨fun H => SqT K H a xs, YPair (fun i => some (.int (i : Nat))) (fun i => xs[i]?), by rw [counted_len, r.length]; exact walk_enT, fun H' F' k => .inl (.inl (k.tup _ _ e)), fun i H' F' x H'' st k s y hi => ?_⟩
  obtain ⟨p, x1, y1, rfl, hp, he, h1, h2⟩ := y
  cases h1
  obtain ⟨d2, q3, q4⟩ := r.getV h2
  obtain ⟨z1, z2, z3⟩ := pair_step s hp he (.int _) (q4.mono k)
  refine ⟨_, counted_get l 0 i d2 q3, z1, z2, ?_⟩
  rw [Nat.zero_add]
  exact z3
theorem RO_too {α : Type} {r : Res α} {Q Q' : α → Store → Prop} (h : RO r Q) (k : RO r Q') : RO r fun a st => Q a st ∧ Q' a st := by
  cases r with
  | ok a st => exact ⟨h, k⟩
  | exc => exact h
  | bad => exact h
end
section
variable {X : Cx} {G : Sig} {T : Tab} {tg : Expr}
theorem it_str {H : Hp} {F : List Addr} {x : PySem.Str} : ItD (Its x) H F (signs x) := by
  have hl : (signs x).length = x.cps.size := by unfold signs; rw [List.length_map, Array.length_toList]
  refine ⟨_, _, by rw [hl]; exact walk_str, fun _ _ _ => trivial, fun i H' F' v H'' st k s y hi => ?_⟩
  obtain ⟨rfl, c, hc, rfl⟩ := y
  refine ⟨.str ⟨#[c]⟩, ?_, Stp.refl, s, .str _⟩
  unfold signs
  rw [List.getElem?_map, Array.getElem?_toList, hc]
  rfl
theorem items_of {d z : D} (h : (itemsI d).map D.lst = some z) : ∃ l, z = .lst l ∧ (d = .lst l ∨ d = .tup l ∨ (∃ t vs, d = .dct t l vs) ∨ ∃ x, d = .str x ∧ l = signs x) := by
  cases d <;> first | (simp only [itemsI, Option.map_none, reduceCtorEq] at h; done) | (cases h; exact ⟨_, rfl, by simp⟩)
theorem rpKey {H : Hp} {F : List Addr} : ∀ k : Key, Rp H F (kD k) (kV k)
  | .inl i => .int i
  | .inr x => .str x
theorem it_keysK {H : Hp} {F : List Addr} {a : Addr} {o : Obj} {kvs : List (Key × V)} (e : H a = some (.frz o (.dK kvs))) : ItD (Itk a o kvs) H F (kvs.map fun kv => kD kv.1) := by
  refine ⟨_, _, by rw [List.length_map]; exact walk_keys, fun H' F' k => k.frz _ _ _ e, fun i H' F' x H'' st k s y hi => ?_⟩
  obtain ⟨rfl, k', v, h1, rfl⟩ := y
  refine ⟨kD k', by rw [List.getElem?_map, h1]; rfl, Stp.refl, s, ?_⟩
  cases k' <;> constructor
theorem it_keysT {H : Hp} {F : List Addr} {a : Addr} {o : Obj} {kvs : List (List Key × V)} (e : H a = some (.frz o (.dT kvs))) : ItD (Itkt a o kvs) H F (kvs.map fun kv => D.tup (kv.1.map kD)) := by
  refine ⟨_, _, by rw [List.length_map]; exact walk_keysT, fun H' F' k => k.frz _ _ _ e, fun i H' F' x H'' st k s y hi => ?_⟩
  obtain ⟨rfl, k', v, q, h1, rfl, hq⟩ := y
  exact ⟨_, by rw [List.getElem?_map, h1]; rfl, Stp.refl, s, .tup hq (keyRps _)⟩
theorem it_valsK {H : Hp} {F : List Addr} {a : Addr} {o : Obj} {kvs : List (Key × V)} {vs : List D} (e : H a = some (.frz o (.dK kvs))) (r : Rps H F vs (kvs.map (·.2))) : ItD (Itd a o kvs) H F vs := by
  have hl := r.length
  rw [List.length_map] at hl
  refine ⟨_, _, by rw [hl]; exact walk_values, fun H' F' k => k.frz _ _ _ e, fun i H' F' x H'' st k s y hi => ?_⟩
  obtain ⟨rfl, k', h1⟩ := y
  obtain ⟨d, e1, e2⟩ := r.getV (i := i) (x := x) (by rw [List.getElem?_map, h1]; rfl)
  exact ⟨d, e1, Stp.refl, s, e2.mono k⟩
theorem it_valsT {H : Hp} {F : List Addr} {a : Addr} {o : Obj} {kvs : List (List Key × V)} {vs : List D} (e : H a = some (.frz o (.dT kvs))) (r : Rps H F vs (kvs.map (·.2))) : ItD (ItdT a o kvs) H F vs := by
  have hl := r.length
  rw [List.length_map] at hl
  refine ⟨_, _, by rw [hl]; exact walk_valuesT, fun H' F' k => k.frz _ _ _ e, fun i H' F' x H'' st k s y hi => ?_⟩
  obtain ⟨rfl, k', h1⟩ := y
  obtain ⟨d, e1, e2⟩ := r.getV (i := i) (x := x) (by rw [List.getElem?_map, h1]; rfl)
  exact ⟨d, e1, Stp.refl, s, e2.mono k⟩
theorem it_itemsK {H : Hp} {F : List Addr} {a : Addr} {o : Obj} {kvs : List (Key × V)} {vs : List D} (e : H a = some (.frz o (.dK kvs))) (r : Rps H F vs (kvs.map (·.2))) : ItD (Iti a o kvs) H F (pairs (kvs.map fun kv => kD kv.1) vs) := by
  have hl := r.length
  rw [List.length_map] at hl
  refine ⟨_, _, by rw [pairs_len, hl, List.length_map, Nat.min_self]; exact walk_items, fun H' F' k => k.frz _ _ _ e, fun i H' F' x H'' st k s y hi => ?_⟩
  obtain ⟨p, x1, y1, rfl, hp, he, h1, h2⟩ := y
  have h1 : Option.map (fun kv => kV kv.1) kvs[i]? = some x1 := h1
  have h2 : Option.map Prod.snd kvs[i]? = some y1 := h2
  cases h3 : kvs[i]? with
  | none => rw [h3] at h1; cases h1
  | some kv =>
    rw [h3] at h1 h2
    cases h1
    cases h2
    obtain ⟨d, e1, e2⟩ := r.getV (i := i) (x := kv.2) (by rw [List.getElem?_map, h3]; rfl)
    obtain ⟨z1, z2, z3⟩ := pair_step s hp he (a := kD kv.1) (rpKey kv.1) (e2.mono k)
    exact ⟨_, pairs_get _ _ i _ _ (by rw [List.getElem?_map, h3]; rfl) e1, z1, z2, z3⟩
theorem it_itemsT {H : Hp} {F : List Addr} {a : Addr} {o : Obj} {kvs : List (List Key × V)} {vs : List D} (e : H a = some (.frz o (.dT kvs))) (r : Rps H F vs (kvs.map (·.2))) : ItD (ItiT a o kvs) H F (pairs (kvs.map fun kv => D.tup (kv.1.map kD)) vs) := by
  have hl := r.length
  rw [List.length_map] at hl
  refine ⟨_, _, by rw [pairs_len, hl, List.length_map, Nat.min_self]; exact walk_itemsT, fun H' F' k => k.frz _ _ _ e, fun i H' F' x H'' st k s y hi => ?_⟩
  obtain ⟨p, k', v, q, h3, hq, rfl, hp, he⟩ := y
  obtain ⟨d, e1, e2⟩ := r.getV (i := i) (x := v) (by rw [List.getElem?_map, h3]; rfl)
  obtain ⟨z1, z2, z3⟩ := pair_step s hp he (a := .tup (k'.map kD)) (.tup hq (keyRps _)) (e2.mono k)
  exact ⟨_, pairs_get _ _ i _ _ (by rw [List.getElem?_map, h3]; rfl) e1, z1, z2, z3⟩
theorem PI.imp {e : Expr} {t t' : TI} (h : PI X tg e t) (k : ∀ σ H Q, t' σ H Q → t σ H Q) : PI X tg e t' := ⟨fun pins s σ H Q I q => h.run pins s σ H Q I (k σ H Q q)⟩
theorem pi_core {e : E} {p : Expr} (h : coreB e = true) (he : PE X p (tE T false .v e)) : PI X tg p (tI T e) := by
  refine ⟨fun pins s σ H R I q => ?_⟩
  obtain ⟨G, env, F, st, sr, r, q⟩ := q
  rw [core_m (m := .i) (fun z => nomatch z) h] at q
  have q := RO_bind q
  cases e1 : evE T e .v env st with
  | exc => rw [e1] at q; exact q.elim
  | bad => rw [e1] at q; exact q.elim
  | ok d st1 =>
    rw [e1] at q
    obtain ⟨z, hz, ds, ez, q2⟩ := RO_opt (show RO (Res.opt ((itemsI d).map D.lst) st1) _ from q)
    obtain ⟨l, e2, e3⟩ := items_of hz
    subst e2
    cases ez
    have he1 : RO (evE T e .v env st) fun d' st1' => d' = d ∧ st1' = st1 := by rw [e1]; exact ⟨rfl, rfl⟩
    rcases e3 with rfl | rfl | ⟨t, vs, rfl⟩ | ⟨y, rfl, rfl⟩
    · refine (pi_list he).run pins s σ H R I (tE_go sr r he1 fun d' st1' x H1 F1 k a1 s1 r1 v1 => ?_)
      obtain ⟨rfl, rfl⟩ := k
      cases v1 with
      | lst e r2 => exact ⟨_, rfl, ⟨_, .inl (.inr ⟨_, e⟩)⟩, q2 _ H1 F1 a1 s1 (it_list e r2)⟩
    · refine (pi_tup he).run pins s σ H R I (tE_go sr r he1 fun d' st1' x H1 F1 k a1 s1 r1 v1 => ?_)
      obtain ⟨rfl, rfl⟩ := k
      cases v1 with
      | tup e r2 => exact ⟨_, rfl, ⟨_, .inl (.inl e)⟩, q2 _ H1 F1 a1 s1 (it_tup e r2)⟩
    · refine (pi_keys he).run pins s σ H R I (tE_go sr r he1 fun d' st1' x H1 F1 k a1 s1 r1 v1 => ?_)
      obtain ⟨rfl, rfl⟩ := k
      cases v1 with
      | dK e r2 => exact ⟨_, _, rfl, .inl ⟨_, e, q2 _ H1 F1 a1 s1 (it_keysK e)⟩⟩
      | dT e r2 => exact ⟨_, _, rfl, .inr ⟨_, e, q2 _ H1 F1 a1 s1 (it_keysT e)⟩⟩
    · refine (pi_str he).run pins s σ H R I (tE_go sr r he1 fun d' st1' x H1 F1 k a1 s1 r1 v1 => ?_)
      obtain ⟨rfl, rfl⟩ := k
      cases v1
      exact ⟨y, rfl, q2 _ H1 F1 a1 s1 it_str⟩
theorem ite_bad {α : Type} {c : Bool} {r : Res α} {Q : α → Store → Prop} (h : RO (if c = true then r else .bad) Q) : c = true ∧ RO r Q := by
  cases c with
  | true => exact ⟨rfl, h⟩
  | false => exact h.elim
theorem mid_of {i : Int} (h : mid i = true) : -(2 ^ 62) ≤ i ∧ i < 2 ^ 62 := by
  unfold mid at h
  simpa using h
theorem pi_rng1E {a : E} {pa : Expr} {p pos : Pos} (g : Gc G T X) (hx : glB X.env.scope "range" = true) (hn : noSt pa = true) (ha : PE X pa (tE T false .v a)) : PI X tg (.Call (.Name "range" p) [pa] [] pos) (tI T (.rng1 a)) := by
  refine PI.imp (pi_range1 (gl_of hx) (g.blt _ (by decide)) (pa_cons ha pa_nil (star_cons hn)) (star_cons hn)) fun σ H Q q => ?_
  obtain ⟨G, env, F, st, s, r, q⟩ := q
  refine tE_go s r (RO_bind q) fun d st1 x H1 F1 k a1 s1 r1 v1 => ?_
  cases d <;> first | exact k.elim | skip
  rename_i j
  cases v1
  obtain ⟨hm, k⟩ := ite_bad k
  obtain ⟨ds, e, k⟩ := k
  cases e
  obtain ⟨m1, m2⟩ := mid_of hm
  exact ⟨j, rfl, m1, m2, k _ H1 F1 a1 s1 it_rng⟩
theorem pi_rng2E {a b : E} {pa pb : Expr} {p pos : Pos} (g : Gc G T X) (hx : glB X.env.scope "range" = true) (hn : noSt pa = true) (hn' : noSt pb = true) (ha : PE X pa (tE T false .v a)) (hb : PE X pb (tE T false .v b)) :
    PI X tg (.Call (.Name "range" p) [pa, pb] [] pos) (tI T (.rng2 a b)) := by
  refine PI.imp (pi_range2 (gl_of hx) (g.blt _ (by decide)) (pa_cons ha (pa_cons hb pa_nil (star_cons hn')) (star_cons hn)) (by rw [star_cons hn, star_cons hn']; rfl) (by rw [star_cons hn']; rfl)) fun σ H Q q => ?_
  obtain ⟨G, env, F, st, s, r, q⟩ := q
  refine tE_go s r (RO_bind q) fun d st1 x H1 F1 k a1 s1 r1 v1 => tE_go s1 r1 (RO_bind k) fun d2 st2 y H2 F2 k2 a2 s2 r2 v2 => ?_
  cases d <;> cases d2 <;> first | exact k2.elim | skip
  rename_i i j
  cases v1
  cases v2
  obtain ⟨hm, k⟩ := ite_bad k2
  obtain ⟨ds, e, k⟩ := k
  cases e
  rw [Bool.and_eq_true] at hm
  obtain ⟨m1, m2⟩ := mid_of hm.1
  obtain ⟨m3, m4⟩ := mid_of hm.2
  exact ⟨i, j, rfl, ⟨m1, m2, m3, m4⟩, k _ H2 F2 (a1.trans a2) s2 it_rng⟩
theorem pi_rng3E {a b c : E} {pa pb pc : Expr} {p pos : Pos} (g : Gc G T X) (hx : glB X.env.scope "range" = true) (hn : noSt pa = true) (hn' : noSt pb = true) (hn3 : noSt pc = true) (ha : PE X pa (tE T false .v a)) (hb : PE X pb (tE T false .v b)) (hc : PE X pc (tE T false .v c)) :
    PI X tg (.Call (.Name "range" p) [pa, pb, pc] [] pos) (tI T (.rng3 a b c)) := by
  refine PI.imp (pi_range3 (gl_of hx) (g.blt _ (by decide)) (pa_cons ha (pa_cons hb (pa_cons hc pa_nil (star_cons hn3)) (star_cons hn')) (star_cons hn)) (by first | (rw [star_cons hn, star_cons hn', star_cons hn3]; rfl) | rw [star_cons hn, star_cons hn', star_cons hn3]) (by first | (rw [star_cons hn', star_cons hn3]; rfl) | rw [star_cons hn', star_cons hn3])) fun σ H Q q => ?_
  obtain ⟨G, env, F, st, s, r, q⟩ := q
  refine tE_go s r (RO_bind q) fun d st1 x H1 F1 k a1 s1 r1 v1 => tE_go s1 r1 (RO_bind k) fun d2 st2 y H2 F2 k2 a2 s2 r2 v2 => tE_go s2 r2 (RO_bind k2) fun d3 st3 z H3 F3 k3 a3 s3 r3 v3 => ?_
  cases d <;> cases d2 <;> cases d3 <;> first | exact k3.elim | skip
  rename_i i j l
  cases v1
  cases v2
  cases v3
  obtain ⟨hm, k⟩ := ite_bad k3
  obtain ⟨ds, e, k⟩ := k
  cases e
  rw [Bool.and_eq_true, Bool.and_eq_true, decide_eq_true_eq] at hm
  obtain ⟨⟨hm1, hm2⟩, rfl⟩ := hm
  obtain ⟨m1, m2⟩ := mid_of hm1
  obtain ⟨m3, m4⟩ := mid_of hm2
  exact ⟨i, j, -1, _, rfl, RgC.neg m1 m2 m3 m4, k _ H3 F3 ((a1.trans a2).trans a3) s3 it_rng3⟩
theorem pi_zipE {a b : E} {pa pb : Expr} {p pos : Pos} (g : Gc G T X) (ht : isTup tg = true) (hx : glB X.env.scope "zip" = true) (hn : noSt pa = true) (hn' : noSt pb = true) (ha : PE X pa (tE T false .v a)) (hb : PE X pb (tE T false .v b)) :
    PI X tg (.Call (.Name "zip" p) [pa, pb] [] pos) (tI T (.zip a b)) := by
  cases tg <;> first | (cases ht; done) | skip
  refine PI.imp (pi_zipU (gl_of hx) (g.blt _ (by decide)) (pa_cons ha (pa_cons hb pa_nil (star_cons hn')) (star_cons hn)) (star_cons hn) (by rw [star_cons hn']; rfl)) fun σ H Q q => ?_
  obtain ⟨G, env, F, st, s, r, q⟩ := q
  refine tE_go s r (RO_bind q) fun d st1 x H1 F1 k a1 s1 r1 v1 => tE_go s1 r1 (RO_bind k) fun d2 st2 y H2 F2 k2 a2 s2 r2 v2 => ?_
  have v1 := Rp.mono (a2.keeps s1) v1
  cases d <;> cases d2 <;> first | exact k2.elim | skip
  · obtain ⟨ds, e, k⟩ := (show ∃ ds, D.lst _ = .lst ds ∧ _ from k2)
    cases e
    cases v1 with
    | tup e r1 => cases v2 with
      | tup e' r2 => exact ⟨false, false, _, _, _, _, rfl, .inl (.inl e), .inl (.inl e'), k _ H2 F2 (a1.trans a2) s2 (it_zipG (k1 := false) (k2 := false) (.inl (.inl e)) r1 (.inl (.inl e')) r2 (fun _ _ k => .inl (.inl (k.tup _ _ e))) (fun _ _ k => .inl (.inl (k.tup _ _ e'))))⟩
  · obtain ⟨ds, e, k⟩ := (show ∃ ds, D.lst _ = .lst ds ∧ _ from k2)
    cases e
    cases v1 with
    | tup e r1 => cases v2 with
      | lst e' r2 => exact ⟨false, true, _, _, _, _, rfl, .inl (.inl e), .inl (.inr ⟨_, e'⟩), k _ H2 F2 (a1.trans a2) s2 (it_zipG (k1 := false) (k2 := true) (.inl (.inl e)) r1 (.inl (.inr ⟨_, e'⟩)) r2 (fun _ _ k => .inl (.inl (k.tup _ _ e))) (fun _ _ k => .inl (.inr ⟨_, k.frz _ _ _ e'⟩)))⟩
  · obtain ⟨ds, e, k⟩ := (show ∃ ds, D.lst _ = .lst ds ∧ _ from k2)
    cases e
    cases v1 with
    | lst e r1 => cases v2 with
      | tup e' r2 => exact ⟨true, false, _, _, _, _, rfl, .inl (.inr ⟨_, e⟩), .inl (.inl e'), k _ H2 F2 (a1.trans a2) s2 (it_zipG (k1 := true) (k2 := false) (.inl (.inr ⟨_, e⟩)) r1 (.inl (.inl e')) r2 (fun _ _ k => .inl (.inr ⟨_, k.frz _ _ _ e⟩)) (fun _ _ k => .inl (.inl (k.tup _ _ e'))))⟩
  · obtain ⟨ds, e, k⟩ := (show ∃ ds, D.lst _ = .lst ds ∧ _ from k2)
    cases e
    cases v1 with
    | lst e r1 => cases v2 with
      | lst e' r2 => exact ⟨true, true, _, _, _, _, rfl, .inl (.inr ⟨_, e⟩), .inl (.inr ⟨_, e'⟩), k _ H2 F2 (a1.trans a2) s2 (it_zipG (k1 := true) (k2 := true) (.inl (.inr ⟨_, e⟩)) r1 (.inl (.inr ⟨_, e'⟩)) r2 (fun _ _ k => .inl (.inr ⟨_, k.frz _ _ _ e⟩)) (fun _ _ k => .inl (.inr ⟨_, k.frz _ _ _ e'⟩)))⟩
theorem pi_enumE {a : E} {pa : Expr} {p pos : Pos} (g : Gc G T X) (ht : isTup tg = true) (hx : glB X.env.scope "enumerate" = true) (hn : noSt pa = true) (ha : PE X pa (tE T false .v a)) :
    PI X tg (.Call (.Name "enumerate" p) [pa] [] pos) (tI T (.enum a)) := by
  cases tg <;> first | (cases ht; done) | skip
  refine ⟨fun pins sh σ H R I q => ?_⟩
  obtain ⟨G, env, F, st, s, r, q⟩ := q
  have q := RO_bind q
  have kinds : RO (evE T a .v env st) (fun d _ => ∃ l, d = .lst l) ∨ RO (evE T a .v env st) (fun d _ => ∃ l, d = .tup l) := by
    revert q
    cases evE T a .v env st with
    | ok d st1 =>
      intro q
      cases d <;> first | exact q.elim | exact .inl ⟨_, rfl⟩ | exact .inr ⟨_, rfl⟩
    | exc => exact fun q => q.elim
    | bad => exact fun q => q.elim
  rcases kinds with hk | hk
  · refine (pi_enum (gl_of hx) (g.blt _ (by decide)) (pa_cons ha pa_nil (star_cons hn)) (by rw [star_cons hn]; rfl)).run pins sh σ H R I ?_
    refine tE_go s r (RO_too q hk) fun d st1 x H1 F1 k a1 s1 r1 v1 => ?_
    obtain ⟨k, l, rfl⟩ := k
    obtain ⟨ds, e, k⟩ := (show ∃ ds, D.lst _ = .lst ds ∧ _ from k)
    cases e
    cases v1 with
    | lst e r1 => exact ⟨_, _, rfl, .inl (.inr ⟨_, e⟩), k _ H1 F1 a1 s1 (it_enum e r1)⟩
  · refine (pi_enT (gl_of hx) (g.blt _ (by decide)) (pa_cons ha pa_nil (star_cons hn)) (by rw [star_cons hn]; rfl)).run pins sh σ H R I ?_
    refine tE_go s r (RO_too q hk) fun d st1 x H1 F1 k a1 s1 r1 v1 => ?_
    obtain ⟨k, l, rfl⟩ := k
    obtain ⟨ds, e, k⟩ := (show ∃ ds, D.lst _ = .lst ds ∧ _ from k)
    cases e
    cases v1 with
    | tup e r1 => exact ⟨_, _, rfl, .inl (.inl e), k _ H1 F1 a1 s1 (it_enT e r1)⟩
theorem pi_valsE {a : E} {pa : Expr} {ap cp : Pos} (hb : baseB pa = true) (hl : (ap.endLine == cp.line) = true) (ha : PE X pa (tE T false .v a)) : PI X tg (.Call (.Attribute pa "values" ap) [] [] cp) (tI T (.dvals a)) := by
  refine ⟨fun pins sh σ H R I q => ?_⟩
  obtain ⟨G0, env, F, st, s, r, q⟩ := q
  obtain ⟨d, st1, ev, k⟩ := RO_ex' (RO_bind q)
  have he1 : RO (evE T a .v env st) fun d' st1' => d' = d ∧ st1' = st1 := by rw [ev]; exact ⟨rfl, rfl⟩
  cases d <;> first | exact k.elim | skip
  rename_i t ks vs
  obtain ⟨ds, e0, kk⟩ := (show ∃ ds, D.lst vs = .lst ds ∧ _ from k)
  cases e0
  cases t with
  | false =>
    refine (pi_values ha (base_of hb) hl).run pins sh σ H R I (tE_go s r he1 fun d' st1' x H1 F1 k1 a1 s1 r1 v1 => ?_)
    obtain ⟨rfl, rfl⟩ := k1
    cases v1 with
    | dK e r2 => exact ⟨_, _, _, rfl, e, kk _ H1 F1 a1 s1 (it_valsK e r2)⟩
  | true =>
    refine (pi_valuesT ha (base_of hb) hl).run pins sh σ H R I (tE_go s r he1 fun d' st1' x H1 F1 k1 a1 s1 r1 v1 => ?_)
    obtain ⟨rfl, rfl⟩ := k1
    cases v1 with
    | dT e r2 => exact ⟨_, _, _, rfl, e, kk _ H1 F1 a1 s1 (it_valsT e r2)⟩
theorem pi_itemsE {a : E} {pa : Expr} {ap cp : Pos} (ht : isTup tg = true) (hb : baseB pa = true) (hl : (ap.endLine == cp.line) = true) (ha : PE X pa (tE T false .v a)) : PI X tg (.Call (.Attribute pa "items" ap) [] [] cp) (tI T (.ditems a)) := by
  cases tg <;> first | (cases ht; done) | skip
  refine ⟨fun pins sh σ H R I q => ?_⟩
  obtain ⟨G0, env, F, st, s, r, q⟩ := q
  obtain ⟨d, st1, ev, k⟩ := RO_ex' (RO_bind q)
  have he1 : RO (evE T a .v env st) fun d' st1' => d' = d ∧ st1' = st1 := by rw [ev]; exact ⟨rfl, rfl⟩
  cases d <;> first | exact k.elim | skip
  rename_i t ks vs
  obtain ⟨ds, e0, kk⟩ := (show ∃ ds, D.lst (pairs ks vs) = .lst ds ∧ _ from k)
  cases e0
  cases t with
  | false =>
    refine (pi_items ha (base_of hb) hl).run pins sh σ H R I (tE_go s r he1 fun d' st1' x H1 F1 k1 a1 s1 r1 v1 => ?_)
    obtain ⟨rfl, rfl⟩ := k1
    cases v1 with
    | dK e r2 => exact ⟨_, _, _, rfl, e, kk _ H1 F1 a1 s1 (it_itemsK e r2)⟩
  | true =>
    refine (pi_itemsT ha (base_of hb) hl).run pins sh σ H R I (tE_go s r he1 fun d' st1' x H1 F1 k1 a1 s1 r1 v1 => ?_)
    obtain ⟨rfl, rfl⟩ := k1
    cases v1 with
    | dT e r2 => exact ⟨_, _, _, rfl, e, kk _ H1 F1 a1 s1 (it_itemsT e r2)⟩
theorem pi_E {f : E → Expr → Bool} {it : E} {p : Expr} (g : Gc G T X) (hf : ∀ e q, f e q = true → PE X q (tE T false .v e)) (h : chkI f X.env.scope tg it p = true) : PI X tg p (tI T it) := by
  unfold chkI at h
  split at h
  · simp only [Bool.and_eq_true, decide_eq_true_eq] at h
    obtain ⟨⟨⟨rfl, h1⟩, h2⟩, h3⟩ := h
    exact pi_rng1E g h1 h2 (hf _ _ h3)
  · simp only [Bool.and_eq_true, decide_eq_true_eq] at h
    obtain ⟨⟨⟨⟨⟨rfl, h1⟩, h2⟩, h3⟩, h4⟩, h5⟩ := h
    exact pi_rng2E g h1 h2 h3 (hf _ _ h4) (hf _ _ h5)
  · simp only [Bool.and_eq_true, decide_eq_true_eq] at h
    obtain ⟨⟨⟨⟨⟨⟨⟨rfl, h1⟩, h2⟩, h3⟩, h4⟩, h5⟩, h6⟩, h7⟩ := h
    exact pi_rng3E g h1 h2 h3 h4 (hf _ _ h5) (hf _ _ h6) (hf _ _ h7)
  · simp only [Bool.and_eq_true, decide_eq_true_eq] at h
    obtain ⟨⟨⟨⟨⟨⟨rfl, h1⟩, h0⟩, h2⟩, h3⟩, h4⟩, h5⟩ := h
    exact pi_zipE g h0 h1 h2 h3 (hf _ _ h4) (hf _ _ h5)
  · simp only [Bool.and_eq_true, decide_eq_true_eq] at h
    obtain ⟨⟨⟨⟨rfl, h1⟩, h0⟩, h2⟩, h3⟩ := h
    exact pi_enumE g h0 h1 h2 (hf _ _ h3)
  · simp only [Bool.and_eq_true, decide_eq_true_eq] at h
    obtain ⟨⟨⟨rfl, h1⟩, h2⟩, h3⟩ := h
    exact pi_valsE h1 h2 (hf _ _ h3)
  · simp only [Bool.and_eq_true, decide_eq_true_eq] at h
    obtain ⟨⟨⟨⟨rfl, h0⟩, h1⟩, h2⟩, h3⟩ := h
    exact pi_itemsE h0 h1 h2 (hf _ _ h3)
  · rw [Bool.and_eq_true] at h
    exact pi_core h.1 (hf _ _ h.2)
end
end LB
/-! PS: evaluation by simp. -/
namespace LB
theorem rb {α β : Type} (a : α) (st : Store) (f : α → Store → Res β) : (Res.ok a st).bind f = f a st := rfl
theorem ro {α : Type} (a : α) (st : Store) (env : Env) (f : α → Store → Out) : (Res.ok a st).toOut env f = f a st := rfl
theorem rs {α : Type} (a : α) (st : Store) : Res.opt (some a) st = .ok a st := rfl
theorem bd {α β : Type} (r : Res α) (f : α → Store → Res β) : r.bind f = (match r with | .ok a st => f a st | .exc c a st => .exc c a st | .bad => .bad) := rfl
theorem od {α : Type} (r : Res α) (env : Env) (f : α → Store → Out) : r.toOut env f = (match r with | .ok a st => f a st | _ => .bad) := by cases r <;> rfl
theorem post_v (d : D) (st : Store) : post .v d st = .ok d st := rfl
theorem post_p (d : D) (st : Store) : post .p d st = .ok d st := rfl
theorem post_t (d : D) (st : Store) : post .t d st = Res.opt ((truth d).map .bl) st := rfl
theorem post_i (d : D) (st : Store) : post .i d st = Res.opt ((itemsI d).map .lst) st := rfl
theorem call_s (F : Nat → Option Fn) (k n : Nat) (ds : List D) (st : Store) : call F (k + 1) n ds st = (match F n with | some f => if ds.length == f.ps then (exs (call F k) f.body (enter f ds) st).fin else .bad | none => .bad) := rfl
theorem enter_s (p n : Nat) (b : List S) (ds : List D) : enter ⟨p, n, b⟩ ds = ds.map .v ++ List.replicate (n - ds.length) .u := rfl
theorem fin_rt (d : D) (st : Store) : (Out.rt d st).fin = .ok d st := rfl
theorem fin_nx (e : Env) (st : Store) : (Out.nx e st).fin = .ok .non st := rfl
theorem cm_lt (i j : Int) : cm2 .lt (.int i) (.int j) = some (decide (i < j)) := rfl
theorem cm_le (i j : Int) : cm2 .le (.int i) (.int j) = some (decide (i ≤ j)) := rfl
theorem cm_gt (i j : Int) : cm2 .gt (.int i) (.int j) = some (decide (j < i)) := rfl
theorem cm_ge (i j : Int) : cm2 .ge (.int i) (.int j) = some (decide (j ≤ i)) := rfl
theorem cm_eqI (i j : Int) : cm2 .eq (.int i) (.int j) = some (decide (i = j)) := rfl
theorem cm_neI (i j : Int) : cm2 .ne (.int i) (.int j) = some (!decide (i = j)) := rfl
theorem cm_eqS (i j : PySem.Str) : cm2 .eq (.str i) (.str j) = some (decide (i = j)) := rfl
theorem cm_neS (i j : PySem.Str) : cm2 .ne (.str i) (.str j) = some (!decide (i = j)) := rfl
theorem cm_isN (a b : D) : cm2 .isN a b = some (isNon a) := rfl
theorem cm_notN (a b : D) : cm2 .notN a b = some (!isNon a) := rfl
theorem op_addI (i j : Int) : op2 .add (.int i) (.int j) = some (.int (i + j)) := rfl
theorem op_subI (i j : Int) : op2 .sub (.int i) (.int j) = some (.int (i - j)) := rfl
theorem op_mulI (i j : Int) : op2 .mul (.int i) (.int j) = if small i || small j then some (.int (i * j)) else none := rfl
theorem op_modI (i j : Int) : op2 .mod (.int i) (.int j) = if decide (0 < j) then some (.int (i % j)) else none := rfl
theorem op_fdivI (i j : Int) : op2 .fdiv (.int i) (.int j) = if decide (0 < j) && decide (j < 1073741824) then some (.int (i / j)) else none := rfl
theorem op_addL (x y : List D) : op2 .add (.lst x) (.lst y) = if lenOk (x.length + y.length) then some (.lst (x ++ y)) else none := rfl
theorem op_addT (x y : List D) : op2 .add (.tup x) (.tup y) = if lenOk (x.length + y.length) then some (.tup (x ++ y)) else none := rfl
theorem op_mulL (x : List D) (k : Int) : op2 .mul (.lst x) (.int k) = if decide (0 ≤ k) && decide (k ≤ 1000) && Nat.ble x.length 1000 then some (.lst (List.replicate k.toNat x).flatten) else none := rfl
theorem op_mulT (x : List D) (k : Int) : op2 .mul (.tup x) (.int k) = if decide (0 ≤ k) && decide (k ≤ 1000) && Nat.ble x.length 1000 then some (.tup (List.replicate k.toNat x).flatten) else none := rfl
theorem tr_bl (b : Bool) : truth (.bl b) = some b := rfl
theorem ix_tup (st : Store) (l : List D) (i : Int) : idx st (.tup l) (.int i) = at_ l i := rfl
theorem ix_lst (st : Store) (l : List D) (i : Int) : idx st (.lst l) (.int i) = at_ l i := rfl
theorem ix_ref (st : Store) (n : Nat) (i : Int) : idx st (.ref n) (.int i) = st[n]?.bind fun l => at_ l i := rfl
theorem bv1 (st : Store) (b : Bi) (l : List D) : biV st b [.tup l] = bi1 b (.tup l) := by cases b <;> rfl
theorem bv2 (st : Store) (b : Bi) (l : List D) : biV st b [.lst l] = bi1 b (.lst l) := by cases b <;> rfl
theorem bv3 (st : Store) (b : Bi) (i : Int) : biV st b [.int i] = bi1 b (.int i) := by cases b <;> rfl
theorem bv4 (st : Store) (b : Bi) (i : Bool) : biV st b [.bl i] = bi1 b (.bl i) := by cases b <;> rfl
theorem bvR (st : Store) (a : D) : biV st .repr [a] = reprD a := by cases a <;> rfl
theorem bvr (st : Store) (n : Nat) : biV st .len [.ref n] = st[n]?.map fun l => .int l.length := rfl
theorem bvM (st : Store) (i j : Int) : biV st .max2 [.int i, .int j] = some (.int (if j > i then j else i)) := rfl
theorem bvm (st : Store) (i j : Int) : biV st .min2 [.int i, .int j] = some (.int (if j < i then j else i)) := rfl
theorem sl_t (l : List D) (lo hi : D) : slice (.tup l) lo hi = (cut l lo hi).map .tup := rfl
theorem sl_l (l : List D) (lo hi : D) : slice (.lst l) lo hi = (cut l lo hi).map .lst := rfl
def cutAt (n : Nat) (v : Int) : Nat := if v < 0 then (v + (n : Int)).toNat else min v.toNat n
theorem cut_to (l : List D) (v : Int) : cut l .non (.int v) = some (l.take (cutAt l.length v)) := rfl
theorem cut_from (l : List D) (v : Int) : cut l (.int v) .non = some (l.drop (cutAt l.length v)) := by
  show some ((l.drop (cutAt l.length v)).take (l.length - cutAt l.length v)) = _
  rw [List.take_of_length_le (by rw [List.length_drop]; exact Nat.le_refl _)]
theorem okS_i (e : E) (v : Int) (h : e ≠ .nil) : okS e (.int v) = true := by
  cases e <;> first | rfl | exact absurd rfl h
theorem okS_n : okS .nil .non = true := rfl
theorem lenOk_iff (n : Nat) : (lenOk n = true) = (n ≤ 1000000) := by
  unfold lenOk
  rw [Nat.ble_eq]
theorem all_t {α : Type} (l : List α) : (l.all fun _ => true) = true := by
  induction l with
  | nil => rfl
  | cons a l ih => simp
theorem all_id {α : Type} (l : List α) : ((l.map fun _ => true).all id) = true := by
  induction l with
  | nil => rfl
  | cons a l ih => simp
theorem eqv_t0 (x : List D) : eqv (.tup x) (.tup []) = x.isEmpty := by
  cases x <;> rfl
theorem cm_eqT0 (x : List D) (h : plains 59 x = true) : cm2 .eq (.tup x) (.tup []) = some x.isEmpty := by
  show (if plain 60 (.tup x) && plain 60 (.tup []) then some (eqv (.tup x) (.tup [])) else none) = _
  rw [eqv_t0, show plain 60 (.tup x) = plains 59 x from rfl, h]
  rfl
theorem plains_map {α : Type} {n : Nat} {f : α → D} (h : ∀ a, plain n (f a) = true) : ∀ l : List α, plains n (l.map f) = true
  | [] => by cases n <;> rfl
  | a :: l => by
    have e : plains n (f a :: l.map f) = (plain n (f a) && plains n (l.map f)) := by cases n <;> rfl
    rw [List.map_cons, e, h a, plains_map h l]
    rfl
theorem op_powI (i j : Int) : op2 .pow (.int i) (.int j) = if decide (0 ≤ j) && decide (j ≤ 1000) && small i then some (.int (i ^ j.toNat)) else none := rfl
theorem loop_inv {f : D → Env → Store → Out} {I : Nat → Env → Store → Prop} : ∀ {ds : List D} {n : Nat} {env : Env} {st : Store}, I n env st → (∀ i d env st, ds[i]? = some d → I (n + i) env st → ∃ env' st', f d env st = .nx env' st' ∧ I (n + i + 1) env' st') →
    ∃ env' st', loop f ds env st = .nx env' st' ∧ I (n + ds.length) env' st'
  | [], n, env, st, h, _ => ⟨env, st, rfl, h⟩
  | d :: ds, n, env, st, h, k => by
    obtain ⟨env1, st1, e1, h1⟩ := k 0 d env st rfl h
    obtain ⟨env2, st2, e2, h2⟩ := loop_inv (ds := ds) (n := n + 1) (I := I) h1 fun i x e s hx hi => by
      have := k (i + 1) x e s (by simpa using hx) (by rw [show n + (i + 1) = n + 1 + i by omega]; exact hi)
      rw [show n + (i + 1) + 1 = n + 1 + i + 1 by omega] at this
      exact this
    refine ⟨env2, st2, ?_, by rw [List.length_cons, show n + (ds.length + 1) = n + 1 + ds.length by omega]; exact h2⟩
    show (match f d env st with | .nx env1 st1 => loop f ds env1 st1 | r => r) = _
    rw [e1]
    exact e2
def forB (T : Tab) (tg : Tg) (b : List S) : D → Env → Store → Out := fun d env st => match setTg env tg d with
  | some env' => exs T b env' st
  | none => .bad
theorem ex_for {T : Tab} {tg : Tg} {it : E} {b : List S} {env : Env} {st st1 : Store} {ds : List D} (h : evE T it .i env st = .ok (.lst ds) st1) : ex T (.for_ tg it b) env st = loop (forB T tg b) ds env st1 := by
  simp only [ex, h, ro]
  rfl
theorem seq_l (l : List D) : seqB (.lst l) = true := rfl
theorem st_ret {T : Tab} {e : E} {env : Env} {st : Store} : ex T (.ret e) env st = (evE T e .v env st).toOut env fun d st1 => .rt d st1 := rfl
end LB
namespace KK
open LB
/-- is_integer -/
def b0 : List S := [
  .ret (.and [(.bi (.isi .int) [(.var 0)]), (.no (.bi (.isi .bool) [(.var 0)]))])]
def f0 : Fn := ⟨1, 1, b0⟩
/-- is_between -/
def b1 : List S := [
  .ret (.and [(.call 0 [(.var 0)]), (.chn .le .le (.var 1) (.var 0) (.var 2))])]
def f1 : Fn := ⟨3, 3, b1⟩
/-- is_level -/
def b2 : List S := [
  .ret (.call 1 [(.var 0), (.con "LOWEST" (.int (-20))), (.con "HIGHEST" (.int 20))])]
def f2 : Fn := ⟨1, 1, b2⟩
/-- is_latch -/
def b3 : List S := [
  .ite (.or [(.no (.bi (.isi .tuple) [(.var 0)])), (.cmp .ne (.bi .len [(.var 0)]) (.lit (.int 3))), (.no (.call 2 [(.idx (.var 0) (.lit (.int 0)))])), (.no (.call 2 [(.idx (.var 0) (.lit (.int 1)))]))]) [.ret (.lit (.bl false))] [],
  .ret (.and [(.cmp .lt (.idx (.var 0) (.lit (.int 0))) (.idx (.var 0) (.lit (.int 1)))), (.call 1 [(.idx (.var 0) (.lit (.int 2))), (.neg (.con "GREATEST" (.int 99))), (.con "GREATEST" (.int 99))]), (.cmp .ne (.idx (.var 0) (.lit (.int 2))) (.lit (.int 0)))])]
def f3 : Fn := ⟨1, 1, b3⟩
/-- is_bank -/
def c4_0 : E := .comp (.call 3 [(.var 1)]) (.nm 1) (.var 0) [] [("one", 1)]
def c4_1 : E := .comp (.cmp .lt (.sl (.var 1) .nil (.lit (.int 2))) (.sl (.var 2) .nil (.lit (.int 2)))) (.tp [(.nm 1), (.nm 2)]) (.zip (.var 0) (.sl (.var 0) (.lit (.int 1)) .nil)) [] [("one", 1), ("other", 2)]
def b4 : List S := [
  .ite (.or [(.no (.bi (.isi .tuple) [(.var 0)])), (.cmp .gt (.bi .len [(.var 0)]) (.con "MOST_LATCHES" (.int 30))), (.no (.bi .all [c4_0]))]) [.ret (.lit (.bl false))] [],
  .ret (.bi .all [c4_1])]
def f4 : Fn := ⟨1, 3, b4⟩
/-- cell -/
def b5 : List S := [
  .ret (.ite (.cmp .lt (.var 1) (.bi .len [(.var 0)])) (.idx (.var 0) (.var 1)) (.lit (.int 0)))]
def f5 : Fn := ⟨2, 2, b5⟩
/-- pen -/
def b6 : List S := [
  .ret (.alloc (.lst [(.bi .max2 [(.lit (.int 0)), (.op .sub (.var 0) (.op .pow (.lit (.int 10)) (.lit (.int 18))))]), (.op .add (.op .mod (.var 0) (.lit (.int 2147483629))) (.lit (.int 1))), (.lit (.int 0))]))]
def f6 : Fn := ⟨1, 1, b6⟩
/-- draw -/
def b7 : List S := [
  .ite (.cmp .gt (.idx (.var 0) (.lit (.int 0))) (.lit (.int 0))) [.set 2 (.op .mod (.idx (.var 0) (.lit (.int 0))) (.var 1)), .cst 0 (.lit (.int 0)) (.op .fdiv (.idx (.var 0) (.lit (.int 0))) (.var 1)), .ret (.var 2)] [],
  .cst 0 (.lit (.int 2)) (.op .add (.idx (.var 0) (.lit (.int 2))) (.lit (.int 1))),
  .cst 0 (.lit (.int 1)) (.op .mod (.op .add (.op .add (.op .mul (.idx (.var 0) (.lit (.int 1))) (.lit (.int 48271))) (.op .mul (.lit (.int 1009)) (.idx (.var 0) (.lit (.int 2))))) (.lit (.int 7))) (.lit (.int 2147483647))),
  .set 3 (.op .mod (.op .add (.op .add (.op .mul (.idx (.var 0) (.lit (.int 1))) (.idx (.var 0) (.lit (.int 1)))) (.op .mul (.lit (.int 69621)) (.idx (.var 0) (.lit (.int 1))))) (.lit (.int 11))) (.lit (.int 2147483629))),
  .set 3 (.op .mod (.op .add (.op .mul (.var 3) (.var 3)) (.op .mul (.lit (.int 40014)) (.var 3))) (.lit (.int 2147483587))),
  .ret (.op .mod (.op .fdiv (.var 3) (.lit (.int 16))) (.var 1))]
def f7 : Fn := ⟨2, 4, b7⟩
/-- pick -/
def b8 : List S := [
  .ret (.idx (.var 1) (.call 7 [(.var 0), (.bi .len [(.var 1)])]))]
def f8 : Fn := ⟨2, 2, b8⟩
/-- same -/
def b9 : List S := [
  .ret (.cmp .eq (.bi .repr [(.var 0)]) (.bi .repr [(.var 1)]))]
def f9 : Fn := ⟨2, 2, b9⟩
/-- whole -/
def b10 : List S := [
  .ret (.and [(.bi (.isi .int) [(.var 0)]), (.no (.bi (.isi .bool) [(.var 0)])), (.chn .le .le (.var 1) (.var 0) (.var 2))])]
def f10 : Fn := ⟨3, 3, b10⟩
/-- is_hook -/
def b11 : List S := [
  .ite (.or [(.no (.bi (.isi .tuple) [(.var 0)])), (.cmp .ne (.bi .len [(.var 0)]) (.lit (.int 3)))]) [.ret (.lit (.bl false))] [],
  .ite (.or [(.no (.call 10 [(.idx (.var 0) (.lit (.int 0))), (.neg (.lit (.int 20))), (.lit (.int 20))])), (.no (.call 10 [(.idx (.var 0) (.lit (.int 1))), (.neg (.lit (.int 20))), (.lit (.int 20))]))]) [.ret (.lit (.bl false))] [],
  .ret (.and [(.cmp .lt (.idx (.var 0) (.lit (.int 0))) (.idx (.var 0) (.lit (.int 1)))), (.call 10 [(.idx (.var 0) (.lit (.int 2))), (.neg (.lit (.int 99))), (.lit (.int 99))]), (.cmp .ne (.idx (.var 0) (.lit (.int 2))) (.lit (.int 0)))])]
def f11 : Fn := ⟨1, 1, b11⟩
/-- is_rack -/
def c12_0 : E := .comp (.lit (.int 1)) (.nm 1) (.var 0) [(.no (.call 11 [(.var 1)]))] [("_law_hook", 1)]
def c12_1 : E := .comp (.sl (.var 1) .nil (.lit (.int 2))) (.nm 1) (.var 0) [] [("_law_hook", 1)]
def b12 : List S := [
  .ite (.or [(.no (.bi (.isi .tuple) [(.var 0)])), (.cmp .gt (.bi .len [(.var 0)]) (.lit (.int 30))), (.cmp .ne c12_0 (.lst []))]) [.ret (.lit (.bl false))] [],
  .set 2 c12_1,
  .ret (.cmp .eq (.var 2) (.bi .srtset [(.var 2)]))]
def f12 : Fn := ⟨1, 3, b12⟩
/-- rack -/
def l13_0 : List S := [
  .set 5 (.op .sub (.call 7 [(.var 0), (.op .mul (.lit (.int 2)) (.var 2))]) (.var 2)),
  .app 3 (.tup [(.var 5), (.op .add (.op .add (.var 5) (.lit (.int 1))) (.call 7 [(.var 0), (.op .sub (.var 2) (.var 5))]))])]
def s13_0 : S := .for_ (.nm 4) (.rng1 (.call 7 [(.var 0), (.op .add (.var 1) (.lit (.int 1)))])) l13_0
def l13_2 : List S := [
  .set 8 (.op .add (.lit (.int 1)) (.call 7 [(.var 0), (.call 8 [(.var 0), (.lst [(.lit (.int 3)), (.lit (.int 9)), (.lit (.int 99))])])])),
  .app 6 (.tup [(.var 5), (.var 7), (.call 8 [(.var 0), (.lst [(.var 8), (.var 8), (.neg (.var 8))])])])]
def s13_2 : S := .for_ (.tp [(.nm 5), (.nm 7)]) (.bi .srtset [(.var 3)]) l13_2
def b13 : List S := [
  .own 3 (.lst []),
  s13_0,
  .own 6 (.lst []),
  s13_2,
  .ret (.bi .tup [(.var 6)])]
def f13 : Fn := ⟨3, 9, b13⟩
/-- right01 -/
def l15_0 : List S := [
  .ite (.or [(.no (.call 9 [(.lst [(.call 3 [(.var 0)]), (.call 4 [(.var 0)])]), (.var 2)])), (.cmp .ne (.bi .repr [(.var 0)]) (.var 1))]) [.ret (.lit (.bl false))] []]
def s15_0 : S := .for_ (.nm 3) (.rng1 (.lit (.int 2))) l15_0
def b15 : List S := [
  .par [(1, false), (2, false)] [(.bi .repr [(.var 0)]), (.lst [(.call 11 [(.var 0)]), (.call 12 [(.var 0)])])],
  s15_0,
  .ret (.lit (.bl true))]
def f15 : Fn := ⟨1, 4, b15⟩
/-- great -/
def c16_0 : E := .comp (.tup [(.var 1), (.lit (.int 20)), (.lit (.int 1))]) (.nm 1) (.rng2 (.neg (.lit (.int 20))) (.op .add (.neg (.lit (.int 20))) (.var 2))) [] [("_law_lo", 1)]
def c16_1 : E := .comp (.bi .tup [c16_0]) (.nm 2) (.tup [(.lit (.int 29)), (.lit (.int 30)), (.lit (.int 31))]) [] [("_law_upto", 2)]
def b16 : List S := [
  .set 0 c16_1,
  .set 0 (.op .add (.var 0) (.lst [(.tup [(.tup [(.lit (.int 0)), (.lit (.int 1)), (.lit (.int 1))]), (.tup [(.lit (.int 0)), (.lit (.int 1)), (.neg (.lit (.int 1)))])]), (.tup [(.tup [(.lit (.int 0)), (.lit (.int 1)), (.lit (.int 1))]), (.tup [(.lit (.int 1)), (.lit (.int 2)), (.lit (.int 1))])]), (.tup [(.tup [(.neg (.lit (.int 20))), (.neg (.lit (.int 19))), (.neg (.lit (.int 99)))]), (.tup [(.lit (.int 19)), (.lit (.int 20)), (.lit (.int 99))])])])),
  .ret (.op .add (.var 0) (.lst [(.tup [(.tup [(.lit (.int 19)), (.lit (.int 21)), (.lit (.int 1))])])]))]
def f16 : Fn := ⟨0, 3, b16⟩
/-- need_bank -/
def b17 : List S := [
  .ite (.no (.call 4 [(.var 0)])) [.raise 0 []] []]
def f17 : Fn := ⟨1, 1, b17⟩
/-- total -/
def c18_0 : E := .comp (.var 3) (.tp [(.nm 1), (.nm 2), (.nm 3)]) (.var 0) [] [("down", 1), ("up", 2), ("weight", 3)]
def b18 : List S := [
  .ex (.call 17 [(.var 0)]),
  .ret (.bi .sum [c18_0])]
def f18 : Fn := ⟨1, 4, b18⟩
/-- ends -/
def c19_0 : E := .comp (.var 1) (.tp [(.nm 1), (.nm 2), (.nm 3)]) (.var 0) [] [("down", 1), ("up", 2), ("weight", 3)]
def c19_1 : E := .comp (.var 2) (.tp [(.nm 1), (.nm 2), (.nm 3)]) (.var 0) [] [("down", 1), ("up", 2), ("weight", 3)]
def b19 : List S := [
  .ex (.call 17 [(.var 0)]),
  .ite (.cmp .eq (.var 0) (.tup [])) [.ret (.lit (.non))] [],
  .ret (.tup [(.bi .min1 [c19_0]), (.bi .max1 [c19_1])])]
def f19 : Fn := ⟨1, 4, b19⟩
/-- rest_of -/
def b20 : List S := [
  .ret (.op .mul (.tup [(.lit (.int 0))]) (.bi .len [(.var 0)]))]
def f20 : Fn := ⟨1, 1, b20⟩
/-- rest -/
def b21 : List S := [
  .ex (.call 17 [(.var 0)]),
  .ret (.call 20 [(.var 0)])]
def f21 : Fn := ⟨1, 1, b21⟩
/-- is_state_of -/
def c25_0 : E := .comp (.call 1 [(.var 2), (.lit (.int 0)), (.lit (.int 1))]) (.nm 2) (.var 1) [] [("one", 2)]
def b25 : List S := [
  .ret (.and [(.bi (.isi .tuple) [(.var 1)]), (.cmp .eq (.bi .len [(.var 1)]) (.bi .len [(.var 0)])), (.bi .all [c25_0])])]
def f25 : Fn := ⟨2, 3, b25⟩
/-- need_state -/
def b26 : List S := [
  .ite (.no (.call 25 [(.var 0), (.var 1)])) [.raise 0 []] []]
def f26 : Fn := ⟨2, 2, b26⟩
/-- is_state -/
def b27 : List S := [
  .ex (.call 17 [(.var 0)]),
  .ret (.call 25 [(.var 0), (.var 1)])]
def f27 : Fn := ⟨2, 2, b27⟩
/-- output_of -/
def c28_0 : E := .comp (.op .mul (.idx (.var 2) (.lit (.int 2))) (.var 3)) (.tp [(.nm 2), (.nm 3)]) (.zip (.var 0) (.var 1)) [] [("latch", 2), ("number", 3)]
def b28 : List S := [
  .ret (.bi .sum [c28_0])]
def f28 : Fn := ⟨2, 4, b28⟩
/-- output -/
def b29 : List S := [
  .ex (.call 17 [(.var 0)]),
  .ex (.call 26 [(.var 0), (.var 1)]),
  .ret (.call 28 [(.var 0), (.var 1)])]
def f29 : Fn := ⟨2, 2, b29⟩
/-- spot -/
def c30_0 : E := .comp (.call 7 [(.var 0), (.lit (.int 2))]) (.nm 2) (.var 1) [] [("_law_hook", 2)]
def b30 : List S := [
  .ret (.bi .tup [c30_0])]
def f30 : Fn := ⟨2, 3, b30⟩
/-- sum -/
def c31_0 : E := .comp (.idx (.var 2) (.lit (.int 2))) (.tp [(.nm 2), (.nm 3)]) (.zip (.var 0) (.var 1)) [(.cmp .eq (.var 3) (.lit (.int 1)))] [("_law_hook", 2), ("_law_bit", 3)]
def b31 : List S := [
  .ret (.bi .sum [c31_0])]
def f31 : Fn := ⟨2, 4, b31⟩
/-- need_level -/
def b37 : List S := [
  .ite (.no (.call 2 [(.var 0)])) [.raise 0 []] []]
def f37 : Fn := ⟨1, 1, b37⟩
/-- latched -/
def b38 : List S := [
  .unp (.tp [(.nm 3), (.nm 4), (.nm 5)]) (.var 0),
  .ite (.cmp .ge (.var 2) (.var 4)) [.ret (.lit (.int 1))] [],
  .ret (.ite (.cmp .le (.var 2) (.var 3)) (.lit (.int 0)) (.var 1))]
def f38 : Fn := ⟨3, 6, b38⟩
/-- put -/
def c39_0 : E := .comp (.call 38 [(.var 3), (.var 4), (.var 2)]) (.tp [(.nm 3), (.nm 4)]) (.zip (.var 0) (.var 1)) [] [("latch", 3), ("number", 4)]
def b39 : List S := [
  .ret (.bi .tup [c39_0])]
def f39 : Fn := ⟨3, 5, b39⟩
/-- after -/
def b40 : List S := [
  .ex (.call 17 [(.var 0)]),
  .ex (.call 26 [(.var 0), (.var 1)]),
  .ex (.call 37 [(.var 2)]),
  .ret (.call 39 [(.var 0), (.var 1), (.var 2)])]
def f40 : Fn := ⟨3, 3, b40⟩
/-- put2 -/
def l41_0 : List S := [
  .ite (.cmp .le (.idx (.var 5) (.lit (.int 1))) (.var 2)) [.cst 3 (.var 4) (.lit (.int 1))] [],
  .ite (.cmp .ge (.idx (.var 5) (.lit (.int 0))) (.var 2)) [.cst 3 (.var 4) (.lit (.int 0))] []]
def s41_0 : S := .for_ (.tp [(.nm 4), (.nm 5)]) (.enum (.var 0)) l41_0
def b41 : List S := [
  .own 3 (.bi .lst [(.var 1)]),
  s41_0,
  .ret (.bi .tup [(.var 3)])]
def f41 : Fn := ⟨3, 6, b41⟩
/-- need_row -/
def c44_0 : E := .comp (.call 2 [(.var 1)]) (.nm 1) (.var 0) [] [("level", 1)]
def b44 : List S := [
  .ite (.or [(.no (.bi (.isi .tuple) [(.var 0)])), (.cmp .gt (.bi .len [(.var 0)]) (.con "MOST_LEVELS" (.int 200))), (.no (.bi .all [c44_0]))]) [.raise 0 []] []]
def f44 : Fn := ⟨1, 2, b44⟩
/-- states_by -/
def l45_0 : List S := [
  .app 3 (.call 39 [(.var 0), (.idx (.var 3) (.neg (.lit (.int 1)))), (.var 4)])]
def s45_0 : S := .for_ (.nm 4) (.var 2) l45_0
def b45 : List S := [
  .own 3 (.lst [(.var 1)]),
  s45_0,
  .frz 3,
  .ret (.var 3)]
def f45 : Fn := ⟨3, 5, b45⟩
/-- behind -/
def b46 : List S := [
  .ex (.call 17 [(.var 0)]),
  .ex (.call 26 [(.var 0), (.var 1)]),
  .ex (.call 44 [(.var 2)]),
  .ret (.idx (.call 45 [(.var 0), (.var 1), (.var 2)]) (.neg (.lit (.int 1))))]
def f46 : Fn := ⟨3, 3, b46⟩
/-- follow -/
def c47_0 : E := .comp (.call 28 [(.var 0), (.var 3)]) (.nm 3) (.sl (.call 45 [(.var 0), (.var 1), (.var 2)]) (.lit (.int 1)) .nil) [] [("one", 3)]
def b47 : List S := [
  .ex (.call 17 [(.var 0)]),
  .ex (.call 26 [(.var 0), (.var 1)]),
  .ex (.call 44 [(.var 2)]),
  .ret (.bi .tup [c47_0])]
def f47 : Fn := ⟨3, 4, b47⟩
/-- line -/
def l48_0 : List S := [
  .set 5 (.op .sub (.call 7 [(.var 0), (.op .add (.op .mul (.lit (.int 2)) (.var 2)) (.lit (.int 1)))]) (.var 2)),
  .app 3 (.call 8 [(.var 0), (.op .add (.op .mul (.lst [(.var 5)]) (.lit (.int 9))) (.lst [(.neg (.lit (.int 20))), (.lit (.int 20)), (.op .sub (.call 7 [(.var 0), (.lit (.int 41))]) (.lit (.int 20)))]))])]
def s48_0 : S := .for_ (.nm 4) (.rng1 (.call 7 [(.var 0), (.op .add (.var 1) (.lit (.int 1)))])) l48_0
def b48 : List S := [
  .own 3 (.lst []),
  s48_0,
  .ret (.bi .tup [(.var 3)])]
def f48 : Fn := ⟨3, 6, b48⟩
/-- led -/
def l49_0 : List S := [
  .set 1 (.call 41 [(.var 0), (.var 1), (.var 3)])]
def s49_0 : S := .for_ (.nm 3) (.var 2) l49_0
def b49 : List S := [
  s49_0,
  .ret (.var 1)]
def f49 : Fn := ⟨3, 4, b49⟩
/-- outs -/
def l50_0 : List S := [
  .set 1 (.call 41 [(.var 0), (.var 1), (.var 4)]),
  .app 3 (.call 31 [(.var 0), (.var 1)])]
def s50_0 : S := .for_ (.nm 4) (.var 2) l50_0
def b50 : List S := [
  .own 3 (.lst []),
  s50_0,
  .ret (.bi .tup [(.var 3)])]
def f50 : Fn := ⟨3, 5, b50⟩
/-- cleared -/
def l58_0 : List S := [
  .set 5 (.ite (.cmp .eq (.op .mod (.var 3) (.lit (.int 2))) (.lit (.int 0))) (.cmp .gt (.var 4) (.var 1)) (.cmp .lt (.var 4) (.var 1))),
  .ite (.no (.var 5)) [.frz 2, .ret (.var 2)] [],
  .app 2 (.var 4)]
def s58_0 : S := .for_ (.tp [(.nm 3), (.nm 4)]) (.enum (.var 0)) l58_0
def b58 : List S := [
  .own 2 (.lst []),
  s58_0,
  .frz 2,
  .ret (.var 2)]
def f58 : Fn := ⟨2, 6, b58⟩
/-- turns_of -/
def l59_0 : List S := [
  .set 1 (.ite (.cmp .eq (.var 2) (.con "LOWEST" (.int (-20)))) (.tup []) (.tup [(.star (.call 58 [(.var 1), (.var 2)])), (.var 2)]))]
def s59_0 : S := .for_ (.nm 2) (.var 0) l59_0
def b59 : List S := [
  .set 1 (.tup []),
  s59_0,
  .ret (.var 1)]
def f59 : Fn := ⟨1, 3, b59⟩
/-- turns -/
def b60 : List S := [
  .ex (.call 44 [(.var 0)]),
  .ret (.call 59 [(.var 0)])]
def f60 : Fn := ⟨1, 1, b60⟩
/-- kept_of -/
def l61_0 : List S := [
  .set 1 (.sl (.var 1) (.op .add (.index (.var 1) (.neg (.lit (.int 20)))) (.lit (.int 1))) .nil)]
def s61_0 : S := .while_ (.cmp .inn (.neg (.lit (.int 20))) (.var 1)) l61_0
def l61_2 : List S := [
  .set 1 (.sl (.var 1) (.op .add (.index (.var 1) (.idx (.var 2) (.neg (.lit (.int 1))))) (.lit (.int 1))) .nil)]
def s61_2 : S := .while_ (.cmp .inn (.idx (.var 2) (.neg (.lit (.int 1)))) (.var 1)) l61_2
def l61_4 : List S := [
  .app 2 (.ite (.var 3) (.bi .max1 [(.var 1)]) (.bi .min1 [(.var 1)])),
  s61_2,
  .set 3 (.no (.var 3))]
def s61_4 : S := .while_ (.cmp .ne (.var 1) (.lst [])) l61_4
def b61 : List S := [
  .set 1 (.bi .lst [(.var 0)]),
  s61_0,
  .par [(2, true), (3, false)] [(.lst []), (.lit (.bl true))],
  s61_4,
  .ret (.bi .tup [(.var 2)])]
def f61 : Fn := ⟨1, 4, b61⟩
/-- is_turns -/
def c64_0 : E := .comp (.and [(.call 2 [(.var 1)]), (.cmp .gt (.var 1) (.con "LOWEST" (.int (-20))))]) (.nm 1) (.var 0) [] [("one", 1)]
def b64 : List S := [
  .ite (.or [(.no (.bi (.isi .tuple) [(.var 0)])), (.no (.bi .all [c64_0]))]) [.ret (.lit (.bl false))] [],
  .ret (.cmp .eq (.call 59 [(.var 0)]) (.var 0))]
def f64 : Fn := ⟨1, 2, b64⟩
/-- added -/
def b65 : List S := [
  .ite (.no (.call 64 [(.var 0)])) [.raise 0 []] [],
  .ex (.call 37 [(.var 1)]),
  .ret (.call 59 [(.tup [(.star (.var 0)), (.var 1)])])]
def f65 : Fn := ⟨2, 2, b65⟩
/-- below -/
def c84_0 : E := .comp (.lit (.int 1)) (.tp [(.nm 2), (.nm 3)]) (.zip (.var 0) (.var 1)) [(.cmp .gt (.var 2) (.var 3))] [("_law_bit", 2), ("_law_more", 3)]
def b84 : List S := [
  .ret (.cmp .eq c84_0 (.lst []))]
def f84 : Fn := ⟨2, 4, b84⟩
/-- number_in -/
def c185_0 : E := .comp (.cmp .inn (.var 2) (.con "DIGITS" (.str "0123456789"))) (.nm 2) (.var 1) [] [("sign", 2)]
def b185 : List S := [
  .set 1 (.ite (.cmp .eq (.sl (.var 0) .nil (.lit (.int 1))) (.lit (.str "-"))) (.sl (.var 0) (.lit (.int 1)) .nil) (.var 0)),
  .ite (.or [(.no (.chn .le .le (.lit (.int 1)) (.bi .len [(.var 1)]) (.lit (.int 2)))), (.no (.bi .all [c185_0]))]) [.ret (.lit (.non))] [],
  .ret (.ite (.cmp .eq (.bi .str [(.bi .int [(.var 0)])]) (.var 0)) (.bi .int [(.var 0)]) (.lit (.non)))]
def f185 : Fn := ⟨1, 3, b185⟩
/-- need_bankX -/
def b272 : List S := [
  .ite (.no (.call 4 [(.var 0)])) [.raise 2 []] []]
def f272 : Fn := ⟨1, 1, b272⟩
/-- need_rowX -/
def c294_0 : E := .comp (.call 2 [(.var 1)]) (.nm 1) (.var 0) [] [("level", 1)]
def b294 : List S := [
  .ite (.or [(.no (.bi (.isi .tuple) [(.var 0)])), (.cmp .gt (.bi .len [(.var 0)]) (.con "MOST_LEVELS" (.int 200))), (.no (.bi .all [c294_0]))]) [.raise 5 []] []]
def f294 : Fn := ⟨1, 2, b294⟩
/-- word_of2 -/
def b418 : List S := [
  .set 1 (.lst [(.isx (.var 0) 1), (.isx (.var 0) 2), (.isx (.var 0) 3), (.isx (.var 0) 4)]),
  .set 1 (.op .add (.var 1) (.lst [(.isx (.var 0) 13), (.isx (.var 0) 5), (.isx (.var 0) 6), (.isx (.var 0) 7)])),
  .set 1 (.op .add (.var 1) (.lst [(.isx (.var 0) 8), (.isx (.var 0) 9), (.isx (.var 0) 10), (.isx (.var 0) 14)])),
  .set 1 (.op .add (.var 1) (.lst [(.isx (.var 0) 15), (.isx (.var 0) 16), (.isx (.var 0) 17)])),
  .set 1 (.op .add (.var 1) (.lst [(.isx (.var 0) 11), (.isx (.var 0) 12)])),
  .ite (.or [(.cmp .ne (.count (.var 1) (.lit (.bl true))) (.lit (.int 1))), (.no (.isx (.var 0) 1000))]) [.ret (.lit (.str "other"))] [],
  .set 2 (.lst [(.lit (.str "NoBank")), (.lit (.str "NoLevel")), (.lit (.str "NoState")), (.lit (.str "NoRow")), (.lit (.str "NoTurns")), (.lit (.str "NoLoop")), (.lit (.str "NoFactor")), (.lit (.str "NoInteger")), (.lit (.str "NoShift"))]),
  .set 2 (.op .add (.var 2) (.lst [(.lit (.str "NotArisen")), (.lit (.str "NoWay")), (.lit (.str "NoPlace")), (.lit (.str "Barred")), (.lit (.str "NoText")), (.lit (.str "NothingDone"))])),
  .ite (.or [(.idx (.var 1) (.lit (.int 15))), (.idx (.var 1) (.lit (.int 16)))]) [.ret (.op .add (.idx (.lst [(.lit (.str "TooMany ")), (.lit (.str "TooGreat "))]) (.op .sub (.index (.var 1) (.lit (.bl true))) (.lit (.int 15)))) (.bi .repr [(.tup [(.fld (.var 0) 0), (.fld (.var 0) 1)])]))] [],
  .ret (.idx (.var 2) (.index (.var 1) (.lit (.bl true))))]
def f418 : Fn := ⟨1, 3, b418⟩
/-- need_textX -/
def b441 : List S := [
  .ite (.no (.bi (.isi .str) [(.var 0)])) [.raise 17 []] []]
def f441 : Fn := ⟨1, 1, b441⟩
/-- read_stateX -/
def c442_0 : E := .comp (.cmp .inn (.var 1) (.lit (.str "01"))) (.nm 1) (.var 0) [] [("sign", 1)]
def c442_1 : E := .comp (.bi .int [(.var 1)]) (.nm 1) (.var 0) [] [("sign", 1)]
def b442 : List S := [
  .exx 441 [(.var 0)],
  .ite (.cmp .eq (.var 0) (.con "NOTHING" (.str "none"))) [.ret (.tup [])] [],
  .ite (.or [(.no (.chn .le .le (.lit (.int 1)) (.bi .len [(.var 0)]) (.con "MOST_LATCHES" (.int 30)))), (.no (.bi .all [c442_0]))]) [.raise 17 []] [],
  .ret (.bi .tup [c442_1])]
def f442 : Fn := ⟨1, 2, b442⟩
/-- latch_in -/
def c595_0 : E := .comp (.call 185 [(.var 2)]) (.nm 2) (.tup [(.star (.spl (.idx (.var 1) (.lit (.int 0))) (.lit (.str "/")))), (.idx (.var 1) (.lit (.int 1)))]) [] [("one", 2)]
def b595 : List S := [
  .set 1 (.spl (.var 0) (.lit (.str ":"))),
  .ite (.cmp .ne (.bi .len [(.var 1)]) (.lit (.int 2))) [.ret (.tup [])] [],
  .ret (.bi .tup [c595_0])]
def f595 : Fn := ⟨1, 3, b595⟩
/-- words_of -/
def b599 : List S := [
  .ret (.ite (.cmp .ne (.var 0) (.con "NOTHING" (.str "none"))) (.spl (.var 0) (.lit (.str " "))) (.lst []))]
def f599 : Fn := ⟨1, 1, b599⟩
/-- bank_textX -/
def c606_0 : E := .comp (.fs [(.var 1), (.lit (.str "/")), (.var 2), (.lit (.str ":")), (.var 3)]) (.tp [(.nm 1), (.nm 2), (.nm 3)]) (.var 0) [] [("down", 1), ("up", 2), ("weight", 3)]
def b606 : List S := [
  .exx 272 [(.var 0)],
  .ret (.ite (.cmp .ne (.var 0) (.tup [])) (.jn (.lit (.str " ")) c606_0) (.con "NOTHING" (.str "none")))]
def f606 : Fn := ⟨1, 4, b606⟩
/-- state_textX -/
def c607_0 : E := .comp (.call 1 [(.var 1), (.lit (.int 0)), (.lit (.int 1))]) (.nm 1) (.var 0) [] [("one", 1)]
def c607_1 : E := .comp (.bi .str [(.var 1)]) (.nm 1) (.var 0) [] [("one", 1)]
def b607 : List S := [
  .ite (.or [(.no (.bi (.isi .tuple) [(.var 0)])), (.cmp .gt (.bi .len [(.var 0)]) (.con "MOST_LATCHES" (.int 30))), (.no (.bi .all [c607_0]))]) [.raise 4 []] [],
  .ret (.ite (.cmp .ne (.var 0) (.tup [])) (.jn (.lit (.str "")) c607_1) (.con "NOTHING" (.str "none")))]
def f607 : Fn := ⟨1, 2, b607⟩
/-- row_textX -/
def c608_0 : E := .comp (.bi .str [(.var 1)]) (.nm 1) (.var 0) [] [("level", 1)]
def b608 : List S := [
  .exx 294 [(.var 0)],
  .ret (.ite (.cmp .ne (.var 0) (.tup [])) (.jn (.lit (.str " ")) c608_0) (.con "NOTHING" (.str "none")))]
def f608 : Fn := ⟨1, 2, b608⟩
/-- read_bankX -/
def c617_0 : E := .comp (.call 595 [(.var 2)]) (.nm 2) (.call 599 [(.var 0)]) [] [("word", 2)]
def b617 : List S := [
  .exx 441 [(.var 0)],
  .set 1 (.bi .tup [c617_0]),
  .ite (.no (.call 4 [(.var 1)])) [.raise 17 []] [],
  .ret (.var 1)]
def f617 : Fn := ⟨1, 3, b617⟩
/-- read_rowX -/
def c624_0 : E := .comp (.call 185 [(.var 2)]) (.nm 2) (.call 599 [(.var 0)]) [] [("word", 2)]
def c624_1 : E := .comp (.call 2 [(.var 3)]) (.nm 3) (.var 1) [] [("level", 3)]
def b624 : List S := [
  .exx 441 [(.var 0)],
  .set 1 (.bi .tup [c624_0]),
  .ite (.or [(.cmp .gt (.bi .len [(.var 1)]) (.con "MOST_LEVELS" (.int 200))), (.no (.bi .all [c624_1]))]) [.raise 17 []] [],
  .ret (.var 1)]
def f624 : Fn := ⟨1, 4, b624⟩
/-- lam_read_bank2 -/
def b632 : List S := [
  .plc [],
  .retx 0 617 [(.lit (.str "0/1:2 -2/3:1"))]]
def f632 : Fn := ⟨0, 1, b632⟩
/-- said_read_bank2 -/
def b633 : List S := [
  .tryx 632 [] 418]
def f633 : Fn := ⟨0, 0, b633⟩
/-- lam_read_bank3 -/
def b634 : List S := [
  .plc [],
  .retx 0 617 [(.lit (.str "3/-2:1"))]]
def f634 : Fn := ⟨0, 1, b634⟩
/-- said_read_bank3 -/
def b635 : List S := [
  .tryx 634 [] 418]
def f635 : Fn := ⟨0, 0, b635⟩
/-- lam_read_state2 -/
def b636 : List S := [
  .plc [],
  .retx 0 442 [(.lit (.str "102"))]]
def f636 : Fn := ⟨0, 1, b636⟩
/-- said_read_state2 -/
def b637 : List S := [
  .tryx 636 [] 418]
def f637 : Fn := ⟨0, 0, b637⟩
/-- lam_read_row2 -/
def b638 : List S := [
  .plc [],
  .retx 0 624 [(.lit (.str "3 21"))]]
def f638 : Fn := ⟨0, 1, b638⟩
/-- said_read_row2 -/
def b639 : List S := [
  .tryx 638 [] 418]
def f639 : Fn := ⟨0, 0, b639⟩
/-- lam_bank_text2 -/
def b640 : List S := [
  .plc [],
  .retx 0 606 [(.tup [(.tup [(.lit (.int 0)), (.lit (.int 1)), (.lit (.int 2))]), (.tup [(.neg (.lit (.int 2))), (.lit (.int 3)), (.lit (.int 1))])])]]
def f640 : Fn := ⟨0, 1, b640⟩
/-- said_bank_text2 -/
def b641 : List S := [
  .tryx 640 [] 418]
def f641 : Fn := ⟨0, 0, b641⟩
/-- lam_state_text2 -/
def b642 : List S := [
  .plc [],
  .retx 0 607 [(.tup [(.lit (.int 0)), (.lit (.int 2))])]]
def f642 : Fn := ⟨0, 1, b642⟩
/-- said_state_text2 -/
def b643 : List S := [
  .tryx 642 [] 418]
def f643 : Fn := ⟨0, 0, b643⟩
/-- lam_row_text2 -/
def b644 : List S := [
  .plc [],
  .retx 0 608 [(.tup [(.lit (.int 3)), (.neg (.lit (.int 21)))])]]
def f644 : Fn := ⟨0, 1, b644⟩
/-- said_row_text2 -/
def b645 : List S := [
  .tryx 644 [] 418]
def f645 : Fn := ⟨0, 0, b645⟩
/-- refused -/
def b646 : List S := [
  .own 0 (.lst [(.call 633 [])]),
  .app 0 (.call 635 []),
  .app 0 (.call 637 []),
  .app 0 (.call 639 []),
  .app 0 (.call 641 []),
  .app 0 (.call 643 []),
  .app 0 (.call 645 []),
  .ret (.cmp .eq (.var 0) (.op .add (.op .mul (.lst [(.lit (.str "! NoText"))]) (.lit (.int 4))) (.lst [(.lit (.str "! NoBank")), (.lit (.str "! NoState")), (.lit (.str "! NoRow"))])))]
def f646 : Fn := ⟨0, 1, b646⟩
/-- law78 -/
def l647_0 : List S := [
  .set 4 (.call 6 [(.call 5 [(.var 0), (.var 3)])]),
  .set 4 (.op .add (.lit (.int 1)) (.call 7 [(.var 4), (.lit (.int 99))])),
  .set 5 (.op .add (.lit (.str "-20/20:-")) (.bi .str [(.var 4)])),
  .ite (.no (.call 9 [(.lst [(.call 606 [(.tup [(.tup [(.neg (.lit (.int 20))), (.lit (.int 20)), (.op .sub (.lit (.int 0)) (.var 4))])])]), (.call 617 [(.var 5)])]), (.lst [(.var 5), (.tup [(.tup [(.neg (.lit (.int 20))), (.lit (.int 20)), (.op .sub (.lit (.int 0)) (.var 4))])])])])) [.ret (.lit (.bl false))] []]
def s647_0 : S := .for_ (.nm 3) (.rng1 (.bi .max2 [(.lit (.int 1)), (.bi .min2 [(.bi .len [(.var 0)]), (.lit (.int 3))])])) l647_0
def b647 : List S := [
  .set 1 (.tup [(.tup [(.neg (.lit (.int 2))), (.lit (.int 3)), (.lit (.int 1))]), (.tup [(.lit (.int 0)), (.lit (.int 1)), (.lit (.int 2))])]),
  .set 2 (.lst [(.call 606 [(.var 1)]), (.call 606 [(.tup [])]), (.call 607 [(.tup [(.lit (.int 1)), (.lit (.int 0)), (.lit (.int 1))])]), (.call 607 [(.tup [])]), (.call 608 [(.tup [(.lit (.int 3)), (.neg (.lit (.int 1))), (.lit (.int 0))])]), (.call 608 [(.tup [])])]),
  .ite (.or [(.no (.call 9 [(.var 2), (.lst [(.lit (.str "-2/3:1 0/1:2")), (.lit (.str "none")), (.lit (.str "101")), (.lit (.str "none")), (.lit (.str "3 -1 0")), (.lit (.str "none"))])])), (.no (.call 646 []))]) [.ret (.lit (.bl false))] [],
  .set 2 (.lst [(.call 617 [(.lit (.str "-2/3:1 0/1:2"))]), (.call 617 [(.lit (.str "none"))]), (.call 442 [(.lit (.str "101"))]), (.call 442 [(.lit (.str "none"))]), (.call 624 [(.lit (.str "3 -1 0"))])]),
  .ite (.no (.call 9 [(.op .add (.var 2) (.lst [(.call 624 [(.lit (.str "none"))])])), (.lst [(.var 1), (.tup []), (.tup [(.lit (.int 1)), (.lit (.int 0)), (.lit (.int 1))]), (.tup []), (.tup [(.lit (.int 3)), (.neg (.lit (.int 1))), (.lit (.int 0))]), (.tup [])])])) [.ret (.lit (.bl false))] [],
  s647_0,
  .ret (.lit (.bl true))]
def f647 : Fn := ⟨1, 6, b647⟩
end KK
/-! LB12: targets, comprehensions. -/
namespace LB
open PySem PySem.Spec PyProof.Rows L2
variable [Clx]

/-- outside the slots of own nothing has changed -/
structure OnlyIn (own : List Nat) (σ σ' : L2.St) : Prop where
  len : σ'.length = σ.length
  out : ∀ j, j ∉ own → σ'[j]? = σ[j]?
theorem OnlyIn.refl {own : List Nat} {σ : L2.St} : OnlyIn own σ σ := ⟨rfl, fun _ _ => rfl⟩
theorem OnlyIn.trans {own : List Nat} {σ σ1 σ2 : L2.St} (a : OnlyIn own σ σ1) (b : OnlyIn own σ1 σ2) : OnlyIn own σ σ2 := ⟨b.len.trans a.len, fun j h => (b.out j h).trans (a.out j h)⟩
theorem OnlyIn.set {own : List Nat} {σ : L2.St} {i : Nat} {x : Option V} (h : i ∈ own) : OnlyIn own σ (σ.set i x) := ⟨by simp, fun j hj => List.getElem?_set_ne (fun z => hj (by rw [← z]; exact h))⟩
theorem wipe_in {σ : L2.St} {j : Nat} : ∀ {own : List Nat}, j ∈ own → j < σ.length → (L2.wipe σ own)[j]? = some none
  | [], h, _ => by cases h
  | v :: vs, h, hl => by
    unfold L2.wipe
    by_cases e : v = j
    · subst e
      exact List.getElem?_set_self (by rw [wipe_length]; exact hl)
    · rw [List.getElem?_set_ne e]
      exact wipe_in ((List.mem_cons.mp h).resolve_left fun z => e z.symm) hl
theorem wipe_out {σ : L2.St} {j : Nat} : ∀ {own : List Nat}, j ∉ own → (L2.wipe σ own)[j]? = σ[j]?
  | [], _ => rfl
  | v :: vs, h => by
    unfold L2.wipe
    rw [List.getElem?_set_ne (fun z => h (by rw [z]; exact List.mem_cons_self))]
    exact wipe_out fun z => h (List.mem_cons_of_mem _ z)
theorem wipe_eq {own : List Nat} {σ σ' : L2.St} (h : OnlyIn own (L2.wipe σ own) σ') : L2.wipe σ' own = L2.wipe σ own := by
  have hl : σ'.length = σ.length := by rw [h.len, wipe_length]
  refine List.ext_getElem? fun j => ?_
  by_cases hm : j ∈ own
  · by_cases hj : j < σ.length
    · rw [wipe_in hm hj, wipe_in hm (by rw [hl]; exact hj)]
    · rw [List.getElem?_eq_none (by rw [wipe_length, hl]; omega), List.getElem?_eq_none (by rw [wipe_length]; omega)]
  · rw [wipe_out hm, h.out j hm]
/-- a slot's value goes -/
theorem ER.clear {G : Hp} {σ : L2.St} {H : Hp} {F : List Addr} {env : Env} {i : Nat} {x : Option V} (r : ER G σ H F env) : ER G (σ.set i x) H F (env.set i .u) := by
  have back : ∀ {j : Nat} {s : Slot}, (env.set i .u)[j]? = some s → s ≠ .u → i ≠ j ∧ env[j]? = some s := fun {j s} e hs => by
    by_cases hj : i = j
    · subst hj
      by_cases hl : i < env.length
      · rw [List.getElem?_set_self hl] at e; cases e; exact absurd rfl hs
      · rw [List.getElem?_eq_none (by simpa using hl)] at e; cases e
    · rw [List.getElem?_set_ne hj] at e; exact ⟨hj, e⟩
  refine ⟨fun j d e => ?_, fun j d e => ?_, fun j k d d' a e1 e2 e3 e4 => ?_, by rw [List.length_set, List.length_set, r.len]⟩
  · obtain ⟨n, e⟩ := back e (fun z => nomatch z)
    rw [List.getElem?_set_ne n]
    exact r.val j d e
  · obtain ⟨n, e⟩ := back e (fun z => nomatch z)
    rw [List.getElem?_set_ne n]
    exact r.own j d e
  · obtain ⟨n, e1⟩ := back e1 (fun z => nomatch z)
    obtain ⟨n', e2⟩ := back e2 (fun z => nomatch z)
    rw [List.getElem?_set_ne n] at e3
    rw [List.getElem?_set_ne n'] at e4
    exact r.one j k d d' a e1 e2 e3 e4
theorem ER.wipe {G : Hp} {σ : L2.St} {H : Hp} {F : List Addr} {env : Env} (r : ER G σ H F env) : ∀ own : List Nat, ER G (L2.wipe σ own) H F (wipe env own)
  | [] => r
  | v :: vs => by
    unfold L2.wipe LB.wipe
    exact (r.wipe vs).clear

/-- a target's reading -/
def tG (own : List Nat) (tg : Tg) : TG := fun v σ H Q => ∃ G env F d env', ER G σ H F env ∧ Rp H F d v ∧ setTg env tg d = some env' ∧ ∀ σ', ER G σ' H F env' → OnlyIn own σ σ' → Q σ' H
def tGs (own : List Nat) (ts : List Tg) : TGs := fun vs σ H Q => ∃ G env F ds env', ER G σ H F env ∧ Rps H F ds vs ∧ setTgs env ts ds = some env' ∧ ∀ σ', ER G σ' H F env' → OnlyIn own σ σ' → Q σ' H
section
variable {X : Cx} {sc : Scope} {own : List Nat}
/-- where the targets' names stand -/
def LocOk (X : Cx) (sc : Scope) : Prop := ∀ x, locB sc x = true → L2.Loc X.env.scope x ∧ (X.fn x = true ∨ X.env.scope.names.lookup x = some .local)
theorem noSt_assign {e : Expr} {es : List Expr} {env : PySem.Env} (h : noSt e = true) : assignEach (e :: es) env = (false, assign e env) :: assignEach es env := by
  cases e <;> first | rfl | (cases h; done)
theorem PG.imp {e : Expr} {t t' : TG} (h : PG X e t) (k : ∀ v σ H Q, t' v σ H Q → t v σ H Q) : PG X e t' := ⟨fun pins s σ H v u Q I r q => h.run pins s σ H v u Q I r (k v σ H Q q)⟩
theorem PGs.imp {e : List Expr} {t t' : TGs} (h : PGs X e t) (k : ∀ v σ H Q, t' v σ H Q → t v σ H Q) : PGs X e t' := ⟨fun pins s σ H v u Q I r q => h.run pins s σ H v u Q I r (k v σ H Q q)⟩
theorem chkTs_len {N : List PySem.Str} : ∀ {ts : List Tg} {es : List Expr}, chkTs sc N own ts es = true → ∀ env : PySem.Env, (assignEach es env).length = ts.length ∧ (assignEach es env).findIdx? (·.1) = none
  | [], [], _, _ => ⟨rfl, rfl⟩
  | [], _ :: _, h, _ => by cases h
  | _ :: _, [], h, _ => by cases h
  | t :: ts, e :: es, h, env => by
    have h' : (noSt e && chkT sc N own t e && chkTs sc N own ts es) = true := h
    rw [Bool.and_eq_true, Bool.and_eq_true] at h'
    rw [noSt_assign h'.1.1]
    obtain ⟨a, b⟩ := chkTs_len h'.2 env
    refine ⟨by rw [List.length_cons, a]; rfl, ?_⟩
    rw [List.findIdx?_cons, b]; rfl
theorem setTgs_len : ∀ {ts : List Tg} {ds : List D} {env env' : Env}, setTgs env ts ds = some env' → ds.length = ts.length
  | [], [], _, _, _ => rfl
  | [], _ :: _, _, _, h => by cases h
  | _ :: _, [], _, _, h => by cases h
  | t :: ts, d :: ds, env, env', h => by
    have h : ((setTg env t d).bind fun e => setTgs e ts ds) = some env' := h
    cases q : setTg env t d with
    | none => rw [q] at h; cases h
    | some e => rw [q] at h; rw [List.length_cons, List.length_cons, setTgs_len (show setTgs e ts ds = some env' from h)]
mutual
theorem pg_E (hc : X.calm = true) (hN : X.N.Nodup) (hl : LocOk X sc) : ∀ (tg : Tg) (p : Expr), chkT sc X.N own tg p = true → PG X p (tG own tg)
  | .nm i, p, h => by
    cases p <;> first | (cases h; done) | skip
    rename_i x pos
    have h' : (decide (X.N[i]? = some x) && locB sc x && decide (i ∈ own)) = true := h
    simp only [Bool.and_eq_true, decide_eq_true_eq] at h'
    obtain ⟨⟨h1, h2⟩, h3⟩ := h'
    obtain ⟨l1, l2⟩ := hl x h2
    refine PG.imp (pg_name hN h1 l1 l2) fun v σ H Q q => ?_
    obtain ⟨G, env, F, d, env', r, rd, e, k⟩ := q
    cases e
    exact k _ (r.put rd) (OnlyIn.set h3)
  | .tp ts, p, h => by
    cases p <;> first | (cases h; done) | skip
    rename_i es k pos
    have h' : chkTs sc X.N own ts es = true := h
    obtain ⟨n1, n2⟩ := chkTs_len h' X.env
    refine PG.imp (pg_tup hc (pgs_E hc hN hl ts es h') n1 n2) fun v σ H Q q => ?_
    obtain ⟨G, env, F, d, env', r, rd, e, k⟩ := q
    cases d <;> first | (cases e; done) | skip
    rename_i l
    have e : setTgs env ts l = some env' := e
    cases rd with
    | tup he rs => exact ⟨_, _, rfl, .inl (.inl he), by rw [← rs.length]; exact setTgs_len e, G, env, F, l, env', r, rs, e, k⟩
theorem pgs_E (hc : X.calm = true) (hN : X.N.Nodup) (hl : LocOk X sc) : ∀ (ts : List Tg) (es : List Expr), chkTs sc X.N own ts es = true → PGs X es (tGs own ts)
  | [], [], _ => PGs.imp pgs_nil fun v σ H Q q => by
    obtain ⟨G, env, F, ds, env', r, rd, e, k⟩ := q
    cases ds with
    | cons => cases e
    | nil => cases e; cases rd; exact ⟨rfl, k σ r OnlyIn.refl⟩
  | [], _ :: _, h => by cases h
  | _ :: _, [], h => by cases h
  | t :: ts, e :: es, h => by
    have h' : (noSt e && chkT sc X.N own t e && chkTs sc X.N own ts es) = true := h
    rw [Bool.and_eq_true, Bool.and_eq_true] at h'
    refine PGs.imp (pgs_cons (pg_E hc hN hl t e h'.1.2) (pgs_E hc hN hl ts es h'.2) (by rw [noSt_assign h'.1.1]; rfl)) fun v σ H Q q => ?_
    obtain ⟨G, env, F, ds, env', r, rd, e, k⟩ := q
    cases ds with
    | nil => cases e
    | cons d ds =>
      have e : ((setTg env t d).bind fun e => setTgs e ts ds) = some env' := e
      cases q : setTg env t d with
      | none => rw [q] at e; cases e
      | some env1 =>
        rw [q] at e
        cases rd with
        | cons r1 rs => exact ⟨_, _, rfl, G, env, F, d, env1, r, r1, q, fun σ1 r2 o1 => ⟨G, env1, F, ds, env', r2, rs, e, fun σ2 r3 o2 => k σ2 r3 (o1.trans o2)⟩⟩
end
end

/-! comprehensions -/
section
variable {X : Cx} {G : Sig} {T : Tab}
theorem compM_cons {f : D → Store → Res (Option D)} {a : D} {as : List D} {st : Store} {r : List D} {st2 : Store} (h : compM f (a :: as) st = .ok r st2) :
    ∃ o st1 r', f a st = .ok o st1 ∧ compM f as st1 = .ok r' st2 ∧ r = o.toList ++ r' := by
  unfold compM at h
  cases e : f a st with
  | exc => rw [e] at h; cases h
  | bad => rw [e] at h; cases h
  | ok o st1 =>
    rw [e] at h
    have h : (compM f as st1).bind (fun r st2 => Res.ok (o.toList ++ r) st2) = .ok r st2 := by cases o <;> exact h
    cases e2 : compM f as st1 with
    | exc => rw [e2] at h; cases h
    | bad => rw [e2] at h; cases h
    | ok r' st3 =>
      rw [e2] at h
      cases h
      exact ⟨o, st1, r', rfl, e2, rfl⟩
/-- the conditions' reading -/
def tCs (T : Tab) (cs : List E) : TT := fun σ H Q => ∃ G env F st, SR H F st ∧ ER G σ H F env ∧
  RO (evC T cs env st) fun k st' => ∀ H' F', Stp H F H' F' → SR H' F' st' → Q k H'
theorem pts_nilE : PTs X [] (tCs T []) := ⟨fun pins s σ H Q I q => by
  obtain ⟨G, env, F, st, sr, r, q⟩ := q
  exact pts_nil.run pins s σ H Q I (q H F Stp.refl sr)⟩
theorem pts_oneE {c : E} {p : Expr} (h : PT X p (tT T c)) (hb : TB T c) : PTs X [p] (tCs T [c]) := ⟨fun pins s σ H Q I q => by
  obtain ⟨G, env, F, st, sr, r, q⟩ := q
  refine (pts_one h).run pins s σ H Q I ?_
  have q : RO ((evE T c .t env st).bind fun d st1 => (match ([] : List E), d with | [], .bl k => Res.ok k st1 | _, _ => .bad)) _ := q
  refine tT_go sr r (hb env st _ (RO_bind q)) (fun d st1 h => h.2) fun d st1 H1 F1 k a1 s1 r1 => ?_
  exact k.1 H1 F1 a1 s1⟩
theorem mem_none {H H1 : Hp} {F F1 : List Addr} {st1 : Store} {p : Addr} (a : Stp H F H1 F1) (s : SR H1 F1 st1) (hp : H1 p = none) : Nw H p := a.nw s (.of hp)
theorem comp_read {el it : E} {tg : Tg} {cs : List E} {own : List (PySem.Str × Nat)} {σ : L2.St} {H : Hp} {Q : VK} (q : tE T true .v (.comp el tg it cs own) σ H Q) :
    tLc (tI T it) (tG (own.map (·.2)) tg) (tCs T cs) (tE T false .v el) (own.map (·.2)) σ H Q := by
  obtain ⟨G0, env, F, st, sr, r, q⟩ := q
  refine ⟨G0, env, F, st, sr, r, RO_mono (RO_bind q) fun d st1 k => ?_⟩
  cases d <;> first | exact k.elim | skip
  rename_i ds
  refine ⟨ds, rfl, fun J H1 F1 a1 s1 itd Dn hD => ?_⟩
  have r1 := r.step sr a1
  obtain ⟨P, Y, w, hP, hY⟩ := itd
  let f : D → Store → Res (Option D) := fun d st => match setTg (wipe env (own.map (·.2))) tg d with
    | some env' => (evC T cs env' st).bind fun k st2 => if k then (evE T el .v env' st2).bind fun y st3 => .ok (some y) st3 else .ok none st2
    | none => .bad
  have k : RO ((compM f ds st1).bind fun r st2 => if lenOk ds.length then post .v (.lst r) st2 else .bad) _ := k
  have k := RO_bind k
  cases ec : compM f ds st1 with
  | exc => rw [ec] at k; exact k.elim
  | bad => rw [ec] at k; exact k.elim
  | ok res st2 =>
    rw [ec] at k
    obtain ⟨hlen, k⟩ := lenOk_ite (show RO (if lenOk ds.length = true then post .v (.lst res) st2 else .bad) _ from k)
    have nD : ∀ a o, H1 a = some o → a ≠ Dn := fun a o h => ne_of_none h hD
    refine lc_it w (fun i H' => ∃ F' st' accV accD rest, Stp H1 F1 H' F' ∧ SR H' F' st' ∧ H' Dn = some (.lst accV) ∧ Dn ∉ F' ∧ Rps H' F' accD accV ∧ accD.length ≤ i ∧ compM f (ds.drop i) st' = .ok rest st2 ∧ accD ++ rest = res) ?_ ?_ ?_ ?_
    · exact ⟨F1, st1, [], [], res, Stp.laid s1 hD, s1.laid hD, upd_same, s1.notNew hD, .nil, Nat.le_refl _, ec, rfl⟩
    · rintro i H' hi ⟨F', st', accV, accD, rest, a2, _⟩
      exact hP H' F' (a2.keeps s1)
    · rintro i x H2 H3 hi ⟨F2, st', accV, accD, rest, a2, s2, hd, nd, ra, la, ecm, er⟩ y
      obtain ⟨d, e1, a3, s3, rx⟩ := hY i H2 F2 x H3 st' (a2.keeps s1) s2 y hi
      have a13 := a2.trans a3
      have hd3 : H3 Dn = some (.lst accV) := a3.ext _ _ hd nd NF.lst.tbl
      rw [List.drop_eq_getElem_cons hi] at ecm
      have ed : ds[i] = d := by
        rw [List.getElem?_eq_getElem hi] at e1
        exact Option.some.inj e1
      rw [ed] at ecm
      obtain ⟨o, st3, rest', ef, ecm', er'⟩ := compM_cons ecm
      have r3 := ((r1.step s1 a2).step s2 a3).wipe (own.map (·.2))
      have ef : (match setTg (wipe env (own.map (·.2))) tg d with
        | some env' => (evC T cs env' st').bind fun k st2 => if k then (evE T el .v env' st2).bind fun y st3 => Res.ok (some y) st3 else .ok none st2
        | none => .bad) = .ok o st3 := ef
      cases et : setTg (wipe env (own.map (·.2))) tg d with
      | none => rw [et] at ef; cases ef
      | some env' =>
        rw [et] at ef
        refine ⟨G0, _, F2, d, env', r3, rx, et, fun σ2 r4 oi => ⟨wipe_eq oi, ?_⟩⟩
        refine ⟨G0, env', F2, st', s3, r4, ?_⟩
        have ef : ((evC T cs env' st').bind fun k st2 => if k then (evE T el .v env' st2).bind fun y st3 => Res.ok (some y) st3 else .ok none st2) = .ok o st3 := ef
        cases eq : evC T cs env' st' with
        | exc => rw [eq] at ef; cases ef
        | bad => rw [eq] at ef; cases ef
        | ok kb st4 =>
          rw [eq] at ef
          intro H4 F4 a4 s4
          have a14 := a13.trans a4
          have hd4 : H4 Dn = some (.lst accV) := a4.ext _ _ hd3 nd NF.lst.tbl
          have nd4 : Dn ∉ F4 := a4.back hd3 nd NF.lst.tbl
          have ra4 := (ra.mono (a3.keeps s2)).mono (a4.keeps s3)
          cases kb with
          | false =>
            have ef : Res.ok none st4 = .ok o st3 := ef
            cases ef
            rw [if_neg Bool.false_ne_true]
            exact ⟨F4, st3, accV, accD, rest', a14, s4, hd4, nd4, ra4, Nat.le_succ_of_le la, ecm', by rw [← er, er']; rfl⟩
          | true =>
            have ef : ((evE T el .v env' st4).bind fun y st3 => Res.ok (some y) st3) = .ok o st3 := ef
            rw [if_pos rfl]
            cases ee : evE T el .v env' st4 with
            | exc => rw [ee] at ef; cases ef
            | bad => rw [ee] at ef; cases ef
            | ok yd st5 =>
              rw [ee] at ef
              cases ef
              have he1 : RO (evE T el .v env' st4) fun d' st' => d' = yd ∧ st' = st3 := by rw [ee]; exact ⟨rfl, rfl⟩
              refine tE_go s4 (r4.step s3 a4) he1 fun d' st5' y H5 F5 kk a5 s5 r5 v5 => ?_
              obtain ⟨rfl, rfl⟩ := kk
              have hd5 : H5 Dn = some (.lst accV) := a5.ext _ _ hd4 nd4 NF.lst.tbl
              have nd5 : Dn ∉ F5 := a5.back hd4 nd4 NF.lst.tbl
              have kp : Kps H5 F5 (upd H5 Dn (.lst (accV ++ [y]))) F5 := keeps_upd hd5 (fun _ z => nomatch z) .lst
              have a15 := a14.trans a5
              refine ⟨accV, hd5, ?_, F5, _, accV ++ [y], accD ++ [d'], rest', a15.updN hd5 .lst (.of hD), s5.other hd5 (fun _ z => nomatch z) .lst nd5, upd_same, nd5, ?_, ?_, ecm', ?_⟩
              · rw [← ra.length]
                exact Nat.lt_of_le_of_lt la (Nat.lt_of_lt_of_le hi (sz_ok hlen))
              · exact Rps.app ((ra4.mono (a5.keeps s4)).mono kp) (.cons (Rp.mono kp v5) .nil)
              · rw [List.length_append]
                exact Nat.succ_le_succ la
              · rw [← er, er', List.append_assoc]; rfl
    · rintro H2 ⟨F2, st', accV, accD, rest, a2, s2, hd, nd, ra, la, ecm, er⟩
      rw [List.drop_length] at ecm
      cases ecm
      rw [List.append_nil] at er
      subst er
      exact k.2 _ H2 F2 (a1.trans a2) s2 ⟨Dn, rfl, mem_none a1 s1 hD, .lst hd ra, nd⟩
theorem pe_compF {el it : E} {tg : Tg} {cs : List E} {own : List (PySem.Str × Nat)} {pel ptg pit : Expr} {pcs : List Expr} {scope : Scope} {pos : Pos} (g : Gc G T X) (hh : G.hot = false) (hb : blkC X.N X.env.scope scope own = true) (hi : PI X ptg pit (tI T it)) (hset : noSet pit = true)
    (hg : ∀ (s : Shared) (H : Hp) (C : Addr) (cl : List (PySem.Str × Addr)) (fp : List Addr), PG (X.blk s H scope (compEnvC scope cl C X.env) fp) ptg (tG (own.map (·.2)) tg))
    (ht : ∀ (s : Shared) (H : Hp) (C : Addr) (cl : List (PySem.Str × Addr)) (fp : List Addr), PTs (X.blk s H scope (compEnvC scope cl C X.env) fp) pcs (tCs T cs))
    (he : ∀ (s : Shared) (H : Hp) (C : Addr) (cl : List (PySem.Str × Addr)) (fp : List Addr), PE (X.blk s H scope (compEnvC scope cl C X.env) fp) pel (tE T false .v el)) :
    PE X (.ListComp pel [⟨ptg, pit, pcs, 0⟩] scope pos) (tE T true .v (.comp el tg it cs own)) := by
  have hs : ∀ x, foldedSetIterable pit X.env x = pure x := by
    intro x
    cases pit <;> first | rfl | (cases hset; done)
  exact PE.imp (pe_lc (g.calm hh) g.nd hi (blkOk_by hb) hg ht he hs) fun σ H Q q => comp_read q
end
end LB
/-! LB12b: displays with stars, calls with keywords, list.index. -/
namespace LB
open PySem PySem.Spec PyProof.Rows L2
variable [Clx]
section
variable {X : Cx} {G : Sig} {T : Tab} {m : Md}
theorem pa_ES {f : E → Expr → Bool} (hf : ∀ e p, f e p = true → PE X p (tE T false .v e)) (hp : ∀ e p, f e p = true → PE X p (tE T false .p e)) : ∀ {es : List E} {ps : List Expr}, chkLS f es ps = true → PA X ps (tA T es)
  | [], [], _ => PA.imp pa_nil fun σ H Q q => by
    obtain ⟨G, env, F, st, s, r, q⟩ := q
    exact q [] H F Stp.refl s .nil
  | [], _ :: _, h => by cases h
  | e :: _, [], h => by cases e <;> cases h
  | e :: es, p :: ps, h => by
    by_cases hs : ∃ a, e = .star a
    · obtain ⟨a, rfl⟩ := hs
      cases p <;> first | (cases h; done) | skip
      rename_i p k
      have h' : (f a p && chkLS f es ps) = true := h
      rw [Bool.and_eq_true] at h'
      refine PA.imp (StX.pa_star (hp a p h'.1) (pa_ES hf hp h'.2)) fun σ H Q q => ?_
      obtain ⟨G, env, F, st, s, r, q⟩ := q
      have q : RO ((evE T a .p env st).bind fun x st1 => (Res.opt (items x) st1).bind fun l st2 => (evL T es env st2).bind fun r st3 => .ok (l ++ r) st3) _ := q
      refine tE_go s r (RO_bind q) fun d st1 x H1 F1 k1 a1 s1 r1 v1 => ?_
      obtain ⟨l, hl, k2⟩ := RO_opt (RO_bind k1)
      have fin : ∀ {p : Addr} {xs : List V}, Rps H1 F1 l xs → x = .ref p → (SqT X.K H1 p xs ∨ SqL X.K H1 p xs) → ∃ p xs, x = V.ref p ∧ (SqT X.K H1 p xs ∨ SqL X.K H1 p xs) ∧ tA T es σ H1 fun ys H2 => Q (xs ++ ys) H2 := fun {p xs} rx e1 t1 =>
        ⟨p, xs, e1, t1, tA_go s1 r1 (RO_bind k2) fun ds st2 ys H2 F2 k3 a2 s2 r2 v2 => k3 _ H2 F2 (a1.trans a2) s2 (Rps.app (rx.mono (a2.keeps s1)) v2)⟩
      cases d <;> first | (cases hl; done) | skip
      · cases hl
        obtain ⟨p, xs, rfl, rx, _, t1⟩ := tupV (K := X.K) v1
        exact fin rx rfl (.inl t1)
      · cases hl
        obtain ⟨p, xs, rfl, rx, t1⟩ := listV (K := X.K) v1
        exact fin rx rfl (.inr t1)
    · have h' : (noSt p && f e p && chkLS f es ps) = true := by
        cases e <;> first | exact h | exact absurd ⟨_, rfl⟩ hs
      rw [Bool.and_eq_true, Bool.and_eq_true] at h'
      refine PA.imp (pa_cons (hf e p h'.1.2) (pa_ES hf hp h'.2) (star_cons h'.1.1)) fun σ H Q q => ?_
      obtain ⟨G, env, F, st, s, r, q⟩ := q
      rw [evL_cons (fun a z => hs ⟨a, z⟩)] at q
      refine tE_go s r (RO_bind q) fun d st1 x H1 F1 k a1 s1 r1 v1 => tA_go s1 r1 (RO_bind k) fun ds st2 xs H2 F2 k2 a2 s2 r2 v2 => ?_
      exact k2 _ H2 F2 (a1.trans a2) s2 (.cons (Rp.mono (a2.keeps s1) v1) v2)
theorem PK.imp {kws : List Keyword} {t t' : TA} (h : PK X kws t) (k : ∀ σ H Q, t' σ H Q → t σ H Q) : PK X kws t' := ⟨fun pos pins s σ H Q I q => h.run pos pins s σ H Q I (k σ H Q q)⟩
theorem pk_E {f : E → Expr → Bool} (hf : ∀ e p, f e p = true → PE X p (tE T false .v e)) (hs : ∀ a p, f (.star a) p = false) : ∀ {ks : List PySem.Str} {es : List E} {ps : List Keyword}, chkK f ks es ps = true → PK X ps (tA T es)
  | [], [], [], _ => PK.imp pk_nil fun σ H Q q => by
    obtain ⟨G, env, F, st, s, r, q⟩ := q
    exact q [] H F Stp.refl s .nil
  | [], [], _ :: _, h => by cases h
  | [], _ :: _, _, h => by cases h
  | _ :: _, [], _, h => by cases h
  | _ :: _, _ :: _, [], h => by cases h
  | k :: ks, e :: es, ⟨none, p, q⟩ :: ps, h => by cases h
  | k :: ks, e :: es, ⟨some x, p, pq⟩ :: ps, h => by
    have h' : (decide (k = x) && f e p && chkK f ks es ps) = true := h
    rw [Bool.and_eq_true, Bool.and_eq_true] at h'
    refine PK.imp (pk_cons (hf e p h'.1.2) (pk_E hf hs h'.2)) fun σ H Q q => ?_
    obtain ⟨G, env, F, st, s, r, q⟩ := q
    rw [evL_cons (fun a z => by rw [z, hs] at h'; cases h'.1.2)] at q
    refine tE_go s r (RO_bind q) fun d st1 x H1 F1 k a1 s1 r1 v1 => tA_go s1 r1 (RO_bind k) fun ds st2 xs H2 F2 k2 a2 s2 r2 v2 => ?_
    exact k2 _ H2 F2 (a1.trans a2) s2 (.cons (Rp.mono (a2.keeps s1) v1) v2)
theorem kw_names {f : E → Expr → Bool} {pos : Pos} {env : PySem.Env} : ∀ {ks : List PySem.Str} {es : List E} {ps : List Keyword}, chkK f ks es ps = true →
    (backToKw pos (keywordEach ps env)).all (·.1.isSome) = true ∧ (backToKw pos (keywordEach ps env)).filterMap (·.1) = ks ∧ (backToKw pos (keywordEach ps env)).any (·.1.isNone) = false ∧ ps.length = ks.length
  | [], [], [], _ => ⟨rfl, rfl, rfl, rfl⟩
  | [], [], _ :: _, h => by cases h
  | [], _ :: _, _, h => by cases h
  | _ :: _, [], _, h => by cases h
  | _ :: _, _ :: _, [], h => by cases h
  | k :: ks, e :: es, ⟨none, p, q⟩ :: ps, h => by cases h
  | k :: ks, e :: es, ⟨some x, p, pq⟩ :: ps, h => by
    have h' : (decide (k = x) && f e p && chkK f ks es ps) = true := h
    rw [Bool.and_eq_true, Bool.and_eq_true] at h'
    obtain rfl : k = x := of_decide_eq_true h'.1.1
    obtain ⟨a, b, c, d⟩ := kw_names (pos := pos) (env := env) h'.2
    refine ⟨?_, ?_, ?_, congrArg (· + 1) d⟩
    · show (true && (backToKw pos (keywordEach ps env)).all (·.1.isSome)) = true
      rw [a]; rfl
    · show k :: (backToKw pos (keywordEach ps env)).filterMap (·.1) = _
      rw [b]
    · show (false || (backToKw pos (keywordEach ps env)).any (·.1.isNone)) = false
      rw [c]; rfl
theorem chkL_len {f : E → Expr → Bool} : ∀ {es : List E} {ps : List Expr}, chkL f es ps = true → es.length = ps.length
  | [], [], _ => rfl
  | [], _ :: _, h => by cases h
  | _ :: _, [], h => by cases h
  | e :: es, p :: ps, h => by
    have h' : (noSt p && f e p && chkL f es ps) = true := h
    rw [Bool.and_eq_true] at h'
    exact congrArg (· + 1) (chkL_len h'.2)
theorem evL_len {es : List E} (hs : ∀ a, .star a ∉ es) : ∀ {env : Env} {st : Store} {K : List D → Store → Prop}, RO (evL T es env st) K → RO (evL T es env st) fun ds st' => K ds st' ∧ ds.length = es.length := by
  induction es with
  | nil => intro env st K q; exact ⟨q, rfl⟩
  | cons e es ih =>
    intro env st K q
    rw [evL_cons (fun a z => hs a (by rw [z]; exact .head _))] at q ⊢
    refine RO_of_bind (RO_mono (RO_bind q) fun d st1 k => RO_of_bind (RO_mono (ih (fun a m => hs a (.tail _ m)) (RO_bind k)) fun ds st2 k => ?_))
    exact ⟨k.1, congrArg (· + 1) k.2⟩
theorem chkL_ns {f : E → Expr → Bool} (hs : ∀ a p, f (.star a) p = false) : ∀ {es : List E} {ps : List Expr}, chkL f es ps = true → ∀ a, .star a ∉ es
  | [], _, _, _, h => by cases h
  | _ :: _, [], h, _, _ => by cases h
  | e :: es, p :: ps, h, a, m => by
    have h' : (noSt p && f e p && chkL f es ps) = true := h
    rw [Bool.and_eq_true, Bool.and_eq_true] at h'
    rcases List.mem_cons.mp m with z | m
    · rw [← z, hs] at h'; cases h'.1.2
    · exact chkL_ns hs h'.2 a m
theorem chkK_ns {f : E → Expr → Bool} (hs : ∀ a p, f (.star a) p = false) : ∀ {ks : List PySem.Str} {es : List E} {ps : List Keyword}, chkK f ks es ps = true → (∀ a, .star a ∉ es) ∧ es.length = ks.length
  | [], [], _, _ => ⟨(fun _ h => by cases h), rfl⟩
  | [], _ :: _, _, h => by cases h
  | _ :: _, [], _, h => by cases h
  | _ :: _, _ :: _, [], h => by cases h
  | k :: ks, e :: es, ⟨none, p, q⟩ :: ps, h => by cases h
  | k :: ks, e :: es, ⟨some x, p, pq⟩ :: ps, h => by
    have h' : (decide (k = x) && f e p && chkK f ks es ps) = true := h
    rw [Bool.and_eq_true, Bool.and_eq_true] at h'
    obtain ⟨h1, h2⟩ := chkK_ns hs h'.2
    refine ⟨fun a m => ?_, congrArg (· + 1) h2⟩
    rcases List.mem_cons.mp m with z | m
    · rw [← z, hs] at h'; cases h'.1.2
    · exact h1 a m
theorem pe_callkE {f : Nat} {es ws : List E} {inv : List Nat} {ks : List PySem.Str} {ps : List Expr} {kws : List Keyword} {x : PySem.Str} {p pos : Pos} (g : Gc G T X) (hm : vp m) (hf : G.fn f = some x) (hx : glB X.env.scope x = true) (hn : nmB x = true) {c : E → Expr → Bool} (hs : ∀ a p, c (.star a) p = false) (hc : chkL c es ps = true) (hck : chkK c ks ws kws = true)
    (hk : (f, es.length, ks, inv) ∈ G.kw) (ha : PA X ps (tA T es)) (hw : PK X kws (tA T ws)) : PE X (.Call (.Name x p) ps kws pos) (tE T false m (.callk f es ws inv ks)) := by
  obtain ⟨a, e1, e2, _, e3⟩ := g.fns f x hf
  have run := e3 _ _ _ hk X ⟨rfl, rfl, rfl, rfl, rfl, rfl⟩
  obtain ⟨n1, n2, n3, n4⟩ := kw_names (pos := pos) (env := X.env) hck
  obtain ⟨w1, w2⟩ := chkK_ns hs hck
  refine ⟨fun pins s σ H Q I q => ?_⟩
  obtain ⟨G0, env, F, st, sr, r, q⟩ := q
  have q : RO ((evL T es env st).bind fun ds st1 => (evL T ws env st1).bind fun zs st2 => (Res.opt (pickAll inv (ds ++ zs)) st2).bind fun xs st3 => (T f xs st3).bind (post m)) _ := q
  refine wpAny_Call_Name_kw (ld_glob I (gl_of hx) e1 ?_ (nm_of hn).1)
  have go : ∀ {us : List Value} {s1 : Shared} {xs : List V} {H1 : Hp} {F1 : List Addr} {st1 : Store} {ds : List D}, L2.Inv X pins σ H1 s1 → Vals xs us → Stp H F H1 F1 → SR H1 F1 st1 → ER G0 σ H1 F1 env → Rps H1 F1 ds xs → ds.length = es.length →
      RO ((evL T ws env st1).bind fun zs st2 => (Res.opt (pickAll inv (ds ++ zs)) st2).bind fun xs st3 => (T f xs st3).bind (post m)) (fun d st' => (false = true → isSeq d) ∧ ∀ x H' F', Stp H F H' F' → SR H' F' st' → OV false m H H' F' d x → Q x H') →
      wpAny (model X.prog X.w) X.A (evalAll ((backToKw pos (keywordEach kws X.env)).map (·.2))) (fun ks' s₂ => X.K.In s₂.heap ∧ wpAny (model X.prog X.w) X.A (PySem.call (.ref a) ([] ++ us) (((backToKw pos (keywordEach kws X.env)).filterMap (·.1)).zip ks')) (EP X pins σ Q) X.xe s₂) X.xe s1 :=
    fun {us s1 xs H1 F1 st1 ds} I1 rv a1 s1' r1 rd hl k => by
      refine thn (hw.run pos pins s1 σ H1 _ I1 (tA_go s1' r1 (evL_len w1 (RO_bind k)) (Q := fun zs H2 => ∃ F2 st2 es2, Stp H1 F1 H2 F2 ∧ SR H2 F2 st2 ∧ Rps H2 F2 es2 zs ∧ es2.length = ws.length ∧
        RO ((Res.opt (pickAll inv (ds ++ es2)) st2).bind fun xs st3 => (T f xs st3).bind (post m)) (fun d st' => (false = true → isSeq d) ∧ ∀ x H' F', Stp H F H' F' → SR H' F' st' → OV false m H H' F' d x → Q x H')) fun es2 st2 zs H2 F2 k2 a2 s2 r2 v2 => ⟨F2, st2, es2, a2, s2, v2, k2.2, k2.1⟩)) fun ws' s2 hq => ?_
      obtain ⟨zs, H2, I2, rz, F2, st2, es2, a2, s2', rz2, hl2, k2⟩ := hq
      obtain ⟨ys, hy, k3⟩ := RO_opt (RO_bind k2)
      rw [n2, List.nil_append]
      have len1 := rv.length
      have len2 := rd.length
      have len3 := rz.length
      have len4 := rz2.length
      refine ⟨I2.kIn, run pins s2 σ H2 us ws' xs zs Q F2 st2 ds es2 ys I2 rv rz s2' (rd.mono (a2.keeps s1')) rz2 (by rw [← len1, ← len2, hl]) (by rw [← len3, ← len4, hl2, w2]) hy ?_⟩
      exact RO_mono (RO_bind k3) fun d st3 k4 x H' F' a3 s3 rx => (post_vp hm k4).2 x H' F' ((a1.trans a2).trans a3) s3 (OVp rx)
  cases ps with
  | nil =>
    cases es with
    | cons => cases hc
    | nil =>
      refine PySem.W.callWith_KW0 (h₀ := X.base) I.ok.mod.kin e2 n1 ?_ n3
      exact go (us := []) (xs := []) (ds := []) I .nil Stp.refl sr r .nil rfl (RO_bind q)
  | cons p0 ps =>
    cases es with
    | nil => cases hc
    | cons e0 es =>
      have hc' : (noSt p0 && c e0 p0 && chkL c es ps) = true := hc
      rw [Bool.and_eq_true, Bool.and_eq_true] at hc'
      refine PySem.W.callWith_KW (h₀ := X.base) I.ok.mod.kin e2 n1 (thn (ha.run pos pins s σ H _ I (tA_go sr r (evL_len (chkL_ns hs hc) (RO_bind q)) (Q := fun xs H1 => ∃ F1 st1 ds, Stp H F H1 F1 ∧ SR H1 F1 st1 ∧ ER G0 σ H1 F1 env ∧ Rps H1 F1 ds xs ∧ ds.length = (e0 :: es).length ∧
        RO ((evL T ws env st1).bind fun zs st2 => (Res.opt (pickAll inv (ds ++ zs)) st2).bind fun xs st3 => (T f xs st3).bind (post m)) (fun d st' => (false = true → isSeq d) ∧ ∀ x H' F', Stp H F H' F' → SR H' F' st' → OV false m H H' F' d x → Q x H')) fun ds st1 xs H1 F1 k a1 s1 r1 v1 => ⟨F1, st1, ds, a1, s1, r1, v1, k.2, k.1⟩)) fun us s1 hq => ?_) (by rw [noStar_any hc, n3]; rfl) (star_cons hc'.1.1)
      obtain ⟨xs, H1, I1, rv, F1, st1, ds, a1, s1', r1, rd, hl, k⟩ := hq
      exact go I1 rv a1 s1' r1 rd hl k
/-! {} -/
theorem seq_dnew {t : Bool} : ∀ env st, RO (evE T (.dnew t) .v env st) (fun _ _ => True) → RO (evE T (.dnew t) .v env st) fun d _ => isSeq d := fun _ _ _ => trivial
theorem pe_dnewF {t : Bool} {pos : Pos} : PE X (.Dict [] [] pos) (tE T true .v (.dnew t)) := by
  cases t with
  | false =>
    refine PE.imp pe_dnewK fun σ H Q q => ?_
    obtain ⟨G, env, F, st, s, r, q⟩ := q
    have q := post_vp (m := .v) trivial (show RO (post .v (.dct false [] []) st) _ from q)
    exact fun p hp => fin_d (b := true) (m := .v) (fun _ => rfl) q Stp.refl s p _ hp (Stp.laid s hp) (s.laid hp) (.dK (kvs := []) upd_same .nil)
  | true =>
    refine PE.imp pe_dnewT fun σ H Q q => ?_
    obtain ⟨G, env, F, st, s, r, q⟩ := q
    have q := post_vp (m := .v) trivial (show RO (post .v (.dct true [] []) st) _ from q)
    exact fun p hp => fin_d (b := true) (m := .v) (fun _ => rfl) q Stp.refl s p _ hp (Stp.laid s hp) (s.laid hp) (.dT (kvs := []) upd_same .nil)
/-! list.index -/
theorem idxOf_some {y : D} : ∀ {l : List D} {i : Nat}, idxOf y l = some i → (∃ z, l[i]? = some z ∧ eqv z y = true) ∧ ∀ (m : Nat) (z : D), m < i → l[m]? = some z → eqv z y = false
  | [], _, h => by cases h
  | d :: ds, i, h => by
    unfold idxOf at h
    by_cases e : eqv d y = true
    · rw [if_pos e] at h
      cases h
      exact ⟨⟨d, rfl, e⟩, fun m z hm _ => absurd hm (Nat.not_lt_zero _)⟩
    · rw [if_neg e] at h
      cases e2 : idxOf y ds with
      | none => rw [e2] at h; cases h
      | some j =>
        rw [e2] at h
        cases h
        obtain ⟨⟨z, h1, h2⟩, h3⟩ := idxOf_some e2
        refine ⟨⟨z, by simpa using h1, h2⟩, fun m z hm hz => ?_⟩
        cases m with
        | zero => simp at hz; subst hz; simpa using e
        | succ m => exact h3 m z (Nat.lt_of_succ_lt_succ hm) (by simpa using hz)
theorem toPys_get : ∀ (l : List D) (i : Nat), (toPys l)[i]? = (l[i]?).map toPy
  | [], _ => by simp [toPys]
  | d :: l, 0 => rfl
  | d :: l, i + 1 => by
    show (toPys l)[i]? = _
    rw [toPys_get l i]
    simp
theorem plains_get {n : Nat} : ∀ {l : List D} {i : Nat} {d : D}, plains n l = true → l[i]? = some d → plain n d = true
  | [], _, _, _, h => by simp at h
  | a :: l, 0, d, h, e => by
    cases e
    rw [plains_cons, Bool.and_eq_true] at h
    exact h.1
  | a :: l, i + 1, d, h, e => by
    rw [plains_cons, Bool.and_eq_true] at h
    exact plains_get h.2 (by simpa using e)
theorem pe_indexE {a e : E} {pa pe : Expr} {ap cp : Pos} (g : Gc G T X) (hm : vp m) (hb : baseB pa = true) (hl : (ap.endLine == cp.line) = true) (hn : noSt pe = true) (ha : PE X pa (tE T false .p a)) (he : PE X pe (tE T false .v e)) :
    PE X (.Call (.Attribute pa "index" ap) [pe] [] cp) (tE T false m (.index a e)) := by
  have un := g.un
  refine PE.imp (pe_bm PySem.F.plainAttrs_list PySem.F.slot_list_index PySem.F.type_list_index (mt_indexD un) ha (pa_cons he pa_nil (star_cons hn)) (base_of hb) ?_ hl (star_cons hn) rfl) fun σ H Q q => ?_
  · rw [star_cons hn]; rfl
  obtain ⟨G0, env, F, st, s, r, q⟩ := q
  have q : RO ((evE T a .p env st).bind fun x st1 => (evE T e .v env st1).bind fun y st2 => (Res.opt (indexD x y) st2).bind (post m)) _ := q
  refine tE_go s r (RO_bind q) fun d st1 x H1 F1 k a1 s1 r1 v1 => ?_
  have isL : ∃ l, d = .lst l := by
    cases d <;> first | exact ⟨_, rfl⟩ | skip
    all_goals
      exfalso
      revert k
      cases evE T e .v env st1 with
      | ok y st2 => intro k; exact k
      | exc => intro k; exact k
      | bad => intro k; exact k
  obtain ⟨l, rfl⟩ := isL
  obtain ⟨p, xs, rfl, rx, t1⟩ := listV (K := X.K) v1
  refine ⟨.inl ⟨rfl, _, t1⟩, tE_go s1 r1 (RO_bind k) fun y st2 w H2 F2 k2 a2 s2 r2 v2 => ?_⟩
  obtain ⟨z, hz, k3⟩ := RO_opt (RO_bind k2)
  have hz : (if (plain 60 y && plains 59 l) = true then (idxOf y l).map fun (i : Nat) => D.int i else none) = some z := hz
  split at hz
  case isFalse => cases hz
  rename_i hp
  rw [Bool.and_eq_true] at hp
  cases ei : idxOf y l with
  | none => rw [ei] at hz; cases hz
  | some i =>
    rw [ei] at hz
    cases hz
    have hpl : plain 60 (.lst l) = true := hp.2
    obtain ⟨b1, b2, b3⟩ := dpk_of (K := X.K) (F := F2) hpl (Pk.step s1 a2 v1)
    obtain ⟨c1, c2, c3⟩ := dpk_of (K := X.K) (F := F2) hp.1 (.inl v2)
    obtain ⟨⟨z, h1, h2⟩, h3⟩ := idxOf_some ei
    refine ⟨p, w, toPy y, toPys l, i, toPy z, rfl, rfl, b1, c1, shaped_of (d := .lst l) b2 b3 (by decide), shaped_of c2 c3 (by decide), by rw [toPys_get, h1]; rfl, ?_, fun n z' hn hz' => ?_, fin_v rfl (post_vp hm k3) (a1.trans a2) s2 (.int _)⟩
    · rw [eqv_of 59 60 z y (plains_get hp.2 h1) hp.1]; exact h2
    · rw [toPys_get] at hz'
      cases e5 : l[n]? with
      | none => rw [e5] at hz'; cases hz'
      | some zz =>
        rw [e5] at hz'
        cases hz'
        rw [eqv_of 59 60 zz y (plains_get hp.2 e5) hp.1]
        exact h3 n zz hn e5
/-! list.count of truths -/
theorem vals_bls : ∀ {bs : List Bool} {us : List Value}, Vals (bs.map V.bl) us → us = bs.map Value.bool
  | [], _, .nil => rfl
  | b :: bs, _, .cons h t => by
    cases (show _ = Value.bool b from h)
    rw [vals_bls t]
    rfl
def rCountB (K : PySem.W.Frag) : V → List V → Hp → VK → Prop := fun x xs H Q => ∃ (a : Addr) (k : Bool) (bs : List Bool), x = V.ref a ∧ xs = [V.bl k] ∧ SqL K H a (bs.map V.bl) ∧ Q (.int ((bs.count k : Nat) : Int)) H
theorem mt_countB : MtR X "list.count" (rCountB X.K) := by
  intro pins s σ H x xs v us Q I rx rxs h
  obtain ⟨a, k, bs, rfl, rfl, hl, q⟩ := h
  cases rx
  cases rxs with
  | cons ry rt =>
    cases rt
    cases (show _ = Value.bool k from ry)
    obtain ⟨its, rv, ⟨⟨cls, dd, data, sls⟩, n, ho, hc, hdn, hdt⟩, hlen⟩ := I.list hl
    simp only at hc hdt
    subst hc hdt
    have e := vals_bls rv
    subst e
    refine call_meets PySem.F.slot_list_count ⟨_, ho, rfl⟩ PySem.F.entry_list_count (PySem.F.args_list_count_2 _ _) (SeqAt.list_countAt a _ n dd sls (.bool k) (isBoolOf k)) ⟨ho, fun y hy => ?_, ?_⟩
    · obtain ⟨b, _, e⟩ := List.mem_map.mp (show y ∈ bs.map Value.bool by simpa using hy)
      subst e
      exact SeqAt.EqAt.bool_bool b k
    · have e : (bs.map Value.bool).toArray.toList.countP (isBoolOf k) = bs.count k := by
        show (bs.map Value.bool).countP (isBoolOf k) = bs.countP (· == k)
        rw [List.countP_map]
        rfl
      rw [e]
      exact ⟨.int ((bs.count k : Nat) : Int), H, I.tok _, ⟨_, rfl⟩, q⟩
theorem pe_countE {a e : E} {pa pe : Expr} {ap cp : Pos} (hm : vp m) (hb : baseB pa = true) (hl : (ap.endLine == cp.line) = true) (hn : noSt pe = true) (ha : PE X pa (tE T false .p a)) (he : PE X pe (tE T false .v e)) :
    PE X (.Call (.Attribute pa "count" ap) [pe] [] cp) (tE T false m (.count a e)) := by
  refine PE.imp (pe_bm PySem.F.plainAttrs_list PySem.F.slot_list_count PySem.F.type_list_count mt_countB ha (pa_cons he pa_nil (star_cons hn)) (base_of hb) ?_ hl (star_cons hn) rfl) fun σ H Q q => ?_
  · rw [star_cons hn]; rfl
  obtain ⟨G0, env, F, st, s, r, q⟩ := q
  have q : RO ((evE T a .p env st).bind fun x st1 => (evE T e .v env st1).bind fun y st2 => (match x, y with | .lst l, .bl k => (match toBls l with | some bs => post m (.int (bs.count k)) st2 | none => .bad) | _, _ => .bad)) _ := q
  refine tE_go s r (RO_bind q) fun d st1 x H1 F1 k a1 s1 r1 v1 => ?_
  have isL : ∃ l, d = .lst l := by
    cases d <;> first | exact ⟨_, rfl⟩ | skip
    all_goals
      exfalso
      revert k
      cases evE T e .v env st1 with
      | ok y st2 => intro k; exact k
      | exc => intro k; exact k
      | bad => intro k; exact k
  obtain ⟨l, rfl⟩ := isL
  obtain ⟨p, xs, rfl, rx, t1⟩ := listV (K := X.K) v1
  refine ⟨.inl ⟨rfl, _, t1⟩, tE_go s1 r1 (RO_bind k) fun y st2 w H2 F2 k2 a2 s2 r2 v2 => ?_⟩
  cases y <;> first | (exact absurd k2 (fun z => z)) | skip
  rename_i b
  have k2 : RO (match toBls l with | some bs => post m (.int (bs.count b)) st2 | none => .bad) _ := k2
  cases eb : toBls l with
  | none => rw [eb] at k2; exact absurd k2 (fun z => z)
  | some bs =>
    rw [eb] at k2
    cases v2
    obtain ⟨p2, xs2, e2, rx2, t2⟩ := listV (K := X.K) (Pk.step s1 a2 v1)
    cases e2
    have ex := rx2.bls eb
    subst ex
    exact ⟨p, b, bs, rfl, rfl, t2, fin_v rfl (post_vp hm k2) (a1.trans a2) s2 (.int _)⟩
end
end LB
/-! LB12c: {k: v}, dict comprehensions, sum(d.values()). -/
namespace LB
open PySem PySem.Spec PyProof.Rows L2
variable [Clx]
section
variable {X : Cx} {G : Sig} {T : Tab} {m : Md}
theorem key_ite {c : Bool} {r : Res D} {Q : D → Store → Prop} (h : RO (if c = true then r else .bad) Q) : c = true ∧ RO r Q := ite_bad h
theorem seq_dct1 {t : Bool} {k v : E} : ∀ env st, RO (evE T (.dct1 t k v) .v env st) (fun _ _ => True) → RO (evE T (.dct1 t k v) .v env st) fun d _ => isSeq d := fun env st q => by
  refine RO_of_bind (RO_mono (RO_bind q) fun y st1 k1 => RO_of_bind (RO_mono (RO_bind k1) fun z st2 k2 => ?_))
  obtain ⟨h, _⟩ := key_ite k2
  rw [if_pos h]
  trivial
/-- a dict of one's own changes in place -/
theorem own_upd {H0 H2 : Hp} {F0 F2 : List Addr} {st2 : Store} {p : Addr} {o u : HO} (hp : H0 p = none) (a : Stp H0 F0 H2 F2) (s : SR H2 F2 st2) (e : H2 p = some o) (t1 : ∀ xs, o ≠ .tup xs) (t2 : NF o) (nf : p ∉ F2) :
    Stp H0 F0 (upd H2 p u) F2 ∧ SR (upd H2 p u) F2 st2 ∧ Kps H2 F2 (upd H2 p u) F2 :=
  ⟨a.updN e t2 (.of hp), s.other e t1 t2 nf, keeps_upd e t1 t2⟩
theorem stp_back {H0 H1 H2 : Hp} {F0 F2 : List Addr} {p : Addr} {o : HO} (hp : H0 p = none) (e : H1 = upd H0 p o) (a : Stp H1 F0 H2 F2) : Stp H0 F0 H2 F2 := by
  subst e
  refine ⟨a.pre, fun x h => ?_, fun x w h hn nt => a.ext x w (by rw [upd_ne (ne_of_none h hp)]; exact h) hn nt, fun t => a.tab (tabs_new hp t)⟩
  rcases a.new x h with h | h
  · exact .inl h
  · refine .inr ?_
    by_cases z : x = p
    · rw [z]; exact .of hp
    · exact fun o q => h o (by rw [upd_ne z]; exact q)
theorem pe_dct1F {t : Bool} {k v : E} {pk pv : Expr} {pos : Pos} (g : Gc G T X) (hk : PE X pk (tE T false .v k)) (hv : PE X pv (tE T false .v v)) : PE X (.Dict [some pk] [pv] pos) (tE T true .v (.dct1 t k v)) := by
  have un := g.un
  cases t with
  | false =>
    refine PE.imp (pe_disp (pps_cons hk hv pps_nil) rfl rfl (fun z => nomatch z) (show 1 ≤ 15 by decide)) fun σ H Q q => ?_
    obtain ⟨G0, env, F, st, s, r, q⟩ := q
    intro p hp
    have a0 : Stp H F (upd H p (.dK [])) F := Stp.laid s hp
    have s0 : SR (upd H p (.dK [])) F st := s.laid hp
    refine tE_go s0 (r.step s a0) (RO_bind q) fun y st1 w H1 F1 k1 a1 s1 r1 v1 => tE_go s1 r1 (RO_bind k1) fun z st2 zv H2 F2 k2 a2 s2 r2 v2 => ?_
    obtain ⟨hky, k3⟩ := key_ite k2
    obtain ⟨ky, rfl, rfl⟩ := keyK (show keyT y = true from hky) (Rp.mono (a2.keeps s1) v1)
    have nf1 : p ∉ F1 := a1.back upd_same (s0.not upd_same fun _ z => nomatch z) (fun _ z => nomatch z)
    have e1 : H1 p = some (.dK []) := a1.ext p _ upd_same (s0.not upd_same fun _ z => nomatch z) (fun _ z => nomatch z)
    have nf2 : p ∉ F2 := a2.back e1 nf1 (fun _ z => nomatch z)
    have e2 : H2 p = some (.dK []) := a2.ext p _ e1 nf1 (fun _ z => nomatch z)
    refine ⟨e2, [(ky, zv)], rfl, (show 1 ≤ 15 by decide), ?_⟩
    obtain ⟨a3, s3, kp⟩ := own_upd (u := .dK (mergeK [] [(ky, zv)])) hp (stp_back hp rfl (a1.trans a2)) s2 e2 (fun _ z => nomatch z) .dK nf2
    exact (post_vp (m := .v) trivial k3).2 (.ref p) _ F2 a3 s3 ⟨p, rfl, .of hp, .dK (kvs := [(ky, zv)]) upd_same (.cons (Rp.mono kp v2) .nil), nf2⟩
  | true =>
    refine ⟨fun pins sh σ H Q I q => ?_⟩
    obtain ⟨G0, env, F, st, s, r, q⟩ := q
    have hp : H sh.heap.objs.size = none := I.hok.fresh (Nat.le_refl _)
    have I1 := I.laid (a := sh.heap.objs.size) (o := .dT []) (h' := sh.heap.push { cls := .type "dict", data := .dict #[] }) (t' := sh.toks) (fun _ _ q => Heap.get?_push_of_some _ q) (Nat.le_refl _) (dt_empty sh.heap I.big)
    generalize ep : sh.heap.objs.size = p at hp I1
    have a0 : Stp H F (upd H p (.dT [])) F := Stp.laid s hp
    have s0 : SR (upd H p (.dT [])) F st := s.laid hp
    refine wpAny_Dict_any rfl rfl (fun z => nomatch z) (show 1 ≤ 15 by decide) ?_
    refine thn ((pps_cons hk hv pps_nil).run pins _ σ (upd H p (.dT [])) (fun ps H2 => ∃ y z w zv F2 st2, ps = [(w, zv)] ∧ Stp H F H2 F2 ∧ SR H2 F2 st2 ∧ H2 p = some (.dT []) ∧ p ∉ F2 ∧ Rp H2 F2 y w ∧ Rp H2 F2 z zv ∧ keyB true y = true ∧
      ∀ x H' F', Stp H F H' F' → SR H' F' st2 → OV true .v H H' F' (.dct true [y] [z]) x → Q x H') (by rw [← ep] at I1 ⊢; exact I1) ?_) fun us s1 hq => ?_
    · refine tE_go s0 (r.step s a0) (RO_bind q) fun y st1 w H1 F1 k1 a1 s1 r1 v1 => tE_go s1 r1 (RO_bind k1) fun z st2 zv H2 F2 k2 a2 s2 r2 v2 => ?_
      obtain ⟨hky, k3⟩ := key_ite k2
      have nf1 : p ∉ F1 := a1.back upd_same (s0.not upd_same fun _ z => nomatch z) (fun _ z => nomatch z)
      have e1 : H1 p = some (.dT []) := a1.ext p _ upd_same (s0.not upd_same fun _ z => nomatch z) (fun _ z => nomatch z)
      exact ⟨y, z, w, zv, F2, st2, rfl, stp_back hp rfl (a1.trans a2), s2, a2.ext p _ e1 nf1 (fun _ z => nomatch z), a2.back e1 nf1 (fun _ z => nomatch z), Rp.mono (a2.keeps s1) v1, v2, hky, (post_vp (m := .v) trivial k3).2⟩
    · obtain ⟨ps, H2, I2, rel, y, z, w, zv, F2, st2, rfl, a2, s2, e2, nf2, ry, rz, hky, k3⟩ := hq
      cases rel with
      | cons rr rt =>
        rename_i uv us
        cases rt
        obtain ⟨ku, vu⟩ := uv
        obtain ⟨rk, rv⟩ := rr
        rw [ep]
        cases y <;> first | (cases hky; done) | skip
        rename_i l
        cases ry with
        | tup eb rl =>
          rename_i b xs
          obtain ⟨ks, rfl, rfl⟩ := keysT hky rl
          cases (show ku = Value.ref b from rk)
          obtain ⟨zz, hd, xs, rel, dd⟩ := dt_of I2.hok e2
          have x0 : xs = [] := by
            have := Paired.length rel
            exact List.length_eq_zero_iff.mp this.symm
          subst x0
          unfold storeAll
          rw [List.forIn_cons]
          refine wpAny_bind (wpAny_bind (wpAny_dictSet_heap (hsz := Nat.zero_le _) (show X.A.units < cLine by omega) (key_of I2.hok eb) dd fun h' dd' hs => wpAny_pure ?_))
          simp only [List.forIn_nil]
          refine wpAny_pure ?_
          obtain ⟨ob, es, n, hq, h2, h3, h4, _, h5⟩ := dd'
          have J := d_write (t' := s1.toks + (tupleKind (mixKind X.prog X.w)).draws ks) (ob := .dT (putK [] ks zv)) I2 (by rw [e2]; trivial) hs ⟨ob, hq⟩ ⟨(show 1 ≤ sizeLine by rw [sizeLine_eq]; decide), hd, _, (rel.put ks eb rv).keeps fun c ys ec => by rw [upd_ne (ne_of ec e2 (fun z => nomatch z))]; exact ec, ob, es, n, hq, h2, h3, h4, h5⟩
          obtain ⟨a3, s3, kp⟩ := own_upd (u := .dT (putK [] ks zv)) hp a2 s2 e2 (fun _ z => nomatch z) .dT nf2
          exact ⟨.ref p, _, J, rfl, k3 (.ref p) _ F2 a3 s3 ⟨p, rfl, .of hp, .dT (kvs := [(ks, zv)]) upd_same (.cons (Rp.mono kp rz) .nil), nf2⟩⟩
/-! {k: v for ..} -/
theorem dc_it {J : It} {n : Nat} {P : Hp → Prop} {Y : Nat → Hp → V → Hp → Prop} (w : Walk J n P Y) {g : TG} {tt : TT} {tk tv : TE} {own : List Nat} {σ : L2.St} {H1 : Hp} {Dn : Addr} {Qd : Hp → Prop} (Pv : Nat → Hp → Prop) (h0 : Pv 0 (L2.upd H1 Dn (.dK []))) (hG : ∀ i H, i ≤ n → Pv i H → P H)
    (hs : ∀ i x H H', i < n → Pv i H → Y i H x H' → g x (L2.wipe σ own) H' fun σ2 H2 => L2.wipe σ2 own = L2.wipe σ own ∧ tt σ2 H2 fun b H3 =>
      if b = true then tk σ2 H3 fun y H4 => tv σ2 H4 fun z H5 => ∃ kvs k, y = kV k ∧ H5 Dn = some (.dK kvs) ∧ kvs.length < sizeLine ∧ Pv (i + 1) (L2.upd H5 Dn (.dK (putK kvs k z))) else Pv (i + 1) H3) (hd : ∀ H, Pv n H → Qd H) :
    ∃ W : Nat → Nat → Hp → Prop, (∃ m, W 0 m (L2.upd H1 Dn (.dK []))) ∧ ∀ i m H, W i m H →
      (J.stop i H ∧ Qd H) ∨ (J.go i H ∧ ∃ Nx : Hp → Prop, (∀ H', Nx H' → ∃ m', m' < m ∧ W (i + 1) m' H') ∧ ∀ x H', J.yld i H x H' → g x (L2.wipe σ own) H' fun σ2 H2 => L2.wipe σ2 own = L2.wipe σ own ∧ tt σ2 H2 fun b H3 =>
        if b = true then tk σ2 H3 fun y H4 => tv σ2 H4 fun z H5 => ∃ kvs k, y = kV k ∧ H5 Dn = some (.dK kvs) ∧ kvs.length < sizeLine ∧ Nx (L2.upd H5 Dn (.dK (putK kvs k z))) else Nx H3) := by
  refine ⟨fun i m H => m + i = n ∧ Pv i H, ⟨n, rfl, h0⟩, ?_⟩
  rintro i m H ⟨hm, p⟩
  have q := hG i H (by omega) p
  cases m with
  | zero =>
    have e : i = n := by omega
    subst e
    exact .inl ⟨w.stops H q, hd H p⟩
  | succ m =>
    have hlt : i < n := by omega
    exact .inr ⟨w.goes i H hlt q, Pv (i + 1), fun H' p' => ⟨m, Nat.lt_succ_self _, by omega, p'⟩, fun x H' y => hs i x H H' hlt p (w.yields i H x H' hlt q y)⟩
theorem mergeP_snoc (l : List D) (a : List D × List D) (k v : D) : mergeP (l ++ [.tup [k, v]]) a = putD (mergeP l a).1 (mergeP l a).2 k v := by
  unfold mergeP
  rw [List.foldl_append]
  rfl
theorem seq_dcomp {k v it : E} {tg : Tg} {own : List (PySem.Str × Nat)} : ∀ env st, RO (evE T (.dcomp k v tg it own) .v env st) (fun _ _ => True) → RO (evE T (.dcomp k v tg it own) .v env st) fun d _ => isSeq d := fun env st q => by
  refine RO_of_bind (RO_mono (RO_bind q) fun d st1 k1 => ?_)
  cases d <;> first | exact k1.elim | skip
  refine RO_of_bind (RO_mono (RO_bind k1) fun r st2 k2 => ?_)
  obtain ⟨h, _⟩ := key_ite k2
  rw [if_pos h]
  trivial
theorem dcomp_read {kx vx it : E} {tg : Tg} {own : List (PySem.Str × Nat)} {σ : L2.St} {H : Hp} {Q : VK} (q : tE T true .v (.dcomp kx vx tg it own) σ H Q) :
    tDc (tI T it) (tG (own.map (·.2)) tg) (tCs T []) (tE T false .v kx) (tE T false .v vx) (own.map (·.2)) σ H Q := by
  obtain ⟨G0, env, F, st, sr, r, q⟩ := q
  refine ⟨G0, env, F, st, sr, r, RO_mono (RO_bind q) fun d st1 k => ?_⟩
  cases d <;> first | exact k.elim | skip
  rename_i ds
  refine ⟨ds, rfl, fun J H1 F1 a1 s1 itd Dn hD => ?_⟩
  have r1 := r.step sr a1
  obtain ⟨P, Y, w, hP, hY⟩ := itd
  let f : D → Store → Res (Option D) := fun d st => match setTg (wipe env (own.map (·.2))) tg d with
    | some env' => (evE T kx .v env' st).bind fun y st2 => (evE T vx .v env' st2).bind fun z st3 => if keyT y then .ok (some (D.tup [y, z])) st3 else .bad
    | none => .bad
  have k : RO ((compM f ds st1).bind fun r st2 => if lenOk ds.length then post .v (mergeD r) st2 else .bad) _ := k
  obtain ⟨res, st2, ec, k⟩ := RO_ex' (RO_bind k)
  obtain ⟨hlen, k⟩ := key_ite k
  have nD : ∀ a o, H1 a = some o → a ≠ Dn := fun a o h => ne_of_none h hD
  refine dc_it w (fun i H' => ∃ F' st' kvs vs acc rest, Stp H1 F1 H' F' ∧ SR H' F' st' ∧ H' Dn = some (.dK kvs) ∧ Dn ∉ F' ∧ Rps H' F' vs (kvs.map (·.2)) ∧ kvs.length ≤ i ∧ mergeP acc ([], []) = (kvs.map (fun kv => kD kv.1), vs) ∧ compM f (ds.drop i) st' = .ok rest st2 ∧ acc ++ rest = res) ?_ ?_ ?_ ?_
  · exact ⟨F1, st1, [], [], [], res, Stp.laid s1 hD, s1.laid hD, upd_same, s1.notNew hD, .nil, Nat.le_refl _, rfl, ec, rfl⟩
  · rintro i H' hi ⟨F', st', kvs, vs, acc, rest, a2, _⟩
    exact hP H' F' (a2.keeps s1)
  · rintro i x H2 H3 hi ⟨F2, st', kvs, vs, acc, rest, a2, s2, hd, nd, ra, la, em, ecm, er⟩ y
    obtain ⟨d, e1, a3, s3, rx⟩ := hY i H2 F2 x H3 st' (a2.keeps s1) s2 y hi
    have a13 := a2.trans a3
    have hd3 : H3 Dn = some (.dK kvs) := a3.ext _ _ hd nd NF.dK.tbl
    rw [List.drop_eq_getElem_cons hi] at ecm
    have ed : ds[i] = d := by
      rw [List.getElem?_eq_getElem hi] at e1
      exact Option.some.inj e1
    rw [ed] at ecm
    obtain ⟨o, st3, rest', ef, ecm', er'⟩ := compM_cons ecm
    have r3 := ((r1.step s1 a2).step s2 a3).wipe (own.map (·.2))
    have ef : (match setTg (wipe env (own.map (·.2))) tg d with
      | some env' => (evE T kx .v env' st').bind fun y st2 => (evE T vx .v env' st2).bind fun z st3 => if keyT y then Res.ok (some (D.tup [y, z])) st3 else .bad
      | none => .bad) = .ok o st3 := ef
    cases et : setTg (wipe env (own.map (·.2))) tg d with
    | none => rw [et] at ef; cases ef
    | some env' =>
      rw [et] at ef
      refine ⟨G0, _, F2, d, env', r3, rx, et, fun σ2 r4 oi => ⟨wipe_eq oi, ?_⟩⟩
      refine ⟨G0, env', F2, st', s3, r4, ?_⟩
      intro H4 F4 a4 s4
      rw [if_pos rfl]
      have ef : ((evE T kx .v env' st').bind fun y st2 => (evE T vx .v env' st2).bind fun z st3 => if keyT y then Res.ok (some (D.tup [y, z])) st3 else .bad) = .ok o st3 := ef
      have efR : RO ((evE T kx .v env' st').bind fun y st2 => (evE T vx .v env' st2).bind fun z st3 => if keyT y then Res.ok (some (D.tup [y, z])) st3 else .bad) fun o' s' => o' = o ∧ s' = st3 := by rw [ef]; exact ⟨rfl, rfl⟩
      refine tE_go s4 (r4.step s3 a4) (RO_bind efR) fun yd st4 yv H5 F5 k4 a5 s5 r5 v5 => tE_go s5 r5 (RO_bind k4) fun zd st5 zv H6 F6 k5 a6 s6 r6 v6 => ?_
      obtain ⟨hky, k6⟩ := ite_bad k5
      obtain ⟨e6, e7⟩ := (show some (D.tup [yd, zd]) = o ∧ st5 = st3 from k6)
      subst e6 e7
      obtain ⟨kk, rfl, rfl⟩ := keyK hky v5
      have hd4 : H4 Dn = some (.dK kvs) := a4.ext _ _ hd3 nd NF.dK.tbl
      have nd4 : Dn ∉ F4 := a4.back hd3 nd NF.dK.tbl
      have hd5 : H5 Dn = some (.dK kvs) := a5.ext _ _ hd4 nd4 NF.dK.tbl
      have nd5 : Dn ∉ F5 := a5.back hd4 nd4 NF.dK.tbl
      have hd6 : H6 Dn = some (.dK kvs) := a6.ext _ _ hd5 nd5 NF.dK.tbl
      have nd6 : Dn ∉ F6 := a6.back hd5 nd5 NF.dK.tbl
      have a16 := ((a13.trans a4).trans a5).trans a6
      obtain ⟨a7, s7, kp⟩ := own_upd (u := .dK (putK kvs kk zv)) hD a16 s6 hd6 (fun _ z => nomatch z) .dK nd6
      have ra6 : Rps H6 F6 vs (kvs.map (·.2)) := ((((ra.mono (a3.keeps s2)).mono (a4.keeps s3)).mono (a5.keeps s4)).mono (a6.keeps s5))
      obtain ⟨p1, p2⟩ := put_of (f := kD) beq_kD (k := kk) v6 ra6
      have lk : (putK kvs kk zv).length ≤ kvs.length + 1 := length_putK kvs kk zv
      refine ⟨kvs, kk, rfl, hd6, ?_, F6, _, putK kvs kk zv, (putD (kvs.map fun kv => kD kv.1) vs (kD kk) zd).2, acc ++ [.tup [kD kk, zd]], rest', a7, s7, upd_same, nd6, p2.mono kp, by omega, ?_, ecm', ?_⟩
      · exact Nat.lt_of_le_of_lt la (Nat.lt_of_lt_of_le hi (sz_ok hlen))
      · rw [mergeP_snoc, em, ← p1]
      · rw [← er, er', List.append_assoc]; rfl
  · rintro H2 ⟨F2, st', kvs, vs, acc, rest, a2, s2, hd, nd, ra, la, em, ecm, er⟩
    rw [List.drop_length] at ecm
    cases ecm
    rw [List.append_nil] at er
    subst er
    have e : mergeD acc = .dct false (kvs.map fun kv => kD kv.1) vs := by unfold mergeD; rw [em]
    have k2 := (post_vp (m := .v) trivial k).2
    rw [e] at k2
    exact k2 _ H2 F2 (a1.trans a2) s2 ⟨Dn, rfl, mem_none a1 s1 hD, .dK hd ra, nd⟩
theorem pe_dcompF {kx vx it : E} {tg : Tg} {own : List (PySem.Str × Nat)} {pk pv ptg pit : Expr} {scope : Scope} {pos : Pos} (g : Gc G T X) (hh : G.hot = false) (hb : blkC X.N X.env.scope scope own = true) (hi : PI X ptg pit (tI T it)) (hset : noSet pit = true)
    (hg : ∀ (s : Shared) (H : Hp) (C : Addr) (cl : List (PySem.Str × Addr)) (fp : List Addr), PG (X.blk s H scope (compEnvC scope cl C X.env) fp) ptg (tG (own.map (·.2)) tg))
    (hk : ∀ (s : Shared) (H : Hp) (C : Addr) (cl : List (PySem.Str × Addr)) (fp : List Addr), PE (X.blk s H scope (compEnvC scope cl C X.env) fp) pk (tE T false .v kx))
    (he : ∀ (s : Shared) (H : Hp) (C : Addr) (cl : List (PySem.Str × Addr)) (fp : List Addr), PE (X.blk s H scope (compEnvC scope cl C X.env) fp) pv (tE T false .v vx)) :
    PE X (.DictComp pk pv [⟨ptg, pit, [], 0⟩] scope pos) (tE T true .v (.dcomp kx vx tg it own)) := by
  have hs : ∀ x, foldedSetIterable pit X.env x = pure x := by
    intro x
    cases pit <;> first | rfl | (cases hset; done)
  exact PE.imp (pe_dc (g.calm hh) g.nd hi (blkOk_by hb) hg (fun _ _ _ _ _ => pts_nilE) hk he hs) fun σ H Q q => dcomp_read q
/-! sum(d.values()) -/
theorem Rps.intAt {H : Hp} {F : List Addr} {ds : List D} {xs : List V} {ns : List Int} (r : Rps H F ds xs) (h : toInts ds = some ns) : xs = ns.map V.int := r.ints h
theorem preSum_list (ns : List Int) : ∀ n : Nat, n ≤ ns.length → preSum (fun i => ns.getD i 0) n = (ns.take n).sum
  | 0, _ => by simp [preSum]
  | n + 1, h => by
    have hn : n < ns.length := h
    rw [preSum, preSum_list ns n (by omega), List.take_add_one, List.getElem?_eq_getElem hn, List.sum_append]
    simp [List.getD_eq_getElem?_getD, List.getElem?_eq_getElem hn]
theorem pe_sumvE {a : E} {pa : Expr} {p pos ap cp : Pos} (g : Gc G T X) (hh : G.hot = false) (hmm : vp m) (hx : glB X.env.scope "sum" = true) (hb : baseB pa = true) (hl : (ap.endLine == cp.line) = true) (ha : PE X pa (tE T false .v a)) :
    PE X (.Call (.Name "sum" p) [.Call (.Attribute pa "values" ap) [] [] cp] [] pos) (tE T false m (.sumv a)) := by
  have bl : ∀ n ∈ bltNames, X.mg n = none := g.blt
  refine ⟨fun pins s σ H Q I q => ?_⟩
  obtain ⟨G0, env, F, st, sr, r, q⟩ := q
  have q : RO ((evE T a .v env st).bind fun x st1 => (Res.opt (sumvD x) st1).bind (post m)) _ := q
  refine wpAny_Call_Name_kw (ld_blt I (gl_of hx) (bl _ (by decide)) (u := .builtin "sum") (by decide +kernel) ?_ (by decide +kernel) (by decide +kernel))
  rw [show starEach [Expr.Call (.Attribute pa "values" ap) [] [] cp] X.env = [(false, eval (Expr.Call (.Attribute pa "values" ap) [] [] cp) X.env)] from rfl]
  refine PySem.callWith_builtin1 (wpAny_Call_method0_late (base_of hb) hl (thn (ha.run pins s σ H (fun x H1 => ∃ F1 st1 d z, Stp H F H1 F1 ∧ SR H1 F1 st1 ∧ Rp H1 F1 d x ∧ sumvD d = some z ∧ RO (post m z st1) (fun d st' => (false = true → isSeq d) ∧ ∀ x H' F', Stp H F H' F' → SR H' F' st' → OV false m H H' F' d x → Q x H')) I ?_) fun v s1 hq => ?_))
  · refine tE_go sr r (RO_bind q) fun d st1 x H1 F1 k a1 s1 r1 v1 => ?_
    obtain ⟨z, hz, k2⟩ := RO_opt (RO_bind k)
    exact ⟨F1, st1, d, z, a1, s1, v1, hz, k2⟩
  · obtain ⟨x, H1, I1, rx, F1, st1, d, z, a1, s1', v1, hz, k2⟩ := hq
    cases d <;> first | (cases hz; done) | skip
    rename_i t ks vs0
    cases t with
    | true => cases hz
    | false =>
      have hz : (toInts vs0).map (fun ns => D.int ns.sum) = some z := hz
      cases ei : toInts vs0 with
      | none => rw [ei] at hz; cases hz
      | some ns =>
        rw [ei] at hz
        cases hz
        cases v1 with
        | dK e rv =>
          rename_i da o kvs
          cases (show v = Value.ref da from rx)
          obtain ⟨ns1, hgd, hx1, es, ep, vs, hdt, hsz, kv, dat⟩ := I1.frzK e
          obtain ⟨ob, ho, rest⟩ := id dat
          have dct := dat.dictOf
          refine ⟨"dict", "dict.values", PySem.F.plainAttrs_dict, PySem.F.slot_dict_values, PySem.F.type_dict_values, dct.typeIs, dct.mapOf.noDict, Calls.callWith_builtin rfl (PySem.evalArgs_none ?_)⟩
          refine call_meetsIn PySem.F.slot_dict_values dct.typeIs PySem.F.entry_dict_values (PySem.F.args_dict_values_1 _) (meets_dict_values (mixKind X.prog X.w) da ns1) ⟨⟨vs, dct⟩, ?_⟩
          have k1 : ∀ b u, s1.heap.get? b = some u → (s1.heap.push { cls := .type "dict_values", data := .fields #[.ref da] }).get? b = some u := fun b u e => Heap.get?_push_of_some _ e
          have lt : da < s1.heap.objs.size := Heap.lt_size hgd
          have sz1 : (s1.heap.push { cls := .type "dict_values", data := .fields #[.ref da] }).objs.size = s1.heap.objs.size + 1 := Heap.size_push _ _
          have ev : kvs.map (·.2) = ns.map V.int := rv.ints ei
          have lv : vs.length = ns.length := by
            have l1 := congrArg List.length ev
            rw [List.length_map, List.length_map] at l1
            have l2 : kvs.length = vs.length := Paired.length kv
            omega
          have val : ∀ (i : Nat) (u : Value), (∃ k, vs[i]? = some (k, u)) → ∃ t, u = Value.int (ns.getD i 0) t := fun i u ⟨k, hk⟩ => by
            obtain ⟨xv, h1, h2⟩ := KV.at' kv hk
            have e1 : (kvs.map (·.2))[i]? = some xv := by rw [List.getElem?_map, h1]; rfl
            rw [ev, List.getElem?_map] at e1
            cases e2 : ns[i]? with
            | none => rw [e2] at e1; cases e1
            | some j =>
              rw [e2] at e1
              cases e1
              obtain ⟨t, h3⟩ := h2
              exact ⟨t, by rw [h3, List.getD_eq_getElem?_getD, e2]; rfl⟩
          refine call_sum_walkAnyS (wpAny_pyIter_values (v := s1.heap.objs.size) (d := da) ⟨_, Heap.get?_push_size _ rfl, rfl, rfl⟩ (dat.keep k1) ?_)
          refine ⟨_, _, _, _, _, _, _, _, rfl, (Walks.dictValues (knd := mixKind X.prog X.w) (A := X.A.in1) (I.ok.hd (g.calm hh)) (s1.heap.push { cls := .type "dict_values", data := .fields #[.ref da] }).objs.size da (by rw [sz1]; exact Nat.ne_of_lt (Nat.lt_succ_of_lt lt)) vs ep).toS,
            ⟨⟨_, Heap.get?_push_size _ rfl, rfl, rfl⟩, (dat.keep k1).keep fun b u e => Heap.get?_push_of_some _ e⟩, fun b hb => ?_, val, fun s2 t' hm => ?_⟩
          · show b < ((s1.heap.push _).push _).objs.size
            rw [Heap.size_push, Heap.size_push]
            rcases List.mem_cons.mp hb with z | hb
            · rw [z, sz1]; exact Nat.lt_succ_self _
            · rw [List.mem_singleton.mp hb]; exact Nat.lt_succ_of_lt (Nat.lt_succ_of_lt lt)
          · rw [lv, preSum_list ns _ (Nat.le_refl _), List.take_length]
            have J : L2.Inv X pins σ H1 s2 := by
              obtain ⟨hh, gg, dd, tk, os⟩ := s2
              have q1 : gg = s1.gens := hm.gens
              have q2 : dd = s1.drawn := hm.drawn
              have q3 : os = s1.os := hm.os
              subst q1 q2 q3
              refine I1.kept (t' := tk) fun b u z => hm.heap b u (fun hmem => ?_) (Heap.get?_push_of_some _ (k1 b u z))
              have e1 := List.mem_singleton.mp hmem
              have e2 := Heap.lt_size z
              rw [sz1] at e1
              rw [e1] at e2
              exact absurd e2 (Nat.not_lt.mpr (Nat.le_succ _))
            exact ⟨.int _, H1, J, ⟨_, rfl⟩, fin_v rfl (post_vp hmm k2) a1 s1' (.int _)⟩
end
end LB
/-! LB10d: calls that may raise; isinstance of exceptions. -/
namespace LB
open PySem PySem.Spec PyProof.Rows L2
variable [Clx]
/-- a call's reading, what it raises told -/
def tEX (W : WX) (T : Tab) (f : Nat) (es : List E) : TE := fun σ H Q => ∃ G env F st, SR H F st ∧ ER G σ H F env ∧
  RO (evL T es env st) fun ds st1 => RX (T f ds st1) (fun d st' => ∀ x H' F', Stp H F H' F' → SR H' F' st' → Rp H' F' d x → Q x H') (fun c as st' => ∀ cls d H' F', Stp H F H' F' → SR H' F' st' → IsX c as cls d H' → W cls d σ H')
theorem RX_mono {α : Type} {r : Res α} {Q Q' : α → Store → Prop} {Z Z' : Nat → List D → Store → Prop} (h : RX r Q Z) (k : ∀ a st, Q a st → Q' a st) (k' : ∀ c as st, Z c as st → Z' c as st) : RX r Q' Z' := by
  cases r with
  | ok a st => exact k a st h
  | exc c as st => exact k' c as st h
  | bad => exact h
theorem RX_bind {α β : Type} {r : Res α} {f : α → Store → Res β} {Q : β → Store → Prop} {Z : Nat → List D → Store → Prop} (h : RX (r.bind f) Q Z) : RX r (fun a st => RX (f a st) Q Z) Z := by
  cases r <;> exact h
theorem RO_RX {α : Type} {r : Res α} {Q : α → Store → Prop} (h : RO r Q) : RX r Q fun _ _ _ => False := by
  cases r <;> exact h
theorem RX_RO {α : Type} {r : Res α} {Q : α → Store → Prop} (h : RX r Q fun _ _ _ => False) : RO r Q := by
  cases r <;> exact h
section
variable {X : Cx} {G : Sig} {T : Tab} {m : Md}
theorem pe_callX {W : WX} {f : Nat} {a : Addr} {es : List E} {ps : List Expr} {x : PySem.Str} {p pos : Pos} (run : RunX X T f a) (e1 : X.mg x = some (.ref a)) (e2 : PySem.W.keepIn X.K (.ref a) = true) (hx : glB X.env.scope x = true) (hn : nmB x = true)
    {c : E → Expr → Bool} (hc : chkL c es ps = true) (ha : PA X ps (tA T es)) (tk : Takes X W) : PE X (.Call (.Name x p) ps [] pos) (tEX W T f es) := by
  refine ⟨fun pins s σ H Q I q => ?_⟩
  obtain ⟨G0, env, F, st, sr, r, q⟩ := q
  refine wpAny_Call_Name_kw (ld_glob I (gl_of hx) e1 ?_ (nm_of hn).1)
  have go : ∀ {us : List Value} {s1 : Shared} {xs : List V} {H1 : Hp} {F1 : List Addr} {st1 : Store} {ds : List D}, L2.Inv X pins σ H1 s1 → Vals xs us → Stp H F H1 F1 → SR H1 F1 st1 → Rps H1 F1 ds xs →
      RX (T f ds st1) (fun d st' => ∀ x H' F', Stp H F H' F' → SR H' F' st' → Rp H' F' d x → Q x H') (fun c as st' => ∀ cls d H' F', Stp H F H' F' → SR H' F' st' → IsX c as cls d H' → W cls d σ H') → wpAny (model X.prog X.w) X.A (PySem.call (.ref a) us) (EP X pins σ Q) X.xe s1 :=
    fun {us s1 xs H1 F1 st1 ds} I1 rv a1 s1' rd k => run W pins s1 σ H1 us xs Q F1 st1 ds tk I1 rv s1' rd (RX_mono k (fun d st2 k2 x H' F' a2 s2 rx => k2 x H' F' (a1.trans a2) s2 rx) fun c as st2 k2 cls d H' F' a2 s2 rx => k2 cls d H' F' (a1.trans a2) s2 rx)
  cases ps with
  | nil =>
    cases es with
    | cons => cases hc
    | nil => exact PySem.W.callWith_K0 I.kIn e2 (go (us := []) (xs := []) (ds := []) I .nil Stp.refl sr .nil q)
  | cons p0 ps =>
    cases es with
    | nil => cases hc
    | cons e0 es =>
      have hc' : (noSt p0 && c e0 p0 && chkL c es ps) = true := hc
      rw [Bool.and_eq_true, Bool.and_eq_true] at hc'
      refine PySem.W.callWith_K (h₀ := X.base) I.ok.mod.kin e2 (thn (ha.run pos pins s σ H _ I (tA_go sr r q (Q := fun xs H1 => ∃ F1 st1 ds, Stp H F H1 F1 ∧ SR H1 F1 st1 ∧ Rps H1 F1 ds xs ∧
        RX (T f ds st1) (fun d st' => ∀ x H' F', Stp H F H' F' → SR H' F' st' → Rp H' F' d x → Q x H') (fun c as st' => ∀ cls d H' F', Stp H F H' F' → SR H' F' st' → IsX c as cls d H' → W cls d σ H')) fun ds st1 xs H1 F1 k a1 s1 r1 v1 => ⟨F1, st1, ds, a1, s1, v1, k⟩)) fun us s1 hq => ?_) (star_cons hc'.1.1) (noStar_any hc'.2)
      obtain ⟨xs, H1, I1, rv, F1, st1, ds, a1, s1', rd, k⟩ := hq
      exact ⟨I1.kIn, go I1 rv a1 s1' rd k⟩
/-! isinstance(e, C) -/
def rIsX (c : Nat) (cv : V) : List V → Hp → VK → Prop := fun xs H Q => ∃ F c' as x, xs = [x, cv] ∧ Rp H F (.exn c' as) x ∧ Q (.bl (Nat.beq c' c || (Nat.beq c 0 || Nat.beq c 1000))) H
/-- the exception in hand, as an instance -/
theorem exn_inst {pins : List (Addr × Obj)} {s : Shared} {σ : L2.St} {H : Hp} {F : List Addr} {c' : Nat} {as : List D} {x : V} (hx : ∀ a oe c d, (a, oe, c, d) ∈ Clx.exs → Zx oe c d ∧ (a, oe) ∈ X.pn) (I : L2.Inv X pins σ H s) (rx : Rp H F (.exn c' as) x) :
    ∃ (a : Addr) (oe : Obj) (d : Option Addr) (od : Option Obj), x = .ref a ∧ c' < Clx.n ∧ ExF H as d ∧ PySem.W.InstAt s.heap a oe (Clx.cls c') od ∧ ∀ dd fs, d = some dd → H dd = some (.xd fs) → ∃ o mA es ep, od = some o ∧ s.heap.get? dd = some o ∧ o.data = .dict es ep ∧ s.heap.Ns1 dd mA ∧ ∀ f, RelO (fs.lookup f) (mA f) := by
  cases rx with
  | @exn a oe _ _ d e f =>
    obtain ⟨⟨z1, z2, z3, vs, z4⟩, hp⟩ := hx a oe c' d e
    have hg : s.heap.get? a = some oe := (I.pin (a, oe) (List.mem_append_left _ hp)).1
    rcases id f with ⟨rfl, rfl⟩ | ⟨dd, i, j, rfl, rfl, hd⟩
    · exact ⟨a, oe, none, none, rfl, z1, f, ⟨hg, z2, by unfold PySem.W.notCls; rw [z4] <;> rfl, by rw [z3]; trivial⟩, fun dd fs q => by cases q⟩
    · have hO : ObjOk X.prog X.w H s.heap dd (.xd [("limit", .int j), ("amount", .int i)]) := I.hok dd _ hd
      obtain ⟨mA, hns, hr⟩ := hO
      obtain ⟨o, es, ep, ho, hdt, hrest⟩ := id hns
      refine ⟨a, oe, some dd, some o, rfl, z1, f, ⟨hg, z2, by unfold PySem.W.notCls; rw [z4] <;> rfl, by rw [z3]; exact ho⟩, fun dd' fs q h2 => ?_⟩
      cases q
      rw [hd] at h2
      cases h2
      exact ⟨o, mA, es, ep, rfl, ho, hdt, hns, hr⟩
theorem cr_isX {c : Nat} {cv : V} {u : Value} (hx : ∀ a oe c d, (a, oe, c, d) ∈ Clx.exs → Zx oe c d ∧ (a, oe) ∈ X.pn) (hcv : ∀ w, RelV cv w → w = u) (ho : ∀ c, c < Clx.n → ExcOk X.K (Clx.cls c)) (hk : ∀ c', c' < Clx.n → PySem.W.kitOne X.K (.ref (Clx.cls c')) u = some (Nat.beq c' c || (Nat.beq c 0 || Nat.beq c 1000))) :
    CallR X (.builtin "isinstance") (rIsX c cv) := by
  intro pins s σ H xs us Q I r h
  obtain ⟨F, c', as, x, rfl, rx, q⟩ := h
  obtain ⟨a, oe, d, od, rfl, z1, _, J, _⟩ := exn_inst hx I rx
  obtain ⟨u1, u2, rfl, r1, r2⟩ := vals2 r
  cases (show u1 = Value.ref a from r1)
  have e2 := hcv _ r2
  subst e2
  have C := (ho c' z1).is
  exact PySem.W.kia_one (PySem.W.kitx_exc (by obtain ⟨cd, hc, _⟩ := PySem.W.any_some C.hd; rw [hc]; rfl) C.hg C.hk C.hs C.ha C.hn C.ht C.hm) I.kIn J (hk c' z1) (fun z => nomatch z) fun tk => ⟨.bl _, H, I.tok tk, rfl, q⟩
/-- e.amount, e.limit -/
theorem pe_fldE {a : E} {pa : Expr} {k : Nat} {y : PySem.Str} {pos : Pos} (g : Gb G T X) (hm : vp m) (hy : y = (if Nat.beq k 0 then ("amount" : PySem.Str) else "limit")) (hb : attributeBase pa y X.env (eval pa X.env) = eval pa X.env) (ha : PE X pa (tE T false .v a)) :
    PE X (.Attribute pa y pos) (tE T false m (.fld a k)) := by
  have hx : ∀ a oe c d, (a, oe, c, d) ∈ Clx.exs → Zx oe c d ∧ (a, oe) ∈ X.pn := fun a oe c d h => by
    rcases g.exs with z | z
    · rw [z] at h; cases h
    · exact z.2 a oe c d h
  refine ⟨fun pins s σ H Q I q => ?_⟩
  obtain ⟨G0, env, F, st, sr, r, q⟩ := q
  have q : RO ((evE T a .v env st).bind fun x st1 => (Res.opt (fldD k x) st1).bind (post m)) _ := q
  refine attr_of hb (thn (ha.run pins s σ H (fun x H1 => ∃ F1 c' i j, Rp H1 F1 (.exn c' [.int i, .int j]) x ∧ Q (.int (if Nat.beq k 0 then i else j)) H1) I (tE_go sr r (RO_bind q) fun d st1 x H1 F1 kk a1 s1 r1 v1 => ?_)) fun u s1 hh => ?_)
  · obtain ⟨z, hz, kk⟩ := RO_opt (RO_bind kk)
    unfold fldD at hz
    split at hz
    · rename_i c' i j
      cases hz
      exact ⟨F1, c', i, j, v1, fin_v rfl (post_vp hm kk) a1 s1 (.int _)⟩
    · cases hz
  · obtain ⟨x, H1, I1, rx, F1, c', i, j, re, q⟩ := hh
    obtain ⟨b, oe, d, od, rfl, z1, xf, J, hn⟩ := exn_inst hx I1 re
    obtain rfl : u = Value.ref b := rx
    rcases xf with ⟨z, _⟩ | ⟨dd, i', j', ed, ez, hd⟩
    · cases z
    cases ez
    obtain ⟨o, mA, es, ep, eo, ho, hdt, hns, hr⟩ := hn dd _ ed hd
    obtain ⟨o2, ho2, hl⟩ := lookIn_ns hns
    cases ho.symm.trans ho2
    subst eo
    have C := g.exo c' z1
    have fin : ∀ {v : V} {uv : Value}, mA y = some uv → RelV v uv → PySem.W.findIn X.K (.ref (Clx.cls c')) y = some none → PySem.W.handedIn uv = true → Q v H1 → wpAny (model X.prog X.w) X.A (getAttr (.ref b) y true) (EP X pins σ Q) X.xe s1 := fun {v uv} h1 h2 h3 h4 h5 =>
      HandSPX.exc_get I1.kIn J C.is.hg C.is.hk C.is.hs (PySem.W.findObj_own C.is.hd h3 rfl (by rw [hl, h1])) h4 ⟨v, H1, I1.tok _, h2, h5⟩
    by_cases hk : Nat.beq k 0 = true
    · rw [if_pos hk] at hy q
      have r1 := hr "amount"
      obtain ⟨uv, hu, ru⟩ := RelO.some_of (v := .int i) (o := mA "amount") r1
      refine fin (by rw [hy]; exact hu) ru (by rw [hy]; exact C.fa) ?_ q
      obtain ⟨t, rfl⟩ := ru
      rfl
    · rw [if_neg hk] at hy q
      have r1 := hr "limit"
      obtain ⟨uv, hu, ru⟩ := RelO.some_of (v := .int j) (o := mA "limit") r1
      refine fin (by rw [hy]; exact hu) ru (by rw [hy]; exact C.fl) ?_ q
      obtain ⟨t, rfl⟩ := ru
      rfl
theorem pe_isxE {c : Nat} {a : E} {pa : Expr} {y : PySem.Str} {p p1 pos : Pos} (g : Gb G T X) (hm : vp m) (hi : glB X.env.scope "isinstance" = true) (he : exnB G c y = true) (hy : glB X.env.scope y = true) (hny : nmB y = true) (hn : noSt pa = true) (ha : PE X pa (tE T false .v a)) :
    PE X (.Call (.Name "isinstance" p) [pa, .Name y p1] [] pos) (tE T false m (.isx a c)) := by
  have hb : ∀ n ∈ bltNames, X.mg n = none := g.blt
  have hx : ∀ a oe c d, (a, oe, c, d) ∈ Clx.exs → Zx oe c d ∧ (a, oe) ∈ X.pn := fun a oe c d h => by
    rcases g.exs with z | z
    · rw [z] at h; cases h
    · exact z.2 a oe c d h
  have go : ∀ {cv : V} {u : Value}, (∀ w, RelV cv w → w = u) → (∀ c', c' < Clx.n → PySem.W.kitOne X.K (.ref (Clx.cls c')) u = some (Nat.beq c' c || (Nat.beq c 0 || Nat.beq c 1000))) → PE X (.Name y p1) (tC cv) → PE X (.Call (.Name "isinstance" p) [pa, .Name y p1] [] pos) (tE T false m (.isx a c)) := fun {cv u} hcv hk hp => by
    refine PE.imp (pe_callB (cr_isX hx hcv g.exo hk) (gl_of hi) (hb _ (by decide)) (by decide +kernel) (pa_cons ha (pa_cons hp pa_nil) (star_cons hn)) (he := star_cons hn) (hpl := rfl)) fun σ H Q q => ?_
    obtain ⟨G0, env, F, st, s, r, q⟩ := q
    refine tE_go s r (RO_bind q) fun d st1 x H1 F1 k a1 s1 r1 v1 => ?_
    obtain ⟨z, hz, k⟩ := RO_opt (RO_bind k)
    cases d <;> first | (cases hz; done) | skip
    rename_i c' as
    cases hz
    exact ⟨F1, c', as, x, rfl, v1, fin_v rfl (post_vp hm k) a1 s1 (.bl _)⟩
  unfold exnB at he
  by_cases h1 : Nat.beq c 1000 = true
  · rw [if_pos h1] at he
    have e := of_decide_eq_true he
    subst e
    refine go (cv := .ty "ValueError") (u := .type "ValueError") (fun w h => h) (fun c' hc => ?_) (pe_bltn (gl_of hy) g.mve (by decide +kernel) rfl)
    rw [(g.exo c' hc).ve, h1, Bool.or_true, Bool.or_true]
  · rw [if_neg h1] at he
    obtain ⟨⟨c2, y2⟩, hm2, h2⟩ := List.any_eq_true.mp he
    simp only [Bool.and_eq_true, decide_eq_true_eq] at h2
    obtain ⟨h3, rfl⟩ := h2
    have e := Nat.eq_of_beq_eq_true h3
    subst e
    obtain ⟨l1, l2⟩ := g.exm _ _ hm2
    refine go (cv := .ref (Clx.cls c2)) (u := .ref (Clx.cls c2)) (fun w h => h) (fun c' hc => ?_) (pe_glob (gl_of hy) l2 rfl (nm_of hny).1)
    rw [g.exk c' c2 hc l1, Bool.eq_false_iff.mpr h1, Bool.or_false]
end
end LB
/-! LB12d: said(lambda: f(..)). -/
namespace LB
open PySem PySem.Spec PyProof.Rows L2 LamX
variable [Clx]
section
variable {T : Tab}
theorem cap_ev {N : List PySem.Str} {sc : Scope} {env : Env} {st : Store} : ∀ {es : List E} {is : List Nat} {K : List D → Store → Prop}, capB N sc es is = true → RO (evL T es env st) K → ∃ ds, K ds st ∧ ds.length = is.length ∧ ∀ (j i : Nat), is[j]? = some i → ∃ d, ds[j]? = some d ∧ env[i]? = some (.v d)
  | [], [], K, _, q => ⟨[], q, rfl, fun j i h => by simp at h⟩
  | [], _ :: _, _, h, _ => by cases h
  | e :: es, [], _, h, _ => by cases e <;> cases h
  | e :: es, j :: js, K, h, q => by
    cases e <;> first | (cases h; done) | skip
    rename_i i
    have h : (Nat.beq i j && (match N[i]? with | some x => visB sc x && nmB x | none => false) && capB N sc es js) = true := h
    rw [Bool.and_eq_true, Bool.and_eq_true] at h
    obtain ⟨⟨h1, _⟩, h3⟩ := h
    have e := Nat.eq_of_beq_eq_true h1
    subst e
    have q : RO ((evE T (.var i) .v env st).bind fun x st1 => (evL T es env st1).bind fun r st2 => .ok (x :: r) st2) K := q
    have q := RO_bind q
    have q : RO ((Res.opt (slot env i .v) st).bind (post .v)) (fun x st1 => RO ((evL T es env st1).bind fun r st2 => .ok (x :: r) st2) K) := q
    obtain ⟨d, hd, q⟩ := RO_opt (RO_bind q)
    have q : RO ((evL T es env st).bind fun r st2 => .ok (d :: r) st2) K := q
    obtain ⟨ds, k, l, f⟩ := cap_ev (K := fun r st2 => K (d :: r) st2) h3 (RO_bind q)
    have he : env[i]? = some (.v d) := by
      have hd : (match env[i]? with | some (.v d) => some d | _ => none) = some d := hd
      split at hd <;> cases hd
      assumption
    refine ⟨d :: ds, k, by rw [List.length_cons, List.length_cons, l], fun j2 i2 hj => ?_⟩
    cases j2 with
    | zero => simp at hj; subst hj; exact ⟨d, rfl, he⟩
    | succ j2 => simpa using f j2 i2 (by simpa using hj)
theorem plc_len {n : Nat} : ∀ {is : List Nat} {r : Env}, (plcE n is r).length = n
  | [], r => by cases r <;> simp [plcE]
  | i :: is, [] => by simp [plcE]
  | i :: is, s :: r => by
    cases s <;> simp [plcE]
    exact plc_len
theorem plc_get {n : Nat} {env : Env} : ∀ {is : List Nat} {ds : List D}, (∀ (j i : Nat), is[j]? = some i → ∃ d, ds[j]? = some d ∧ env[i]? = some (.v d)) → ∀ (i : Nat) (s : Slot), (plcE n is (ds.map .v))[i]? = some s → s = .u ∨ ∃ d, s = .v d ∧ env[i]? = some (.v d)
  | [], ds, _, i, s, h => by
    have h : (List.replicate n Slot.u)[i]? = some s := by cases ds <;> exact h
    rw [List.getElem?_replicate] at h
    split at h <;> cases h
    exact .inl rfl
  | j :: js, [], f, i, s, h => by
    obtain ⟨d, e, _⟩ := f 0 j rfl
    simp at e
  | j :: js, d :: ds, f, i, s, h => by
    have h : ((plcE n js (ds.map .v)).set j (.v d))[i]? = some s := h
    by_cases hj : j = i
    · subst hj
      by_cases hl : j < (plcE n js (ds.map .v)).length
      · rw [List.getElem?_set_self hl] at h
        cases h
        obtain ⟨d', e1, e2⟩ := f 0 j rfl
        simp at e1
        subst e1
        exact .inr ⟨_, rfl, e2⟩
      · rw [List.getElem?_eq_none (by simpa using hl)] at h
        cases h
    · rw [List.getElem?_set_ne hj] at h
      exact plc_get (fun j2 i2 hj2 => by simpa using f (j2 + 1) i2 (by simpa using hj2)) i s h
theorem er_plc {G0 : Hp} {σ : L2.St} {H : Hp} {F : List Addr} {env : Env} {is : List Nat} {ds : List D} (r : ER G0 σ H F env) (f : ∀ (j i : Nat), is[j]? = some i → ∃ d, ds[j]? = some d ∧ env[i]? = some (.v d)) : ER G0 σ H F (plcE env.length is (ds.map .v)) := by
  have g := plc_get (n := env.length) f
  refine ⟨fun i d h => ?_, fun i d h => ?_, fun i j d e a h1 h2 => ?_, by rw [plc_len]; exact r.len⟩
  · rcases g i _ h with z | ⟨d', z, e⟩
    · cases z
    · cases z
      exact r.val i d e
  · rcases g i _ h with z | ⟨d', z, _⟩ <;> cases z
  · rcases g i _ h1 with z | ⟨d', z, _⟩ <;> cases z
end
section
variable {X : Cx} {G : Sig} {T : Tab} {m : Md}
theorem len_biV {st : Store} {d z : D} (h : bi1 .len d = some z) : biV st .len [d] = some z := by
  cases d <;> first | exact h | (cases h; done)
/-- the lambda's body -/
theorem pe_bodyE {Y : Cx} {T2 : Tab} {L : Lam} {E : XK} {body : Expr} {scope : Scope} {c : LB.E → Expr → Bool} (gb : Gb G.bare T2 Y) (hs : Y.env.scope = scope) (run : ∀ y, G.fn L.f = some y → ∃ a', Y.mg y = some (.ref a') ∧ PySem.W.keepIn Y.K (.ref a') = true ∧ RunX Y T2 L.f a')
    (tk : Takes Y (fun cls d _ H => E cls d H)) (ha : ∀ {es : List LB.E} {ps : List Expr}, chkL c es ps = true → PA Y ps (tA T2 es))
    (h : (match L.w, body with
        | 0, .Call (.Name y _) ps [] _ => decide (G.fn L.f = some y) && glB scope y && nmB y && chkL c L.es ps
        | 2, .Call (.Name z _) [.Call (.Name y _) ps [] _] [] _ => decide (z = "len") && glB scope z && decide (G.fn L.f = some y) && glB scope y && nmB y && chkL c L.es ps
        | _, _ => false) = true) : PE Y body (tBody T2 L E) := by
  subst hs
  have lb : ∀ {w : Nat} {env : Env} {st : Store} {Q : D → Store → Prop} {Z : Nat → List D → Store → Prop}, L.w = w → RX (lamB T2 L env st) Q Z → RO (evL T2 L.es env st) fun ds st1 => RX (T2 L.f ds st1) (fun d st2 => ∃ z, wrapD w d = some z ∧ Q z st2) Z := fun {w env st Q Z} ew q => by
    unfold lamB at q
    cases e : evL T2 L.es env st with
    | ok ds st1 =>
      rw [e] at q
      rw [ew] at q
      refine RX_mono (RX_bind q) (fun d st2 k => ?_) fun _ _ _ k => k
      cases ez : wrapD w d with
      | none => rw [ez] at k; exact k.elim
      | some z => rw [ez] at k; exact ⟨z, rfl, k⟩
    | exc => rw [e] at q; exact q.elim
    | bad => rw [e] at q; exact q.elim
  split at h
  · rename_i y p1 ps p2 ew
    simp only [Bool.and_eq_true, decide_eq_true_eq] at h
    obtain ⟨⟨⟨h1, h2⟩, h3⟩, h4⟩ := h
    obtain ⟨a', e1, e2, rn⟩ := run y h1
    refine PE.imp (pe_callX rn e1 e2 h2 h3 h4 (ha h4) tk) fun σ H Q q => ?_
    obtain ⟨G0, env, F, st, s, r, q⟩ := q
    refine ⟨G0, env, F, st, s, r, RO_mono (lb (by assumption) q) fun ds st1 k => RX_mono k (fun d st2 k => ?_) fun _ _ _ k => k⟩
    obtain ⟨z, ez, k⟩ := k
    cases ez
    exact k
  · rename_i z p0 y p1 ps p2 p3 ew
    simp only [Bool.and_eq_true, decide_eq_true_eq] at h
    obtain ⟨⟨⟨⟨⟨rfl, h0⟩, h1⟩, h2⟩, h3⟩, h4⟩ := h
    obtain ⟨a', e1, e2, rn⟩ := run y h1
    have hb : ∀ n ∈ bltNames, Y.mg n = none := gb.blt
    refine PE.imp (pe_callB (cr_len (b := false)) (gl_of h0) (hb _ (by decide)) (by decide +kernel) (pa_cons (pe_callX rn e1 e2 h2 h3 h4 (ha h4) tk) pa_nil rfl) (he := rfl) (hpl := rfl)) fun σ H Q q => ?_
    obtain ⟨G0, env, F, st, s, r, q⟩ := q
    refine ⟨G0, env, F, st, s, r, RO_mono (lb (by assumption) q) fun ds st1 k => RX_mono k (fun d st2 k x H1 F1 a1 s1 rx => ?_) fun _ _ _ k => k⟩
    obtain ⟨z, ez, k⟩ := k
    refine ⟨F1, st2, [d], z, s1, .cons (.inl rx) .nil, len_biV ez, ?_, fun z => nomatch z⟩
    exact fun v H' a' s' r' => k v H' F1 (a1.trans a') s' r'
  · cases h
theorem pe_lamE {s n : Nat} {L : Lam} {es : List LB.E} {scope : Scope} {body : Expr} {p lpos pos : Pos} (g : Gc G T X) (hm : vp m) (hl : lamOf G s = some L) (hx : glB X.env.scope L.x = true) (hn : nmB L.x = true) (hL : L.n = X.N.length) (hc : capB X.N X.env.scope es L.is = true)
    (hsc : lamSB X.env.scope scope = true)
    (ha : ∀ (T2 : Tab) (Y : Cx), Gb G.bare T2 Y → Y.N = X.N → Y.env.scope = scope → ∀ {es : List LB.E} {ps : List Expr}, chkL (chkE G.bare X.N n scope) es ps = true → PA Y ps (tA T2 es))
    (hb : (match L.w, body with
        | 0, .Call (.Name y _) ps [] _ => decide (G.fn L.f = some y) && glB scope y && nmB y && chkL (chkE G.bare X.N n scope) L.es ps
        | 2, .Call (.Name z _) [.Call (.Name y _) ps [] _] [] _ => decide (z = "len") && glB scope z && decide (G.fn L.f = some y) && glB scope y && nmB y && chkL (chkE G.bare X.N n scope) L.es ps
        | _, _ => false) = true) :
    PE X (.Call (.Name L.x p) [.Lambda ⟨[], [], none, [], [], none, []⟩ body scope lpos] [] pos) (tE T false m (.call s es)) := by
  have hmem : (s, L) ∈ G.lam := by
    unfold lamOf at hl
    cases e : G.lam.find? fun q => Nat.beq q.1 s with
    | none => rw [e] at hl; cases hl
    | some q =>
      rw [e] at hl
      cases hl
      have e1 := List.find?_some (p := fun q : Nat × Lam => Nat.beq q.1 s) e
      have e2 := Nat.eq_of_beq_eq_true e1
      rw [← e2]
      exact List.mem_of_find?_eq_some e
  rcases (g.lam s L hmem).ex with hbad | ⟨k, T1, T2, ga, c, P, pg, bg, sg, dV, kV, doc, pm, cdv, ct, oc, an, od, osl, Ng, a, ⟨a1, a2, a3, a4, a5, a6, a7, a8, a9⟩, gv, ⟨t1, t2, t3, t4, t5⟩, yb, r1, r2⟩
  · refine ⟨fun pins s0 σ H Q I q => ?_⟩
    obtain ⟨G0, env, F, st, sr, r, q⟩ := q
    have q : RO ((evL T es env st).bind fun ds st1 => (T s ds st1).bind (post m)) _ := q
    obtain ⟨ds, q, dl, df⟩ := cap_ev hc (RO_bind q)
    rw [hbad] at q
    exact q.elim
  have hbody : ∀ (A : Around) (outer : List PySem.Env) (s : Shared) (H : Hp) (E : XK) (f c' : Addr), Room k (A.deeper (lamEnv X scope s.heap.objs.size f c')) → PE (lamCx X A outer s H E scope f c') body (tBody T2 L E) := fun A outer s H E f c' hr => by
    obtain ⟨gb, rn⟩ := yb (lamCx X A outer s H E scope f c') rfl rfl rfl rfl rfl hr rfl g.nd
    exact pe_bodyE gb rfl rn (takes_of rfl rfl rfl rfl) (fun h => ha T2 _ gb rfl rfl h) hb
  refine ⟨fun pins s0 σ H Q I q => (pe_lamcall (k := k) (T := Clx.tabs) (TT := TSaid T1 L.k) (t := tBody T2 L) (gl_of hx) a1 a2 a3 a4 a5 a6 a7 a8 gv t1 t2 t3 t4 t5 (lamS_by hsc) rfl (fun _ _ _ _ _ => rfl) hbody (nm_of hn).1 (nm_of a9).1 (nm_of a9).2).run pins s0 σ H Q I ?_⟩
  obtain ⟨G0, env, F, st, sr, r, q⟩ := q
  refine ⟨sr.tab, fun H1 eN tb => ?_⟩
  have q : RO ((evL T es env st).bind fun ds st1 => (T s ds st1).bind (post m)) _ := q
  obtain ⟨ds, q, dl, df⟩ := cap_ev hc (RO_bind q)
  have aS : Stp H F H1 F := .tabs eN tb
  have s1 : SR H1 F st := sr.tabs eN tb
  have q2 := r2 ds st _ _ dl (r1 ds st _ (RO_bind q))
  show tBody T2 L _ σ H1 _
  refine ⟨G0, _, F, st, s1, er_plc (r.step sr aS) df, ?_⟩
  have el : env.length = L.n := by rw [r.len, I.len, hL]
  rw [el]
  refine RX_mono q2 (fun d st1 k x H' F' a1 s' rx => ?_) fun c as st1 k cls d H' F' a1 s' ix => ?_
  · obtain ⟨z, ez, k⟩ := k
    exact ⟨F', st1, [d], z, s', .cons (.inl rx) .nil, by cases d <;> exact ez, fun v H'' a2 s'' rv => (post_vp hm k).2 v H'' F' (aS.trans (a1.trans a2)) s'' (OVp rv), fun z => nomatch z⟩
  · refine ⟨F', st1, c, as, s', ix, RO_mono k fun w _ k => ?_⟩
    obtain ⟨z, ez, hl, k⟩ := k
    exact ⟨z, ez, hl, fun H'' F'' a2 s'' => (post_vp hm k).2 _ H'' F'' (aS.trans (a1.trans a2)) s'' (OVp (.str _))⟩
end
end LB
/-! LB12v: list(d.values()). -/
namespace LB
open PySem PySem.Spec PyProof.Rows L2
variable [Clx]
theorem vals_of : ∀ {xs : List V} {us : List Value}, us.length = xs.length → (∀ (i : Nat) (x : V) (u : Value), xs[i]? = some x → us[i]? = some u → RelV x u) → Vals xs us
  | [], [], _, _ => .nil
  | [], _ :: _, h, _ => by simp at h
  | _ :: _, [], h, _ => by simp at h
  | x :: xs, u :: us, h, k => .cons (k 0 x u rfl rfl) (vals_of (by simpa using h) fun i y v h1 h2 => k (i + 1) y v (by simpa using h1) (by simpa using h2))
section
variable {X : Cx} {G : Sig} {T : Tab} {m : Md}
theorem seq_lstv {a : E} : ∀ env st, RO (evE T (.lstv a) .v env st) (fun _ _ => True) → RO (evE T (.lstv a) .v env st) fun d _ => isSeq d := fun env st q => by
  have q : RO ((evE T a .v env st).bind fun x st1 => (match x with | .dct true _ vs => if lenOk vs.length then post .v (.lst vs) st1 else .bad | _ => .bad)) _ := q
  show RO ((evE T a .v env st).bind fun x st1 => (match x with | .dct true _ vs => if lenOk vs.length then post .v (.lst vs) st1 else .bad | _ => .bad)) _
  refine RO_of_bind (RO_mono (RO_bind q) fun d st1 k => ?_)
  cases d <;> first | exact k.elim | skip
  rename_i t ks vs
  cases t with
  | false => exact k.elim
  | true =>
    have k : RO (if lenOk vs.length = true then post .v (D.lst vs) st1 else .bad) _ := k
    show RO (if lenOk vs.length = true then post .v (D.lst vs) st1 else .bad) _
    split at k
    · rename_i h
      rw [if_pos h]
      exact trivial
    · exact k.elim
theorem pe_lstvF {a : E} {pa : Expr} {p pos ap cp : Pos} (g : Gc G T X) (hh : G.hot = false) (hx : glB X.env.scope "list" = true) (hb : baseB pa = true) (hl : (ap.endLine == cp.line) = true) (ha : PE X pa (tE T false .v a)) :
    PE X (.Call (.Name "list" p) [.Call (.Attribute pa "values" ap) [] [] cp] [] pos) (tE T true .v (.lstv a)) := by
  have bl : ∀ n ∈ bltNames, X.mg n = none := g.blt
  refine ⟨fun pins s σ H Q I q => ?_⟩
  obtain ⟨G0, env, F, st, sr, r, q⟩ := q
  have q : RO ((evE T a .v env st).bind fun x st1 => (match x with | .dct true _ vs => if lenOk vs.length then post .v (.lst vs) st1 else .bad | _ => .bad)) _ := q
  refine wpAny_Call_Name_kw (ld_blt I (gl_of hx) (bl _ (by decide)) (u := .type "list") (by decide +kernel) ?_ (by decide +kernel) (by decide +kernel))
  rw [show starEach [Expr.Call (.Attribute pa "values" ap) [] [] cp] X.env = [(false, eval (Expr.Call (.Attribute pa "values" ap) [] [] cp) X.env)] from rfl]
  refine PySem.callWith_type1 (wpAny_Call_method0_late (base_of hb) hl (thn (ha.run pins s σ H (fun x H1 => ∃ F1 st1 ks vs, Stp H F H1 F1 ∧ SR H1 F1 st1 ∧ Rp H1 F1 (.dct true ks vs) x ∧ vs.length ≤ sizeLine ∧ Gd true H1 F1 st1 (.lst vs) Q) I ?_) fun v s1 hq => ?_))
  · refine tE_go sr r (RO_bind q) fun d st1 x H1 F1 k a1 s1 r1 v1 => ?_
    cases d <;> first | exact k.elim | skip
    rename_i t ks vs
    cases t with
    | false => exact k.elim
    | true =>
      have k : RO (if lenOk vs.length = true then post .v (D.lst vs) st1 else .bad) _ := k
      split at k
      case isFalse => exact k.elim
      rename_i h
      exact ⟨F1, st1, ks, vs, a1, s1, v1, sz_ok h, fin_d (b := true) (m := .v) (fun _ => rfl) (post_vp (m := .v) trivial k) a1 s1⟩
  · obtain ⟨x, H1, I1, rx, F1, st1, ks, vs, a1, s1', v1, hn, gd⟩ := hq
    cases v1 with
    | dT e rv =>
      rename_i da o kvs
      cases (show v = Value.ref da from rx)
      obtain ⟨ns, es, ep, dt, raw, sz, ent⟩ := frz_ents I1 e
      obtain ⟨ob, hob, exd, _⟩ := id raw
      refine ⟨"dict", "dict.values", PySem.F.plainAttrs_dict, PySem.F.slot_dict_values, PySem.F.type_dict_values, raw.typeIs, (fun b z => by cases z; exact ⟨ob, hob, exd.2.1⟩), Calls.callWith_builtin rfl (PySem.evalArgs_none ?_)⟩
      refine call_meetsIn PySem.F.slot_dict_values raw.typeIs PySem.F.entry_dict_values (PySem.F.args_dict_values_1 _) (meets_dict_values_raw da ns) ⟨⟨es, ep, raw⟩, ?_⟩
      have k1 : ∀ b u, s1.heap.get? b = some u → (s1.heap.push { cls := .type "dict_values", data := .fields #[.ref da] }).get? b = some u := fun b u e => Heap.get?_push_of_some _ e
      have sz1 : (s1.heap.push { cls := .type "dict_values", data := .fields #[.ref da] }).objs.size = s1.heap.objs.size + 1 := Heap.size_push _ _
      have lv : kvs.length = vs.length := by
        have := rv.length
        rw [List.length_map] at this
        omega
      refine PySem.W.kdl_call (KdlSrc.rawValues (prog := X.prog) (w := X.w) (r := s1.heap.objs.size) (d := da) (es := es) (ep := ep)) (I.ok.hd (g.calm hh)) ⟨⟨_, Heap.get?_push_size _ rfl, rfl, rfl⟩, raw.at fun z y => Heap.get?_push_of_some _ y⟩ (by omega) fun h' tk acc c keep hlist items => ?_
      have hv : Vals (kvs.map (·.2)) acc.toList := vals_of (by have := items.1; rw [Array.length_toList, List.length_map]; omega) fun i x u h1 h2 => by
        obtain ⟨hi, eu⟩ := items.2 i u (by rw [← Array.getElem?_toList]; exact h2)
        obtain ⟨k, v, q, h3, _, _, h4⟩ := ent i hi
        rw [List.getElem?_map, h3] at h1
        cases h1
        rw [eu]
        exact h4
      have hp : H1 (s1.heap.push { cls := .type "dict_values", data := .fields #[.ref da] }).objs.size = none := I1.hok.fresh (by rw [sz1]; exact Nat.le_succ _)
      have J : L2.Inv X pins σ (upd H1 (s1.heap.push { cls := .type "dict_values", data := .fields #[.ref da] }).objs.size (.lst (kvs.map (·.2)))) { s1 with heap := h', toks := tk } :=
        I1.laid (t' := tk) (fun b u z => keep b u (k1 b u z)) (by rw [sz1]; exact Nat.le_succ _) (show ObjOk X.prog X.w _ _ _ (.lst (kvs.map (·.2))) from ⟨by rw [List.length_map]; omega, acc.toList, c, hv, by rw [Array.toArray_toList]; exact hlist⟩)
      exact Gd.new J s1' gd hp (Stp.laid s1' hp) (s1'.laid hp) (.lst upd_same (rv.mono (keeps_new hp)))
end
end LB
/-! LB12t: texts: join, split, f-strings; tuple(range(n)). -/
namespace LB
open PySem PySem.Spec PyProof.Rows L2
variable [Clx]
section
variable {X : Cx} {G : Sig} {T : Tab} {m : Md}
theorem pe_trngE {a : E} {pa : Expr} {p p2 q2 pos : Pos} (g : Gc G T X) (hh : G.hot = false) (hm : vp m) (hx : glB X.env.scope "tuple" = true) (hy : glB X.env.scope "range" = true) (hn : noSt pa = true) (ha : PE X pa (tE T false .v a)) :
    PE X (.Call (.Name "tuple" p) [.Call (.Name "range" p2) [pa] [] q2] [] pos) (tE T false m (.trng a)) := by
  have bl : ∀ n ∈ bltNames, X.mg n = none := g.blt
  refine PE.imp (pe_tupRg (g.calm hh) (gl_of hx) (bl _ (by decide)) (prg_1 (gl_of hy) (bl _ (by decide)) ha (star_cons hn))) fun σ H Q q => ?_
  obtain ⟨G0, env, F, st, s, r, q⟩ := q
  refine tE_go s r (RO_bind q) fun d st1 x H1 F1 k1 a1 s1 r1 v1 => ?_
  cases d <;> first | exact k1.elim | skip
  rename_i j
  cases v1
  have k1 : RO (if (mid j && lenOk j.toNat) = true then post m (.tup (upto 0 j.toNat)) st1 else .bad) _ := k1
  split at k1
  case isFalse => exact k1.elim
  rename_i h
  rw [Bool.and_eq_true] at h
  obtain ⟨h1, h2⟩ := h
  have k1 := post_vp hm k1
  have m1 : -(2 ^ 62) ≤ j ∧ j < 2 ^ 62 := by simpa [mid] using h1
  have m3 : j.toNat ≤ 1000000 := Nat.le_of_ble_eq_true h2
  refine ⟨j, rfl, ⟨by decide, by decide, m1.1, m1.2, Nat.le_trans (by omega) (show 1000000 ≤ 2 ^ 24 by decide)⟩, fun w hw => ?_⟩
  refine fin_v rfl k1 (a1.trans (Stp.laid s1 hw)) (s1.laid hw) (.tup upd_same ?_)
  rw [upto_rg]
  have e : rgV 0 j = ((List.range j.toNat).map fun (n : Nat) => 0 + (n : Int)).map V.int := by
    unfold rgV
    rw [List.map_map, Int.sub_zero]
    rfl
  rw [e]
  exact intsR _
/-! join, split -/
theorem strs_of {H : Hp} {F : List Addr} : ∀ {l : List D} {xs : List V} {ys : List PySem.Str}, Rps H F l xs → toStrs l = some ys → xs = ys.map V.str
  | _, _, _, .nil, e => by cases e; rfl
  | _, _, ys, @Rps.cons _ _ _ d x ds xs r t, e => by
    cases r with
    | str i =>
      cases q : toStrs ds with
      | none => simp [toStrs, q] at e
      | some m => simp [toStrs, q] at e; subst e; rw [strs_of t q]; rfl
    | _ => cases e
theorem strsRp {H : Hp} {F : List Addr} : ∀ l : List PySem.Str, Rps H F (l.map D.str) (l.map V.str)
  | [] => .nil
  | c :: l => .cons (.str _) (strsRp l)
theorem joinD_of {x y z : D} (h : joinD x y = some z) : ∃ a l ys, x = .str a ∧ y = .lst l ∧ toStrs l = some ys ∧ (ys.map (·.length)).sum + ys.length * a.length ≤ 1000000 ∧ z = .str (PySem.Txt.join a ys) := by
  unfold joinD at h
  split at h
  · rename_i a l
    cases e : toStrs l with
    | none => rw [e] at h; cases h
    | some ys =>
      rw [e, Option.bind_some] at h
      split at h
      · rename_i q
        cases h
        exact ⟨a, l, ys, rfl, rfl, e, of_decide_eq_true q, rfl⟩
      · cases h
  · cases h
theorem pe_jnE {a e : E} {pa pe : Expr} {ap cp : Pos} (hm : vp m) (hb : baseB pa = true) (hl : (ap.endLine == cp.line) = true) (hn : noSt pe = true) (ha : PE X pa (tE T false .p a)) (he : PE X pe (tE T false .v e)) :
    PE X (.Call (.Attribute pa "join" ap) [pe] [] cp) (tE T false m (.jn a e)) := by
  refine PE.imp (pe_join ha he (star_cons hn) (base_of hb) hl) fun σ H Q q => ?_
  obtain ⟨G0, env, F, st, s, r, q⟩ := q
  refine tE_go s r (RO_bind q) fun d st1 x H1 F1 k a1 s1 r1 v1 => ?_
  have k := RO_bind k
  obtain ⟨y, st2, ev, k2⟩ := RO_ex' k
  obtain ⟨z, hz, k3⟩ := RO_opt (RO_bind k2)
  obtain ⟨t, l, ys, rfl, rfl, e1, e2, rfl⟩ := joinD_of hz
  have he1 : RO (evE T e .v env st1) fun d' st1' => d' = .lst l ∧ st1' = st2 := by rw [ev]; exact ⟨rfl, rfl⟩
  have e3 := strV v1
  subst e3
  refine ⟨⟨t, rfl⟩, tE_go s1 r1 he1 fun d' st2' y H2 F2 kk a2 s2 r2 v2 => ?_⟩
  obtain ⟨rfl, rfl⟩ := kk
  obtain ⟨p, xs, rfl, rx, t1⟩ := listV (K := X.K) (.inl v2)
  rw [strs_of rx e1] at t1
  exact ⟨t, p, ys, rfl, rfl, .inl t1, Nat.le_trans e2 (by decide), fin_v rfl (post_vp hm k3) (a1.trans a2) s2 (.str _)⟩
theorem splitD_of {x y z : D} (h : splitD x y = some z) : ∃ a b, x = .str a ∧ y = .str b ∧ (b.length == 0) = false ∧ lenOk a.length = true ∧ z = .lst ((PySem.Txt.split a b).map .str) := by
  unfold splitD at h
  split at h
  · rename_i a b
    split at h
    · rename_i q
      cases h
      rw [Bool.and_eq_true] at q
      exact ⟨a, b, rfl, rfl, by simpa using q.1, q.2, rfl⟩
    · cases h
  · cases h
theorem seq_spl {a e : E} : ∀ env st, RO (evE T (.spl a e) .v env st) (fun _ _ => True) → RO (evE T (.spl a e) .v env st) fun d _ => isSeq d := fun env st q => by
  have q : RO ((evE T a .p env st).bind fun x st1 => (evE T e .v env st1).bind fun y st2 => (Res.opt (splitD x y) st2).bind (post .v)) fun _ _ => True := q
  show RO ((evE T a .p env st).bind fun x st1 => (evE T e .v env st1).bind fun y st2 => (Res.opt (splitD x y) st2).bind (post .v)) _
  refine RO_of_bind (RO_mono (RO_bind q) fun x st1 k => RO_of_bind (RO_mono (RO_bind k) fun y st2 k => ?_))
  obtain ⟨z, hz, _⟩ := RO_opt (RO_bind k)
  obtain ⟨t, u, rfl, rfl, _, _, rfl⟩ := splitD_of hz
  rw [hz]
  exact trivial
theorem pe_splF {a e : E} {pa pe : Expr} {ap cp : Pos} (hb : baseB pa = true) (hl : (ap.endLine == cp.line) = true) (hn : noSt pe = true) (ha : PE X pa (tE T false .p a)) (he : PE X pe (tE T false .v e)) :
    PE X (.Call (.Attribute pa "split" ap) [pe] [] cp) (tE T true .v (.spl a e)) := by
  refine PE.imp (pe_split ha he (star_cons hn) (base_of hb) hl) fun σ H Q q => ?_
  obtain ⟨G0, env, F, st, s, r, q⟩ := q
  refine tE_go s r (RO_bind q) fun d st1 x H1 F1 k a1 s1 r1 v1 => ?_
  have k := RO_bind k
  obtain ⟨y, st2, ev, k2⟩ := RO_ex' k
  obtain ⟨z, hz, k3⟩ := RO_opt (RO_bind k2)
  obtain ⟨t, u, rfl, rfl, e1, e2, rfl⟩ := splitD_of hz
  have he1 : RO (evE T e .v env st1) fun d' st1' => d' = .str u ∧ st1' = st2 := by rw [ev]; exact ⟨rfl, rfl⟩
  have e3 := strV v1
  subst e3
  refine ⟨⟨t, rfl⟩, tE_go s1 r1 he1 fun d' st2' y H2 F2 kk a2 s2 r2 v2 => ?_⟩
  obtain ⟨rfl, rfl⟩ := kk
  cases v2
  have sz : t.length + 2 ≤ sizeLine := by
    have := Nat.le_of_ble_eq_true e2
    rw [sizeLine_eq]
    omega
  refine ⟨t, u, rfl, rfl, e1, sz, fun w hw => ?_⟩
  exact fin_d (b := true) (m := .v) (fun _ => rfl) (post_vp (m := .v) trivial k3) (a1.trans a2) s2 w _ hw (Stp.laid s2 hw) (s2.laid hw) (.lst upd_same (strsRp _))
/-! f-strings -/
theorem tE_imp {b : Bool} {e : E} {σ : L2.St} {H : Hp} {Q Q' : VK} (h : tE T b m e σ H Q) (k : ∀ x H1, Q x H1 → Q' x H1) : tE T b m e σ H Q' := by
  obtain ⟨G0, env, F, st, s, r, q⟩ := h
  exact ⟨G0, env, F, st, s, r, RO_mono q fun d st1 z => ⟨z.1, fun x H1 F1 a s1 o => k x H1 (z.2 x H1 F1 a s1 o)⟩⟩
theorem fmtD_of {H : Hp} {F : List Addr} {d : D} {x : V} {y : PySem.Str} (h : fmtD d = some y) (r : Rp H F d x) : (x = .str y) ∨ ∃ i : Int, x = .int i ∧ i.natAbs < 10 ^ 60 ∧ y = PySem.Str.ofString (toString i) := by
  unfold fmtD at h
  split at h
  · cases h; cases r; exact .inl rfl
  · split at h
    · rename_i q
      cases h
      cases r
      exact .inr ⟨_, rfl, of_decide_eq_true q, rfl⟩
    · cases h
  · cases h
theorem log_ok {i : Int} (hl : i.natAbs < 10 ^ 60) : i.natAbs.log2 < 1920 := by
  by_cases z : i.natAbs = 0
  · rw [z]; decide
  · exact (Nat.log2_lt z).mpr (Nat.lt_of_lt_of_le hl (Nat.le_trans (show 10 ^ 60 ≤ 2 ^ 200 by decide) (Nat.pow_le_pow_right (by decide) (by decide))))
theorem fs_parts {f : E → Expr → Bool} (hf : ∀ e p, f e p = true → PE X p (tE T false .v e)) (hs : ∀ a p, f (.star a) p = false) : ∀ {es : List E} {ps : List Expr}, chkF f es ps = true →
    ∃ ts, PJ X ps ts ∧ ∀ (acc : PySem.Str) (σ : L2.St) (H : Hp) (Q : PySem.Str → Hp → Prop) (G0 : Hp) (env : Env) (F : List Addr) (st : Store), SR H F st → ER G0 σ H F env →
      RO (evL T es env st) (fun ds st' => ∃ y, fmtsD acc ds = some y ∧ ∀ H' F', Stp H F H' F' → SR H' F' st' → Q y H') → tJs ts acc σ H Q
  | [], ps, h => by
    cases ps with
    | cons p ps => cases h
    | nil =>
      refine ⟨[], .nil, fun acc σ H Q G0 env F st s r q => ?_⟩
      obtain ⟨y, e, k⟩ := (show ∃ y, fmtsD acc [] = some y ∧ _ from q)
      cases e
      exact k H F Stp.refl s
  | e :: es, ps, h => by
    have step : ∀ {p : Expr} {t : TE} {ps' : List Expr} {ts : List TE}, (∀ a, e ≠ .star a) → (∀ σ H (Q : VK), tE T false .v e σ H (fun x H1 => ∃ d y, ∃ F1, Rp H1 F1 d x ∧ fmtD d = some y ∧ y.length ≤ 1000000 ∧ Q (.str y) H1) → t σ H Q) → PE X p t → PJ X ps' ts →
        (∀ (acc : PySem.Str) (σ : L2.St) (H : Hp) (Q : PySem.Str → Hp → Prop) (G0 : Hp) (env : Env) (F : List Addr) (st : Store), SR H F st → ER G0 σ H F env →
          RO (evL T es env st) (fun ds st' => ∃ y, fmtsD acc ds = some y ∧ ∀ H' F', Stp H F H' F' → SR H' F' st' → Q y H') → tJs ts acc σ H Q) →
        ∃ ts, PJ X (p :: ps') ts ∧ ∀ (acc : PySem.Str) (σ : L2.St) (H : Hp) (Q : PySem.Str → Hp → Prop) (G0 : Hp) (env : Env) (F : List Addr) (st : Store), SR H F st → ER G0 σ H F env →
          RO (evL T (e :: es) env st) (fun ds st' => ∃ y, fmtsD acc ds = some y ∧ ∀ H' F', Stp H F H' F' → SR H' F' st' → Q y H') → tJs ts acc σ H Q := by
      intro p t ps' ts hns ht hp hj ih
      refine ⟨t :: ts, .cons hp hj, fun acc σ H Q G0 env F st s r q => ?_⟩
      rw [evL_cons hns] at q
      refine ht σ H _ (tE_go s r (RO_bind q) fun d st1 x H1 F1 k a1 s1 r1 v1 => ?_)
      obtain ⟨ds, st2, ev, k2⟩ := RO_ex' (RO_bind k)
      obtain ⟨y, e1, k3⟩ := (show ∃ y, fmtsD acc (d :: ds) = some y ∧ _ from k2)
      have e1 : ((fmtD d).bind fun y => if lenOk (acc ++ y).length then fmtsD (acc ++ y) ds else none) = some y := e1
      cases ef : fmtD d with
      | none => rw [ef] at e1; cases e1
      | some z =>
        rw [ef, Option.bind_some] at e1
        split at e1
        case isFalse => cases e1
        rename_i hl
        have hl2 : (acc ++ z).length ≤ 1000000 := Nat.le_of_ble_eq_true hl
        have hz : z.length ≤ 1000000 := by
          rw [PySem.Str.length_append] at hl2
          omega
        refine ⟨d, z, F1, v1, ef, hz, z, rfl, sz_ok hl, ih (acc ++ z) σ H1 Q _ env F1 st1 s1 r1 ?_⟩
        rw [ev]
        exact ⟨y, e1, fun H' F' a2 s2 => k3 H' F' (a1.trans a2) s2⟩
    cases ps with
    | nil => cases e <;> first | cases h | (rename_i d; cases d <;> cases h)
    | cons p ps =>
      by_cases hfv : ∃ p' pos, p = .FormattedValue p' (-1) none pos
      · obtain ⟨p', pos, rfl⟩ := hfv
        have h : (f e p' && chkF f es ps) = true := by
          cases e <;> first | exact h | (rename_i d; cases d <;> exact h)
        rw [Bool.and_eq_true] at h
        obtain ⟨ts, hj, ih⟩ := fs_parts hf hs h.2
        refine step (fun a z => by rw [z, hs] at h; cases h.1) (fun σ H Q q => ?_) (pe_fmt (hf e p' h.1)) hj ih
        refine tE_imp q fun x H1 k => ?_
        obtain ⟨d, y, F1, r1, ef, hz, k⟩ := k
        rcases fmtD_of ef r1 with rfl | ⟨i, rfl, hi, rfl⟩
        · exact .inl ⟨y, rfl, Nat.le_trans hz (by rw [sizeLine_eq]; decide), k⟩
        · exact .inr ⟨i, rfl, log_ok hi, k⟩
      · have hc : ∃ x k pos, p = .Constant (.str x) k pos ∧ e = .lit (.str x) ∧ chkF f es ps = true := by
          unfold chkF at h
          split at h
          · rename_i e1 e2; cases e1
          · rename_i e1 e2; cases e2; exact absurd ⟨_, _, rfl⟩ hfv
          · rename_i e1 e2
            cases e1
            cases e2
            rw [Bool.and_eq_true, decide_eq_true_iff] at h
            obtain ⟨rfl, hr⟩ := h
            exact ⟨_, _, _, rfl, rfl, hr⟩
          · cases h
        obtain ⟨x, k, pos, rfl, rfl, hr⟩ := hc
        obtain ⟨ts, hj, ih⟩ := fs_parts hf hs hr
        refine step (t := tC (.str x)) (fun a z => nomatch z) (fun σ H Q q => ?_) pe_str hj ih
        obtain ⟨G0, env, F, st, sr, r, q⟩ := q
        obtain ⟨d, z, F1, r1, ef, hz, kk⟩ := (show RO (post .v (.str x) st) _ from q).2 (.str x) H F Stp.refl sr (OVp (.str x))
        cases r1
        cases ef
        exact kk
theorem pe_fsE {f : E → Expr → Bool} {es : List E} {ps : List Expr} {pos : Pos} (hm : vp m) (hf : ∀ e p, f e p = true → PE X p (tE T false .v e)) (hs : ∀ a p, f (.star a) p = false) (h2 : Nat.ble 2 ps.length = true) (h : chkF f es ps = true) :
    PE X (.JoinedStr ps pos) (tE T false m (.fs es)) := by
  obtain ⟨ts, hj, go⟩ := fs_parts (X := X) (T := T) hf hs h
  match ps, h2, hj with
  | p1 :: p2 :: rest, _, hj =>
    refine PE.imp (pe_joined hj) fun σ H Q q => ?_
    obtain ⟨G0, env, F, st, s, r, q⟩ := q
    refine go _ _ _ _ G0 env F st s r ?_
    obtain ⟨ds, st2, ev, k⟩ := RO_ex' (RO_bind q)
    obtain ⟨y, hy, k3⟩ := RO_opt (RO_bind k)
    rw [ev]
    cases hf : fmtsD "" ds with
    | none => rw [hf] at hy; cases hy
    | some z =>
      rw [hf] at hy
      cases hy
      have e0 : (PySem.Str.empty : PySem.Str) = "" := by decide
      exact ⟨z, by rw [e0]; exact hf, fun H' F' a s1 => (post_vp hm k3).2 _ H' F' a s1 (OVp (.str z))⟩
end
end LB
/-! LB13: soundness of all expressions. -/
namespace LB
open PySem PySem.Spec PyProof.Rows L2
variable [Clx]
section
variable {G : Sig} {T : Tab}
structure SE (T : Tab) (X : Cx) (e : E) (p : Expr) : Prop where
  val : ∀ m, vp m → PE X p (tE T false m e)
  tst : PT X p (tT T e)
  tb : TB T e
  fr : isFr e = true → PE X p (tE T true .v e)
variable {X : Cx}
theorem m_eq {m : Md} {e : E} {env : Env} {st : Store} (hm : vp m) (h : coreB e = true) (hv : ∀ i, e ≠ .var i) : evE T e m env st = evE T e .v env st := by
  cases m <;> first | rfl | exact hm.elim | skip
  cases e <;> first | rfl | (cases h; done) | exact absurd rfl (hv _)
theorem seq_lst {es : List E} : ∀ env st, RO (evE T (.lst es) .v env st) (fun _ _ => True) → RO (evE T (.lst es) .v env st) fun d _ => isSeq d := fun env st q =>
  RO_of_bind (RO_mono (RO_bind q) fun ds st1 k => by
    obtain ⟨h, _⟩ := lenOk_ite k
    show RO (if lenOk ds.length = true then _ else _) _
    rw [if_pos h]
    trivial)
theorem seq_comp {el it : E} {tg : Tg} {cs : List E} {own : List (PySem.Str × Nat)} : ∀ env st, RO (evE T (.comp el tg it cs own) .v env st) (fun _ _ => True) → RO (evE T (.comp el tg it cs own) .v env st) fun d _ => isSeq d := fun env st q =>
  RO_of_bind (RO_mono (RO_bind q) fun d st1 k => by
    cases d <;> first | exact k.elim | skip
    refine RO_of_bind (RO_mono (RO_bind k) fun r st2 k => ?_)
    obtain ⟨h, _⟩ := lenOk_ite k
    rename_i ds _
    rw [if_pos h]
    trivial)
theorem pe_allocE {a : E} {p : Expr} (h : PE X p (tE T true .v a)) : PE X p (tE T false .v (.alloc a)) := by
  refine PE.imp h fun σ H Q q => ?_
  obtain ⟨G0, env, F, st, sr, r, q⟩ := q
  refine ⟨G0, env, F, st, sr, r, RO_mono (RO_bind q) fun d st1 k => ?_⟩
  cases d <;> first | exact k.elim | skip
  rename_i l
  refine ⟨fun _ => trivial, fun x H1 F1 a1 s1 o => ?_⟩
  obtain ⟨p, rfl, hp, w, nf⟩ := (show ∃ p, x = .ref p ∧ Nw H p ∧ Ow H1 F1 (.lst l) p ∧ p ∉ F1 from o)
  cases w with
  | lst e rs =>
    have kp : Kps H1 F1 H1 (F1 ++ [p]) := ⟨fun _ _ h => h, (fun _ _ _ h => h), (fun n a h => by rw [List.getElem?_append_left (List.getElem?_eq_some_iff.mp h).1]; exact h), (fun _ _ h => h), fun _ _ h => h⟩
    refine k.2 (.ref p) H1 (F1 ++ [p]) ⟨fun n a h => kp.pre n a (a1.pre n a h), fun a h => ?_, fun x o h hn nt => ?_, a1.tab⟩ ⟨?_, ?_, fun n a h => ?_, s1.tab⟩ (OVp (.ref ?_))
    · rcases List.mem_append.mp h with h | h
      · exact a1.new a h
      · rw [List.mem_singleton.mp h]; exact .inr hp
    · exact a1.ext x o h hn nt
    · rw [List.length_append, List.length_append, s1.len]; rfl
    · rw [List.nodup_append]
      exact ⟨s1.nd, by simp, fun a ha b hb z => nf (by rw [List.mem_singleton] at hb; rw [← hb, ← z]; exact ha)⟩
    · by_cases hn : n < F1.length
      · rw [List.getElem?_append_left hn] at h
        obtain ⟨xs, ds, h1, h2, h3⟩ := s1.cell n a h
        exact ⟨xs, ds, h1, by rw [List.getElem?_append_left (by rw [← s1.len]; exact hn)]; exact h2, h3.mono kp⟩
      · have hn' : n = F1.length := by
          have := (List.getElem?_eq_some_iff.mp h).1
          rw [List.length_append] at this
          simp at this
          omega
        subst hn'
        rw [List.getElem?_concat_length] at h
        cases h
        exact ⟨_, l, e, by rw [s1.len, List.getElem?_concat_length], rs.mono kp⟩
    · rw [← s1.len, List.getElem?_concat_length]
theorem noStar {N : List PySem.Str} {n : Nat} {sc : Scope} (a : E) (p : Expr) : chkE G N n sc (.star a) p = false := by
  cases n with
  | zero => rfl
  | succ n => cases p <;> rfl
theorem nil_not {N : List PySem.Str} {n : Nat} {sc : Scope} (p : Expr) : chkE G N n sc .nil p = false := by
  cases n with
  | zero => rfl
  | succ n => cases p <;> rfl
theorem isN_lit {c : Cm} {b : E} {p : Expr} (hc : isNC b p c = true) : (c = .isN ∨ c = .notN) → b = .lit .non := by
  intro z
  have e : nonB b p = true := by rcases z with rfl | rfl <;> exact hc
  unfold nonB at e
  split at e
  · rfl
  · cases e
theorem SE.core {e : E} {p : Expr} (h : coreB e = true) (hp : plainT p = true) (hf : isFr e = false) (v : ∀ m, vp m → PE X p (tE T false m e)) : SE T X e p :=
  ⟨v, pt_core h hp (v .v trivial), tb_core h, fun z => by rw [hf] at z; cases z⟩
theorem SE.coreF {e : E} {p : Expr} (h : coreB e = true) (hp : plainT p = true) (v : ∀ m, vp m → PE X p (tE T false m e)) (f : PE X p (tE T true .v e)) : SE T X e p :=
  ⟨v, pt_core h hp (v .v trivial), tb_core h, fun _ => f⟩
theorem locOk_blk {scope : Scope} (s : Shared) (H : Hp) (C : Addr) (cl : List (PySem.Str × Addr)) (fp : List Addr) : LocOk (X.blk s H scope (compEnvC scope cl C X.env) fp) scope := by
  intro x hx
  unfold locB at hx
  split at hx <;> first | (cases hx; done) | skip
  · rename_i e
    have k := lookup_relS_keep (sc := X.env.scope) (k := NameKind.local) (by decide) e
    exact ⟨.inl k, .inr k⟩
  · rename_i e
    have k := lookup_relS_keep (sc := X.env.scope) (k := NameKind.cell) (by decide) e
    refine ⟨.inr k, .inl ?_⟩
    show (scope.names.lookup x == some NameKind.cell) = true
    rw [e]; decide
theorem soundY {f : E → Expr → Bool} (g : Gc G T X) (hs : ∀ a p, f (.star a) p = false) (hv : ∀ {e p}, f e p = true → PE X p (tE T false .v e)) (hp : ∀ {e p}, f e p = true → PE X p (tE T false .p e)) {e : E} {p : Expr}
    (h : chkY G.hot f X.env.scope e p = true) : SE T X e p := by
  unfold chkY at h
  split at h
  · -- tuple(range)
      simp only [Bool.and_eq_true, decide_eq_true_eq] at h
      obtain ⟨⟨⟨⟨⟨⟨h0, rfl⟩, h1⟩, rfl⟩, h2⟩, h3⟩, h4⟩ := h
      have hh : G.hot = false := by simpa using h0
      exact SE.core rfl rfl rfl fun m hm => pe_trngE g hh hm h1 h2 h3 (hv h4)
  · -- join
      simp only [Bool.and_eq_true, decide_eq_true_eq] at h
      obtain ⟨⟨⟨⟨⟨rfl, h1⟩, h2⟩, h3⟩, h4⟩, h5⟩ := h
      exact SE.core rfl rfl rfl fun m hm => pe_jnE hm h1 h2 h3 (hp h4) (hv h5)
  · -- split
      simp only [Bool.and_eq_true, decide_eq_true_eq] at h
      obtain ⟨⟨⟨⟨⟨rfl, h1⟩, h2⟩, h3⟩, h4⟩, h5⟩ := h
      exact SE.coreF rfl rfl (fun m hm => PE.lockE (pe_splF h1 h2 h3 (hp h4) (hv h5)) seq_spl fun env st => m_eq hm rfl (fun _ z => nomatch z)) (pe_splF h1 h2 h3 (hp h4) (hv h5))
  · -- f-string
      rw [Bool.and_eq_true] at h
      exact SE.core rfl rfl rfl fun m hm => pe_fsE hm (fun e p h => hv h) hs h.1 h.2
  · -- == a text
      rw [Bool.and_eq_true] at h
      obtain ⟨h1, h2⟩ := h
      have e := of_decide_eq_true h1
      subst e
      exact ⟨fun m hm => pe_eqsE g hm (hp h2), pt_eqsE g (hp h2), tb_core rfl, fun z => nomatch z⟩
  · cases h
/-- ALL EXPRESSIONS -/
theorem sound (n : Nat) : ∀ (G : Sig) (T : Tab) (X : Cx), Gc G T X → ∀ (e : E) (p : Expr), chkE G X.N n X.env.scope e p = true → SE T X e p := by
  induction n with
  | zero => intro G T X g e p h; cases h
  | succ n ih0 =>
    intro G T X g e p h
    have ih := ih0 G T
    have hL : ∀ {es ps}, chkL (chkE G X.N n X.env.scope) es ps = true → PA X ps (tA T es) := fun h => pa_E (fun e p h => (ih X g e p h).val .v trivial) noStar h
    have hB : ∀ {es ps}, chkL (chkE G X.N n X.env.scope) es ps = true → PA X ps (tB T es) := fun h => pa_B (fun e p h => (ih X g e p h).val .p trivial) h
    have hLS : ∀ {es ps}, chkLS (chkE G X.N n X.env.scope) es ps = true → PA X ps (tA T es) := fun h => pa_ES (fun e p h => (ih X g e p h).val .v trivial) (fun e p h => (ih X g e p h).val .p trivial) h
    have hv : ∀ {e p}, chkE G X.N n X.env.scope e p = true → PE X p (tE T false .v e) := fun h => (ih X g _ _ h).val .v trivial
    have hp : ∀ {e p}, chkE G X.N n X.env.scope e p = true → PE X p (tE T false .p e) := fun h => (ih X g _ _ h).val .p trivial
    unfold chkE at h
    split at h
    · -- said(lambda: ..)
      rename_i s es x p1 body scope lpos pos
      cases hl : lamOf G s with
      | none => rw [hl] at h; cases h
      | some L =>
        rw [hl] at h
        simp only [Bool.and_eq_true, decide_eq_true_eq] at h
        obtain ⟨⟨⟨⟨⟨⟨rfl, h1⟩, h2⟩, h3⟩, h4⟩, h5⟩, h6⟩ := h
        refine SE.core rfl rfl rfl fun m hm => pe_lamE g hm hl h1 h2 h3 h4 h5 (fun T2 Y gb hN hs {es ps} hc => ?_) h6
        rw [← hN, ← hs] at hc
        exact pa_E (fun e p h => (ih0 G.bare T2 Y ⟨gb, fun s L hm => by cases hm⟩ e p h).val .v trivial) noStar hc
    · -- isinstance of an exception
      simp only [Bool.and_eq_true, decide_eq_true_eq] at h
      obtain ⟨⟨⟨⟨⟨⟨rfl, h1⟩, h2⟩, h3⟩, h4⟩, h5⟩, h6⟩ := h
      exact SE.core rfl rfl rfl fun m hm => pe_isxE g.toGb hm h1 h2 h3 h4 h5 (hv h6)
    · -- field of an exception
      rw [Bool.and_eq_true] at h
      exact SE.core rfl rfl rfl fun m hm => pe_fldE g.toGb hm (of_decide_eq_true h.1) rfl (hv h.2)
    · -- lit
      exact SE.core rfl rfl rfl fun m hm => pe_lit hm h
    · -- var
      simp only [Bool.and_eq_true, decide_eq_true_eq] at h
      exact SE.core rfl rfl rfl fun m hm => pe_varE hm h.1.1 h.1.2 h.2
    · -- con
      simp only [Bool.and_eq_true, decide_eq_true_eq] at h
      obtain ⟨⟨⟨rfl, h1⟩, h2⟩, h3⟩ := h
      exact SE.core rfl rfl rfl fun m hm => pe_conE g hm h1 h2 h3
    · -- tup
      exact SE.core rfl rfl rfl fun m hm => pe_tupE hm (hLS h)
    · -- lst
      exact SE.coreF rfl rfl (fun m hm => PE.lockE (pe_lstF (hLS h)) seq_lst fun env st => m_eq hm rfl (fun _ z => nomatch z)) (pe_lstF (hLS h))
    · -- alloc
      rw [Bool.and_eq_true] at h
      have f := pe_allocE ((ih X g _ _ h.2).fr h.1)
      refine ⟨fun m hm => ?_, ⟨fun pins s σ H Q I q => ?_⟩, fun env st K q => ?_, fun z => by cases z⟩
      · cases m <;> first | exact hm.elim | exact f | skip
        refine ⟨fun pins s σ H Q I q => ?_⟩
        obtain ⟨G0, env, F, st, sr, r, q⟩ := q
        exfalso
        have q := RO_bind q
        revert q
        cases evE T _ .v env st with
        | ok d st1 => cases d <;> exact fun q => q
        | exc => exact fun q => q
        | bad => exact fun q => q
      · obtain ⟨G0, env, F, st, sr, r, q⟩ := q
        exfalso
        have q := RO_bind q
        revert q
        cases evE T _ .v env st with
        | ok d st1 => cases d <;> exact fun q => q
        | exc => exact fun q => q
        | bad => exact fun q => q
      · exfalso
        have q := RO_bind q
        revert q
        cases evE T _ .v env st with
        | ok d st1 => cases d <;> exact fun q => q
        | exc => exact fun q => q
        | bad => exact fun q => q
    · -- op
      simp only [Bool.and_eq_true] at h
      exact SE.coreF rfl rfl (fun m hm => pe_opE hm (fun z => nomatch z) h.1.1 (hp h.1.2) (hp h.2)) (pe_opE trivial (fun _ => rfl) h.1.1 (hp h.1.2) (hp h.2))
    · -- neg
      exact SE.core rfl rfl rfl fun m hm => pe_negE hm (hv h)
    · -- cmp
      simp only [Bool.and_eq_true] at h
      obtain ⟨⟨⟨⟨h1, h2⟩, h3⟩, h4⟩, h5⟩ := h
      exact ⟨fun m hm => pe_cmpE g hm h1 h3 (hp h4) (hp h5) (isN_lit h2), pt_cmpE g h1 h3 (hp h4) (hp h5) (isN_lit h2), tb_core rfl, fun z => nomatch z⟩
    · -- chn
      simp only [Bool.and_eq_true] at h
      obtain ⟨⟨⟨⟨⟨⟨⟨h1, h2⟩, h3⟩, h4⟩, h5⟩, h6⟩, h7⟩, h8⟩ := h
      exact ⟨fun m hm => pe_chnE g hm h1 h2 h5 (hv h6) (hv h7) (hv h8) (isN_lit h3) (isN_lit h4), pt_chnE g h1 h2 h5 (hv h6) (hv h7) (hv h8) (isN_lit h3) (isN_lit h4), tb_core rfl, fun z => nomatch z⟩
    · -- no
      have k := ih X g _ _ h
      exact ⟨fun m hm => pe_noE hm (hv h), pt_noE k.tst k.tb, tb_no, fun z => nomatch z⟩
    · -- and
      rename_i es ps pos
      by_cases hn : es = []
      · subst hn
        refine ⟨fun m hm => ⟨fun pins s σ H Q I q => ?_⟩, ⟨fun pins s σ H Q I q => ?_⟩, fun env st K q => q.elim, fun z => nomatch z⟩
        · obtain ⟨G0, env, F, st, sr, r, q⟩ := q
          exact q.elim
        · obtain ⟨G0, env, F, st, sr, r, q⟩ := q
          exact q.elim
      · exact ⟨fun m hm => pe_andE hm (fun e p h => (ih X g e p h).val m hm) h hn, (pw_andE (fun e p h => (ih X g e p h).tst) (fun e p h => (ih X g e p h).tb) h hn).pt, tb_and (fun e p h => (ih X g e p h).tb) h, fun z => nomatch z⟩
    · -- or
      rename_i es ps pos
      by_cases hn : es = []
      · subst hn
        refine ⟨fun m hm => ⟨fun pins s σ H Q I q => ?_⟩, ⟨fun pins s σ H Q I q => ?_⟩, fun env st K q => q.elim, fun z => nomatch z⟩
        · obtain ⟨G0, env, F, st, sr, r, q⟩ := q
          exact q.elim
        · obtain ⟨G0, env, F, st, sr, r, q⟩ := q
          exact q.elim
      · exact ⟨fun m hm => pe_orE hm (fun e p h => (ih X g e p h).val m hm) h hn, (pw_orE (fun e p h => (ih X g e p h).tst) (fun e p h => (ih X g e p h).tb) h hn).pt, tb_or (fun e p h => (ih X g e p h).tb) h, fun z => nomatch z⟩
    · -- ite
      simp only [Bool.and_eq_true] at h
      have k1 := ih X g _ _ h.1.1
      have k2 := ih X g _ _ h.1.2
      have k3 := ih X g _ _ h.2
      exact ⟨fun m hm => pe_iteE hm k1.tst k1.tb (k2.val m hm) (k3.val m hm), pt_iteE k1.tst k1.tb k2.tst k3.tst, tb_ite k2.tb k3.tb, fun z => nomatch z⟩
    · -- sl
      simp only [Bool.and_eq_true] at h
      obtain ⟨⟨h1, h2⟩, h3⟩ := h
      have part : ∀ {e : E} {q : Option Expr}, (match e, q with | .nil, none => true | lo, some q => chkE G X.N n X.env.scope lo q | _, _ => false) = true → PartOk X T e q := fun {e q} h => by
        cases q with
        | none => cases e <;> first | exact part_nil | (cases h; done)
        | some q =>
          have h : chkE G X.N n X.env.scope e q = true := by cases e <;> exact h
          exact part_some (fun z => by rw [z, nil_not] at h; cases h) (hv h)
      exact SE.coreF rfl rfl (fun m hm => pe_slE hm (fun z => nomatch z) (hp h1) (part h2) (part h3)) (pe_slE trivial (fun _ => rfl) (hp h1) (part h2) (part h3))
    · -- idx
      simp only [Bool.and_eq_true] at h
      exact SE.core rfl rfl rfl fun m hm => pe_idxE g hm h.1.1 (hp h.1.2) (hv h.2)
    · -- call
      simp only [Bool.and_eq_true, decide_eq_true_eq] at h
      obtain ⟨⟨⟨h1, h2⟩, h3⟩, h4⟩ := h
      exact SE.core rfl rfl rfl fun m hm => pe_callE g hm h1 h2 h3 h4 (hL h4)
    · -- isinstance
      simp only [Bool.and_eq_true, decide_eq_true_eq] at h
      obtain ⟨⟨⟨⟨⟨rfl, h1⟩, rfl⟩, h2⟩, h3⟩, h4⟩ := h
      exact ⟨fun m hm => pe_isiE g hm h1 h2 h3 (hp h4), pt_core rfl rfl (pe_isiE g trivial h1 h2 h3 (hp h4)), tb_core rfl, fun z => nomatch z⟩
    · -- sorted(set(..))
      simp only [Bool.and_eq_true, decide_eq_true_eq] at h
      obtain ⟨⟨⟨⟨⟨⟨h0, rfl⟩, h1⟩, rfl⟩, h2⟩, h3⟩, h4⟩ := h
      have hh : G.hot = false := by simpa using h0
      exact SE.coreF rfl rfl (fun m hm => PE.lockE (pe_srtsetF g hh h1 h2 h3 (hp h4)) seq_srtset fun env st => m_eq hm rfl (fun _ z => nomatch z)) (pe_srtsetF g hh h1 h2 h3 (hp h4))
    · -- bi
      simp only [Bool.and_eq_true, decide_eq_true_eq] at h
      obtain ⟨⟨⟨⟨⟨h1, hh⟩, hr⟩, rfl⟩, h2⟩, h3⟩ := h
      have hh : G.hot = false ∨ hotB _ = true := (Bool.or_eq_true_iff.mp hh).imp (fun z => by simpa using z) fun z => z
      have hr := Bool.or_eq_true_iff.mp hr
      exact SE.coreF rfl rfl (fun m hm => pe_biE g hh hr hm (fun z => nomatch z) h1 h2 h3 (hB h3)) (pe_biE g hh hr trivial (fun _ => rfl) h1 h2 h3 (hB h3))
    · -- comp
      simp only [Bool.and_eq_true, decide_eq_true_eq] at h
      obtain ⟨⟨⟨⟨⟨⟨⟨h0, rfl⟩, h1⟩, h2⟩, h3⟩, h4⟩, h5⟩, h6⟩ := h
      have hh : G.hot = false := by simpa using h0
      rename_i el tg it cs own pel ptg pit pcs scope pos
      have hi := pi_E (tg := ptg) g (fun e q h => hv h) h4
      have f : PE X (.ListComp pel [⟨ptg, pit, pcs, 0⟩] scope pos) (tE T true .v (.comp el tg it cs own)) := pe_compF g hh h1 hi h3
        (fun s H C cl fp => pg_E (X := X.blk s H scope (compEnvC scope cl C X.env) fp) (g.calm hh) g.nd (locOk_blk s H C cl fp) tg ptg h2)
        (fun s H C cl fp => by
          cases cs with
          | nil => cases pcs with
            | nil => exact pts_nilE
            | cons => cases h5
          | cons c cs => cases cs with
            | cons => cases pcs <;> cases h5
            | nil => cases pcs with
              | nil => cases h5
              | cons q pcs => cases pcs with
                | cons => cases h5
                | nil =>
                  have k := ih (X.blk s H scope (compEnvC scope cl C X.env) fp) (g.blk hh s H scope _ fp) c q h5
                  exact pts_oneE k.tst k.tb)
        (fun s H C cl fp => (ih (X.blk s H scope (compEnvC scope cl C X.env) fp) (g.blk hh s H scope _ fp) el pel h6).val .v trivial)
      exact SE.coreF rfl rfl (fun m hm => PE.lockE f seq_comp fun env st => m_eq hm rfl (fun _ z => nomatch z)) f
    · -- callk
      simp only [Bool.and_eq_true, decide_eq_true_eq] at h
      obtain ⟨⟨⟨⟨⟨h1, h2⟩, h3⟩, h4⟩, h5⟩, h6⟩ := h
      exact SE.core rfl rfl rfl fun m hm => pe_callkE g hm h1 h2 h3 noStar h4 h5 h6 (hL h4) (pk_E (fun e p h => (ih X g e p h).val .v trivial) noStar h5)
    · -- dnew
      exact SE.coreF rfl rfl (fun m hm => PE.lockE pe_dnewF seq_dnew fun env st => m_eq hm rfl (fun _ z => nomatch z)) pe_dnewF
    · -- dct1
      simp only [Bool.and_eq_true] at h
      obtain ⟨⟨⟨h1, h2⟩, h3⟩, h4⟩ := h
      exact SE.coreF rfl rfl (fun m hm => PE.lockE (pe_dct1F g (hv h3) (hv h4)) seq_dct1 fun env st => m_eq hm rfl (fun _ z => nomatch z)) (pe_dct1F g (hv h3) (hv h4))
    · -- dcomp
      simp only [Bool.and_eq_true, decide_eq_true_eq] at h
      obtain ⟨⟨⟨⟨⟨⟨⟨h0, rfl⟩, h1⟩, h2⟩, h3⟩, h4⟩, h5⟩, h6⟩ := h
      have hh : G.hot = false := by simpa using h0
      rename_i k v tg it own pk pv ptg pit scope pos
      have hi := pi_E (tg := ptg) g (fun e q h => hv h) h4
      have f : PE X (.DictComp pk pv [⟨ptg, pit, [], 0⟩] scope pos) (tE T true .v (.dcomp k v tg it own)) := pe_dcompF g hh h1 hi h3
        (fun s H C cl fp => pg_E (X := X.blk s H scope (compEnvC scope cl C X.env) fp) (g.calm hh) g.nd (locOk_blk s H C cl fp) tg ptg h2)
        (fun s H C cl fp => (ih (X.blk s H scope (compEnvC scope cl C X.env) fp) (g.blk hh s H scope _ fp) k pk h5).val .v trivial)
        (fun s H C cl fp => (ih (X.blk s H scope (compEnvC scope cl C X.env) fp) (g.blk hh s H scope _ fp) v pv h6).val .v trivial)
      exact SE.coreF rfl rfl (fun m hm => PE.lockE f seq_dcomp fun env st => m_eq hm rfl (fun _ z => nomatch z)) f
    · -- of a tuple
      simp only [Bool.and_eq_true, decide_eq_true_eq] at h
      obtain ⟨rfl, h1⟩ := h
      exact SE.core rfl rfl rfl fun m hm => pe_revtE hm (hp h1)
    · -- rev
      simp only [Bool.and_eq_true, decide_eq_true_eq] at h
      obtain ⟨rfl, h1⟩ := h
      have f := fun (k : Nat) (p1 p2 p3 pos : Pos) => pe_revF (k := k) (p1 := p1) (p2 := p2) (p3 := p3) (pos := pos) (hp h1)
      exact SE.coreF rfl rfl (fun m hm => PE.lockE (f _ _ _ _ _) seq_rev fun env st => m_eq hm rfl (fun _ z => nomatch z)) (f _ _ _ _ _)
    · -- get, one
      simp only [Bool.and_eq_true, decide_eq_true_eq] at h
      obtain ⟨⟨⟨⟨⟨rfl, h1⟩, h2⟩, h3⟩, h4⟩, h5⟩ := h
      exact SE.core rfl rfl rfl fun m hm => pe_get1E g hm h1 h2 h3 (hp h4) (hv h5)
    · -- get
      simp only [Bool.and_eq_true, decide_eq_true_eq] at h
      obtain ⟨⟨⟨⟨⟨⟨⟨rfl, h1⟩, h2⟩, h3⟩, h3'⟩, h4⟩, h5⟩, h6⟩ := h
      exact SE.core rfl rfl rfl fun m hm => pe_getE g hm h1 h2 h3 h3' (hp h4) (hv h5) (hv h6)
    · -- list(range)
      simp only [Bool.and_eq_true, decide_eq_true_eq] at h
      obtain ⟨⟨⟨⟨⟨⟨⟨⟨h0, rfl⟩, h1⟩, rfl⟩, h2⟩, h3⟩, h4⟩, h5⟩, h6⟩ := h
      have hh : G.hot = false := by simpa using h0
      have f := fun (p p2 q2 pos : Pos) => pe_lrngF (p := p) (p2 := p2) (q2 := q2) (pos := pos) g hh h1 h2 h3 h4 (hv h5) (hv h6)
      exact SE.coreF rfl rfl (fun m hm => PE.lockE (f _ _ _ _) seq_lrng fun env st => m_eq hm rfl (fun _ z => nomatch z)) (f _ _ _ _)
    · -- list(values)
      simp only [Bool.and_eq_true, decide_eq_true_eq] at h
      obtain ⟨⟨⟨⟨⟨⟨h0, rfl⟩, h1⟩, rfl⟩, h2⟩, h3⟩, h4⟩ := h
      have hh : G.hot = false := by simpa using h0
      have f := fun (p pos : Pos) => pe_lstvF (p := p) (pos := pos) g hh h1 h2 h3 (hv h4)
      exact SE.coreF rfl rfl (fun m hm => PE.lockE (f _ _) seq_lstv fun env st => m_eq hm rfl (fun _ z => nomatch z)) (f _ _)
    · -- sum(values)
      simp only [Bool.and_eq_true, decide_eq_true_eq] at h
      obtain ⟨⟨⟨⟨⟨⟨h0, rfl⟩, h1⟩, rfl⟩, h2⟩, h3⟩, h4⟩ := h
      have hh : G.hot = false := by simpa using h0
      exact SE.core rfl rfl rfl fun m hm => pe_sumvE g hh hm h1 h2 h3 (hv h4)
    · -- count
      simp only [Bool.and_eq_true, decide_eq_true_eq] at h
      obtain ⟨⟨⟨⟨⟨rfl, h1⟩, h2⟩, h3⟩, h4⟩, h5⟩ := h
      exact SE.core rfl rfl rfl fun m hm => pe_countE hm h1 h2 h3 (hp h4) (hv h5)
    · -- index
      simp only [Bool.and_eq_true, decide_eq_true_eq] at h
      obtain ⟨⟨⟨⟨⟨rfl, h1⟩, h2⟩, h3⟩, h4⟩, h5⟩ := h
      exact SE.core rfl rfl rfl fun m hm => pe_indexE g hm h1 h2 h3 (hp h4) (hv h5)
    · exact soundY g noStar hv hp h
end
end LB
/-! LB14: statements: the check, the readings, soundness. -/
namespace LB
open PySem PySem.Spec PyProof.Rows L2
variable [Clx]

def swB (sc : Scope) (v : Expr) (x : PySem.Str) (py : Pos) : Bool := match v with
  | .ListComp _ _ scope pos => decide (sc.names.lookup x = some .local) && (py.line == pos.line) && !(scope.names.any fun (n, k) => n == x && (k == .local || k == .cell))
  | _ => false
def noComp : Expr → Bool
  | .ListComp _ _ _ _ => false | .SetComp _ _ _ _ => false | .DictComp _ _ _ _ _ => false | _ => true
def parNames (sc : Scope) (line : Nat) (ts : List Expr) : List PySem.Str := ts.filterMap fun
  | .Name id pos => if sc.names.lookup id == some .local && pos.line == line then some id else none
  | _ => none
/-- a tuple is made and unpacked -/
def swNone (sc : Scope) (ts vs : List Expr) : Bool :=
  !(ts.length == 2 || ts.length == 3) || vs.length != ts.length || (vs.any fun | .Starred .. => true | _ => false) ||
    ((parNames sc ((ts.head?.map (·.pos.line)).getD 0) ts).length != ts.length || (parNames sc ((ts.head?.map (·.pos.line)).getD 0) ts).eraseDups.length != (parNames sc ((ts.head?.map (·.pos.line)).getD 0) ts).length) || vs.all (foldedForSure 8)
/-- the values are stored one by one -/
def swSome (sc : Scope) (ts vs : List Expr) : Bool :=
  (ts.length == 2 || ts.length == 3) && vs.length == ts.length && !(vs.any fun | .Starred .. => true | _ => false) &&
    (parNames sc ((ts.head?.map (·.pos.line)).getD 0) ts).length == ts.length && (parNames sc ((ts.head?.map (·.pos.line)).getD 0) ts).eraseDups.length == (parNames sc ((ts.head?.map (·.pos.line)).getD 0) ts).length &&
    !vs.all (foldedForSure 8) && !vs.all (constantsAlone 8)
theorem sw_none {sc : Scope} {ts vs : List Expr} {k k' : Nat} {p p' : Pos} {env : PySem.Env} (he : env.scope = sc) (hk : sc.kind = .function) (h : swNone sc ts vs = true) : swappedStores [.Tuple ts k p] (.Tuple vs k' p') env = pure none := by
  subst he
  have hb : env.blockKind = .function := by unfold Env.blockKind; rw [hk]; rfl
  unfold swNone at h
  unfold swappedStores
  simp only [pure_bind, hb]
  by_cases h1 : (!(ts.length == 2 || ts.length == 3) || vs.length != ts.length || (ScopeKind.function != ScopeKind.function)) = true
  · exact if_pos h1
  · refine Eq.trans (if_neg h1) ?_
    by_cases h2 : (vs.any fun | .Starred .. => true | _ => false) = true
    · exact if_pos h2
    · refine Eq.trans (if_neg h2) ?_
      by_cases h3 : ((parNames env.scope ((ts.head?.map (·.pos.line)).getD 0) ts).length != ts.length || (parNames env.scope ((ts.head?.map (·.pos.line)).getD 0) ts).eraseDups.length != (parNames env.scope ((ts.head?.map (·.pos.line)).getD 0) ts).length) = true
      · exact if_pos h3
      · refine Eq.trans (if_neg h3) ?_
        by_cases h4 : vs.all (foldedForSure 8) = true
        · exact if_pos h4
        · exfalso
          have h1' : (!(ts.length == 2 || ts.length == 3) || vs.length != ts.length) = false := by
            cases e : (!(ts.length == 2 || ts.length == 3) || vs.length != ts.length) with
            | false => rfl
            | true => rw [e] at h1; exact absurd rfl h1
          rw [Bool.eq_false_iff.mpr h4, Bool.eq_false_iff.mpr h3, Bool.eq_false_iff.mpr h2, h1'] at h
          cases h
theorem sw_some {sc : Scope} {ts vs : List Expr} {k k' : Nat} {p p' : Pos} {env : PySem.Env} (he : env.scope = sc) (hk : sc.kind = .function) (h : swSome sc ts vs = true) :
    swappedStores [.Tuple ts k p] (.Tuple vs k' p') env = pure (some (parNames sc ((ts.head?.map (·.pos.line)).getD 0) ts)) := by
  subst he
  have hb : env.blockKind = .function := by unfold Env.blockKind; rw [hk]; rfl
  unfold swSome at h
  simp only [Bool.and_eq_true] at h
  obtain ⟨⟨⟨⟨⟨⟨a1, a2⟩, a3⟩, a4⟩, a5⟩, a6⟩, a7⟩ := h
  unfold swappedStores
  simp only [pure_bind, hb]
  refine Eq.trans (if_neg ?_) (Eq.trans (if_neg (c := (vs.any fun | .Starred .. => true | _ => false) = true) ?_) (Eq.trans (if_neg (c := ((parNames env.scope ((ts.head?.map (·.pos.line)).getD 0) ts).length != ts.length || (parNames env.scope ((ts.head?.map (·.pos.line)).getD 0) ts).eraseDups.length != (parNames env.scope ((ts.head?.map (·.pos.line)).getD 0) ts).length) = true) ?_) (Eq.trans (if_neg ?_) (Eq.trans (if_neg ?_) rfl))))
  · rw [a1]
    have : vs.length = ts.length := by simpa using a2
    rw [this]
    simp
  · intro z
    rw [z] at a3
    cases a3
  · intro z
    have b4 : (parNames env.scope ((ts.head?.map (·.pos.line)).getD 0) ts).length = ts.length := by simpa using a4
    have b5 : (parNames env.scope ((ts.head?.map (·.pos.line)).getD 0) ts).eraseDups.length = (parNames env.scope ((ts.head?.map (·.pos.line)).getD 0) ts).length := by simpa using a5
    rw [b5, b4] at z
    simp at z
  · intro z
    rw [z] at a6
    cases a6
  · intro z
    rw [z] at a7
    cases a7
theorem sw_false {v : Expr} {x : PySem.Str} {py : Pos} {l : Nat} {env : PySem.Env} (hk : env.scope.kind = .function) (h : swB env.scope v x py = false) (hd : (match v with | .SetComp _ _ _ _ => false | .DictComp _ _ _ _ _ => false | _ => true) = true) : swapsWith v (some (.Name x py)) l env = pure false := by
  have hb : env.blockKind = .function := by unfold Env.blockKind; rw [hk]; rfl
  cases v <;> first | rfl | (cases hd; done) | skip
  rename_i el gs scope pos
  have h' : (decide (env.scope.names.lookup x = some .local) && (py.line == pos.line) && !(scope.names.any fun (n, k) => n == x && (k == .local || k == .cell))) = false := h
  unfold swapsWith
  simp only [hb, Expr.pos]
  have e : (ScopeKind.function == ScopeKind.function && env.kindOf x == some NameKind.local && py.line == pos.line && !(scope.names.any fun (n, k) => n == x && (k == .local || k == .cell))) = false := by
    rw [← h']
    have : (env.kindOf x == some NameKind.local) = decide (env.scope.names.lookup x = some .local) := by
      unfold Env.kindOf
      by_cases q : env.scope.names.lookup x = some .local
      · rw [q]; decide
      · rw [decide_eq_false q]
        exact beq_eq_false_iff_ne.mpr q
    rw [this]; rfl
  exact congrArg pure e
end LB
/-! LB15: statements, one by one. -/
namespace LB
open PySem PySem.Spec PyProof.Rows L2
variable [Clx]
/-- what is wished of an exception that leaves the def -/
class Wc where
  w : WX
variable [Wc]

structure Rr where
  rt : D → Store → Prop
  ex : Nat → List D → Store → Prop
omit [Wc] in
def RS (o : Out) (N : Env → Store → Prop) (R : Rr) : Prop :=
  match o with
  | .nx env st => N env st
  | .rt d st => R.rt d st
  | .exc c a _ st => R.ex c a st
  | .bad => False
theorem RS_toOut {α : Type} {r : Res α} {f : α → Store → Out} {N : Env → Store → Prop} {R : Rr} (h : RS (r.toO f) N R) : RO r fun a st => RS (f a st) N R := by
  cases r <;> exact h
theorem RS_mono {o : Out} {N N' : Env → Store → Prop} {R R' : Rr} (h : RS o N R) (k : ∀ e st, N e st → N' e st) (k' : ∀ d st, R.rt d st → R'.rt d st) (k2 : ∀ c a st, R.ex c a st → R'.ex c a st := by exact fun _ _ _ h => h) : RS o N' R' := by
  cases o with
  | nx e st => exact k e st h
  | rt d st => exact k' d st h
  | exc c a e st => exact k2 c a st h
  | bad => exact h
abbrev Nx (G : Hp) (F0 : List Addr) (H : Hp) (F : List Addr) (Z : Ends) : Env → Store → Prop := fun env' st' => ∀ σ' H' F', SR H' F' st' → ER G σ' H' F' env' → Stp G F0 H' F' → Kps H F H' F' → Z.nx σ' H'
abbrev Rt (G : Hp) (F0 : List Addr) (Z : Ends) : Rr := ⟨fun d st' => ∀ x H' F', SR H' F' st' → Stp G F0 H' F' → Rp H' F' d x → Z.rt x H', fun c a st' => ∀ cls d σ' H' F', SR H' F' st' → Stp G F0 H' F' → IsX c a cls d H' → Wc.w cls d σ' H'⟩
/-- a statement's reading; a block's -/
def tS (T : Tab) (s : S) : TS := fun D σ H => ∃ G F0 env F st, SR H F st ∧ ER G σ H F env ∧ Stp G F0 H F ∧ RS (ex T s env st) (Nx G F0 H F D) (Rt G F0 D)
def tSs (T : Tab) (ss : List S) : TS := fun D σ H => ∃ G F0 env F st, SR H F st ∧ ER G σ H F env ∧ Stp G F0 H F ∧ RS (exs T ss env st) (Nx G F0 H F D) (Rt G F0 D)
/-- the context of a def's body -/
structure Gs (G : Sig) (T : Tab) (X : Cx) : Prop extends Gc G T X where
  all : ∀ x, X.fn x = true
  po : PassesOwn (model X.prog X.w) X.A X.env X.xe
  tk : Takes X Wc.w
theorem Gs.loc {G : Sig} {T : Tab} {X : Cx} (g : Gs G T X) : LocOk X X.env.scope := fun x h => ⟨loc_of h, .inl (g.all x)⟩
section
variable {X : Cx} {G : Sig} {T : Tab}
theorem PS.imp {st : Stmt} {t t' : TS} (h : PS X st t) (k : ∀ D σ H, t' D σ H → t D σ H) : PS X st t' := ⟨fun pins s σ H D I q => h.run pins s σ H D I (k D σ H q)⟩
theorem PSs.imp {st : List Stmt} {t t' : TS} (h : PSs X st t) (k : ∀ D σ H, t' D σ H → t D σ H) : PSs X st t' := ⟨fun pins s σ H D I q => h.run pins s σ H D I (k D σ H q)⟩
theorem tX_go {b : Bool} {e : E} {σ : L2.St} {G H : Hp} {F : List Addr} {env : Env} {st : Store} {Q : VK} {K : D → Store → Prop} (s : SR H F st) (r : ER G σ H F env) (h : RO (evE T e .v env st) K) (hseq : ∀ d st1, K d st1 → b = true → isSeq d)
    (k : ∀ d st1 x H1 F1, K d st1 → Stp H F H1 F1 → SR H1 F1 st1 → ER G σ H1 F1 env → OV b .v H H1 F1 d x → Q x H1) : tE T b .v e σ H Q :=
  ⟨G, env, F, st, s, r, RO_mono h fun d st1 kd => ⟨hseq d st1 kd, fun x H1 F1 a s1 v => k d st1 x H1 F1 kd a s1 (r.step s a) v⟩⟩
theorem noOwn {G : Hp} {σ : L2.St} {H : Hp} {F : List Addr} {env : Env} {p : Addr} (r : ER G σ H F env) (hp : Nw H p) : ∀ (i j : Nat) (e : D), j ≠ i → env[j]? = some (.o e) → σ[j]? ≠ some (some (.ref p)) := by
  intro i j e _ he z
  obtain ⟨a, e1, w, _⟩ := r.own j e he
  obtain ⟨u, hu, _, _, nf⟩ := w.at
  rw [z] at e1
  cases e1
  obtain ⟨ps, eu⟩ := hp _ hu
  exact nf.tbl ps eu
/-- x = e -/
theorem ps_setE {i : Nat} {e : E} {x : PySem.Str} {v : Expr} {py pos : Pos} (g : Gs G T X) (hi : X.N[i]? = some x) (hl : locB X.env.scope x = true) (hs : swapsWith v (some (.Name x py)) pos.line X.env = pure false) (he : PE X v (tE T false .v e)) :
    PS X (.Assign [.Name x py] v pos) (tS T (.set i e)) := by
  refine PS.imp (ps_set g.nd hi (loc_of hl) he hs (.inl (g.all x))) fun D σ H q => ?_
  obtain ⟨G0, F0, env, F, st, s, r, a, q⟩ := q
  exact tE_go s r (RS_toOut q) fun d st1 y H1 F1 k a1 s1 r1 v1 => k _ H1 F1 s1 (r1.put v1) (a.trans a1) (a1.keeps s)
theorem seq_if {d : D} {o : Out} {N : Env → Store → Prop} {R : Rr} (h : RS (if seqB d = true then o else .bad) N R) : isSeq d ∧ RS o N R := by
  by_cases q : seqB d = true
  · rw [if_pos q] at h
    refine ⟨?_, h⟩
    cases d <;> first | trivial | (cases q; done)
  · rw [if_neg q] at h; exact h.elim
/-- x = e, x the only holder -/
theorem ps_ownE {i : Nat} {e : E} {x : PySem.Str} {v : Expr} {py pos : Pos} (g : Gs G T X) (hi : X.N[i]? = some x) (hl : locB X.env.scope x = true) (hs : swapsWith v (some (.Name x py)) pos.line X.env = pure false) (he : PE X v (tE T true .v e)) :
    PS X (.Assign [.Name x py] v pos) (tS T (.own i e)) := by
  refine PS.imp (ps_set g.nd hi (loc_of hl) he hs (.inl (g.all x))) fun D σ H q => ?_
  obtain ⟨G0, F0, env, F, st, s, r, a, q⟩ := q
  refine tX_go s r (RS_toOut q) (fun d st1 k _ => (seq_if k).1) fun d st1 y H1 F1 k a1 s1 r1 v1 => ?_
  obtain ⟨p, rfl, hp, w, nf⟩ := (show ∃ p, y = .ref p ∧ Nw H p ∧ Ow H1 F1 d p ∧ p ∉ F1 from v1)
  exact (seq_if k).2 _ H1 F1 s1 (r1.putO (i := i) w nf (a.nw s hp) (fun j e hj he z => noOwn r hp i j e hj he z)) (a.trans a1) (a1.keeps s)
/-- x = [..], a comprehension: the store stands within its frame -/
theorem ps_setLcE {i : Nat} {el it : E} {tg : Tg} {cs : List E} {own : List (PySem.Str × Nat)} {x : PySem.Str} {py pos spos : Pos} {pel ptg pit : Expr} {pcs : List Expr} {scope : Scope} (g : Gs G T X) (hh : G.hot = false) (hi : X.N[i]? = some x) (hl : X.env.scope.names.lookup x = some .local)
    (hs : swapsWith (.ListComp pel [⟨ptg, pit, pcs, 0⟩] scope pos) (some (.Name x py)) spos.line X.env = pure true) (hb : blkC X.N X.env.scope scope own = true) (hit : PI X ptg pit (tI T it)) (hset : noSet pit = true)
    (hg : ∀ (s : Shared) (H : Hp) (C : Addr) (cl : List (PySem.Str × Addr)) (fp : List Addr), PG (X.blk s H scope (compEnvC scope cl C X.env) fp) ptg (tG (own.map (·.2)) tg))
    (ht : ∀ (s : Shared) (H : Hp) (C : Addr) (cl : List (PySem.Str × Addr)) (fp : List Addr), PTs (X.blk s H scope (compEnvC scope cl C X.env) fp) pcs (tCs T cs))
    (he : ∀ (s : Shared) (H : Hp) (C : Addr) (cl : List (PySem.Str × Addr)) (fp : List Addr), PE (X.blk s H scope (compEnvC scope cl C X.env) fp) pel (tE T false .v el)) :
    PS X (.Assign [.Name x py] (.ListComp pel [⟨ptg, pit, pcs, 0⟩] scope pos) spos) (fun D σ H => tE T true .v (.comp el tg it cs own) σ H fun y H1 => D.nx (σ.set i (some y)) H1) := by
  have hf : ∀ x, foldedSetIterable pit X.env x = pure x := by
    intro x
    cases pit <;> first | rfl | (cases hset; done)
  exact PS.imp (ps_setLc (g.calm hh) g.nd hi hl hs hit (blkOk_by hb) hg ht he hf) fun D σ H q => comp_read q
/-- what is stored fresh: owned, or locked -/
theorem ps_ownOf {i : Nat} {e : E} {p : Stmt} (h : PS X p fun D σ H => tE T true .v e σ H fun y H1 => D.nx (σ.set i (some y)) H1) : PS X p (tS T (.own i e)) :=
  PS.imp h fun D σ H q => by
    obtain ⟨G0, F0, env, F, st, s, r, a, q⟩ := q
    refine tX_go s r (RS_toOut q) (fun d st1 k _ => (seq_if k).1) fun d st1 y H1 F1 k a1 s1 r1 v1 => ?_
    obtain ⟨p, rfl, hp, w, nf⟩ := (show ∃ p, y = .ref p ∧ Nw H p ∧ Ow H1 F1 d p ∧ p ∉ F1 from v1)
    exact (seq_if k).2 _ H1 F1 s1 (r1.putO (i := i) w nf (a.nw s hp) (fun j e hj he z => noOwn r hp i j e hj he z)) (a.trans a1) (a1.keeps s)
/-- an owned thing is locked from here on -/
theorem lock_own {pins : List (Addr × Obj)} {σ : L2.St} {G0 H : Hp} {s' : Shared} {F0 F : List Addr} {env : Env} {st : Store} {i : Nat} {d : D} (I : L2.Inv X pins σ H s') (s : SR H F st) (r : ER G0 σ H F env) (a : Stp G0 F0 H F) (hi : env[i]? = some (.o d)) :
    ∃ H', L2.Inv X pins σ H' s' ∧ SR H' F st ∧ ER G0 σ H' F (env.set i (.v d)) ∧ Stp G0 F0 H' F ∧ Kps H F H' F := by
  obtain ⟨p, e1, w, nf, ng⟩ := r.own i d hi
  obtain ⟨u, hu, mu, t1, t2⟩ := w.at
  obtain ⟨o, J⟩ := I.lock hu mu
  have k : Kps H F (upd H p (.frz o u)) F := keeps_upd hu t1 t2
  have hl : i < env.length := (List.getElem?_eq_some_iff.mp hi).1
  refine ⟨_, J, s.other hu t1 t2 nf, ?_, a.updN hu t2 ng, k⟩
  · have back : ∀ {j : Nat} {e : Slot}, i ≠ j → (env.set i (.v d))[j]? = some e → env[j]? = some e := fun hj he => by rw [List.getElem?_set_ne hj] at he; exact he
    refine ⟨fun j e he => ?_, fun j e he => ?_, fun j k e e' b h1 h2 h3 h4 => ?_, by rw [List.length_set, r.len]⟩
    · by_cases hj : i = j
      · subst hj
        rw [List.getElem?_set_self hl] at he
        cases he
        refine ⟨.ref p, e1, ?_⟩
        cases w with
        | lst h q => rw [h] at hu; cases hu; exact .lst upd_same (q.mono k)
        | dK h q => rw [h] at hu; cases hu; exact .dK upd_same (q.mono k)
        | dT h q => rw [h] at hu; cases hu; exact .dT upd_same (q.mono k)
      · obtain ⟨x, q1, q2⟩ := r.val j e (back hj he)
        exact ⟨x, q1, q2.mono k⟩
    · have hj : i ≠ j := fun z => by subst z; rw [List.getElem?_set_self hl] at he; cases he
      obtain ⟨b, q1, q2, q3, q4⟩ := r.own j e (back hj he)
      refine ⟨b, q1, q2.mono k fun o q _ => ?_, q3, q4⟩
      rw [upd_ne (fun z => hj (r.one i j d e p hi (back hj he) e1 (by rw [q1, z])))]
      exact q
    · have hj : i ≠ j := fun z => by subst z; rw [List.getElem?_set_self hl] at h1; cases h1
      have hk : i ≠ k := fun z => by subst z; rw [List.getElem?_set_self hl] at h2; cases h2
      exact r.one j k e e' b (back hj h1) (back hk h2) h3 h4
theorem ps_setOf {i : Nat} {e : E} {p : Stmt} (hN : i < X.N.length) (hm : ∀ env st, RO (evE T e .v env st) (fun _ _ => True) → RO (evE T e .v env st) fun d _ => isSeq d) (h : PS X p fun D σ H => tE T true .v e σ H fun y H1 => D.nx (σ.set i (some y)) H1) : PS X p (tS T (.set i e)) := by
  refine ⟨fun pins s σ H Z I q => ?_⟩
  obtain ⟨G0, F0, env, F, st, sr, r, a, q⟩ := q
  have q := RS_toOut q
  have hsq := hm env st (RO_mono q fun _ _ _ => trivial)
  refine thn (h.run pins s σ H { nx := fun σ' H' => ∃ d F' st', SR H' F' st' ∧ ER G0 σ' H' F' (env.set i (.o d)) ∧ Stp G0 F0 H' F' ∧ Kps H F H' F' ∧ Nx G0 F0 H F Z (env.set i (.v d)) st', rt := fun _ _ => False } I
    (tX_go sr r (RO_and q hsq) (fun d st1 k _ => k.2) fun d st1 y H1 F1 k a1 s1 r1 v1 => ?_)) fun f s1 hf => ?_
  · obtain ⟨p, rfl, hp, w, nf⟩ := (show ∃ p, y = .ref p ∧ Nw H p ∧ Ow H1 F1 d p ∧ p ∉ F1 from v1)
    exact ⟨d, F1, st1, s1, r1.putO (i := i) w nf (a.nw sr hp) (fun j e hj he z => noOwn r hp i j e hj he z), a.trans a1, a1.keeps sr, k.1⟩
  · cases f with
    | next =>
      obtain ⟨σ', H', I', d, F', st', s2, r2, a2, k2, kk⟩ := hf
      have hl : i < env.length := by
        have e1 := r2.len
        rw [List.length_set] at e1
        rw [e1, I'.len]; exact hN
      have hi : (env.set i (.o d))[i]? = some (.o d) := List.getElem?_set_self hl
      obtain ⟨H2, J, s3, r3, a3, k3⟩ := lock_own I' s2 r2 a2 hi
      rw [List.set_set] at r3
      exact ⟨σ', H2, J, kk σ' H2 F' s3 r3 a3 (k2.trans k3)⟩
    | ret u => obtain ⟨v, σ', H', I', rv, z⟩ := hf; exact z.elim
    | brk => obtain ⟨σ', H', I', z⟩ := hf; exact z.elim
    | cont => obtain ⟨σ', H', I', z⟩ := hf; exact z.elim
/-- target = e -/
theorem ps_unpE {tg : Tg} {e : E} {t v : Expr} {pos : Pos} (g : Gs G T X) (hg : PG X t (tG (List.range X.N.length) tg)) (he : PE X v (tE T false .v e)) (hs : swapsWithSole [t] v pos.line X.env = pure false) (hw : swappedStores [t] v X.env = pure none)
    (h1 : (assignEach [t] X.env).map (·.2) = [assign t X.env]) : PS X (.Assign [t] v pos) (tS T (.unp tg e)) := by
  refine PS.imp (ps_asg he hg hs hw h1) fun D σ H q => ?_
  obtain ⟨G0, F0, env, F, st, s, r, a, q⟩ := q
  refine tE_go s r (RS_toOut q) fun d st1 y H1 F1 k a1 s1 r1 v1 => ?_
  cases et : setTg env tg d with
  | none => rw [et] at k; exact k.elim
  | some env' =>
    rw [et] at k
    exact ⟨G0, env, F1, d, env', r1, v1, et, fun σ' r2 _ => k σ' H1 F1 s1 r2 (a.trans a1) (a1.keeps s)⟩
/-- if -/
theorem ps_iteE {t : E} {a b : List S} {pt : Expr} {pa pb : List Stmt} {pos : Pos} (ht : PT X pt (tT T t)) (tb : TB T t) (ha : PSs X pa (tSs T a)) (hb : PSs X pb (tSs T b)) : PS X (.If pt pa pb pos) (tS T (.ite t a b)) := by
  refine PS.imp (ps_if ht ha hb) fun D σ H q => ?_
  obtain ⟨G0, F0, env, F, st, s, r, a0, q⟩ := q
  refine tT_go s r (tb env st _ (RS_toOut q)) (fun d st1 h => h.2) fun d st1 H1 F1 k a1 s1 r1 => ?_
  have k := k.1
  have kp := a1.keeps s
  cases d with
  | true => exact ⟨G0, F0, env, F1, st1, s1, r1, a0.trans a1, RS_mono k (fun e st' q σ' H' F' b1 b2 b3 b4 => q σ' H' F' b1 b2 b3 (kp.trans b4)) fun _ _ q => q⟩
  | false => exact ⟨G0, F0, env, F1, st1, s1, r1, a0.trans a1, RS_mono k (fun e st' q σ' H' F' b1 b2 b3 b4 => q σ' H' F' b1 b2 b3 (kp.trans b4)) fun _ _ q => q⟩
/-- return e; e alone; pass -/
theorem ps_retE {e : E} {p : Expr} {pos : Pos} (he : PE X p (tE T false .v e)) : PS X (.Return (some p) pos) (tS T (.ret e)) := by
  refine PS.imp (ps_ret he) fun D σ H q => ?_
  obtain ⟨G0, F0, env, F, st, s, r, a, q⟩ := q
  exact tE_go s r (RS_toOut q) fun d st1 y H1 F1 k a1 s1 r1 v1 => k y H1 F1 s1 (a.trans a1) v1
theorem ps_exE {e : E} {p : Expr} {pos : Pos} (he : PE X p (tE T false .v e)) (hs : swapsWith p none pos.line X.env = pure false) : PS X (.Expr p pos) (tS T (.ex e)) := by
  refine PS.imp (ps_expr he hs) fun D σ H q => ?_
  obtain ⟨G0, F0, env, F, st, s, r, a, q⟩ := q
  exact tE_go s r (RS_toOut q) fun d st1 y H1 F1 k a1 s1 r1 v1 => k σ H1 F1 s1 r1 (a.trans a1) (a1.keeps s)
theorem ps_passE {pos : Pos} : PS X (.Pass pos) (tS T .pass) := PS.imp ps_pass fun D σ H q => by
  obtain ⟨G0, F0, env, F, st, s, r, a, q⟩ := q
  exact q σ H F s r a Kps.refl
theorem ps_bad {s : S} {p : Stmt} (h : ∀ env st N R, ¬ RS (ex T s env st) N R) : PS X p (tS T s) := PS.imp ps_never fun D σ H q => by
  obtain ⟨G0, F0, env, F, st, s, r, a, q⟩ := q
  exact h _ _ _ _ q
/-- x.append(e) -/
theorem ps_appE {i : Nat} {e : E} {x : PySem.Str} {p1 ap cp pos : Pos} {pe : Expr} (g : Gs G T X) (hi : X.N[i]? = some x) (hv : visB X.env.scope x = true) (hn : nmB x = true) (hline : (ap.endLine == cp.line) = true) (hst : noSt pe = true) (he : PE X pe (tE T false .v e)) :
    PS X (.Expr (.Call (.Attribute (.Name x p1) "append" ap) [pe] [] cp) pos) (tS T (.app i e)) := by
  have hm : PE X (.Call (.Attribute (.Name x p1) "append" ap) [pe] [] cp) _ := pe_bm PySem.F.plainAttrs_list PySem.F.slot_list_append PySem.F.type_list_append mt_append (pe_var hi (vis_of hv) (nm_of hn).1 (nm_of hn).2)
    (pa_cons he pa_nil (star_cons hst)) rfl (by rw [star_cons hst]; rfl) hline (star_cons hst) rfl
  refine PS.imp (ps_expr hm rfl) fun D σ H q => ?_
  obtain ⟨G0, F0, env, F, st, s, r, a, q⟩ := q
  have q := RS_toOut q
  have own : ∃ l, env[i]? = some (.o (.lst l)) := by
    cases ee : evE T e .v env st with
    | ok d st1 =>
      rw [ee] at q
      have q : RS (match env[i]? with | some (.o (.lst l)) => if lenOk l.length then Out.nx (env.set i (.o (.lst (l ++ [d])))) st1 else .bad | _ => .bad) _ _ := q
      split at q
      · rename_i l h
        exact ⟨l, h⟩
      · exact q.elim
    | exc => rw [ee] at q; exact q.elim
    | bad => rw [ee] at q; exact q.elim
  obtain ⟨l, ho⟩ := own
  obtain ⟨p, e1, w, nf, ng⟩ := r.own i _ ho
  obtain ⟨xs, hx, rx⟩ : ∃ xs, H p = some (.lst xs) ∧ Rps H F l xs := by
    cases w with
    | lst h q => exact ⟨_, h, q⟩
  refine ⟨.ref p, e1, .inl ⟨rfl, xs, .inl (.inl hx)⟩, tE_go s r q fun d st1 y H1 F1 k a1 s1 r1 v1 => ?_⟩
  rw [ho] at k
  have k : RS (if lenOk l.length then Out.nx (env.set i (.o (.lst (l ++ [d])))) st1 else .bad) _ _ := k
  by_cases hl : lenOk l.length = true
  · rw [if_pos hl] at k
    have hx1 : H1 p = some (.lst xs) := a1.ext p _ hx nf NF.lst.tbl
    have nf1 : p ∉ F1 := a1.back hx nf NF.lst.tbl
    have rx1 := rx.mono (a1.keeps s)
    refine ⟨p, xs, y, rfl, rfl, hx1, by rw [← rx.length]; exact sz_lt' hl, ?_⟩
    have kp : Kps H1 F1 (upd H1 p (.lst (xs ++ [y]))) F1 := keeps_upd hx1 (fun _ z => nomatch z) .lst
    refine k σ _ F1 (s1.other hx1 (fun _ z => nomatch z) .lst nf1) (r1.upd ho e1 fun kq => .lst upd_same (Rps.app (rx1.mono kq) (.cons (Rp.mono kq v1) .nil))) ((a.trans a1).updN hx1 .lst ng) ((a1.keeps s).trans kp)
  · rw [if_neg hl] at k
    exact k.elim
end
end LB
/-! LB16: loops, stores by place, stores side by side. -/
namespace LB
open PySem PySem.Spec PyProof.Rows L2
variable [Clx] [Wc]
omit [Wc] in
/-- a cell changes -/
theorem Stp.cell {H : Hp} {F : List Addr} {p : Addr} {o u : HO} {G : Hp} {F0 : List Addr} (a : Stp G F0 H F) (h : H p = some o) (n : NF o) (hp : p ∈ F) : Stp G F0 (upd H p u) F :=
  ⟨a.pre, a.new, fun x v q hn nt => by
    rw [upd_ne (fun z => by
      subst z
      rcases a.new x hp with m | m
      · exact hn m
      · obtain ⟨ps, e⟩ := m _ q
        exact nt ps e)]
    exact a.ext x v q hn nt, fun t => tabs_upd h n (a.tab t)⟩
section
variable {X : Cx} {G : Sig} {T : Tab}
/-- for -/
theorem loop_cons {f : D → Env → Store → Out} {d : D} {ds : List D} {env : Env} {st : Store} {N : Env → Store → Prop} {R : Rr} (h : RS (loop f (d :: ds) env st) N R) : RS (f d env st) (fun env1 st1 => RS (loop f ds env1 st1) N R) R := by
  have h : RS (match f d env st with | .nx env1 st1 => loop f ds env1 st1 | r => r) N R := h
  cases e : f d env st <;> (rw [e] at h; exact h)
theorem ps_forE {tg : Tg} {it : E} {b : List S} {ptg pit : Expr} {pb : List Stmt} {pos : Pos} (g : Gs G T X) (hh : G.hot = false) (hi : PI X ptg pit (tI T it)) (hset : noSet pit = true) (hg : PG X ptg (tG (List.range X.N.length) tg)) (hb : PSs X pb (tSs T b)) :
    PS X (.For ptg pit pb [] pos) (tS T (.for_ tg it b)) := by
  have hf : ∀ x, foldedSetIterable pit X.env x = pure x := by
    intro x
    cases pit <;> first | rfl | (cases hset; done)
  refine PS.imp (ps_for g.po (g.calm hh) hi hg hb hf) fun Z σ H q => ?_
  obtain ⟨G0, F0, env, F, st, s, r, a, q⟩ := q
  refine ⟨G0, env, F, st, s, r, RO_mono (RS_toOut q) fun d st1 k => ?_⟩
  cases d <;> first | exact k.elim | skip
  rename_i ds
  refine ⟨ds, rfl, fun J H1 F1 a1 s1 itd => ?_⟩
  have r1 := r.step s a1
  have k1 := a1.keeps s
  obtain ⟨P, Y, w, hP, hY⟩ := itd
  let f : D → Env → Store → Out := fun d env st => match setTg env tg d with | some env' => exs T b env' st | none => .bad
  have k : RS (loop f ds env st1) (Nx G0 F0 H F Z) (Rt G0 F0 Z) := k
  refine for_it w (fun i σ' H' => ∃ env' F' st', SR H' F' st' ∧ ER G0 σ' H' F' env' ∧ Stp G0 F0 H' F' ∧ Kps H1 F1 H' F' ∧ RS (loop f (ds.drop i) env' st') (Nx G0 F0 H F Z) (Rt G0 F0 Z)) ?_ ?_ ?_ ?_
  · exact ⟨env, F1, st1, s1, r1, a.trans a1, Kps.refl, k⟩
  · rintro i σ' H' hi ⟨env', F', st', _, _, _, kp, _⟩
    exact hP H' F' kp
  · rintro i x σ' H' H2 hi ⟨env', F', st', s', r', a', kp, q⟩ y
    obtain ⟨d, e1, a3, s3, rx⟩ := hY i H' F' x H2 st' kp s' y hi
    rw [List.drop_eq_getElem_cons hi] at q
    have ed : ds[i] = d := by
      rw [List.getElem?_eq_getElem hi] at e1
      exact Option.some.inj e1
    rw [ed] at q
    have q := loop_cons q
    have q : RS (match setTg env' tg d with | some env' => exs T b env' st' | none => .bad) _ _ := q
    cases et : setTg env' tg d with
    | none => rw [et] at q; exact q.elim
    | some env2 =>
      rw [et] at q
      refine ⟨G0, env', F', d, env2, r'.step s' a3, rx, et, fun σ2 r2 _ => ⟨G0, F0, env2, F', st', s3, r2, a'.trans a3, RS_mono q (fun env3 st3 q σ3 H3 F3 s3 r3 a3' kp3 => ?_) fun d st3 q => q⟩⟩
      exact ⟨env3, F3, st3, s3, r3, a3', (kp.trans (a3.keeps s')).trans kp3, q⟩
  · rintro σ' H' ⟨env', F', st', s', r', a', kp, q⟩
    rw [List.drop_length] at q
    exact q σ' H' F' s' r' a' (k1.trans kp)
/-- while -/
theorem ps_whileE {t : E} {b : List S} {pt : Expr} {pb : List Stmt} {pos : Pos} (g : Gs G T X) (ht : PT X pt (tT T t)) (tb : TB T t) (hb : PSs X pb (tSs T b)) : PS X (.While pt pb [] pos) (tS T (.while_ t b)) := by
  refine PS.imp (ps_while g.po ht hb) fun Z σ H q => ?_
  obtain ⟨G0, F0, env, F, st, s, r, a, q⟩ := q
  refine ⟨fun m σ' H' => ∃ env' F' st', SR H' F' st' ∧ ER G0 σ' H' F' env' ∧ Stp G0 F0 H' F' ∧ Kps H F H' F' ∧ RS (whl (evE T t .t) (exs T b) m env' st') (Nx G0 F0 H F Z) (Rt G0 F0 Z), ⟨100000, env, F, st, s, r, a, Kps.refl, q⟩, fun m σ' H' hw => ?_⟩
  obtain ⟨env', F', st', s', r', a', kp, q⟩ := hw
  cases m with
  | zero => exact q.elim
  | succ m =>
    have q : RS ((evE T t .t env' st').toOut env' fun d st1 => (match d with | .bl true => (match exs T b env' st1 with | .nx env2 st2 => whl (evE T t .t) (exs T b) m env2 st2 | r => r) | .bl false => .nx env' st1 | _ => .bad)) (Nx G0 F0 H F Z) (Rt G0 F0 Z) := q
    refine tT_go s' r' (tb env' st' _ (RS_toOut q)) (fun d st1 h => h.2) fun d st1 H1 F1 k a1 s1 r1 => ?_
    have k := k.1
    have kp1 := kp.trans (a1.keeps s')
    cases d with
    | false =>
      rw [if_neg Bool.false_ne_true]
      exact (show Nx G0 F0 H F Z env' st1 from k) σ' H1 F1 s1 r1 (a'.trans a1) kp1
    | true =>
      rw [if_pos rfl]
      have k : RS (match exs T b env' st1 with | .nx env2 st2 => whl (evE T t .t) (exs T b) m env2 st2 | r => r) (Nx G0 F0 H F Z) (Rt G0 F0 Z) := k
      have k : RS (exs T b env' st1) (fun env2 st2 => RS (whl (evE T t .t) (exs T b) m env2 st2) (Nx G0 F0 H F Z) (Rt G0 F0 Z)) (Rt G0 F0 Z) := by
        cases e : exs T b env' st1 <;> (rw [e] at k; exact k)
      refine ⟨fun σ2 H2 => ∃ env' F' st', SR H2 F' st' ∧ ER G0 σ2 H2 F' env' ∧ Stp G0 F0 H2 F' ∧ Kps H F H2 F' ∧ RS (whl (evE T t .t) (exs T b) m env' st') (Nx G0 F0 H F Z) (Rt G0 F0 Z), fun σ2 H2 h => ⟨m, Nat.lt_succ_self m, h⟩, ?_⟩
      exact ⟨G0, F0, env', F1, st1, s1, r1, a'.trans a1, RS_mono k (fun env3 st3 q σ3 H3 F3 s3 r3 a3 kp3 => ⟨env3, F3, st3, s3, r3, a3, kp1.trans kp3, q⟩) fun d st3 q => q⟩
/-- blocks -/
theorem exs_cons {s : S} {ss : List S} {env : Env} {st : Store} {N : Env → Store → Prop} {R : Rr} (h : RS (exs T (s :: ss) env st) N R) : RS (ex T s env st) (fun env1 st1 => RS (exs T ss env1 st1) N R) R := by
  have h : RS (match ex T s env st with | .nx env1 st1 => exs T ss env1 st1 | r => r) N R := h
  cases e : ex T s env st <;> (rw [e] at h; exact h)
theorem pss_nilE : PSs X [] (tSs T []) := PSs.imp pss_nil fun D σ H q => by
  obtain ⟨G0, F0, env, F, st, s, r, a, q⟩ := q
  exact q σ H F s r a Kps.refl
theorem pss_consE {s : S} {ss : List S} {p : Stmt} {ps : List Stmt} (h1 : PS X p (tS T s)) (h2 : PSs X ps (tSs T ss)) : PSs X (p :: ps) (tSs T (s :: ss)) :=
  PSs.imp (pss_cons h1 h2) fun D σ H q => by
    obtain ⟨G0, F0, env, F, st, s, r, a, q⟩ := q
    exact ⟨G0, F0, env, F, st, s, r, a, RS_mono (exs_cons q) (fun env1 st1 q σ1 H1 F1 s1 r1 a1 kp => ⟨G0, F0, env1, F1, st1, s1, r1, a1, RS_mono q (fun env2 st2 q σ2 H2 F2 s2 r2 a2 kp2 => q σ2 H2 F2 s2 r2 a2 (kp.trans kp2)) fun d st2 q => q⟩) fun d st1 q => q⟩
theorem pss_frzE {i : Nat} {ss : List S} {ps : List Stmt} (h2 : PSs X ps (tSs T ss)) : PSs X ps (tSs T (.frz i :: ss)) := by
  refine ⟨fun pins s' σ H D I q => ?_⟩
  obtain ⟨G0, F0, env, F, st, s, r, a, q⟩ := q
  have q := exs_cons q
  have q : RS (match env[i]? with | some (.o d) => Out.nx (env.set i (.v d)) st | _ => .bad) _ _ := q
  split at q
  · rename_i d hi
    obtain ⟨H', J, s1, r1, a1, k1⟩ := lock_own I s r a hi
    exact h2.run pins s' σ H' D J ⟨G0, F0, _, F, st, s1, r1, a1, RS_mono q (fun env2 st2 q σ2 H2 F2 s2 r2 a2 kp2 => q σ2 H2 F2 s2 r2 a2 (k1.trans kp2)) fun d st2 q => q⟩
  · exact q.elim
theorem nodup_at : ∀ {l : List Addr} {n m : Nat} {a : Addr}, l.Nodup → l[n]? = some a → l[m]? = some a → n = m
  | [], _, _, _, _, h, _ => by simp at h
  | b :: l, 0, 0, _, _, _, _ => rfl
  | b :: l, 0, m + 1, a, hd, h, k => by
    simp only [List.getElem?_cons_zero, Option.some.injEq] at h
    simp only [List.getElem?_cons_succ] at k
    subst h
    exact absurd (List.mem_of_getElem? k) (List.nodup_cons.mp hd).1
  | b :: l, n + 1, 0, a, hd, k, h => by
    simp only [List.getElem?_cons_zero, Option.some.injEq] at h
    simp only [List.getElem?_cons_succ] at k
    subst h
    exact absurd (List.mem_of_getElem? k) (List.nodup_cons.mp hd).1
  | b :: l, n + 1, m + 1, a, hd, h, k => by
    simp only [List.getElem?_cons_succ] at h k
    rw [nodup_at (List.nodup_cons.mp hd).2 h k]
/-- pen[k] = e; x[k] = e of a list of one's own -/
theorem ps_cstE {i : Nat} {k e : E} {x : PySem.Str} {px sp pos : Pos} {pk pe : Expr} (g : Gs G T X) (hi : X.N[i]? = some x) (hv : visB X.env.scope x = true) (hn : nmB x = true) (hsl : noSl pk = true) (hc : noComp pe = true)
    (hk : PE X pk (tE T false .v k)) (he : PE X pe (tE T false .v e)) : PS X (.Assign [.Subscript (.Name x px) pk sp] pe pos) (tS T (.cst i k e)) := by
  have hg : PG X (.Subscript (.Name x px) pk sp) _ := pg_sub (pe_var hi (vis_of hv) (nm_of hn).1 (nm_of hn).2) hk set_list (by intro v; cases pk <;> first | rfl | (cases hsl; done))
  refine PS.imp (ps_asg he hg (by cases pe <;> first | rfl | (cases hc; done)) (by cases pe <;> rfl) rfl) fun Z σ H q => ?_
  obtain ⟨G0, F0, env, F, st, s, r, a, q⟩ := q
  refine tE_go s r (RS_toOut q) fun d st1 y H1 F1 k a1 s1 r1 v1 => ?_
  have k2 := RS_toOut k
  -- which slot it is
  have which : (∃ n, env[i]? = some (.v (.ref n))) ∨ ∃ l, env[i]? = some (.o (.lst l)) := by
    revert k2
    cases evE T _ .v env st1 with
    | ok j st2 =>
      intro k2
      have k2 : RS (cstO env i d j st2) _ _ := k2
      unfold cstO at k2
      split at k2
      · exact .inl ⟨_, by assumption⟩
      · exact .inr ⟨_, by assumption⟩
      · exact k2.elim
    | exc => intro k2; exact k2.elim
    | bad => intro k2; exact k2.elim
  rcases which with ⟨n, hs⟩ | ⟨l, hs⟩
  · obtain ⟨xp, e1, rp⟩ := r1.val i _ hs
    refine ⟨xp, e1, tE_go s1 r1 k2 fun j st2 w H2 F2 k3 a2 s2 r2 v2 => ?_⟩
    unfold cstO at k3
    rw [hs] at k3
    cases j <;> first | exact k3.elim | skip
    rename_i z
    have k3 : RS (cstR env n d z st2) _ _ := k3
    unfold cstR at k3
    cases rp with
    | ref eF =>
      rename_i p
      have eF2 := a2.pre n p eF
      obtain ⟨xs, l, h1, h2, h3⟩ := s2.cell n p eF2
      rw [h2] at k3
      have k3 : RS (match ixN l.length z with | some q => Out.nx env (st2.set n (l.set q d)) | none => .bad) _ _ := k3
      cases ei : ixN l.length z with
      | none => rw [ei] at k3; exact k3.elim
      | some q =>
        rw [ei] at k3
        cases v2
        refine ⟨p, xs, z, q, rfl, rfl, h1, by rw [← h3.length]; exact ei, ?_⟩
        have kp : Kps H2 F2 (upd H2 p (.lst (xs.set q y))) F2 := keeps_upd h1 (fun _ z => nomatch z) .lst
        have sN : SR (upd H2 p (.lst (xs.set q y))) F2 (st2.set n (l.set q d)) := by
          refine ⟨by rw [List.length_set]; exact s2.len, s2.nd, fun n' a' e' => ?_, tabs_upd h1 .lst s2.tab⟩
          obtain ⟨xs', ds', c1, c2, c3⟩ := s2.cell n' a' e'
          by_cases hnn : n = n'
          · subst hnn
            rw [eF2] at e'
            cases e'
            exact ⟨_, _, upd_same, List.getElem?_set_self (List.getElem?_eq_some_iff.mp h2).1, Rps.set (Rp.mono kp (Rp.mono (a2.keeps s1) v1)) q (h3.mono kp)⟩
          · refine ⟨xs', ds', ?_, by rw [List.getElem?_set_ne hnn]; exact c2, c3.mono kp⟩
            rw [upd_ne (fun z => hnn ?_)]
            · exact c1
            · subst z
              exact nodup_at s2.nd eF2 e'
        refine k3 σ _ F2 sN ?_ (((a.trans a1).trans a2).cell h1 .lst (List.mem_of_getElem? eF2)) (((a1.keeps s).trans (a2.keeps s1)).trans kp)
        · refine ⟨fun j e hj => ?_, fun j e hj => ?_, r2.one, r2.len⟩
          · obtain ⟨x1, q1, q2⟩ := r2.val j e hj
            exact ⟨x1, q1, q2.mono kp⟩
          · obtain ⟨b, q1, q2, q3, q4⟩ := r2.own j e hj
            refine ⟨b, q1, q2.mono kp fun o qo _ => ?_, q3, q4⟩
            rw [upd_ne (fun z => q3 (by rw [z]; exact List.mem_of_getElem? eF2))]
            exact qo
  · obtain ⟨p, e1, w, nf, ng⟩ := r1.own i _ hs
    refine ⟨.ref p, e1, tE_go s1 r1 k2 fun j st2 w' H2 F2 k3 a2 s2 r2 v2 => ?_⟩
    unfold cstO at k3
    rw [hs] at k3
    cases j <;> first | exact k3.elim | skip
    rename_i z
    have k3 : RS (cstL env i l d z st2) _ _ := k3
    unfold cstL at k3
    cases ei : ixN l.length z with
    | none => rw [ei] at k3; exact k3.elim
    | some q =>
      rw [ei] at k3
      cases v2
      obtain ⟨p', e1', w2, nf2, ng2⟩ := r2.own i _ hs
      rw [e1] at e1'
      cases e1'
      cases w2 with
      | lst h2 rx =>
        rename_i xs
        have kp : Kps H2 F2 (upd H2 p (.lst (xs.set q y))) F2 := keeps_upd h2 (fun _ z => nomatch z) .lst
        refine ⟨p, xs, z, q, rfl, rfl, h2, by rw [← rx.length]; exact ei, ?_⟩
        refine k3 σ _ F2 (s2.other h2 (fun _ z => nomatch z) .lst nf2) (r2.upd hs e1 fun kq => .lst upd_same (Rps.set (Rp.mono kq (Rp.mono (a2.keeps s1) v1)) q (rx.mono kq))) (((a.trans a1).trans a2).updN h2 .lst ng) (((a1.keeps s).trans (a2.keeps s1)).trans kp)
end
end LB
/-! LB16b: a, b = x, y. -/
namespace LB
open PySem PySem.Spec PyProof.Rows L2
variable [Clx] [Wc]

def sqs : List Bool → List D → Prop
  | [], [] => True
  | b :: fl, d :: ds => (b = true → isSeq d) ∧ sqs fl ds
  | _, _ => False
def OVs (H' : Hp) (F' : List Addr) : Hp → List Bool → List D → List V → Prop
  | _, [], [], [] => True
  | H0, false :: fl, d :: ds, x :: xs => Rp H' F' d x ∧ OVs H' F' H0 fl ds xs
  | H0, true :: fl, d :: ds, x :: xs => ∃ p H1, x = .ref p ∧ Nw H0 p ∧ ¬ Nw H1 p ∧ (∀ b, Nw H1 b → Nw H0 b) ∧ Ow H' F' d p ∧ p ∉ F' ∧ OVs H' F' H1 fl ds xs
  | _, _, _, _ => False
theorem OVs.back {H' : Hp} {F' : List Addr} : ∀ {fl : List Bool} {ds : List D} {xs : List V} {H0 H1 : Hp}, OVs H' F' H1 fl ds xs → (∀ b, Nw H1 b → Nw H0 b) → OVs H' F' H0 fl ds xs
  | [], [], [], _, _, _, _ => trivial
  | false :: fl, d :: ds, x :: xs, _, _, h, k => ⟨h.1, OVs.back (fl := fl) h.2 k⟩
  | true :: fl, d :: ds, x :: xs, _, _, h, k => by
    obtain ⟨p, H2, e, h1, h2, h3, h4, h5, h6⟩ := h
    exact ⟨p, H2, e, k p h1, h2, fun b hb => k b (h3 b hb), h4, h5, h6⟩
  | [], [], _ :: _, _, _, h, _ => h.elim
  | [], _ :: _, _, _, _, h, _ => by cases h
  | false :: _, [], _, _, _, h, _ => by cases h
  | false :: _, _ :: _, [], _, _, h, _ => by cases h
  | true :: _, [], _, _, _, h, _ => by cases h
  | true :: _, _ :: _, [], _, _, h, _ => by cases h
def tOw (T : Tab) (fl : List Bool) (es : List E) : TA := fun σ H Q => ∃ G env F st, SR H F st ∧ ER G σ H F env ∧
  RO (evL T es env st) fun ds st' => sqs fl ds ∧ ∀ xs H' F', Stp H F H' F' → SR H' F' st' → OVs H' F' H fl ds xs → Q xs H'
def chkO (f : E → Expr → Bool) : List Bool → List E → List Expr → Bool
  | [], [], [] => true
  | b :: fl, e :: es, p :: ps => noSt p && f e p && (!b || isFr e) && chkO f fl es ps
  | _, _, _ => false
theorem RO_ex {α : Type} {r : Res α} {Q : α → Store → Prop} (h : RO r Q) : ∃ a st, Q a st := by
  cases r with
  | ok a st => exact ⟨a, st, h⟩
  | exc => exact h.elim
  | bad => exact h.elim
section
variable {X : Cx} {G : Sig} {T : Tab}
theorem pa_O {f : E → Expr → Bool} (hf : ∀ e p, f e p = true → SE T X e p) (hs : ∀ a p, f (.star a) p = false) : ∀ {fl : List Bool} {es : List E} {ps : List Expr}, chkO f fl es ps = true → PA X ps (tOw T fl es)
  | [], [], [], _ => PA.imp pa_nil fun σ H Q q => by
    obtain ⟨G, env, F, st, s, r, q⟩ := q
    exact q.2 [] H F Stp.refl s trivial
  | b :: fl, e :: es, p :: ps, h => by
    have h' : (noSt p && f e p && (!b || isFr e) && chkO f fl es ps) = true := h
    rw [Bool.and_eq_true, Bool.and_eq_true, Bool.and_eq_true] at h'
    obtain ⟨⟨⟨h1, h2⟩, h3⟩, h4⟩ := h'
    have S := hf e p h2
    have he : PE X p (tE T b .v e) := by
      cases b with
      | false => exact S.val .v trivial
      | true => exact S.fr h3
    refine PA.imp (pa_cons he (pa_O hf hs h4) (star_cons h1)) fun σ H Q q => ?_
    obtain ⟨G, env, F, st, s, r, q⟩ := q
    rw [evL_cons (fun a z => by rw [z, hs] at h2; cases h2)] at q
    refine ⟨G, env, F, st, s, r, RO_mono (RO_bind q) fun d st1 k => ?_⟩
    have k := RO_bind k
    refine ⟨fun hb => ?_, fun x H1 F1 a1 s1 v1 => ⟨G, env, F1, st1, s1, r.step s a1, RO_mono k fun ds st2 k2 => ⟨k2.1.2, fun xs H2 F2 a2 s2 v2 => ?_⟩⟩⟩
    · obtain ⟨_, _, k2⟩ := RO_ex k
      exact k2.1.1 hb
    · refine k2.2 _ H2 F2 (a1.trans a2) s2 ?_
      have kp := a2.keeps s1
      have back : ∀ b, Nw H1 b → Nw H b := fun b hb => a1.nw s1 hb
      cases b with
      | false => exact ⟨Rp.mono kp v1, v2.back back⟩
      | true =>
        obtain ⟨p, rfl, hp, w, nf⟩ := (show ∃ p, x = .ref p ∧ Nw H p ∧ Ow H1 F1 d p ∧ p ∉ F1 from v1)
        obtain ⟨u, hu, _, _, n2⟩ := w.at
        have keep : ∀ o, H1 p = some o → NF o → H2 p = some o := fun o ho no => a2.ext p o ho nf no.tbl
        exact ⟨p, H1, rfl, hp, (fun z => by obtain ⟨ps, e⟩ := z _ hu; exact n2.tbl ps e), back, w.mono kp keep, a2.back hu nf n2.tbl, v2⟩
  | [], [], _ :: _, h => by cases h
  | [], _ :: _, _, h => by cases h
  | _ :: _, [], _, h => by cases h
  | _ :: _, _ :: _, [], h => by cases h
def setAll (σ : L2.St) : List (Nat × Bool) → List V → L2.St
  | (i, _) :: l, x :: xs => setAll (σ.set i (some x)) l xs
  | _, _ => σ
theorem parSet_ER {G0 H : Hp} {F : List Addr} : ∀ (l : List (Nat × Bool)) (ds : List D) (xs : List V) (σ : L2.St) (env env' : Env) (H0 : Hp), ER G0 σ H F env → OVs H F H0 (l.map (·.2)) ds xs → (∀ p, Nw H0 p → Nw G0 p) →
    (∀ (j : Nat) (e : D) (p : Addr), env[j]? = some (.o e) → σ[j]? = some (some (.ref p)) → ¬ Nw H0 p) → parSet env l ds = some env' → ER G0 (setAll σ l xs) H F env'
  | [], [], [], σ, env, env', H0, r, _, _, _, h => by cases h; exact r
  | (i, false) :: l, d :: ds, x :: xs, σ, env, env', H0, r, o, hg, hn, h => by
    refine parSet_ER l ds xs _ _ env' H0 (r.put o.1) o.2 hg (fun j e p h1 h2 => ?_) h
    by_cases hj : i = j
    · subst hj
      by_cases hl : i < env.length
      · rw [List.getElem?_set_self hl] at h1; cases h1
      · rw [List.getElem?_eq_none (by rw [List.length_set]; omega)] at h1; cases h1
    · rw [List.getElem?_set_ne hj] at h1 h2
      exact hn j e p h1 h2
  | (i, true) :: l, d :: ds, x :: xs, σ, env, env', H0, r, o, hg, hn, h => by
    obtain ⟨p, H1, rfl, h1, h2, h3, h4, h5, h6⟩ := o
    have h : (if seqB d = true then parSet (env.set i (.o d)) l ds else none) = some env' := h
    split at h
    case isFalse => cases h
    refine parSet_ER l ds xs _ _ env' H1 (r.putO h4 h5 (hg p h1) fun j e _ he z => hn j e p he z h1) h6 (fun q hq => hg q (h3 q hq)) (fun j e q e1 e2 => ?_) h
    by_cases hj : i = j
    · subst hj
      by_cases hl : i < σ.length
      · rw [List.getElem?_set_self hl] at e2
        cases e2
        exact h2
      · rw [List.getElem?_eq_none (by rw [List.length_set]; omega)] at e2; cases e2
    · rw [List.getElem?_set_ne hj] at e1 e2
      exact fun z => hn j e q e1 e2 (h3 q z)
  | [], [], _ :: _, _, _, _, _, _, o, _, _, _ => o.elim
  | [], _ :: _, _, _, _, _, _, _, _, _, _, h => by cases h
  | (_, false) :: _, [], _, _, _, _, _, _, _, _, _, h => by cases h
  | (_, true) :: _, [], _, _, _, _, _, _, _, _, _, h => by cases h
  | (_, false) :: _, _ :: _, [], _, _, _, _, _, o, _, _, _ => o.elim
  | (_, true) :: _, _ :: _, [], _, _, _, _, _, o, _, _, _ => o.elim
theorem parSet_sqs : ∀ (l : List (Nat × Bool)) (ds : List D) (env env' : Env), parSet env l ds = some env' → sqs (l.map (·.2)) ds
  | [], [], _, _, _ => trivial
  | (i, false) :: l, d :: ds, env, env', h => ⟨(fun z => nomatch z), parSet_sqs l ds _ env' h⟩
  | (i, true) :: l, d :: ds, env, env', h => by
    have h : (if seqB d = true then parSet (env.set i (.o d)) l ds else none) = some env' := h
    split at h
    · rename_i q
      refine ⟨fun _ => ?_, parSet_sqs l ds _ env' h⟩
      cases d <;> first | trivial | (cases q; done)
    · cases h
  | [], _ :: _, _, _, h => by cases h
  | (_, false) :: _, [], _, _, h => by cases h
  | (_, true) :: _, [], _, _, h => by cases h
/-- what the stores leave -/
theorem par_read {l : List (Nat × Bool)} {es : List E} {Z : Ends} {σ : L2.St} {H : Hp} {Q : List V → Hp → Prop} (q : tS T (.par l es) Z σ H) (k : ∀ vs H1, vs.length = l.length → Z.nx (setAll σ l vs) H1 → Q vs H1) : tOw T (l.map (·.2)) es σ H Q := by
  obtain ⟨G0, F0, env, F, st, s, r, a, q⟩ := q
  refine ⟨G0, env, F, st, s, r, RO_mono (RS_toOut q) fun ds st1 k1 => ?_⟩
  cases ep : parSet env l ds with
  | none => rw [ep] at k1; exact k1.elim
  | some env' =>
    rw [ep] at k1
    refine ⟨parSet_sqs l ds env env' ep, fun xs H1 F1 a1 s1 ov => k xs H1 ?_ ?_⟩
    · have len : ∀ (l : List (Nat × Bool)) (ds : List D) (xs : List V) (H0 : Hp), OVs H1 F1 H0 (l.map (·.2)) ds xs → xs.length = l.length := by
        intro l
        induction l with
        | nil => intro ds xs H0 o; cases ds <;> cases xs <;> first | rfl | exact o.elim
        | cons i l ih =>
          intro ds xs H0 o
          obtain ⟨i, b⟩ := i
          cases b with
          | false => cases ds with
            | nil => exact o.elim
            | cons d ds => cases xs with
              | nil => exact o.elim
              | cons x xs => exact congrArg (· + 1) (ih ds xs H0 o.2)
          | true => cases ds with
            | nil => exact o.elim
            | cons d ds => cases xs with
              | nil => exact o.elim
              | cons x xs =>
                obtain ⟨p, H2, _, _, _, _, _, _, o⟩ := o
                exact congrArg (· + 1) (ih ds xs H2 o)
      exact len l ds xs H ov
    · have k1 : Nx G0 F0 H F Z env' st1 := k1
      refine k1 _ H1 F1 s1 (parSet_ER l ds xs σ env env' H (r.step s a1) ov (fun p hp => a.nw s hp) (fun j e p e1 e2 z => ?_) ep) (a.trans a1) (a1.keeps s)
      obtain ⟨b, q1, w, _⟩ := r.own j e e1
      rw [e2] at q1
      cases q1
      obtain ⟨u, hu, _, _, nf⟩ := w.at
      obtain ⟨ps, e⟩ := z _ hu
      exact nf.tbl ps e
theorem ps_par2E {i j : Nat} {b1 b2 : Bool} {x y : PySem.Str} {es : List E} {p1 p2 : Expr} {px py pt pos : Pos} {kt k2 : Nat} {pt2 : Pos} {f : E → Expr → Bool} (g : Gs G T X) (hh : G.hot = false) (hf : ∀ e p, f e p = true → SE T X e p) (hs : ∀ a p, f (.star a) p = false) (hc : chkO f [b1, b2] es [p1, p2] = true)
    (hi : X.N[i]? = some x) (hj : X.N[j]? = some y) (hij : i ≠ j) (hx : X.env.scope.names.lookup x = some .local) (hy : X.env.scope.names.lookup y = some .local)
    (hw : swappedStores [.Tuple [.Name x px, .Name y py] kt pt] (.Tuple [p1, p2] k2 pt2) X.env = pure (some [x, y])) :
    PS X (.Assign [.Tuple [.Name x px, .Name y py] kt pt] (.Tuple [p1, p2] k2 pt2) pos) (tS T (.par [(i, b1), (j, b2)] es)) :=
  PS.imp (ps_par (g.calm hh) g.nd hi hj hij hx hy (pa_O hf hs hc) hw) fun Z σ H q => par_read q fun vs H1 hl k => by
    cases vs with
    | nil => cases hl
    | cons v vs => cases vs with
      | nil => cases hl
      | cons w vs => cases vs with
        | cons => cases hl
        | nil => exact ⟨v, w, rfl, k⟩
theorem ps_par3E {i j l : Nat} {b1 b2 b3 : Bool} {x y z : PySem.Str} {es : List E} {p1 p2 p3 : Expr} {px py pz pt pos : Pos} {kt k2 : Nat} {pt2 : Pos} {f : E → Expr → Bool} (g : Gs G T X) (hh : G.hot = false) (hf : ∀ e p, f e p = true → SE T X e p) (hs : ∀ a p, f (.star a) p = false) (hc : chkO f [b1, b2, b3] es [p1, p2, p3] = true)
    (hi : X.N[i]? = some x) (hj : X.N[j]? = some y) (hl : X.N[l]? = some z) (hij : i ≠ j) (hil : i ≠ l) (hjl : j ≠ l) (hx : X.env.scope.names.lookup x = some .local) (hy : X.env.scope.names.lookup y = some .local) (hz : X.env.scope.names.lookup z = some .local)
    (hw : swappedStores [.Tuple [.Name x px, .Name y py, .Name z pz] kt pt] (.Tuple [p1, p2, p3] k2 pt2) X.env = pure (some [x, y, z])) :
    PS X (.Assign [.Tuple [.Name x px, .Name y py, .Name z pz] kt pt] (.Tuple [p1, p2, p3] k2 pt2) pos) (tS T (.par [(i, b1), (j, b2), (l, b3)] es)) :=
  PS.imp (ps_par3 (g.calm hh) g.nd hi hj hl hij hil hjl hx hy hz (pa_O hf hs hc) hw) fun Z σ H q => par_read q fun vs H1 hl k => by
    cases vs with
    | nil => cases hl
    | cons v vs => cases vs with
      | nil => cases hl
      | cons w vs => cases vs with
        | nil => cases hl
        | cons u vs => cases vs with
          | cons => cases hl
          | nil => exact ⟨v, w, u, rfl, k⟩
end
end LB
/-! LB16c: d[k] = e. -/
namespace LB
open PySem PySem.Spec PyProof.Rows L2
variable [Clx] [Wc]
section
variable {X : Cx} {G : Sig} {T : Tab}
/-- what is stored in a dict of one's own -/
theorem dput_of {H : Hp} {F : List Addr} {t : Bool} {ks vs : List D} {p : Addr} {w v : V} {j d : D} (h : Ow H F (.dct t ks vs) p) (rk : Rp H F j w) (rv : Rp H F d v) (hk : keyB t j = true) (hl : lenOk ks.length = true) :
    ∃ u, L2.DPut H p w v (upd H p u) ∧ (Kps H F (upd H p u) F → Ow (upd H p u) F (.dct t (putD ks vs j d).1 (putD ks vs j d).2) p) := by
  cases h with
  | dK e r =>
    rename_i kvs
    obtain ⟨k, rfl, rfl⟩ := keyK hk rk
    obtain ⟨e1, e2⟩ := put_of (f := kD) beq_kD (k := k) rv r
    rw [List.length_map] at hl
    refine ⟨.dK (L2.putK kvs k v), .inl ⟨kvs, k, e, rfl, sz_lt' hl, rfl⟩, fun kp => ?_⟩
    rw [e1]
    exact .dK upd_same (e2.mono kp)
  | dT e r =>
    rename_i kvs
    cases j <;> first | (cases hk; done) | skip
    cases rk with
    | tup eb rl =>
      obtain ⟨k, rfl, rfl⟩ := keysT hk rl
      obtain ⟨e1, e2⟩ := put_of (f := fun k : List Key => D.tup (k.map kD)) (fun a b => beqs_kD a b) (k := k) rv r
      rw [List.length_map] at hl
      refine ⟨.dT (L2.putK kvs k v), .inr ⟨kvs, k, _, e, rfl, eb, sz_lt' hl, rfl⟩, fun kp => ?_⟩
      rw [e1]
      exact .dT upd_same (e2.mono kp)
theorem ps_putE {i : Nat} {k e : E} {x : PySem.Str} {px sp pos : Pos} {pk pe : Expr} (g : Gs G T X) (hi : X.N[i]? = some x) (hv : visB X.env.scope x = true) (hn : nmB x = true) (hsl : noSl pk = true) (hc : noComp pe = true)
    (hk : PE X pk (tE T false .v k)) (he : PE X pe (tE T false .v e)) : PS X (.Assign [.Subscript (.Name x px) pk sp] pe pos) (tS T (.put i k e)) := by
  have un := g.un
  have hg : PG X (.Subscript (.Name x px) pk sp) _ := pg_sub (pe_var hi (vis_of hv) (nm_of hn).1 (nm_of hn).2) hk (set_dict (by omega)) (by intro v; cases pk <;> first | rfl | (cases hsl; done))
  refine PS.imp (ps_asg he hg (by cases pe <;> first | rfl | (cases hc; done)) (by cases pe <;> rfl) rfl) fun Z σ H q => ?_
  obtain ⟨G0, F0, env, F, st, s, r, a, q⟩ := q
  refine tE_go s r (RS_toOut q) fun d st1 y H1 F1 k a1 s1 r1 v1 => ?_
  have k2 := RS_toOut k
  have which : ∃ t ks vs, env[i]? = some (.o (.dct t ks vs)) := by
    revert k2
    cases evE T _ .v env st1 with
    | ok j st2 =>
      intro k2
      have k2 : RS (putO env i d j st2) _ _ := k2
      unfold putO at k2
      split at k2
      · exact ⟨_, _, _, by assumption⟩
      · exact k2.elim
    | exc => intro k2; exact k2.elim
    | bad => intro k2; exact k2.elim
  obtain ⟨t, ks, vs, hs⟩ := which
  obtain ⟨p, e1, w, nf, ng⟩ := r1.own i _ hs
  refine ⟨.ref p, e1, tE_go s1 r1 k2 fun j st2 w' H2 F2 k3 a2 s2 r2 v2 => ?_⟩
  unfold putO at k3
  rw [hs] at k3
  have k3 : RS (if (keyB t j && lenOk ks.length) = true then Out.nx (env.set i (.o (.dct t (putD ks vs j d).1 (putD ks vs j d).2))) st2 else .bad) _ _ := k3
  split at k3
  case isFalse => exact k3.elim
  rename_i hc
  rw [Bool.and_eq_true] at hc
  obtain ⟨p', e1', w2, nf2, ng2⟩ := r2.own i _ hs
  rw [e1] at e1'
  cases e1'
  obtain ⟨u, dp, ow⟩ := dput_of w2 v2 (Rp.mono (a2.keeps s1) v1) hc.1 hc.2
  obtain ⟨o, ho, _, t1, t2⟩ := w2.at
  have kp : Kps H2 F2 (upd H2 p u) F2 := keeps_upd ho t1 t2
  refine ⟨p, upd H2 p u, rfl, dp, ?_⟩
  refine k3 σ _ F2 (s2.other ho t1 t2 nf2) (r2.upd hs e1 ow) (((a.trans a1).trans a2).updN ho t2 ng) (((a1.keeps s).trans (a2.keeps s1)).trans kp)
/-- what comes of x[k] = d, for a dict of one's own -/
theorem put_go {i : Nat} {k : E} {d : D} {y : V} {σ : L2.St} {G0 H1 : Hp} {F0 F1 : List Addr} {env : Env} {st1 : Store} {Q : L2.St → Hp → Prop} {Kc : Env → Store → Prop} (s1 : SR H1 F1 st1) (r1 : ER G0 σ H1 F1 env) (a1 : Stp G0 F0 H1 F1) (v1 : Rp H1 F1 d y)
    (q : RO (evE T k .v env st1) fun j st2 => ∃ env1, putO env i d j st2 = .nx env1 st2 ∧ Kc env1 st2)
    (h : ∀ H3 F3 env1 st3, Kc env1 st3 → SR H3 F3 st3 → ER G0 σ H3 F3 env1 → Stp G0 F0 H3 F3 → Kps H1 F1 H3 F3 → Q σ H3) : gSub (tVar i) (tE T false .v k) rSetD y σ H1 Q := by
  have which : ∃ t ks vs, env[i]? = some (.o (.dct t ks vs)) := by
    obtain ⟨j, st2, _, env1, e, _⟩ := RO_ex' q
    unfold putO at e
    split at e
    · exact ⟨_, _, _, by assumption⟩
    · cases e
  obtain ⟨t, ks, vs, hs⟩ := which
  obtain ⟨p, e1, w, nf, ng⟩ := r1.own i _ hs
  refine ⟨.ref p, e1, tE_go s1 r1 q fun j st2 w' H2 F2 k3 a2 s2 r2 v2 => ?_⟩
  obtain ⟨env1, e, k4⟩ := k3
  unfold putO at e
  rw [hs] at e
  have e : (if (keyB t j && lenOk ks.length) = true then Out.nx (env.set i (.o (.dct t (putD ks vs j d).1 (putD ks vs j d).2))) st2 else .bad) = .nx env1 st2 := e
  split at e
  case isFalse => cases e
  rename_i hc
  cases e
  rw [Bool.and_eq_true] at hc
  obtain ⟨p', e1', w2, nf2, ng2⟩ := r2.own i _ hs
  rw [e1] at e1'
  cases e1'
  obtain ⟨u, dp, ow⟩ := dput_of w2 v2 (Rp.mono (a2.keeps s1) v1) hc.1 hc.2
  obtain ⟨o, ho, _, t1, t2⟩ := w2.at
  have kp : Kps H2 F2 (upd H2 p u) F2 := keeps_upd ho t1 t2
  refine ⟨p, upd H2 p u, rfl, dp, ?_⟩
  refine h _ F2 _ _ k4 (s2.other ho t1 t2 nf2) (r2.upd hs e1 ow) ((a1.trans a2).updN ho t2 ng) ((a2.keeps s1).trans kp)
theorem putO_st {i : Nat} {d j : D} {env env1 : Env} {st st1 : Store} (h : putO env i d j st = .nx env1 st1) : st1 = st := by
  unfold putO at h
  split at h
  · split at h
    · cases h; rfl
    · cases h
  · cases h
theorem putO_kind {i : Nat} {d j : D} {env : Env} {st : Store} : (∃ env1, putO env i d j st = .nx env1 st) ∨ putO env i d j st = .bad := by
  unfold putO
  split
  · split
    · exact .inl ⟨_, rfl⟩
    · exact .inr rfl
  · exact .inr rfl
theorem RS_put {i : Nat} {d j : D} {env : Env} {st : Store} {f : Env → Store → Out} {N : Env → Store → Prop} {R : Rr} (h : RS (match putO env i d j st with | .nx env1 st4 => f env1 st4 | r => r) N R) : ∃ env1, putO env i d j st = .nx env1 st ∧ RS (f env1 st) N R := by
  rcases putO_kind (i := i) (d := d) (j := j) (env := env) (st := st) with ⟨env1, e⟩ | e
  · rw [e] at h
    exact ⟨env1, e, h⟩
  · rw [e] at h
    exact h.elim
theorem ps_put2E {i : Nat} {k1 k2 e : E} {x : PySem.Str} {px px2 sp sp2 tp vp' pos : Pos} {n n' : Nat} {p1 p2 : Expr} {ves : List Expr} (g : Gs G T X) (hh : G.hot = false) (hi : X.N[i]? = some x) (hv : visB X.env.scope x = true) (hn : nmB x = true) (hs1 : noSl p1 = true) (hs2 : noSl p2 = true)
    (hw : swappedStores [.Tuple [.Subscript (.Name x px) p1 sp, .Subscript (.Name x px2) p2 sp2] n tp] (.Tuple ves n' vp') X.env = pure none)
    (hk1 : PE X p1 (tE T false .v k1)) (hk2 : PE X p2 (tE T false .v k2)) (he : PE X (.Tuple ves n' vp') (tE T false .v e)) :
    PS X (.Assign [.Tuple [.Subscript (.Name x px) p1 sp, .Subscript (.Name x px2) p2 sp2] n tp] (.Tuple ves n' vp') pos) (tS T (.put2 i k1 k2 e)) := by
  have un := g.un
  have hg1 : PG X (.Subscript (.Name x px) p1 sp) (gSub (tVar i) (tE T false .v k1) rSetD) := pg_sub (pe_var hi (vis_of hv) (nm_of hn).1 (nm_of hn).2) hk1 (set_dict (by omega)) (by intro v; cases p1 <;> first | rfl | (cases hs1; done))
  have hg2 : PG X (.Subscript (.Name x px2) p2 sp2) (gSub (tVar i) (tE T false .v k2) rSetD) := pg_sub (pe_var hi (vis_of hv) (nm_of hn).1 (nm_of hn).2) hk2 (set_dict (by omega)) (by intro v; cases p2 <;> first | rfl | (cases hs2; done))
  refine PS.imp (ps_asg he (pg_tup (g.calm hh) (pgs_cons hg1 (pgs_cons hg2 pgs_nil)) rfl rfl) rfl hw rfl) fun Z σ H q => ?_
  obtain ⟨G0, F0, env, F, st, s, r, a, q⟩ := q
  refine tE_go s r (RS_toOut q) fun d st1 y H1 F1 k a1 s1 r1 v1 => ?_
  have isT : ∃ d1 d2, d = .tup [d1, d2] := by
    revert k
    cases d <;> first | exact fun k => k.elim | skip
    rename_i l
    match l with
    | [d1, d2] => exact fun _ => ⟨d1, d2, rfl⟩
    | [] => exact fun k => k.elim
    | [_] => exact fun k => k.elim
    | _ :: _ :: _ :: _ => exact fun k => k.elim
  obtain ⟨d1, d2, rfl⟩ := isT
  cases v1 with
  | tup et rt =>
    cases rt with
    | cons ra rt =>
      cases rt with
      | cons rb rt =>
        cases rt
        refine ⟨_, _, rfl, .inl (.inl et), rfl, _, _, rfl, ?_⟩
        have k : RS ((evE T k1 .v env st1).toOut env fun j1 st3 => (match putO env i d1 j1 st3 with
          | .nx env1 st4 => (evE T k2 .v env1 st4).toOut env1 fun j2 st5 => putO env1 i d2 j2 st5
          | r => r)) _ _ := k
        refine put_go (Kc := fun env1 st4 => RS ((evE T k2 .v env1 st4).toOut env1 fun j2 st5 => putO env1 i d2 j2 st5) (Nx G0 F0 H F Z) (Rt G0 F0 Z)) s1 r1 (a.trans a1) ra (RO_mono (RS_toOut k) fun j st2 kk => RS_put kk) fun H3 F3 env1 st3 k3 s3 r3 a3 kp3 => ?_
        refine ⟨_, _, rfl, ?_⟩
        refine put_go (Kc := fun env2 st5 => Nx G0 F0 H F Z env2 st5) s3 r3 a3 (Rp.mono kp3 rb) (RO_mono (RS_toOut k3) fun j st2 kk => ?_) fun H5 F5 env2 st5 k5 s5 r5 a5 kp5 => ?_
        · have kk : RS (match putO env1 i d2 j st2 with | .nx env1 st4 => Out.nx env1 st4 | r => r) (Nx G0 F0 H F Z) (Rt G0 F0 Z) := by
            have e : (match putO env1 i d2 j st2 with | .nx env1 st4 => Out.nx env1 st4 | r => r) = putO env1 i d2 j st2 := by cases putO env1 i d2 j st2 <;> rfl
            rw [e]; exact kk
          exact RS_put kk
        · exact ⟨rfl, k5 σ H5 F5 s5 r5 a5 (((a1.keeps s).trans kp3).trans kp5)⟩
end
end LB
/-! LB17: the check of statements and its soundness. -/
namespace LB
open PySem PySem.Spec PyProof.Rows L2
variable [Clx] [Wc]

def swSet (v : Expr) : Bool := match v with
  | .SetComp _ _ _ _ => false | .DictComp _ _ _ _ _ => false | _ => true
def tgTup (sc : Scope) (t v : Expr) : Bool := match t, v with
  | .Tuple ts _ _, .Tuple vs _ _ => swNone sc ts vs
  | .Tuple _ _ _, v => noComp v
  | _, _ => false
def isCompE : E → Bool
  | .comp _ _ _ _ _ => true
  | _ => false
def parN : List Expr → List PySem.Str
  | .Name x _ :: r => x :: parN r
  | _ => []
def sameN (N : List PySem.Str) : List (Nat × Bool) → List PySem.Str → Bool
  | [], [] => true
  | (i, _) :: l, x :: xs => decide (N[i]? = some x) && sameN N l xs
  | _, _ => false
def chkSs (f : S → Stmt → Bool) : List S → List Stmt → Bool
  | .frz _ :: ss, ps => chkSs f ss ps
  | s :: ss, p :: ps => f s p && chkSs f ss ps
  | [], [] => true
  | _, _ => false
def chkS (G : Sig) (N : List PySem.Str) (m : Nat) : Nat → Scope → S → Stmt → Bool
  | 0, _, _, _ => false
  | n + 1, sc, s, p => match s, p with
    | .set i e, .Assign [.Name x py] v pos => decide (N[i]? = some x) && locB sc x && swSet v && chkE G N m sc e v && (!swB sc v x py || isCompE e)
    | .own i e, .Assign [.Name x py] v pos => decide (N[i]? = some x) && locB sc x && swSet v && isFr e && chkE G N m sc e v && (!swB sc v x py || isCompE e)
    | .par [(i, b1), (j, b2)] es, .Assign [.Tuple [.Name x px, .Name y py] _ _] (.Tuple [p1, p2] _ _) _ => !G.hot && chkO (chkE G N m sc) [b1, b2] es [p1, p2] && decide (N[i]? = some x) && decide (N[j]? = some y) && decide (i ≠ j) && decide (sc.names.lookup x = some .local) && decide (sc.names.lookup y = some .local) &&
        swSome sc [.Name x px, .Name y py] [p1, p2] && decide (parNames sc px.line [.Name x px, .Name y py] = [x, y])
    | .par [(i, b1), (j, b2), (l, b3)] es, .Assign [.Tuple [.Name x px, .Name y py, .Name z pz] _ _] (.Tuple [p1, p2, p3] _ _) _ => !G.hot && chkO (chkE G N m sc) [b1, b2, b3] es [p1, p2, p3] && decide (N[i]? = some x) && decide (N[j]? = some y) && decide (N[l]? = some z) &&
        decide (i ≠ j) && decide (i ≠ l) && decide (j ≠ l) && decide (sc.names.lookup x = some .local) && decide (sc.names.lookup y = some .local) && decide (sc.names.lookup z = some .local) &&
        swSome sc [.Name x px, .Name y py, .Name z pz] [p1, p2, p3] && decide (parNames sc px.line [.Name x px, .Name y py, .Name z pz] = [x, y, z])
    | .unp tg e, .Assign [t] v _ => !G.hot && chkT sc N (List.range N.length) tg t && tgTup sc t v && chkE G N m sc e v
    | .app i e, .Expr (.Call (.Attribute (.Name x _) a ap) [pe] [] cp) _ => decide (a = "append") && decide (N[i]? = some x) && visB sc x && nmB x && (ap.endLine == cp.line) && noSt pe && chkE G N m sc e pe
    | .cst i k e, .Assign [.Subscript (.Name x _) pk _] pe _ => decide (N[i]? = some x) && visB sc x && nmB x && noSl pk && noComp pe && chkE G N m sc k pk && chkE G N m sc e pe
    | .put i k e, .Assign [.Subscript (.Name x _) pk _] pe _ => decide (N[i]? = some x) && visB sc x && nmB x && noSl pk && noComp pe && chkE G N m sc k pk && chkE G N m sc e pe
    | .ite t a b, .If pt pa pb _ => chkE G N m sc t pt && chkSs (chkS G N m n sc) a pa && chkSs (chkS G N m n sc) b pb
    | .for_ tg it b, .For ptg pit pb [] _ => !G.hot && noSet pit && chkT sc N (List.range N.length) tg ptg && chkI (chkE G N m sc) sc ptg it pit && chkSs (chkS G N m n sc) b pb
    | .while_ t b, .While pt pb [] _ => chkE G N m sc t pt && chkSs (chkS G N m n sc) b pb
    | .ret e, .Return (some p) _ => chkE G N m sc e p
    | .ex e, .Expr p _ => noComp p && chkE G N m sc e p
    | .pass, .Pass _ => true
    | .raise 0 _, .Raise _ _ _ => true
    | .raise (c + 1) [], .Raise (some (.Call (.Name x _) [.Constant (.str _) _ _] [] _)) none _ => G.raz.any (fun q => Nat.beq q c) && G.exn.any (fun q => Nat.beq q.1 c && decide (q.2 = x)) && glB sc x && nmB x && !G.hot
    | .raise (c + 1) [e1, e2], .Raise (some (.Call (.Name x _) [p1, p2] [] _)) none _ => G.ini.any (fun q => Nat.beq q c) && G.exn.any (fun q => Nat.beq q.1 c && decide (q.2 = x)) && glB sc x && nmB x && !G.hot && noSt p1 && noSt p2 && chkL (chkE G N m sc) [e1, e2] [p1, p2]
    | .exx f es, .Expr (.Call (.Name x _) ps [] _) _ => decide (G.fn f = some x) && glB sc x && nmB x && chkL (chkE G N m sc) es ps
    | .retx 0 f es, .Return (some (.Call (.Name x _) ps [] _)) _ => decide (G.fn f = some x) && glB sc x && nmB x && chkL (chkE G N m sc) es ps
    | .retx 1 f es, .Return (some (.Call (.Name z _) [.Call (.Name x _) ps [] _] [] _)) _ => decide (z = "tuple") && glB sc z && decide (G.fn f = some x) && glB sc x && nmB x && chkL (chkE G N m sc) es ps
    | .put2 i k1 k2 e, .Assign [.Tuple [.Subscript (.Name x _) p1 _, .Subscript (.Name y _) p2 _] nn _] (.Tuple ves n' vp') _ => !G.hot && decide (N[i]? = some x) && decide (x = y) && visB sc x && nmB x && noSl p1 && noSl p2 &&
        swNone sc [.Subscript (.Name x ⟨0, 0, 0, 0⟩) p1 ⟨0, 0, 0, 0⟩, .Subscript (.Name x ⟨0, 0, 0, 0⟩) p2 ⟨0, 0, 0, 0⟩] ves && chkE G N m sc k1 p1 && chkE G N m sc k2 p2 && chkE G N m sc e (.Tuple ves n' vp')
    | .try_ b, .Try pb (_ :: _) [] [] _ => chkSs (chkS G N m n sc) b pb
    | _, _ => false

theorem sw_true {v : Expr} {x : PySem.Str} {py : Pos} {l : Nat} {env : PySem.Env} (hk : env.scope.kind = .function) (h : swB env.scope v x py = true) : swapsWith v (some (.Name x py)) l env = pure true ∧ env.scope.names.lookup x = some .local := by
  have hb : env.blockKind = .function := by unfold Env.blockKind; rw [hk]; rfl
  cases v <;> first | (cases h; done) | skip
  rename_i el gs scope pos
  have h' : (decide (env.scope.names.lookup x = some .local) && (py.line == pos.line) && !(scope.names.any fun (n, k) => n == x && (k == .local || k == .cell))) = true := h
  have hx : env.scope.names.lookup x = some .local := by
    rw [Bool.and_eq_true, Bool.and_eq_true] at h'
    exact of_decide_eq_true h'.1.1
  refine ⟨?_, hx⟩
  unfold swapsWith
  simp only [hb, Expr.pos]
  have e : (ScopeKind.function == ScopeKind.function && env.kindOf x == some NameKind.local && py.line == pos.line && !(scope.names.any fun (n, k) => n == x && (k == .local || k == .cell))) = true := by
    rw [← h']
    have : (env.kindOf x == some NameKind.local) = decide (env.scope.names.lookup x = some .local) := by
      unfold Env.kindOf
      rw [hx]
      decide
    rw [this]; rfl
  exact congrArg pure e
section
variable {X : Cx} {G : Sig} {T : Tab}
theorem loc_self (g : Gs G T X) : LocOk X X.env.scope := g.loc
theorem lc_set {m i : Nat} {el it : E} {tg : Tg} {cs : List E} {own : List (PySem.Str × Nat)} {x : PySem.Str} {py spos : Pos} {v : Expr} (g : Gs G T X) (hi : X.N[i]? = some x) (hl : X.env.scope.names.lookup x = some .local)
    (hs : swapsWith v (some (.Name x py)) spos.line X.env = pure true) (h : chkE G X.N m X.env.scope (.comp el tg it cs own) v = true) :
    PS X (.Assign [.Name x py] v spos) (fun D σ H => tE T true .v (.comp el tg it cs own) σ H fun y H1 => D.nx (σ.set i (some y)) H1) := by
  cases m with
  | zero => cases h
  | succ n =>
    have ih := fun X g e p => sound n G T X g e p
    unfold chkE at h
    split at h <;> rename_i q <;> first | (cases q; done) | (cases h; done) | skip
    cases q
    simp only [Bool.and_eq_true, decide_eq_true_eq] at h
    obtain ⟨⟨⟨⟨⟨⟨⟨h0, rfl⟩, h1⟩, h2⟩, h3⟩, h4⟩, h5⟩, h6⟩ := h
    have hh : G.hot = false := by simpa using h0
    rename_i pel ptg pit pcs scope pos
    have hv : ∀ {e p}, chkE G X.N n X.env.scope e p = true → PE X p (tE T false .v e) := fun h => (ih X g.toGc _ _ h).val .v trivial
    refine ps_setLcE g hh hi hl hs h1 (pi_E g.toGc (fun e q h => hv h) h4) h3
      (fun s H C cl fp => pg_E (X := X.blk s H scope (compEnvC scope cl C X.env) fp) (g.calm hh) g.nd (locOk_blk s H C cl fp) _ _ h2)
      (fun s H C cl fp => ?_) fun s H C cl fp => (ih (X.blk s H scope (compEnvC scope cl C X.env) fp) (g.toGc.blk hh s H scope _ fp) _ _ h6).val .v trivial
    split at h5
    · exact pts_nilE
    · have k := ih (X.blk s H scope (compEnvC scope cl C X.env) fp) (g.toGc.blk hh s H scope _ fp) _ _ h5
      exact pts_oneE k.tst k.tb
    · cases h5
/-- what a statement's check gives -/
theorem Gc.nox {X : Cx} (g : Gc G T X) : Gc G T X.nox := ⟨g.toGb.ren ⟨rfl, rfl, rfl, rfl, rfl, rfl⟩ g.calm g.nd g.exs, fun n L h => ⟨(g.lam n L h).ex⟩⟩
/-- raise C('..') -/
theorem ps_raiseE {c j : Nat} {x m : PySem.Str} {p p2 pos pos' : Pos} (g : Gs G T X) (hh : G.hot = false) (hc : c ∈ G.raz) (hm : (c, x) ∈ G.exn) (hx : glB X.env.scope x = true) (hn : nmB x = true) :
    PS X (.Raise (some (.Call (.Name x p) [.Constant (.str m) j p2] [] pos)) none pos') (tS T (.raise (c + 1) [])) := by
  obtain ⟨l1, l2⟩ := g.exm c x hm
  refine PS.imp (ps_raise (g.calm hh) g.tk (pmk_own F.excBase_ValueError (g.rz c hc) l2 (g.exo c l1).kp (raises_own (g.exo c l1).is.hs (g.exo c l1).ty) (gl_of hx) (nm_of hn).1)) fun D σ H q => ?_
  obtain ⟨G0, F0, env, F, st, s, r, a, q⟩ := q
  exact q (.ref (Clx.cls c)) none σ H F s a ⟨l1, rfl, .inl ⟨rfl, rfl⟩⟩
theorem evL_ne {e : E} {es : List E} {env : Env} {st st1 : Store} {ds : List D} (hs : ∀ a, e ≠ .star a) (h : evL T (e :: es) env st = .ok ds st1) : ds ≠ [] := by
  have h2 : evL T (e :: es) env st = (evE T e .v env st).bind fun x st1 => (evL T es env st1).bind fun r st2 => .ok (x :: r) st2 := by cases e <;> first | rfl | exact absurd rfl (hs _)
  rw [h2] at h
  cases e1 : evE T e .v env st with
  | ok x s2 =>
    rw [e1] at h
    have h : ((evL T es env s2).bind fun r st2 => Res.ok (x :: r) st2) = .ok ds st1 := h
    cases e2 : evL T es env s2 with
    | ok r s3 =>
      rw [e2] at h
      have h : Res.ok (x :: r) s3 = .ok ds st1 := h
      cases h
      simp
    | exc => rw [e2] at h; cases h
    | bad => rw [e2] at h; cases h
  | exc => rw [e1] at h; cases h
  | bad => rw [e1] at h; cases h
theorem raise_out {ds : List D} {c : Nat} {env : Env} {st1 : Store} {N : Env → Store → Prop} {R : Rr} (k : RS (match ds with | [] => .exc c [] env st1 | [.int i, .int j] => .exc c [.int i, .int j] env st1 | _ => .bad) N R) (kn : ds ≠ []) : ∃ i j, ds = [.int i, .int j] ∧ R.ex c [.int i, .int j] st1 := by
  rcases ds with _ | ⟨d1, _ | ⟨d2, _ | ⟨d3, r⟩⟩⟩
  · exact absurd rfl kn
  · cases d1 <;> exact absurd k (fun z => z)
  · cases d1 <;> cases d2 <;> first | exact ⟨_, _, rfl, k⟩ | exact absurd k (fun z => z)
  · cases d1 <;> cases d2 <;> exact absurd k (fun z => z)
/-- raise C(i, j) -/
theorem ps_raise2E {c : Nat} {es : List E} {p1 p2 : Expr} {x : PySem.Str} {p pos pos' : Pos} (g : Gs G T X) (hh : G.hot = false) (hc : c ∈ G.ini) (hm : (c, x) ∈ G.exn) (hx : glB X.env.scope x = true) (hn : nmB x = true) (n1 : noSt p1 = true) (n2 : noSt p2 = true) (ha : PA X [p1, p2] (tA T es)) (hes : es ≠ []) (hl : ∀ env st ds st1, evL T es env st = .ok ds st1 → ds ≠ []) :
    PS X (.Raise (some (.Call (.Name x p) [p1, p2] [] pos)) none pos') (tS T (.raise (c + 1) es)) := by
  obtain ⟨l1, l2⟩ := g.exm c x hm
  obtain ⟨C0, fI, fd, i1, i2, i3, i4⟩ := g.ini c hc
  refine PS.imp (ps_raise (g.calm hh) g.tk (pmk_init i1 i2 i3 i4 (g.dpi hh) (gl_of hx) l2 ha (nm_of hn).1 (star_cons n1) (by rw [star_cons n2]; rfl))) fun D σ H q => ?_
  obtain ⟨G0, F0, env, F, st, s, r, a, q⟩ := q
  have q := RS_toOut q
  have q2 : RO (evL T es env st) (fun ds _ => ds ≠ []) := by
    have h := hl env st
    revert q h
    cases evL T es env st with
    | ok ds st1 => exact fun _ h => h ds st1 rfl
    | exc => exact fun q _ => q
    | bad => exact fun q _ => q
  refine tA_go s r (RO_and q q2) fun ds st1 xs H1 F1 k a1 s1 r1 rd => ?_
  obtain ⟨i, j, rfl, k2⟩ := raise_out k.1 k.2
  cases rd with
  | cons d1 rd =>
    cases d1
    cases rd with
    | cons d2 rd =>
      cases d2
      cases rd
      refine ⟨i, j, rfl, fun d hd => ?_⟩
      exact k2 (.ref (Clx.cls c)) (some d) σ _ F1 (s1.laid hd) ((a.trans a1).trans (Stp.laid s1 hd)) ⟨l1, rfl, .inr ⟨d, i, j, rfl, rfl, upd_same⟩⟩
/-- f(..), what it raises goes on -/
theorem ps_exxE {f : Nat} {es : List E} {ps : List Expr} {x : PySem.Str} {p cp pos : Pos} {c : E → Expr → Bool} (g : Gs G T X) (hf : G.fn f = some x) (hx : glB X.env.scope x = true) (hn : nmB x = true) (hc : chkL c es ps = true) (ha : PA X ps (tA T es)) :
    PS X (.Expr (.Call (.Name x p) ps [] cp) pos) (tS T (.exx f es)) := by
  obtain ⟨a', e1, e2, _⟩ := g.fns f x hf
  refine PS.imp (ps_expr (pe_callX (g.fnx f x hf a' e1 X ⟨rfl, rfl, rfl, rfl, rfl, rfl⟩) e1 e2 hx hn hc ha g.tk) rfl) fun D σ H q => ?_
  obtain ⟨G0, F0, env, F, st, s, r, a, q⟩ := q
  refine ⟨G0, env, F, st, s, r, RO_mono (RS_toOut q) fun ds st1 k => ?_⟩
  revert k
  cases T f ds st1 with
  | ok d st2 => exact fun k x H1 F1 a1 s1 rx => k σ H1 F1 s1 (r.step s a1) (a.trans a1) (a1.keeps s)
  | exc c as st2 => exact fun k cls d H1 F1 a1 s1 ix => k cls d σ H1 F1 s1 (a.trans a1) ix
  | bad => exact fun k => k
theorem ps_retx0 {f : Nat} {es : List E} {ps : List Expr} {x : PySem.Str} {p cp pos : Pos} {c : E → Expr → Bool} (g : Gs G T X) (hf : G.fn f = some x) (hx : glB X.env.scope x = true) (hn : nmB x = true) (hc : chkL c es ps = true) (ha : PA X ps (tA T es)) :
    PS X (.Return (some (.Call (.Name x p) ps [] cp)) pos) (tS T (.retx 0 f es)) := by
  obtain ⟨a', e1, e2, _⟩ := g.fns f x hf
  refine PS.imp (ps_ret (pe_callX (g.fnx f x hf a' e1 X ⟨rfl, rfl, rfl, rfl, rfl, rfl⟩) e1 e2 hx hn hc ha g.tk)) fun D σ H q => ?_
  obtain ⟨G0, F0, env, F, st, s, r, a, q⟩ := q
  refine ⟨G0, env, F, st, s, r, RO_mono (RS_toOut q) fun ds st1 k => ?_⟩
  revert k
  cases T f ds st1 with
  | ok d st2 => exact fun k x H1 F1 a1 s1 rx => k x H1 F1 s1 (a.trans a1) rx
  | exc c as st2 => exact fun k cls d H1 F1 a1 s1 ix => k cls d σ H1 F1 s1 (a.trans a1) ix
  | bad => exact fun k => k
theorem ps_retx1 {f : Nat} {es : List E} {ps : List Expr} {x : PySem.Str} {p p0 cp cp0 pos : Pos} {c : E → Expr → Bool} (g : Gs G T X) (h0 : glB X.env.scope "tuple" = true) (hf : G.fn f = some x) (hx : glB X.env.scope x = true) (hn : nmB x = true) (hc : chkL c es ps = true) (ha : PA X ps (tA T es)) :
    PS X (.Return (some (.Call (.Name "tuple" p0) [.Call (.Name x p) ps [] cp] [] cp0)) pos) (tS T (.retx 1 f es)) := by
  obtain ⟨a', e1, e2, _⟩ := g.fns f x hf
  have hb : ∀ n ∈ bltNames, X.mg n = none := g.blt
  refine PS.imp (ps_ret (pe_callTy (cr_tup (b := false)) (gl_of h0) (hb _ (by decide)) (by decide +kernel) (pa_cons (pe_callX (g.fnx f x hf a' e1 X ⟨rfl, rfl, rfl, rfl, rfl, rfl⟩) e1 e2 hx hn hc ha g.tk) pa_nil rfl) (he := rfl) (hpl := rfl))) fun D σ H q => ?_
  obtain ⟨G0, F0, env, F, st, s, r, a, q⟩ := q
  refine ⟨G0, env, F, st, s, r, RO_mono (RS_toOut q) fun ds st1 k => ?_⟩
  revert k
  cases T f ds st1 with
  | ok d st2 =>
    intro k x H1 F1 a1 s1 rx
    have k : RS (match wrapD 1 d with | some z => Out.rt z st2 | none => .bad) _ _ := k
    cases ez : wrapD 1 d with
    | none => rw [ez] at k; exact k.elim
    | some z =>
      rw [ez] at k
      have hz : biV st2 .tup [d] = some z := by
        have ez : bi1 .tup d = some z := ez
        cases d <;> first | exact ez | (cases ez; done)
      exact ⟨F1, st2, [d], z, s1, .cons (.inl rx) .nil, hz, fun v H' a' s' r' => k v H' F1 s' ((a.trans a1).trans a') r', fun z => nomatch z⟩
  | exc c as st2 => exact fun k cls d H1 F1 a1 s1 ix => k cls d σ H1 F1 s1 (a.trans a1) ix
  | bad => exact fun k => k
/-- no exception leaves -/
abbrev wc0 : Wc := ⟨fun _ _ _ _ => False⟩
theorem Gs.nox {X : Cx} (g : Gs G T X) : @Gs _ wc0 G T X.nox := @Gs.mk _ wc0 G T X.nox g.toGc.nox g.all PassesOwn.never LamX.takes0
omit [Wc] in
theorem soundS' {m : Nat} (n : Nat) : ∀ [Wc] (X : Cx) (g : Gs G T X) (hk : X.env.scope.kind = .function) (s : S) (p : Stmt), chkS G X.N m n X.env.scope s p = true → PS X p (tS T s) := by
  induction n with
  | zero => intro wc X g hk s p h; cases h
  | succ n ih0 =>
    intro wc X g hk s p h
    have ih := ih0 X g hk
    have hE : ∀ {e p}, chkE G X.N m X.env.scope e p = true → SE T X e p := fun h => sound m G T X g.toGc _ _ h
    have hL : ∀ {es ps}, chkL (chkE G X.N m X.env.scope) es ps = true → PA X ps (tA T es) := fun h => pa_E (fun e p h => (hE h).val .v trivial) noStar h
    have hv : ∀ {e p}, chkE G X.N m X.env.scope e p = true → PE X p (tE T false .v e) := fun h => (hE h).val .v trivial
    have hSs : ∀ (ss : List S) (ps : List Stmt), chkSs (chkS G X.N m n X.env.scope) ss ps = true → PSs X ps (tSs T ss) := by
      intro ss
      induction ss with
      | nil => intro ps h; cases ps with
        | nil => exact pss_nilE
        | cons => cases h
      | cons s ss ih2 =>
        intro ps h
        have other : ∀ p qs, ps = p :: qs → chkS G X.N m n X.env.scope s p = true → chkSs (chkS G X.N m n X.env.scope) ss qs = true → PSs X ps (tSs T (s :: ss)) := fun p qs e h1 h2 => by
          subst e; exact pss_consE (ih s p h1) (ih2 qs h2)
        cases s <;> first
          | exact pss_frzE (ih2 ps h)
          | (cases ps with
            | nil => cases h
            | cons p qs =>
              have h := Bool.and_eq_true_iff.mp h
              exact other p qs rfl h.1 h.2)
    have inB : ∀ i : Nat, ∀ x : PySem.Str, X.N[i]? = some x → i < X.N.length := fun i x h => (List.getElem?_eq_some_iff.mp h).1
    unfold chkS at h
    split at h
    · -- set
      simp only [Bool.and_eq_true, decide_eq_true_eq] at h
      obtain ⟨⟨⟨⟨h1, h2⟩, h3⟩, h4⟩, h5⟩ := h
      rename_i i e x py v pos
      cases hb : swB X.env.scope v x py with
      | false => exact ps_setE g h1 h2 (sw_false hk hb (by cases v <;> first | rfl | (cases h3; done))) (hv h4)
      | true =>
        rw [hb] at h5
        obtain ⟨ht, hl⟩ := sw_true (l := pos.line) hk hb
        cases e <;> first | (cases h5; done) | skip
        exact ps_setOf (inB _ _ h1) seq_comp (lc_set g h1 hl ht h4)
    · -- own
      simp only [Bool.and_eq_true, decide_eq_true_eq] at h
      obtain ⟨⟨⟨⟨⟨h1, h2⟩, h3⟩, hf⟩, h4⟩, h5⟩ := h
      rename_i i e x py v pos
      cases hb : swB X.env.scope v x py with
      | false => exact ps_ownE g h1 h2 (sw_false hk hb (by cases v <;> first | rfl | (cases h3; done))) ((hE h4).fr hf)
      | true =>
        rw [hb] at h5
        obtain ⟨ht, hl⟩ := sw_true (l := pos.line) hk hb
        cases e <;> first | (cases h5; done) | skip
        exact ps_ownOf (lc_set g h1 hl ht h4)
    · -- two side by side
      simp only [Bool.and_eq_true, decide_eq_true_eq] at h
      obtain ⟨⟨⟨⟨⟨⟨⟨⟨h0, h1⟩, h2⟩, h3⟩, h4⟩, h5⟩, h6⟩, h7⟩, h8⟩ := h
      refine ps_par2E g (by simpa using h0) (fun e p h => hE h) noStar h1 h2 h3 h4 h5 h6 ?_
      exact (sw_some rfl hk h7).trans (congrArg (fun z => pure (some z)) h8)
    · -- three
      simp only [Bool.and_eq_true, decide_eq_true_eq] at h
      obtain ⟨⟨⟨⟨⟨⟨⟨⟨⟨⟨⟨⟨h0, h1⟩, h2⟩, h3⟩, h4⟩, h5⟩, h6⟩, h7⟩, h8⟩, h9⟩, h10⟩, h11⟩, h12⟩ := h
      refine ps_par3E g (by simpa using h0) (fun e p h => hE h) noStar h1 h2 h3 h4 h5 h6 h7 h8 h9 h10 ?_
      exact (sw_some rfl hk h11).trans (congrArg (fun z => pure (some z)) h12)
    · -- unp
      rename_i tg e t v pos
      simp only [Bool.and_eq_true] at h
      obtain ⟨⟨⟨h0, h1⟩, h2⟩, h3⟩ := h
      have hh : G.hot = false := by simpa using h0
      have hg := pg_E (X := X) (g.calm hh) g.nd g.loc _ _ h1
      cases t <;> first | (cases h2; done) | skip
      refine ps_unpE g hg (hv h3) ?_ ?_ rfl
      · cases v <;> first | rfl | (cases h2; done)
      · cases v <;> first | exact sw_none rfl hk h2 | rfl
    · -- app
      simp only [Bool.and_eq_true, decide_eq_true_eq] at h
      obtain ⟨⟨⟨⟨⟨⟨rfl, h1⟩, h2⟩, h3⟩, h4⟩, h5⟩, h6⟩ := h
      exact ps_appE g h1 h2 h3 h4 h5 (hv h6)
    · -- cst
      simp only [Bool.and_eq_true, decide_eq_true_eq] at h
      obtain ⟨⟨⟨⟨⟨⟨h1, h2⟩, h3⟩, h4⟩, h5⟩, h6⟩, h7⟩ := h
      exact ps_cstE g h1 h2 h3 h4 h5 (hv h6) (hv h7)
    · -- put
      simp only [Bool.and_eq_true, decide_eq_true_eq] at h
      obtain ⟨⟨⟨⟨⟨⟨h1, h2⟩, h3⟩, h4⟩, h5⟩, h6⟩, h7⟩ := h
      exact ps_putE g h1 h2 h3 h4 h5 (hv h6) (hv h7)
    · -- ite
      simp only [Bool.and_eq_true] at h
      exact ps_iteE (hE h.1.1).tst (hE h.1.1).tb (hSs _ _ h.1.2) (hSs _ _ h.2)
    · -- for
      simp only [Bool.and_eq_true] at h
      have hh : G.hot = false := by simpa using h.1.1.1.1
      exact ps_forE g hh (pi_E g.toGc (fun e q h => hv h) h.1.2) h.1.1.1.2 (pg_E (X := X) (g.calm hh) g.nd g.loc _ _ h.1.1.2) (hSs _ _ h.2)
    · -- while
      simp only [Bool.and_eq_true] at h
      exact ps_whileE g (hE h.1).tst (hE h.1).tb (hSs _ _ h.2)
    · exact ps_retE (hv h)
    · -- e alone
      simp only [Bool.and_eq_true] at h
      rename_i e p pos
      exact ps_exE (hv h.2) (by cases p <;> first | rfl | (have := h.1; cases this; done))
    · exact ps_passE
    · -- raise, never
      exact ps_bad fun env st N R h => h
    · -- raise
      simp only [Bool.and_eq_true] at h
      obtain ⟨⟨⟨⟨h1, h2⟩, h3⟩, h4⟩, h5⟩ := h
      obtain ⟨c1, m1, e1⟩ := List.any_eq_true.mp h1
      have e1 := Nat.eq_of_beq_eq_true e1
      subst e1
      obtain ⟨⟨c2, y⟩, m2, e2⟩ := List.any_eq_true.mp h2
      simp only [Bool.and_eq_true, decide_eq_true_eq] at e2
      obtain ⟨e2, e3⟩ := e2
      have e2 := Nat.eq_of_beq_eq_true e2
      subst e2 e3
      exact ps_raiseE g (by simpa using h5) m1 m2 h3 h4
    · -- raise, two ints
      rename_i c e1 e2 x pp p1 p2 pos pos2
      simp only [Bool.and_eq_true] at h
      obtain ⟨⟨⟨⟨⟨⟨⟨h1, h2⟩, h3⟩, h4⟩, h5⟩, h6⟩, h7⟩, h8⟩ := h
      obtain ⟨c1, m1, q1⟩ := List.any_eq_true.mp h1
      have q1 := Nat.eq_of_beq_eq_true q1
      subst q1
      obtain ⟨⟨c2, y⟩, m2, q2⟩ := List.any_eq_true.mp h2
      simp only [Bool.and_eq_true, decide_eq_true_eq] at q2
      obtain ⟨q2, q3⟩ := q2
      have q2 := Nat.eq_of_beq_eq_true q2
      subst q2 q3
      refine ps_raise2E g (by simpa using h5) m1 m2 h3 h4 h6 h7 (hL h8) (by simp) fun env st ds st1 he => evL_ne (fun a ea => ?_) he
      subst ea
      have h8 : (noSt p1 && chkE G X.N m X.env.scope (.star a) p1 && chkL (chkE G X.N m X.env.scope) [e2] [p2]) = true := h8
      rw [noStar, Bool.and_false, Bool.false_and] at h8
      cases h8
    · -- f(..), what it raises
      simp only [Bool.and_eq_true, decide_eq_true_eq] at h
      obtain ⟨⟨⟨h1, h2⟩, h3⟩, h4⟩ := h
      exact ps_exxE g h1 h2 h3 h4 (hL h4)
    · simp only [Bool.and_eq_true, decide_eq_true_eq] at h
      obtain ⟨⟨⟨h1, h2⟩, h3⟩, h4⟩ := h
      exact ps_retx0 g h1 h2 h3 h4 (hL h4)
    · simp only [Bool.and_eq_true, decide_eq_true_eq] at h
      obtain ⟨⟨⟨⟨⟨rfl, h0⟩, h1⟩, h2⟩, h3⟩, h4⟩ := h
      exact ps_retx1 g h0 h1 h2 h3 h4 (hL h4)
    · -- put2
      simp only [Bool.and_eq_true, decide_eq_true_eq] at h
      obtain ⟨⟨⟨⟨⟨⟨⟨⟨⟨⟨h0, h1⟩, rfl⟩, h2⟩, h3⟩, h4⟩, h5⟩, h6⟩, h7⟩, h8⟩, h9⟩ := h
      refine ps_put2E g (by simpa using h0) h1 h2 h3 h4 h5 (sw_none rfl hk h6) (hv h7) (hv h8) (hv h9)
    · -- try
      have hSs' : ∀ (ss : List S) (ps : List Stmt), chkSs (chkS G X.N m n X.env.scope) ss ps = true → PSs X.nox ps (@tSs _ wc0 T ss) := by
        intro ss
        have ihx := @ih0 wc0 X.nox g.nox hk
        induction ss with
        | nil => intro ps h; cases ps with
          | nil => exact @pss_nilE _ wc0 _ _
          | cons => cases h
        | cons s ss ih2 =>
          intro ps h
          have other : ∀ p qs, ps = p :: qs → chkS G X.N m n X.env.scope s p = true → chkSs (chkS G X.N m n X.env.scope) ss qs = true → PSs X.nox ps (@tSs _ wc0 T (s :: ss)) := fun p qs e h1 h2 => by
            subst e; exact @pss_consE _ wc0 _ _ _ _ _ _ (ihx s p h1) (ih2 qs h2)
          cases s <;> first
            | exact @pss_frzE _ wc0 _ _ _ _ _ (ih2 ps h)
            | (cases ps with
              | nil => cases h
              | cons p qs =>
                have h := Bool.and_eq_true_iff.mp h
                exact other p qs rfl h.1 h.2)
      refine PS.imp (ps_try_thru0 (hSs' _ _ h)) fun Z σ H q => ?_
      obtain ⟨G0, F0, env, F, st, s, r, a, q⟩ := q
      refine ⟨G0, F0, env, F, st, s, r, a, ?_⟩
      rename_i bb _ _ _ _
      have q : RS (match exs T bb env st with | .exc _ _ _ _ => .bad | r => r) (Nx G0 F0 H F Z) (Rt G0 F0 Z) := q
      revert q
      cases exs T bb env st <;> first | exact fun q => q | exact fun q => q.elim
    · cases h
theorem soundS {m : Nat} (g : Gs G T X) (hk : X.env.scope.kind = .function) (n : Nat) (s : S) (p : Stmt) (h : chkS G X.N m n X.env.scope s p = true) : PS X p (tS T s) := soundS' n X g hk s p h
theorem soundSs {m n : Nat} (g : Gs G T X) (hk : X.env.scope.kind = .function) : ∀ {ss : List S} {ps : List Stmt}, chkSs (chkS G X.N m n X.env.scope) ss ps = true → PSs X ps (tSs T ss) := by
  intro ss
  induction ss with
  | nil => intro ps h; cases ps with
    | nil => exact pss_nilE
    | cons => cases h
  | cons s ss ih2 =>
    intro ps h
    have other : ∀ p qs, ps = p :: qs → chkS G X.N m n X.env.scope s p = true → chkSs (chkS G X.N m n X.env.scope) ss qs = true → PSs X ps (tSs T (s :: ss)) := fun p qs e h1 h2 => by
      subst e; exact pss_consE (soundS g hk n s p h1) (ih2 h2)
    cases s <;> first
      | exact pss_frzE (ih2 h)
      | (cases ps with
        | nil => cases h
        | cons p qs =>
          have h := Bool.and_eq_true_iff.mp h
          exact other p qs rfl h.1 h.2)
end
end LB
/-! LB17b: the def that names what is raised; said. -/
namespace LB
open PySem PySem.Spec PyProof.Rows L2 LamX
/-- what is known of the module's names and classes -/
structure ModF [Clx] (G : Sig) (K : PySem.W.Frag) (mg : PySem.Str → Option Value) : Prop where
  blt : ∀ x ∈ bltNames, mg x = none
  con : ∀ x d, (x, d) ∈ G.con → (∀ i, d = .int i → ∃ t, mg x = some (.int i t)) ∧ (∀ z, d = .str z → ∃ t, mg x = some (.str z t))
  exo : ∀ c, c < Clx.n → ExcOk K (Clx.cls c)
  exu : ∀ c, c < Clx.n → PySem.W.subIn K (.ref (Clx.cls c)) (.ref (Clx.cls 0)) = some true
  exk : ∀ c c', c < Clx.n → c' < Clx.n → PySem.W.kitOne K (.ref (Clx.cls c)) (.ref (Clx.cls c')) = some (Nat.beq c c' || Nat.beq c' 0)
  exm : ∀ c x, (c, x) ∈ G.exn → c < Clx.n ∧ mg x = some (.ref (Clx.cls c))
  mve : mg "ValueError" = none
  rz : ∀ c ∈ G.raz, PySem.W.excIn K (Clx.cls c) veTail "ValueError.__new__" = true
  ini : ∀ c ∈ G.ini, ∃ P, G.prg = some P ∧ IniC P K (Clx.cls c)
/-- how a def is called with keywords: n places, then the names ks -/
def KwTo (K : PySem.W.Frag) (fd : FuncData) (ps : List PySem.Str) (n : Nat) (ks : List PySem.Str) (inv : List Nat) : Prop :=
  ∀ (s : Shared) (us ws : List Value), us.length = n → ws.length = ks.length → K.In s.heap → ∃ zs, inv.map (fun i => (us ++ ws)[i]?) = zs.map some ∧ BindsTo s fd ⟨us, ks.zip ws⟩ (ps.zip zs)
/-- a def of the module that the term fn renders -/
structure DefIn (G : Sig) (K : PySem.W.Frag) (mg : PySem.Str → Option Value) (f : Nat) (fn : Fn) (a : Addr) : Prop where
  it : ∃ (x : PySem.Str) (st : Stmt) (fd : FuncData) (N ps : List PySem.Str) (m n : Nat), G.fn f = some x ∧ L2.Fun K x x st a fd ∧ mg x = some (.ref a) ∧ FnScope N ps (L2.defScope st) ∧ ps.length = fn.ps ∧ N.length = fn.ns ∧ Binds K fd ps [] ∧ (∀ n ks inv, (f, n, ks, inv) ∈ G.kw → KwTo K fd ps n ks inv) ∧
    chkSs (chkS (G.at_ f) N m n (L2.defScope st)) fn.body (L2.defBody st) = true
/-- .. that calls no def, looked at where an exception is handled -/
structure HotIn (G : Sig) (K : PySem.W.Frag) (mg : PySem.Str → Option Value) (x : PySem.Str) (fn : Fn) (a : Addr) : Prop where
  it : ∃ (st : Stmt) (fd : FuncData) (N ps : List PySem.Str) (m n : Nat), L2.Fun K x x st a fd ∧ mg x = some (.ref a) ∧ FnScope N ps (L2.defScope st) ∧ ps.length = fn.ps ∧ N.length = fn.ns ∧ Binds K fd ps [] ∧
    chkSs (chkS G N m n (L2.defScope st)) fn.body (L2.defBody st) = true
/-- the Sig by which such a def is looked at -/
def Sig.heat (G : Sig) : Sig := { G with fn := fun _ => none, kw := [], lam := [], raz := [], hot := true, rp := true, ini := [] }
section
variable [Clx] {G : Sig} {Fs : Nat → Option Fn} {P : Program} {w : World} {K : PySem.W.Frag} {mg : PySem.Str → Option Value} {base : Heap}
theorem Rps.slots {H : Hp} {F : List Addr} {ds : List D} {vs : List V} (r : Rps H F ds vs) {i : Nat} {d : D} (h : (ds.map Slot.v)[i]? = some (.v d)) : ∃ x, (vs.map some)[i]? = some (some x) ∧ Rp H F d x := by
  rw [List.getElem?_map] at h
  cases e : ds[i]? with
  | none => rw [e] at h; cases h
  | some d' =>
    rw [e] at h
    cases h
    obtain ⟨x, h1, h2⟩ := r.get e
    exact ⟨x, by rw [List.getElem?_map, h1]; rfl, h2⟩
theorem start_ER {H : Hp} {F : List Addr} {ds : List D} {vs : List V} {N : List PySem.Str} {fn : Fn} (r : Rps H F ds vs) (hN : N.length = fn.ns) : ER H (L2.start N vs) H F (enter fn ds) := by
  have hl := r.length
  have out : ∀ (j : Nat) (e : Slot), (enter fn ds)[j]? = some e → e = .u ∨ ∃ d, e = .v d ∧ j < ds.length ∧ (ds.map Slot.v)[j]? = some (.v d) := fun j e h => by
    unfold enter at h
    by_cases hj : j < ds.length
    · rw [List.getElem?_append_left (by simpa using hj)] at h
      have h2 := h
      rw [List.getElem?_map] at h2
      cases q : ds[j]? with
      | none => rw [q] at h2; cases h2
      | some d => rw [q] at h2; cases h2; exact .inr ⟨d, rfl, hj, h⟩
    · rw [List.getElem?_append_right (by simpa using hj), List.getElem?_replicate] at h
      split at h
      · exact .inl (Option.some.inj h).symm
      · cases h
  refine ⟨fun j d h => ?_, fun j d h => ?_, fun j k e e' b h1 h2 => ?_, ?_⟩
  · rcases out j _ h with z | ⟨d', z, hj, q⟩
    · cases z
    · cases z
      obtain ⟨x, h1, h2⟩ := r.slots q
      refine ⟨x, ?_, h2⟩
      unfold L2.start
      rw [List.getElem?_append_left (by rw [List.length_map, ← hl]; exact hj)]
      exact h1
  · rcases out j _ h with z | ⟨d', z, _⟩ <;> cases z
  · rcases out j _ h1 with z | ⟨d', z, _⟩ <;> cases z
  · unfold enter L2.start
    simp only [List.length_append, List.length_map, List.length_replicate]
    omega
end
/-- the classes as they are, with one exception in hand -/
abbrev inHand (C : Clx) (e : Addr × Obj × Nat × Option Addr) : Clx := ⟨C.cls, C.n, [e], C.tabs⟩
theorem run_hot [C : Clx] {G : Sig} {Fs : Nat → Option Fn} {P : Program} {w : World} {K : PySem.W.Frag} {mg : PySem.Str → Option Value} {base : Heap} (M : ModF G K mg) {k : Nat} {fn : Fn} {x : PySem.Str} {ga : Addr} (hF : Fs k = some fn) (hD : HotIn G.heat K mg x fn ga)
    {n : Nat} {A : Around} {outer : List PySem.Env} {s : Shared} {H : Hp} {a : Addr} {oe : Obj} {c : Nat} {as : List D} {d : Option Addr} {Q : VK} (hdp : A.depth < recursionLimit) (hu : A.units + 3 + 65 < cLine) (hg : A.guards = some [])
    (e0 : Env0 P w K mg base A outer s H) (hp : L2H.PinOk outer H s (a, oe)) (hz : Zx oe c d) (hx : ExF H as d) (tb : Tabs C.tabs H)
    (q : RO (call Fs (n + 1) k [.exn c as] []) fun v _ => ∃ z, v = .str z ∧ ∀ H', (∀ b o, H b = some o → NT o → H' b = some o) → Tabs C.tabs H' → Q (.str z) H') :
    codeAny (model P w) A (.call (.ref ga) ⟨[.ref a], []⟩) (CR L2.CX0 outer P w H s Q L2.E0) s := by
  obtain ⟨pst, fd, N, ps, m, n2, hdef, hmx, S, hpl, hN, hb, hc⟩ := hD.it
  have q : RO (match Fs k with | some f => if [D.exn c as].length == f.ps then (exs (call Fs n) f.body (enter f [.exn c as]) []).fin else .bad | none => .bad) _ := q
  rw [hF] at q
  have q : RO (if ([D.exn c as].length == fn.ps) = true then (exs (call Fs n) fn.body (enter fn [.exn c as]) []).fin else .bad) _ := q
  obtain ⟨hlen, q⟩ := ite_bad q
  have hlen : 1 = fn.ps := by simpa using hlen
  have hl : [V.ref a].length = ps.length := by rw [hpl, ← hlen]; rfl
  have KX : K.In s.heap := e0.mod.kin.keeps fun b o e => (e0.bs b o e).1
  have lim : s.heap.NoLimit := e0.mod.nolimit.keeps fun b o e => (e0.bs b o e).1
  have hbind : BindsTo s fd ⟨[.ref a], []⟩ (ps.zip [.ref a]) := by
    have hbind := hb s [.ref a] KX (by rw [List.append_nil]; exact hl)
    rw [List.append_nil] at hbind
    exact hbind
  obtain ⟨oc, od, kV, doc, pm, an, cdv, ct, osl, rfl, lk, hcd⟩ := hdef.ex
  have hkind : ∀ y ∈ ps.zip [Value.ref a], (L2.defScope pst).names.lookup y.1 = some .local ∨ ((L2.defScope pst).names.lookup y.1 = some .cell ∧ ((cellsFrom (s.heap.objs.size + 1) (L2.defScope pst).names []).lookup y.1).isSome = true) := by
    rintro ⟨z, u⟩ hy
    rcases S.par z (List.of_mem_zip hy).1 with h | h
    · exact Or.inl h
    · exact Or.inr ⟨h, PySem.W.cellsFrom_some _ _ _ (Or.inl h)⟩
  refine codeAny_call_function hdp (KX _ _ lk) rfl S.co S.gen rfl (PySem.W.codeRec_of KX hcd) (hbind _ _ _ _ ?_)
  refine wpAny_newFunctionEnv_cells S.kind hkind fun env he s1 ic => ?_
  subst he
  refine ⟨lim.keeps ic.toInCall.keep, codeAny_func ?_⟩
  let X0 : Cx := L2H.cxH L2.CX0 P w K mg base N x (L2.defScope pst) ga cdv A outer s H L2.E0 (a, oe)
  have g : @Gs (inHand C (a, oe, c, d)) wc0 G.heat (call Fs n) X0.nox := by
    refine @Gs.mk (inHand C (a, oe, c, d)) wc0 G.heat (call Fs n) X0.nox (@Gc.mk (inHand C (a, oe, c, d)) _ _ _ (@Gb.mk (inHand C (a, oe, c, d)) G.heat (call Fs n) X0.nox (fun z => by cases z) S.nd ?_ (fun _ => hg) M.blt M.con (fun f x h => by cases h) (fun f x h => by cases h) M.exo M.exu M.exk M.exm M.mve (.inr ⟨rfl, fun a2 oe2 c2 d2 h => ?_⟩) (fun c h => by cases h) (fun c h => by cases h) (fun h => by cases h)) fun s L h => by cases h) (fun _ => rfl) PassesOwn.never takes0
    · show (A.deeper _).units + 65 < cLine
      have : (A.deeper (envOfC x (L2.defScope pst) s.heap.objs.size ga cdv)).units = A.units + 3 := rfl
      omega
    · have h : (a2, oe2, c2, d2) ∈ [(a, oe, c, d)] := h
      rw [List.mem_singleton] at h
      cases h
      exact ⟨hz, List.mem_cons_self ..⟩
  have body : PSs X0 (L2.defBody pst) (@tSs (inHand C (a, oe, c, d)) wc0 (call Fs n) fn.body) := PSs.nox (@soundSs (inHand C (a, oe, c, d)) wc0 _ _ _ _ _ g S.kind _ _ hc)
  have I : L2.Inv X0 [] (L2.start N [V.ref a]) H s1 := L2H.inv_startH S hp e0 hl (.cons rfl .nil) ic
  have rs : @Rps (inHand C (a, oe, c, d)) H [] [.exn c as] [.ref a] := @Rps.cons (inHand C (a, oe, c, d)) H [] _ _ _ _ (@Rp.exn (inHand C (a, oe, c, d)) H [] a oe c as d (List.mem_cons_self ..) hx) (@Rps.nil (inHand C (a, oe, c, d)) H [])
  have sr : @SR (inHand C (a, oe, c, d)) H [] [] := @SR.mk (inHand C (a, oe, c, d)) H [] [] rfl List.nodup_nil (fun n b h => by simp at h) tb
  have q2 : @RS (exs (call Fs n) fn.body (enter fn [.exn c as]) []) (fun _ _ => False) ⟨fun d _ => ∃ z, d = .str z ∧ ∀ H', (∀ b o, H b = some o → NT o → H' b = some o) → Tabs C.tabs H' → Q (.str z) H', fun _ _ _ => False⟩ := by
    revert q
    cases exs (call Fs n) fn.body (enter fn [.exn c as]) [] with
    | nx e st => exact fun q => by obtain ⟨z, e, _⟩ := q; cases e
    | rt d st => exact fun q => q
    | exc => exact fun q => q
    | bad => exact fun q => q
  refine wpAny_mono (body.run [] s1 (L2.start N [V.ref a]) H { nx := fun _ H' => Q .non H', rt := Q } I ⟨H, [], enter fn [.exn c as], [], [], sr, @start_ER (inHand C (a, oe, c, d)) _ _ _ _ _ _ rs hN, @Stp.refl (inHand C (a, oe, c, d)) _ _, @RS_mono C wc0 _ _ _ _ _ q2 (fun e st' z => z.elim) (fun d st' z y H' F' s' a' v' => ?_) fun _ _ _ z => z.elim⟩) (fun fl s' hs => ?_) fun e s' hs => hs
  · obtain ⟨z, rfl, hq⟩ := z
    cases v'
    exact hq H' (fun b o e nt => @Stp.ext (inHand C (a, oe, c, d)) _ _ _ _ a' b o e (by simp) nt) (@Stp.tab (inHand C (a, oe, c, d)) _ _ _ _ a' tb)
  · cases fl with
    | ret u =>
      obtain ⟨v, σ', H', J, rv, z⟩ := hs
      exact ⟨v, H', J.os, J.bare, J.base, J.hok, rv, z⟩
    | next =>
      obtain ⟨σ', H', J, z⟩ := hs
      exact ⟨.non, H', J.os, J.bare, J.base, J.hok, rfl, z⟩
    | brk => obtain ⟨_, _, _, z⟩ := hs; exact False.elim z
    | cont => obtain ⟨_, _, _, z⟩ := hs; exact False.elim z
/-! said -/
section
variable [C : Clx] {X : Cx}
/-- the reading of kind(e) within the suite -/
def tKind (T : Tab) (k : Nat) (cls : Value) (d : Option Addr) : TE := fun σ H Q => ∃ F st c as, SR H F st ∧ IsX c as cls d H ∧
  RO (T k [.exn c as] []) fun w _ => ∃ z, w = .str z ∧ ∀ H' F', Stp H F H' F' → SR H' F' st → Q (.str z) H'
theorem pe_kind {G : Sig} {Fs : Nat → Option Fn} (M : ModF G X.K X.mg) {k : Nat} {fn : Fn} {kx en : PySem.Str} {ka : Addr} (hF : Fs k = some fn) (hD : HotIn G.heat X.K X.mg kx fn ka) (hk : PySem.W.keepIn X.K (.ref ka) = true) {n i : Nat} (hdp : X.A.depth < recursionLimit) (hu : X.A.units + 3 + 65 < cLine)
    (hg : X.A.guards = some []) {a : Addr} {oe : Obj} {cls : Value} {d : Option Addr} {pn : List (Addr × Obj)} (hz : Zc cls d oe) (hf : ∃ vs, oe.data = .fields vs) (hgl : Gl X kx) (hnk : nmB kx = true) (hi : X.N[i]? = some en) (hv : Vis X.env.scope en) (hne : nmB en = true) {p6 p7 p8 : Pos} :
    PE (X.suite a ((a, oe) :: pn)) (.Call (.Name kx p6) [.Name en p7] [] p8) (fun σ H Q => (σ[i]? = some (some (.ref a)) ∨ σ.length ≤ i) ∧ tKind (call Fs (n + 1)) k cls d σ H Q) := by
  obtain ⟨pst, fd, N, ps, m, n2, hdef, hmx, S, hpl, hN, hb, hc⟩ := id hD.it
  refine ⟨fun pins s σ H Q I h => ?_⟩
  obtain ⟨hs, F, st, c, as, sr, ⟨i1, i2, i3⟩, q⟩ := h
  have hs : σ[i]? = some (some (.ref a)) := by
    rcases hs with h | h
    · exact h
    · have := I.len
      have h2 := (List.getElem?_eq_some_iff.mp hi).1
      have h3 : σ.length = X.N.length := this
      omega
  refine wpAny_Call_Name_kw (ld_glob (X := X.suite a ((a, oe) :: pn)) I hgl hmx ?_ (nm_of hnk).1)
  refine PySem.W.callWith_K (h₀ := X.base) I.ok.mod.kin hk (thn ((pa_cons (pe_var (X := X.suite a ((a, oe) :: pn)) (pos := p7) (i := i) hi hv (nm_of hne).1 (nm_of hne).2) pa_nil rfl).run p8 pins s σ H (fun vs H1 => vs = [V.ref a] ∧ H1 = H) I ⟨_, hs, rfl, rfl⟩) fun us s1 hh => ?_) rfl rfl
  obtain ⟨vs, H1, I1, r1, ev, eH⟩ := hh
  subst ev
  rw [eH] at I1
  refine ⟨I1.kIn, ?_⟩
  cases r1 with
  | cons ru rn =>
    rename_i u us'
    cases rn
    cases (show u = Value.ref a from ru)
    show wpAny _ _ (PySem.call (.ref ka) [.ref a]) _ _ _
    have pin := I1.pin (a, oe) (List.mem_append_left _ (List.mem_cons_self ..))
    have hp : L2H.PinOk X.stack H s1 (a, oe) := ⟨pin.1, pin.2.1, fun hm => by
      rcases List.mem_cons.mp (I1.stkSub _ hm) with z | z
      · exact pin.2.2.1 z
      · exact pin.2.2.2.1 z, pin.2.2.2.2⟩
    subst i2
    refine wpAny_call (codeAny_mono (run_hot M hF hD (Q := Q) hdp hu hg I1.env0 hp ⟨i1, hz.1, hz.2, hf⟩ i3 sr.tab (RO_mono q fun w _ k => ?_)) fun r s' hq => ?_)
    · obtain ⟨z, ez, k⟩ := k
      exact ⟨z, ez, fun H' ext tb => by
        have aS : Stp H F H' F := ⟨fun _ _ h => h, fun _ h => .inl h, fun x o h _ nt => ext x o h nt, fun _ => tb⟩
        refine k H' F aS ⟨sr.len, sr.nd, fun n a e => ?_, tb⟩
        obtain ⟨xs, ds, h1, h2, h3⟩ := sr.cell n a e
        exact ⟨xs, ds, ext _ _ h1 NF.lst.tbl, h2, h3.mono (aS.keeps sr)⟩⟩
    · cases r with
      | error e => exact False.elim hq
      | ok fl =>
        cases fl with
        | ret u => exact I1.after hq
        | next => exact False.elim hq
        | brk => exact False.elim hq
        | cont => exact False.elim hq
theorem said_gives {G : Sig} {Fs : Nat → Option Fn} (M : ModF G X.K X.mg) {k : Nat} {fn : Fn} {kx : PySem.Str} {ka : Addr} (hF : Fs k = some fn) (hD : HotIn G.heat X.K X.mg kx fn ka) (hk : PySem.W.keepIn X.K (.ref ka) = true) {n : Nat} (hdp : X.A.depth + 1 < recursionLimit) (hu : X.A.units + 6 + 65 < cLine)
    (hg : X.A.guards = some []) (h0 : 0 < Clx.n) {x q : PySem.Str} {g : Addr} {cdg : Value} {sg : Scope} {xa en ex : PySem.Str} (hex : (0, ex) ∈ G.exn) (hkn : sg.kind = .function) (hka : sg.names.lookup kx = some .globalImplicit) (hrp : sg.names.lookup ("repr" : PySem.Str) = some .globalImplicit) (hxe : sg.names.lookup ex = some .globalImplicit)
    (hen : sg.names.lookup en = some .local) (hnk : nmB kx = true) (hne : nmB en = true) (hnx : nmB ex = true) (hnd : xa ≠ en) {p0 p1 p2 p3 p4 p5 p6 p7 p8 p9 p10 p11 p12 p13 : Pos} {j : Nat} :
    GivesTo X [xa, en] x sg g cdg [.Try [.Return (some (.Call (.Name "repr" p0) [.Call (.Name xa p1) [] [] p2] [] p3)) p4] [.ExceptHandler (some (.Name ex p5)) (some en) [.Return (some (.BinOp (.Constant (.str "! ") j p6) .Add (.Call (.Name kx p7) [.Name en p8] [] p9) p10)) p11] p12] [] [] p13] xa q (TSaid (call Fs (n + 1)) k) := by
  intro f c' s H Q tl act hc h
  have Zn : ((cxOf C8.CX0 X.prog X.w X.K X.mg X.base [xa, en] x sg g cdg X.A X.stack s H C8.E0).nox).N.Nodup := by
    show [xa, en].Nodup
    simp [hnd]
  have un : (X.A.deeper (envOfC x sg s.heap.objs.size g cdg)).units = X.A.units + 3 := rfl
  have dp : (X.A.deeper (envOfC x sg s.heap.objs.size g cdg)).depth = X.A.depth + 1 := rfl
  refine ⟨_, pss_one (ps_try_as (X := (cxOf C8.CX0 X.prog X.w X.K X.mg X.base [xa, en] x sg g cdg X.A X.stack s H C8.E0).nox) (c := .ref (Clx.cls 0)) (i := 1) (Wout := fun _ _ _ _ => False)
      (tb := fun W D σ H => ∃ Ech : XK, (∀ cls d σ' H', Ech cls d H' → W cls d σ' H') ∧ σ[0]? = some (some (.ref f)) ∧ H c' = some (CodeO c' q) ∧
        tl Ech H (fun x H' => rBi .repr false [x] H' D.rt))
      (ts := fun a cls d D σ H => (σ[1]? = some (some (.ref a)) ∨ σ.length ≤ 1) ∧ ∃ F st c as, SR H F st ∧ IsX c as cls d H ∧ RO (call Fs (n + 1) k [.exn c as] []) fun w _ => ∃ z, w = .str z ∧ lenOk (2 + z.length) = true ∧ ∀ H' F', Stp H F H' F' → SR H' F' st → D.rt (.str ("! " ++ z)) H')
      rfl rfl Zn rfl hen ⟨hxe, (nm_of hnx).1, .inl (M.exm _ _ hex).2⟩ takes0 (fun W pn xe tk _ => ?_) (fun a oe cls d pn hz hf => ?_)), ?_⟩
  · refine ⟨fun pins s' σ H' D I h' => ?_⟩
    obtain ⟨Ech, hW, h1, h2, h3⟩ := h'
    have hp := act W pn xe Ech p1 p2 tk hW
    have hr := pe_callB (X := (cxOf C8.CX0 X.prog X.w X.K X.mg X.base [xa, en] x sg g cdg X.A X.stack s H C8.E0).tr pn xe) (p := p0) (pos := p3) (cr_reprB (b := false) hg (by show (X.A.deeper _).units + 65 < cLine; omega)) hrp (M.blt _ (by decide)) (by decide +kernel) (pa_cons hp pa_nil rfl) (he := rfl) (hpl := rfl)
    have hq := pss_one (ps_ret (pos := p4) hr)
    refine hq.run pins s' σ H' D I ⟨h1, h2, ?_⟩
    exact h3
  · refine pss_one (@PS.imp _ wc0 _ _ _ _ (ps_ret (pe_op op_add_str pe_str (pe_kind (X := (cxOf C8.CX0 X.prog X.w X.K X.mg X.base [xa, en] x sg g cdg X.A X.stack s H C8.E0).nox) (n := n) (i := 1) M hF hD hk (by show (X.A.deeper _).depth < _; omega) (by show (X.A.deeper _).units + 3 + 65 < cLine; omega) hg hz hf hka hnk rfl (.inl hen) hne))) fun D σ H' q => ?_)
    obtain ⟨hs, F, st, c, as, sr, ix, q⟩ := q
    refine ⟨hs, F, st, c, as, sr, ix, RO_mono q fun w _ k => ?_⟩
    obtain ⟨z, ez, hl, k⟩ := k
    refine ⟨z, ez, fun H'' F'' a' s' => ⟨_, _, rfl, rfl, ?_, k H'' F'' a' s'⟩⟩
    exact sz_ok hl
  · refine ⟨fun cls d H' => ∃ F st c as, SR H' F st ∧ IsX c as cls d H' ∧ RO (call Fs (n + 1) k [.exn c as] []) fun w _ => ∃ z, w = .str z ∧ lenOk (2 + z.length) = true ∧ ∀ H'' F'', Stp H' F H'' F'' → SR H'' F'' st → Q (.str ("! " ++ z)) H'', fun cls d σ' H' hw => ?_, rfl, hc, h⟩
    obtain ⟨F, st, c, as, sr, ix, q⟩ := hw
    refine ⟨true, ?_, fun _ a na => ⟨?_, F, st, c, as, sr, ix, q⟩, fun z => nomatch z⟩
    · obtain ⟨i1, i2, i3⟩ := ix
      subst i2
      exact PySem.W.exm_ref (M.exo 0 h0).is.hs (M.exo 0 h0).is.hd (M.exo 0 h0).ty (M.exu c i1)
    · by_cases hl : 1 < σ'.length
      · exact .inl (List.getElem?_set_self hl)
      · exact .inr (by rw [List.length_set]; omega)
end
end LB
/-! LB18: defs. -/
namespace LB
open PySem PySem.Spec PyProof.Rows L2 LamX
variable [Clx]
/-- the module -/
structure ModIn (G : Sig) (Fs : Nat → Option Fn) (K : PySem.W.Frag) (mg : PySem.Str → Option Value) : Prop extends ModF G K mg where
  hot : G.hot = false
  exs : Clx.exs = []
  fn : ∀ f x, G.fn f = some x → ∃ fn a, Fs f = some fn ∧ DefIn G K mg f fn a
abbrev Ret (H : Hp) (F0 : List Addr) (Q : VK) : D → Store → Prop := fun d st' => ∀ x H' F', Stp H F0 H' F' → SR H' F' st' → Rp H' F' d x → Q x H'
abbrev Exq (H : Hp) (F0 : List Addr) (E : XK) : Nat → List D → Store → Prop := fun c as st' => ∀ cls d H' F', Stp H F0 H' F' → SR H' F' st' → IsX c as cls d H' → E cls d H'
/-- what is known of the lambdas that a def makes -/
def LamM (G : Sig) (Fs : Nat → Option Fn) (P : Program) (w : World) (K : PySem.W.Frag) (mg : PySem.Str → Option Value) (base : Heap) : Prop :=
  ∀ (k f : Nat) (a : Addr) (fn : Fn) (x : PySem.Str) (sc : Scope) (N : List PySem.Str) (cdv : Value), Fs f = some fn → G.fn f = some x → mg x = some (.ref a) →
    (∃ (pg : Arguments) (bg : List Stmt) (dV kV doc pm ct oc : Value) (an od : Option Addr) (osl : Array (Option Value)), K.lookup a = some ⟨oc, od, .func (PySem.W.fnOf x x pg bg sc dV kV doc pm an cdv ct), osl⟩) →
    ∀ (A : Around) (outer : List PySem.Env) (s : Shared) (H : Hp) (E : XK), Room k (A.deeper (envOfC x sc s.heap.objs.size a cdv)) → A.guards = some [] →
    ∀ n L, (n, L) ∈ (G.at_ f).lam → LamF (G.at_ f) (call Fs k) (cxOf (L2.CX P w) P w K mg base N x sc a cdv A outer s H E) n L
section
variable {G : Sig} {Fs : Nat → Option Fn} {P : Program} {w : World} {K : PySem.W.Frag} {mg : PySem.Str → Option Value} {base : Heap}
/-- the arguments of a call of f come to the values us of its parameters -/
def ArgsFor (G : Sig) (f : Nat) (args : Args) (us : List Value) : Prop := args = ⟨us, []⟩ ∨ ∃ n ks inv us0 ws0, (f, n, ks, inv) ∈ G.kw ∧ args = ⟨us0, ks.zip ws0⟩ ∧ us0.length = n ∧ ws0.length = ks.length ∧ inv.map (fun i => (us0 ++ ws0)[i]?) = us.map some
theorem some_inj {α : Type} : ∀ {l m : List α}, l.map some = m.map some → l = m
  | [], [], _ => rfl
  | [], _ :: _, h => by cases h
  | _ :: _, [], h => by cases h
  | a :: l, b :: m, h => by
    rw [List.map_cons, List.map_cons] at h
    have h1 := List.cons.inj h
    rw [Option.some.inj h1.1, some_inj h1.2]
theorem Vals.get {vs : List V} {us : List Value} (r : Vals vs us) : ∀ {i : Nat} {x : V}, vs[i]? = some x → ∃ u, us[i]? = some u ∧ RelV x u := by
  induction r with
  | nil => intro i x h; simp at h
  | cons h t ih =>
    intro i x e
    cases i with
    | zero => simp at e; subst e; exact ⟨_, rfl, h⟩
    | succ i => simpa using ih (by simpa using e)
theorem pick_vals {H : Hp} {F : List Addr} {ds : List D} {vs : List V} {us : List Value} (rs : Rps H F ds vs) (r : Vals vs us) : ∀ {inv : List Nat} {ys : List D}, pickAll inv ds = some ys → ∃ (xs : List V) (zs : List Value), inv.map (fun i => us[i]?) = zs.map some ∧ Vals xs zs ∧ Rps H F ys xs
  | [], _, h => by cases h; exact ⟨[], [], rfl, .nil, .nil⟩
  | i :: inv, ys, h => by
    have h : ((ds[i]?).bind fun d => (pickAll inv ds).map (d :: ·)) = some ys := h
    cases e : ds[i]? with
    | none => rw [e] at h; cases h
    | some d =>
      rw [e] at h
      have h : (pickAll inv ds).map (d :: ·) = some ys := h
      cases e2 : pickAll inv ds with
      | none => rw [e2] at h; cases h
      | some ys2 =>
        rw [e2] at h
        cases h
        obtain ⟨xs, zs, h1, h2, h3⟩ := pick_vals rs r e2
        obtain ⟨x, hx, rx⟩ := rs.get e
        obtain ⟨u, hu, ru⟩ := Vals.get r hx
        exact ⟨x :: xs, u :: zs, by rw [List.map_cons, h1, hu]; rfl, .cons ru h2, .cons rx h3⟩
theorem at_fn (G : Sig) (f : Nat) : (G.at_ f).fn = G.fn ∧ (G.at_ f).kw = G.kw ∧ (G.at_ f).con = G.con ∧ (G.at_ f).exn = G.exn ∧ (G.at_ f).raz = G.raz ∧ (G.at_ f).hot = G.hot ∧ (G.at_ f).rp = G.rp ∧ (G.at_ f).ini = G.ini := by
  unfold Sig.at_
  split <;> exact ⟨rfl, rfl, rfl, rfl, rfl, rfl, rfl, rfl⟩
/-- THE CALLS -/
theorem run_at (M : ModIn G Fs K mg) (LM : LamM G Fs P w K mg base) (hgl : G.rp = false → ∀ f, (G.at_ f).lam = []) (hP : ∀ P', G.prg = some P' → P' = P) : ∀ (k f : Nat) (a : Addr) (fn : Fn), Fs f = some fn → DefIn G K mg f fn a → ∀ (A : Around) (outer : List PySem.Env) (s : Shared) (H : Hp) (args : Args) (us : List Value) (vs : List V) (Q : VK) (E : XK) (F0 : List Addr) (st : Store) (ds : List D), ArgsFor G f args us →
    Room k A → (G.rp = true → A.guards = some []) → Env0 P w K mg base A outer s H → Vals vs us → SR H F0 st → Rps H F0 ds vs → RX (call Fs k f ds st) (Ret H F0 Q) (Exq H F0 E) → codeAny (model P w) A (.call (.ref a) args) (CR (L2.CX P w) outer P w H s Q E) s := by
  intro k
  induction k with
  | zero => intro f a fn hF hD A outer s H args us vs Q E F0 st ds hargs hr hg e0 r sr rs q; exact q.elim
  | succ k ih =>
    intro f a fn hF hD A outer s H args us vs Q E F0 st ds hargs hr hg e0 r sr rs q
    obtain ⟨x, pst, fd, N, ps, m, n, hx, hdef, hmx, S, hp, hN, hb, hkw, hc⟩ := hD.it
    have q : RX (match Fs f with | some f => if ds.length == f.ps then (exs (call Fs k) f.body (enter f ds) st).fin else .bad | none => .bad) (Ret H F0 Q) (Exq H F0 E) := q
    rw [hF] at q
    have q : RX (if (ds.length == fn.ps) = true then (exs (call Fs k) fn.body (enter fn ds) st).fin else .bad) (Ret H F0 Q) (Exq H F0 E) := q
    obtain ⟨hlen, q⟩ : (ds.length == fn.ps) = true ∧ RX ((exs (call Fs k) fn.body (enter fn ds) st).fin) (Ret H F0 Q) (Exq H F0 E) := by
      by_cases z : (ds.length == fn.ps) = true
      · rw [if_pos z] at q; exact ⟨z, q⟩
      · rw [if_neg z] at q; exact q.elim
    have hlen : ds.length = fn.ps := by simpa using hlen
    have hl : vs.length = ps.length := by rw [← rs.length, hlen, hp]
    have KX : K.In s.heap := e0.mod.kin.keeps fun b o e => (e0.bs b o e).1
    have lim : s.heap.NoLimit := e0.mod.nolimit.keeps fun b o e => (e0.bs b o e).1
    have hbind : BindsTo s fd args (ps.zip us) := by
      rcases hargs with rfl | ⟨n, ks, inv, us0, ws0, hk, rfl, l1, l2, he⟩
      · have hbind := hb s us KX (by rw [List.append_nil, ← r.length]; exact hl)
        rw [List.append_nil] at hbind
        exact hbind
      · obtain ⟨zs, h1, h2⟩ := hkw n ks inv hk s us0 ws0 l1 l2 KX
        rw [he] at h1
        rw [some_inj h1]
        exact h2
    obtain ⟨oc, od, kV, doc, pm, an, cdv, ct, osl, rfl, lk, hcd⟩ := hdef.ex
    have hkind : ∀ y ∈ ps.zip us, (L2.defScope pst).names.lookup y.1 = some .local ∨ ((L2.defScope pst).names.lookup y.1 = some .cell ∧ ((cellsFrom (s.heap.objs.size + 1) (L2.defScope pst).names []).lookup y.1).isSome = true) := by
      rintro ⟨z, u⟩ hy
      rcases S.par z (List.of_mem_zip hy).1 with h | h
      · exact Or.inl h
      · exact Or.inr ⟨h, PySem.W.cellsFrom_some _ _ _ (Or.inl h)⟩
    refine codeAny_call_function hr.depth (KX _ _ lk) rfl S.co S.gen rfl (PySem.W.codeRec_of KX hcd) (hbind _ _ _ _ ?_)
    refine wpAny_newFunctionEnv_cells S.kind hkind fun env he s1 ic => ?_
    subst he
    refine ⟨lim.keeps ic.toInCall.keep, codeAny_func ?_⟩
    have hr' : Room k (A.deeper (envOfC x (L2.defScope pst) s.heap.objs.size a cdv)) := hr.deeper _
    obtain ⟨g1, g2, g3, g4, g5, g6, g7, g8⟩ := at_fn G f
    let wc : Wc := ⟨fun cls d _ H => E cls d H⟩
    have gb : Gb (G.at_ f) (call Fs k) (cxOf (L2.CX P w) P w K mg base N x (L2.defScope pst) a cdv A outer s H E) := by
      refine ⟨fun _ => rfl, S.nd, ?_, fun z => ?_, M.blt, by rw [g3]; exact M.con, fun f' x' h' => ?_, fun f' x' h' a' ha' => ?_, M.exo, M.exu, M.exk, by rw [g4]; exact M.exm, M.mve, .inl M.exs, by rw [g5]; exact M.rz, fun c hc => ?_, fun _ => ?_⟩
      · have := hr'.un
        show (A.deeper _).units + 65 < cLine
        omega
      · show (A.deeper _).guards = some []
        rw [g7] at z
        exact hg z
      rotate_left 2
      · rw [g8] at hc
        obtain ⟨P', e1, e2⟩ := M.ini c hc
        rw [hP P' e1] at e2
        exact e2
      · have := hr'.dp
        show (A.deeper _).depth + 1 < recursionLimit
        omega
      all_goals
        rw [g1] at h'
        obtain ⟨fn', a2, hF', hD'⟩ := M.fn f' x' h'
        obtain ⟨x2, pst2, fd2, N2, ps2, m2, n2, hx2, hdef2, hmx2, _⟩ := hD'.it
        cases h'.symm.trans hx2
        have both : ∀ (Y : Cx), Like (cxOf (L2.CX P w) P w K mg base N x (L2.defScope pst) a cdv A outer s H E) Y → ∀ (W : WX) (pins : List (Addr × Obj)) (s2 : Shared) (σ2 : L2.St) (H2 : Hp) (args2 : Args) (us2 : List Value) (vs2 : List V) (Q2 : VK) (F2 : List Addr) (st2 : Store) (ds2 : List D), Takes Y W → ArgsFor G f' args2 us2 → L2.Inv Y pins σ2 H2 s2 → Vals vs2 us2 → SR H2 F2 st2 → Rps H2 F2 ds2 vs2 →
            RX (call Fs k f' ds2 st2) (fun d st' => ∀ x H' F', Stp H2 F2 H' F' → SR H' F' st' → Rp H' F' d x → Q2 x H') (fun c as st' => ∀ cls d H' F', Stp H2 F2 H' F' → SR H' F' st' → IsX c as cls d H' → W cls d σ2 H') →
            codeAny (model Y.prog Y.w) Y.A (.call (.ref a2) args2) (fun r s' => match r with | .ok (.ret u) => EP Y pins σ2 Q2 u s' | .error e => Y.xe e s' | _ => False) s2 := by
          intro Y L W pins s2 σ2 H2 args2 us2 vs2 Q2 F2 st2 ds2 tk2 ha2 I2 r2 sr2 rs2 q2
          have e2 := I2.env0
          obtain ⟨l1, l2, l3, l4, l5, l6⟩ := L
          have l1 : Y.prog = P := l1
          have l2 : Y.w = w := l2
          have l3 : Y.K = K := l3
          have l4 : Y.mg = mg := l4
          have l5 : Y.base = base := l5
          have l6 : Y.A = A.deeper (envOfC x (L2.defScope pst) s.heap.objs.size a cdv) := l6
          have call2 := ih f' a2 fn' hF' hD' Y.A Y.stack s2 H2 args2 us2 vs2 Q2 (fun cls d H' => W cls d σ2 H') F2 st2 ds2 ha2 (by rw [l6]; exact hr') (by rw [l6]; exact hg) (by rw [← l1, ← l2, ← l3, ← l4, ← l5]; exact e2) r2 sr2 rs2 q2
          refine codeAny_mono (by rw [l1, l2]; exact call2) fun res s3 hq => ?_
          cases res with
          | error e => exact tk2 e s3 (XE.of_call I2 (E := fun cls d H' => W cls d σ2 H') (fun _ _ _ h => h) (by rw [l1, l2]; exact hq))
          | ok fl =>
            cases fl with
            | ret u =>
              have hq : CE Y.stack Y.prog Y.w H2 s2 Q2 u s3 := by rw [l1, l2]; exact hq
              exact I2.after hq
            | next => exact False.elim hq
            | brk => exact False.elim hq
            | cont => exact False.elim hq
        have fin : ∀ {Y : Cx} {pins : List (Addr × Obj)} {σ2 : L2.St} {Q2 : VK} {us3 : List Value} {kw3 : List (PySem.Str × Value)} {s2 : Shared}, codeAny (model Y.prog Y.w) Y.A (.call (.ref a2) ⟨us3, kw3⟩) (fun r s' => match r with | .ok (.ret u) => EP Y pins σ2 Q2 u s' | .error e => Y.xe e s' | _ => False) s2 → wpAny (model Y.prog Y.w) Y.A (PySem.call (.ref a2) us3 kw3) (EP Y pins σ2 Q2) Y.xe s2 := fun {Y pins σ2 Q2 us3 kw3 s2} h => by
          refine wpAny_call (codeAny_mono h fun res s3 hq => ?_)
          cases res with
          | error e => exact hq
          | ok fl =>
            cases fl with
            | ret u => exact hq
            | next => exact False.elim hq
            | brk => exact False.elim hq
            | cont => exact False.elim hq
      · refine ⟨a2, hmx2, hdef2.kp, fun Y L pins s2 σ2 H2 us2 vs2 Q2 F2 st2 ds2 I2 r2 sr2 rs2 q2 => fin (both Y L _ pins s2 σ2 H2 _ us2 vs2 Q2 F2 st2 ds2 takes0 (.inl rfl) I2 r2 sr2 rs2 (RX_mono (RO_RX q2) (fun _ _ h => h) fun _ _ _ h => h.elim)), fun n3 ks inv hk Y L pins s2 σ2 H2 us3 ws3 vs3 zs3 Q2 F2 st2 ds3 es3 ys I2 r3 r4 sr2 rd re l1 l2 hy q2 => ?_⟩
        rw [g2] at hk
        obtain ⟨xs, zs, h1, h2, h3⟩ := pick_vals (rd.app re) (r3.append r4) hy
        exact fin (both Y L _ pins s2 σ2 H2 _ zs xs Q2 F2 st2 ys takes0 (.inr ⟨n3, ks, inv, us3, ws3, hk, rfl, l1, l2, h1⟩) I2 h2 sr2 h3 (RX_mono (RO_RX q2) (fun _ _ h => h) fun _ _ _ h => h.elim))
      · cases (show some (Value.ref a2) = some (Value.ref a') from hmx2.symm.trans ha')
        exact fun Y L W pins s2 σ2 H2 us2 vs2 Q2 F2 st2 ds2 tk2 I2 r2 sr2 rs2 q2 => fin (both Y L W pins s2 σ2 H2 _ us2 vs2 Q2 F2 st2 ds2 tk2 (.inl rfl) I2 r2 sr2 rs2 q2)
    have g : @Gs _ wc (G.at_ f) (call Fs k) (cxOf (L2.CX P w) P w K mg base N x (L2.defScope pst) a cdv A outer s H E) := by
      refine @Gs.mk _ wc _ _ _ ⟨gb, fun n L hL => ?_⟩ (fun _ => rfl) (passes_of rfl) (takes_of rfl rfl rfl rfl)
      have hrp : A.guards = some [] := by
        cases z : G.rp with
        | true => exact hg z
        | false => rw [hgl z] at hL; cases hL
      exact LM k f a fn x (L2.defScope pst) N cdv hF hx hmx ⟨_, _, _, _, _, _, _, _, _, _, _, lk⟩ A outer s H E hr' hrp n L hL
    have body : PSs (cxOf (L2.CX P w) P w K mg base N x (L2.defScope pst) a cdv A outer s H E) (L2.defBody pst) (@tSs _ wc (call Fs k) fn.body) := @soundSs _ wc _ _ _ _ _ g S.kind _ _ hc
    have I : L2.Inv (cxOf (L2.CX P w) P w K mg base N x (L2.defScope pst) a cdv A outer s H E) [] (L2.start N vs) H s1 := inv_start S hr.hd e0 hl r ic
    have q : RS (exs (call Fs k) fn.body (enter fn ds) st) (fun _ st' => Ret H F0 Q .non st') ⟨Ret H F0 Q, Exq H F0 E⟩ := by
      revert q
      cases exs (call Fs k) fn.body (enter fn ds) st <;> exact fun q => q
    refine wpAny_mono (body.run [] s1 (L2.start N vs) H { nx := fun _ H' => Q .non H', rt := Q } I ⟨H, F0, enter fn ds, F0, st, sr, start_ER rs hN, Stp.refl, @RS_mono _ wc _ _ _ _ _ q (fun e st' z σ' H' F' s' r' a' k' => z .non H' F' a' s' .non) (fun d st' z y H' F' s' a' v' => z y H' F' a' s' v') fun c as st' z cls d σ' H' F' s' a' ix => z cls d H' F' a' s' ix⟩) (fun fl s' hs => ?_) fun e s' hs => hs
    cases fl with
    | ret u =>
      obtain ⟨v, σ', H', J, rv, z⟩ := hs
      exact ⟨v, H', J.os, J.bare, J.base, J.hok, rv, z⟩
    | next =>
      obtain ⟨σ', H', J, z⟩ := hs
      exact ⟨.non, H', J.os, J.bare, J.base, J.hok, rfl, z⟩
    | brk => obtain ⟨_, _, _, z⟩ := hs; exact False.elim z
    | cont => obtain ⟨_, _, _, z⟩ := hs; exact False.elim z
end
end LB
/-! LB18b: what is known of the lambdas. -/
namespace LB
open PySem PySem.Spec PyProof.Rows L2 LamX
def vars (n : Nat) : List E := (List.range n).map .var
def saidFn (n s2 k : Nat) : Fn := ⟨n, n, [.tryx s2 (vars n) k]⟩
def lamFn (L : Lam) : Fn := ⟨L.is.length, L.n, [.plc L.is, .retx L.w L.f L.es]⟩
section
variable {T : Tab} {st : Store}
theorem ev_vars (env : Env) : ∀ (ds : List D) (i : Nat), (∀ (j : Nat) (d : D), ds[j]? = some d → env[i + j]? = some (.v d)) → evL T ((List.range' i ds.length).map .var) env st = .ok ds st
  | [], i, _ => rfl
  | d :: ds, i, h => by
    have h0 := h 0 d rfl
    have ih := ev_vars env ds (i + 1) fun j e he => by
      have := h (j + 1) e (by simpa using he)
      rw [show i + 1 + j = i + (j + 1) by omega]
      exact this
    rw [List.length_cons, List.range'_succ, List.map_cons]
    show (evE T (.var i) .v env st).bind (fun x st1 => (evL T ((List.range' (i + 1) ds.length).map .var) env st1).bind fun r st2 => .ok (x :: r) st2) = _
    have e : evE T (.var i) .v env st = .ok d st := by
      show (Res.opt (slot env i .v) st).bind (post .v) = _
      have : slot env i .v = some d := by
        show (match env[i]? with | some (.v d) => some d | _ => none) = some d
        rw [Nat.add_zero] at h0
        rw [h0]
      rw [this]; rfl
    rw [e]
    show (evL T ((List.range' (i + 1) ds.length).map .var) env st).bind (fun r st2 => .ok (d :: r) st2) = _
    rw [ih]; rfl
theorem ev_vars0 (ds : List D) (r : Env) : evL T (vars ds.length) (ds.map .v ++ r) st = .ok ds st := by
  unfold vars
  rw [List.range_eq_range']
  refine ev_vars _ ds 0 fun j d h => ?_
  rw [Nat.zero_add, List.getElem?_append_left (by rw [List.length_map]; exact (List.getElem?_eq_some_iff.mp h).1), List.getElem?_map, h]
  rfl
theorem plc_app {n : Nat} {r : Env} : ∀ {is : List Nat} {ds : List D}, ds.length = is.length → plcE n is (ds.map .v ++ r) = plcE n is (ds.map .v)
  | [], [], _ => by cases r <;> rfl
  | [], _ :: _, h => by cases h
  | _ :: _, [], h => by cases h
  | i :: is, d :: ds, h => by
    show (plcE n is (ds.map .v ++ r)).set i (.v d) = (plcE n is (ds.map .v)).set i (.v d)
    rw [plc_app (by simpa using h)]
end
section
variable {Fs : Nat → Option Fn}
theorem call_succ {k f : Nat} {fn : Fn} {ds : List D} {st : Store} (h : Fs f = some fn) : call Fs (k + 1) f ds st = if ds.length == fn.ps then (exs (call Fs k) fn.body (enter fn ds) st).fin else .bad := by
  show (match Fs f with | some f => if ds.length == f.ps then (exs (call Fs k) f.body (enter f ds) st).fin else .bad | none => .bad) = _
  rw [h]
theorem enter_said (n s2 k : Nat) (ds : List D) (h : ds.length = n) : enter (saidFn n s2 k) ds = ds.map .v ++ [] := by
  unfold enter saidFn
  rw [h, Nat.sub_self]; rfl
theorem said_one {s s2 kd n k : Nat} (hs : Fs s = some (saidFn n s2 kd)) : ∀ ds st, call Fs 1 s ds st = .bad := fun ds st => by
  rw [call_succ hs]
  by_cases h : (ds.length == (saidFn n s2 kd).ps) = true
  · rw [if_pos h]
    have h : ds.length = n := by simpa [saidFn] using h
    show (match ex (call Fs 0) (.tryx s2 (vars n) kd) (enter (saidFn n s2 kd) ds) st with | .nx env1 st1 => exs (call Fs 0) [] env1 st1 | r => r).fin = .bad
    have : ex (call Fs 0) (.tryx s2 (vars n) kd) (enter (saidFn n s2 kd) ds) st = .bad := by
      show (evL (call Fs 0) (vars n) (enter (saidFn n s2 kd) ds) st).toO _ = _
      rw [enter_said n s2 kd ds h, ← h, ev_vars0]
      rfl
    rw [this]; rfl
  · rw [if_neg h]
theorem said_r1 {s s2 kd n k : Nat} (hs : Fs s = some (saidFn n s2 kd)) (ds : List D) (st : Store) (Q : D → Store → Prop) (q : RO (call Fs (k + 2) s ds st) Q) :
    RX (call Fs (k + 1) s2 ds st) (fun d st' => ∃ z, reprD d = some z ∧ Q z st') (fun c as st' => RO (call Fs (k + 1) kd [.exn c as] []) fun w _ => ∃ z, w = .str z ∧ lenOk (2 + z.length) = true ∧ Q (.str ("! " ++ z)) st') := by
  rw [call_succ hs] at q
  by_cases h : (ds.length == (saidFn n s2 kd).ps) = true
  · rw [if_pos h] at q
    have h : ds.length = n := by simpa [saidFn] using h
    have q : RO (match ex (call Fs (k + 1)) (.tryx s2 (vars n) kd) (enter (saidFn n s2 kd) ds) st with | .nx env1 st1 => exs (call Fs (k + 1)) [] env1 st1 | r => r).fin Q := q
    have e : ex (call Fs (k + 1)) (.tryx s2 (vars n) kd) (enter (saidFn n s2 kd) ds) st = (match call Fs (k + 1) s2 ds st with
      | .ok d st2 => (Res.opt (reprD d) st2).toOut (ds.map Slot.v ++ []) fun z st3 => .rt z st3
      | .exc c a st2 => (call Fs (k + 1) kd [.exn c a] []).toOut (ds.map Slot.v ++ []) fun w _ => (match w with | .str z => if lenOk (2 + z.length) then .rt (.str ("! " ++ z)) st2 else .bad | _ => .bad)
      | .bad => .bad) := by
      show (evL (call Fs (k + 1)) (vars n) (enter (saidFn n s2 kd) ds) st).toO _ = _
      rw [enter_said n s2 kd ds h, ← h, ev_vars0]
      rfl
    rw [e] at q
    cases er : call Fs (k + 1) s2 ds st with
    | ok d st2 =>
      rw [er] at q
      have q : RO (match (Res.opt (reprD d) st2).toOut (ds.map Slot.v ++ []) fun z st3 => Out.rt z st3 with | .nx env1 st1 => exs (call Fs (k + 1)) [] env1 st1 | r => r).fin Q := q
      cases ez : reprD d with
      | none => rw [ez] at q; exact q.elim
      | some z => rw [ez] at q; exact ⟨z, ez, q⟩
    | exc c a st2 =>
      rw [er] at q
      have q : RO (match (call Fs (k + 1) kd [.exn c a] []).toOut (ds.map Slot.v ++ []) fun w _ => (match w with | .str z => if lenOk (2 + z.length) then .rt (.str ("! " ++ z)) st2 else .bad | _ => .bad) with | .nx env1 st1 => exs (call Fs (k + 1)) [] env1 st1 | r => r).fin Q := q
      show RO (call Fs (k + 1) kd [.exn c a] []) _
      cases ew : call Fs (k + 1) kd [.exn c a] [] with
      | ok w st3 =>
        rw [ew] at q
        have q : RO (match (match w with | .str z => if lenOk (2 + z.length) then Out.rt (.str ("! " ++ z)) st2 else .bad | _ => .bad) with | .nx env1 st1 => exs (call Fs (k + 1)) [] env1 st1 | r => r).fin Q := q
        clear ew
        rename_i qq
        clear qq
        cases w <;> first | exact q.elim | skip
        rename_i z
        have q : RO (match (if lenOk (2 + z.length) then Out.rt (.str ("! " ++ z)) st2 else .bad) with | .nx env1 st1 => exs (call Fs (k + 1)) [] env1 st1 | r => r).fin Q := q
        by_cases hl : lenOk (2 + z.length) = true
        · rw [if_pos hl] at q
          exact ⟨z, rfl, hl, q⟩
        · rw [if_neg hl] at q
          exact q.elim
      | exc => rw [ew] at q; exact q.elim
      | bad => rw [ew] at q; exact q.elim
    | bad => rw [er] at q; exact q.elim
  · rw [if_neg h] at q
    exact q.elim
theorem lam_r2 {L : Lam} {k : Nat} (hs : Fs L.s2 = some (lamFn L)) (hn : L.is.length ≤ L.n) (ds : List D) (st : Store) (Q : D → Store → Prop) (Z : Nat → List D → Store → Prop) (hl : ds.length = L.is.length) (q : RX (call Fs (k + 1) L.s2 ds st) Q Z) :
    RX (lamB (call Fs k) L (plcE L.n L.is (ds.map .v)) st) Q Z := by
  rw [call_succ hs, if_pos (by simp [lamFn, hl])] at q
  have el : (enter (lamFn L) ds).length = L.n := by
    unfold enter lamFn
    rw [List.length_append, List.length_map, List.length_replicate, hl]
    show L.is.length + (L.n - L.is.length) = L.n
    omega
  have ee : plcE (enter (lamFn L) ds).length L.is (enter (lamFn L) ds) = plcE L.n L.is (ds.map .v) := by
    rw [el]
    unfold enter
    exact plc_app hl
  have q : RX (exs (call Fs k) [.retx L.w L.f L.es] (plcE (enter (lamFn L) ds).length L.is (enter (lamFn L) ds)) st).fin Q Z := q
  rw [ee] at q
  generalize plcE L.n L.is (ds.map .v) = env at q ⊢
  unfold lamB
  have q : RX (match (evL (call Fs k) L.es env st).toOut env fun xs st1 => (call Fs k L.f xs st1).toOutX env fun d st2 => (match wrapD L.w d with | some z => .rt z st2 | none => .bad) with | .nx env1 st1 => exs (call Fs k) [] env1 st1 | r => r).fin Q Z := q
  cases e1 : evL (call Fs k) L.es env st with
  | ok xs st1 =>
    rw [e1] at q
    have q : RX (match (call Fs k L.f xs st1).toOutX env fun d st2 => (match wrapD L.w d with | some z => .rt z st2 | none => .bad) with | .nx env1 st1 => exs (call Fs k) [] env1 st1 | r => r).fin Q Z := q
    show RX ((call Fs k L.f xs st1).bind fun d st2 => Res.opt (wrapD L.w d) st2) Q Z
    cases e2 : call Fs k L.f xs st1 with
    | ok d st2 =>
      rw [e2] at q
      have q : RX (match (match wrapD L.w d with | some z => Out.rt z st2 | none => .bad) with | .nx env1 st1 => exs (call Fs k) [] env1 st1 | r => r).fin Q Z := q
      show RX (Res.opt (wrapD L.w d) st2) Q Z
      cases e3 : wrapD L.w d with
      | none => rw [e3] at q; exact q.elim
      | some z => rw [e3] at q; exact q
    | exc c as st2 => rw [e2] at q; exact q
    | bad => rw [e2] at q; exact q.elim
  | exc => rw [e1] at q; exact q.elim
  | bad => rw [e1] at q; exact q.elim
end
section
variable [Clx] {G : Sig} {Fs : Nat → Option Fn} {P : Program} {w : World} {K : PySem.W.Frag} {mg : PySem.Str → Option Value} {base : Heap}
/-- the tables of the defs that make lambdas -/
structure TabF (G : Sig) (K : PySem.W.Frag) (mg : PySem.Str → Option Value) (base : Heap) : Prop where
  tab : ∀ (f : Nat) (x : PySem.Str) (a : Addr) (sc : Scope) (cdv : Value), (G.lf.any fun n => Nat.beq n f) = true → G.fn f = some x → mg x = some (.ref a) →
    (∃ (pg : Arguments) (bg : List Stmt) (dV kV doc pm ct oc : Value) (an od : Option Addr) (osl : Array (Option Value)), K.lookup a = some ⟨oc, od, .func (PySem.W.fnOf x x pg bg sc dV kV doc pm an cdv ct), osl⟩) →
    ∃ c P, cdv = .ref c ∧ TabB base mg c P ∧ (P, (x ++ ".<locals>." : PySem.Str) ++ "<lambda>") ∈ Clx.tabs ∧ ∀ p ∈ Clx.tabs, p.1 = P → p.2 = (x ++ ".<locals>." : PySem.Str) ++ "<lambda>"
/-- the def that calls what it got, and the one that names what is raised -/
structure SaidIn (G : Sig) (Fs : Nat → Option Fn) (K : PySem.W.Frag) (mg : PySem.Str → Option Value) (s : Nat) (L : Lam) : Prop where
  it : ∃ (st : Stmt) (fd : FuncData) (g ka : Addr) (kx xa en ex : PySem.Str) (fk : Fn) (j : Nat) (p0 p1 p2 p3 p4 p5 p6 p7 p8 p9 p10 p11 p12 p13 : Pos),
    (L2.Fun K L.x L.x st g fd ∧ mg L.x = some (.ref g) ∧ FnScope [xa, en] [xa] (L2.defScope st) ∧ Binds K fd [xa] [] ∧
      L2.defBody st = [.Try [.Return (some (.Call (.Name "repr" p0) [.Call (.Name xa p1) [] [] p2] [] p3)) p4] [.ExceptHandler (some (.Name ex p5)) (some en) [.Return (some (.BinOp (.Constant (.str "! ") j p6) .Add (.Call (.Name kx p7) [.Name en p8] [] p9) p10)) p11] p12] [] [] p13]) ∧
    ((0, ex) ∈ G.exn ∧ (L2.defScope st).names.lookup kx = some .globalImplicit ∧ (L2.defScope st).names.lookup ("repr" : PySem.Str) = some .globalImplicit ∧ (L2.defScope st).names.lookup ex = some .globalImplicit ∧ (L2.defScope st).names.lookup en = some .local ∧
      nmB kx = true ∧ nmB en = true ∧ nmB ex = true ∧ nmB xa = true ∧ xa ≠ en ∧ locB (L2.defScope st) xa = true) ∧
    (HotIn G.heat K mg kx fk ka ∧ PySem.W.keepIn K (.ref ka) = true ∧ Fs L.k = some fk) ∧
    Fs s = some (saidFn L.is.length L.s2 L.k) ∧ Fs L.s2 = some (lamFn L) ∧ L.is.length ≤ L.n ∧ (G.pf.any fun n => Nat.beq n L.f) = true
theorem loc_vis {sc : Scope} {x : PySem.Str} (h : locB sc x = true) : Vis sc x := by
  unfold locB at h
  split at h
  · rename_i e; exact .inl e
  · rename_i e; exact .inr (.inl e)
  · cases h
theorem lamM_of (hP : ∀ P', G.prg = some P' → P' = P) (M : ModIn G Fs K mg) (M0 : ModIn G.prog Fs K mg) (TF : TabF G K mg base) (SI : ∀ s L, (s, L) ∈ G.lam → SaidIn G Fs K mg s L) : LamM G Fs P w K mg base := by
  have LM0 : LamM G.prog Fs P w K mg base := fun k f a fn x sc N cdv _ _ _ _ A outer s H E _ _ n L h => by
    exfalso
    unfold Sig.at_ at h
    split at h <;> cases h
  have bare0 : ∀ f, (G.prog.at_ f).lam = [] := fun f => by
    unfold Sig.at_
    split <;> rfl
  intro k f a fn x sc N cdv hF hx hmx hlk A outer s H E hr hg n L hL
  have ea : G.at_ f = G ∧ (G.lf.any fun n => Nat.beq n f) = true := by
    unfold Sig.at_ at hL ⊢
    split at hL
    · rename_i z; rw [if_pos z]; exact ⟨rfl, z⟩
    · cases hL
  obtain ⟨ea, hlf⟩ := ea
  rw [ea] at hL ⊢
  obtain ⟨st, fd, g, ka, kx, xa, en, ex, fk, j, p0, p1, p2, p3, p4, p5, p6, p7, p8, p9, p10, p11, p12, p13, ⟨d1, d2, d3, d4, d5⟩, ⟨e1, e2, e3, e4, e5, e6, e7, e8, e9, e10, e11⟩, ⟨h1, h2, h3⟩, f1, f2, f3, f4⟩ := (SI n L hL).it
  match k, hr with
  | 0, _ => exact ⟨.inl fun ds st => rfl⟩
  | 1, _ => exact ⟨.inl (said_one (k := 0) f1)⟩
  | k + 2, hr =>
    obtain ⟨c, P', rfl, t1, t2, t3⟩ := TF.tab f x a sc cdv hlf hx hmx hlk
    obtain ⟨oc, od, kV, doc, pm, an, cdv, ct, osl, rfl, lk, hcd⟩ := d1.ex
    have hdp := hr.dp
    have hun := hr.un
    have h0 : 0 < Clx.n := (M.exm _ _ e1).1
    have runY : ∀ (f' : Nat) (x' : PySem.Str), G.bare.fn f' = some x' → ∃ a', mg x' = some (.ref a') ∧ PySem.W.keepIn K (.ref a') = true ∧ ∀ Y : Cx, Y.prog = P → Y.w = w → Y.K = K → Y.mg = mg → Y.base = base → Room k Y.A → RunX Y (call Fs k) f' a' := fun f' x' h' => by
      have hy0 : G.prog.fn f' = some x' := h'
      obtain ⟨fn', a', hF', hD'⟩ := M0.fn f' x' hy0
      obtain ⟨x2, pst2, fd2, N2, ps2, m2, n2, hx2, hdef2, hmx2, _⟩ := hD'.it
      cases hy0.symm.trans hx2
      refine ⟨a', hmx2, hdef2.kp, fun Y y1 y2 y3 y4 y5 yr W pins s2 σ2 H2 us2 vs2 Q2 F2 st2 ds2 tk2 I2 r2 sr2 rs2 q2 => ?_⟩
      have e2 := I2.env0
      have call2 := run_at (P := P) (w := w) (base := base) M0 LM0 (fun _ => bare0) hP k f' a' fn' hF' hD' Y.A Y.stack s2 H2 ⟨us2, []⟩ us2 vs2 Q2 (fun cls d H' => W cls d σ2 H') F2 st2 ds2 (.inl rfl) yr (fun z => by cases z) (by rw [← y1, ← y2, ← y3, ← y4, ← y5]; exact e2) r2 sr2 rs2 q2
      refine wpAny_call (codeAny_mono (by rw [y1, y2]; exact call2) fun res s3 hq => ?_)
      cases res with
      | error e => exact tk2 e s3 (XE.of_call I2 (E := fun cls d H' => W cls d σ2 H') (fun _ _ _ h => h) (by rw [y1, y2]; exact hq))
      | ok fl =>
        cases fl with
        | ret u =>
          have hq : CE Y.stack Y.prog Y.w H2 s2 Q2 u s3 := by rw [y1, y2]; exact hq
          exact I2.after hq
        | next => exact False.elim hq
        | brk => exact False.elim hq
        | cont => exact False.elim hq
    refine ⟨.inr ⟨k, call Fs (k + 1), call Fs k, g, c, P', _, _, _, _, kV, doc, pm, cdv, ct, oc, an, od, osl, [xa, en], xa, ⟨d2, d1.kp, lk, hcd, d4, d3, rfl, loc_vis e11, e9⟩, ?_, ⟨t1, rfl, t2, t3, hr⟩, fun Y y1 y2 y3 y4 y5 yr yc yn => ⟨?_, fun y hy => ?_⟩, said_r1 f1, lam_r2 f2 f3⟩⟩
    · rw [d5]
      exact said_gives M.toModF h3 h1 h2 (by show (A.deeper _).depth + 1 < recursionLimit; omega) (by show (A.deeper _).units + 6 + 65 < cLine; omega) hg h0 e1 d3.kind e2 e3 e4 e5 e6 e7 e8 e10
    · refine ⟨fun _ => yc, yn, ?_, (fun z => by cases z), by rw [y4]; exact M.blt, by rw [y4]; exact M.con, (fun f' x' h' => ?_), (fun f' x' h' a2 ha2 Z L => ?_), by rw [y3]; exact M.exo, by rw [y3]; exact M.exu, by rw [y3]; exact M.exk, by rw [y4]; exact M.exm, by rw [y4]; exact M.mve, .inl M.exs, by rw [y3]; exact M.rz, (fun c h => by cases h), fun _ => ?_⟩
      · have := yr.un
        omega
      · obtain ⟨a', m1, m2, rn⟩ := runY f' x' h'
        refine ⟨a', by rw [y4]; exact m1, by rw [y3]; exact m2, fun Z L => ?_, fun n3 ks inv hk => by cases hk⟩
        obtain ⟨l1, l2, l3, l4, l5, l6⟩ := L
        have rz := rn Z (l1.trans y1) (l2.trans y2) (l3.trans y3) (l4.trans y4) (l5.trans y5) (by rw [l6]; exact yr)
        exact fun pins s2 σ2 H2 us2 vs2 Q2 F2 st2 ds2 I2 r2 sr2 rs2 q2 => rz _ pins s2 σ2 H2 us2 vs2 Q2 F2 st2 ds2 takes0 I2 r2 sr2 rs2 (RX_mono (RO_RX q2) (fun _ _ h => h) fun _ _ _ h => h.elim)
      · obtain ⟨a', m1, m2, rn⟩ := runY f' x' h'
        rw [y4] at ha2
        cases (show some (Value.ref a') = some (Value.ref a2) from m1.symm.trans ha2)
        obtain ⟨l1, l2, l3, l4, l5, l6⟩ := L
        exact rn Z (l1.trans y1) (l2.trans y2) (l3.trans y3) (l4.trans y4) (l5.trans y5) (by rw [l6]; exact yr)
      · have := yr.dp
        omega
    · have hy0 : G.bare.fn L.f = some y := by
        show (if (G.pf.any fun n => Nat.beq n L.f) = true then G.fn L.f else none) = some y
        rw [if_pos f4]; exact hy
      obtain ⟨a', m1, m2, rn⟩ := runY L.f y hy0
      exact ⟨a', m1, m2, rn Y y1 y2 y3 y4 y5 yr⟩
end
end LB
/-! LB19: the law's own call; the end of a proof. -/
namespace LB
open PySem PySem.Spec PyProof.Rows L2 LamX
variable [Clx]

/-- no list among the module's own things -/
def noLst (K : PySem.W.Frag) : Bool := K.all fun p => match p.2.cls with
  | .type t => !(t == "list")
  | _ => true
theorem lookup_mem {α β : Type} [BEq α] [LawfulBEq α] {a : α} {b : β} : ∀ {l : List (α × β)}, l.lookup a = some b → (a, b) ∈ l
  | [], h => by cases h
  | (x, y) :: l, h => by
    by_cases e : a = x
    · subst e
      rw [List.lookup_cons_self] at h
      cases h
      exact .head _
    · rw [List.lookup_cons, beq_false_of_ne e] at h
      exact .tail _ (lookup_mem h)
theorem noLst_of {K : PySem.W.Frag} (h : noLst K = true) {a : Addr} {ar : Array Value} : K.lookup a ≠ some { cls := .type "list", data := .seq ar } := fun e => by
  have k := List.all_eq_true.mp h _ (lookup_mem e)
  have k : (!(("list" : String) == "list")) = true := k
  simp at k
theorem ints_Rps {H : Hp} {F : List Addr} : ∀ ns : List Int, Rps H F (ns.map D.int) (ns.map V.int)
  | [] => .nil
  | i :: r => .cons (.int i) (ints_Rps r)
section
variable {G : Sig} {Fs : Nat → Option Fn} {P : Program} {w : World} {K : PySem.W.Frag} {mg mb : PySem.Str → Option Value}
/-- a def's own table, empty as the top leaves it -/
structure Bare (h : Heap) (K : PySem.W.Frag) (c P : Addr) : Prop where
  tab : h.get? P = some { cls := .none, data := .fields #[] }
  far : K.lookup P = none
  code : PySem.W.CodeHd h c P
theorem law_me {k f : Nat} {fn : Fn} {fa a : Addr} {s1 : Shared} {vs : List Value} {ns : List Int} {cs : List (Addr × Addr)} (M : ModIn G Fs K mg) (LM : ∀ base : Heap, (∀ p ∈ cs, TabB base mg p.1 p.2) → LamM G Fs P w K mg base) (hrp : G.rp = true) (hT : ∀ p ∈ cs, Bare s1.heap K p.1 p.2) (hcs : ∀ q ∈ Clx.tabs, ∃ p ∈ cs, p.2 = q.1)
    (hF : Fs f = some fn) (hD : DefIn G K mg f fn fa) (KX : K.In s1.heap) (hm : s1.heap.Ns mainGlobals mg) (hb : s1.heap.Ns builtinsNs mb)
    (hbb : ∀ y : PySem.Str, y ≠ "__name__" → mb y = bootBuiltins y) (hlim : s1.heap.NoLimit) (hg : s1.gens = #[])
    (hbm : ∃ (bm : Addr) (ob : Obj), mg "__builtins__" = some (.ref bm) ∧ bm ≠ builtinsNs ∧ s1.heap.get? bm = some ob ∧ ob.cls = .type "module" ∧ ob.dict = some builtinsNs ∧ ob.data = .plain)
    (ha : s1.heap.get? a = some { cls := .type "list", data := .seq vs.toArray }) (hi : IntsAre vs ns) (hl : ns.length ≤ sizeLine) (hr : Room k callerA) (noL : noLst K = true) (hP : ∀ P', G.prg = some P' → P' = P)
    (hq : RO (call Fs k f [.lst (ns.map .int)] []) fun d _ => d = .bl true) :
    codeAny (model P w) callerA (.call (.ref fa) ⟨[.ref a], []⟩) (fun r s' => r = .ok (.ret (.bool true)) ∧ OldK s1.heap s'.heap ∧ s'.os = s1.os ∧ AllBare s'.gens) s1 := by
  have rv := vals_ints hi
  have hK : K.lookup a = none := by
    cases e : K.lookup a with
    | none => rfl
    | some o =>
      have e2 := KX a o e
      rw [ha] at e2
      cases e2
      exact absurd e (noLst_of noL)
  let ob : Obj := { cls := .type "list", data := .seq vs.toArray }
  have atT : ∀ b : Addr, (∃ p ∈ cs, p.2 = b) → s1.heap.get? b = some { cls := .none, data := .fields #[] } := fun b ⟨p, hp, e⟩ => e ▸ (hT p hp).tab
  have na : ¬ ∃ p ∈ cs, p.2 = a := fun z => by
    have q := (atT a z).symm.trans ha
    cases q
  classical
  let H : Hp := fun b => if b = a then some (.frz ob (.lst (ns.map V.int))) else if (∃ p ∈ cs, p.2 = b) then some (.tbl #[]) else none
  have Ha : H a = some (.frz ob (.lst (ns.map V.int))) := if_pos rfl
  have Ht : ∀ {b : Addr}, (∃ p ∈ cs, p.2 = b) → H b = some (.tbl #[]) := fun {b} h => (if_neg (show ¬ b = a from fun z => na (by rw [← z]; exact h))).trans (if_pos h)
  have Hn : ∀ {b : Addr}, b ≠ a → (¬ ∃ p ∈ cs, p.2 = b) → H b = none := fun h h2 => (if_neg h).trans (if_neg h2)
  have hok : HOk P w H s1.heap := fun b u z => by
    by_cases e : b = a
    · subst e
      cases Ha.symm.trans z
      exact ⟨ha, by rw [List.length_map]; exact hl, vs, _, rv, ha⟩
    · by_cases e2 : ∃ p ∈ cs, p.2 = b
      · cases (Ht e2).symm.trans z
        exact atT b e2
      · rw [Hn e e2] at z; cases z
  have hid : ∀ {b : Addr} {o : Obj}, s1.heap.get? b = some o → H b = none → (hidT s1.heap H).get? b = some o := fun e n => hidT_get e n
  -- what is neither a list nor an empty record is not told of
  have oth : ∀ {b : Addr} {o : Obj}, s1.heap.get? b = some o → (∀ l n, o.data ≠ .seq l n) → o.data ≠ .fields #[] → H b = none := fun {b o} e h1 h2 => by
    refine Hn (fun z => ?_) fun z => ?_
    · subst z
      cases ha.symm.trans e
      exact h1 _ _ rfl
    · cases (atT b z).symm.trans e
      exact h2 rfl
  have dictN : ∀ {b : Addr} {o : Obj} {es : Array DictEntry} {ep : Nat}, s1.heap.get? b = some o → o.data = .dict es ep → H b = none := fun {b o es ep} e d => oth e (fun l n z => by rw [d] at z; cases z) fun z => by rw [d] at z; cases z
  have nsH : ∀ {b : Addr} {m : PySem.Str → Option Value}, s1.heap.Ns b m → (hidT s1.heap H).Ns b m := fun {b m} z => by
    obtain ⟨o, es, ep, e, d, t⟩ := z
    exact ⟨o, es, ep, hid e (dictN e d), d, t⟩
  have KH : K.In (hidT s1.heap H) := fun b o e => hid (KX b o e) (by
    refine Hn (fun q => by subst q; rw [hK] at e; cases e) fun ⟨p, hp, ep⟩ => ?_
    have z := (hT p hp).far
    rw [ep, e] at z
    cases z)
  have hM : Mod K mg (hidT s1.heap H) := ⟨KH, nsH hm, ⟨mb, nsH hb, hbb⟩, (by obtain ⟨mc, h1, h2⟩ := hlim; exact ⟨mc, nsH h1, h2⟩)⟩
  have e0 : Env0 P w K mg (hidT s1.heap H) callerA [] s1 H := ⟨rfl, hM, fun b o e => of_hidT e, Nat.le_of_eq (hidT_size _ _), trivial, fun b hb => absurd (show b ∈ ([] : List Addr) from hb) (by simp), hok, .of_eq hg⟩
  have tb : ∀ p ∈ cs, TabB (hidT s1.heap H) mg p.1 p.2 := fun p hp => by
    obtain ⟨t1, t2, o, us, file, tf, flags, tg, inF, text, tt, c1, c2, c3, c4, cr⟩ := (hT p hp)
    refine ⟨⟨o, us, file, tf, flags, tg, inF, text, tt, hid c1 (oth c1 (fun l n z => by rw [c3] at z; cases z) fun z => ?_), c2, c3, c4, cr⟩, ?_, fun z => ?_⟩
    · rw [c3] at z
      cases z
      simp at c4
    · obtain ⟨bm, ob, b1, b2, b3, b4, b5, b6⟩ := hbm
      refine ⟨bm, ob, b1, b2, fun q => ?_, fun q => ?_, hid b3 (oth b3 (fun l n z => by rw [b6] at z; cases z) fun z => by rw [b6] at z; cases z), b4, b5, b6⟩
      · obtain ⟨o, es, ep, e, hd, _⟩ := hm
        rw [q, e] at b3
        cases b3
        rw [hd] at b6
        cases b6
      · rw [q, t1] at b3
        cases b3
        cases b6
    · obtain ⟨o, es, ep, e, hd, _⟩ := hm
      rw [z, t1] at e
      cases e
      cases hd
  have sr : SR H [] [] := ⟨rfl, List.nodup_nil, fun n b h => by simp at h, fun q hq => .nil (by
    obtain ⟨p, hp, e⟩ := hcs q hq
    exact Ht ⟨p, hp, e⟩)⟩
  refine codeAny_mono (run_at M (LM _ tb) (fun z => by rw [hrp] at z; cases z) hP k f fa fn hF hD callerA [] s1 H ⟨[.ref a], []⟩ [.ref a] [.ref a] (fun v _ => v = .bl true) (fun _ _ _ => False) [] [] [.lst (ns.map .int)] (.inl rfl) hr (fun _ => rfl) e0 (.cons rfl .nil) sr (.cons (.lst Ha (ints_Rps ns)) .nil)
    (RX_mono (RO_RX hq) (fun d st e x H' F' _ _ rp => by subst e; cases rp; rfl) fun _ _ _ z => z.elim)) fun r s' h => ?_
  cases r with
  | error e =>
    obtain ⟨_, _, _, _, _, _, _, _, _, _, _, _, z⟩ := (show L2.CX P w [] H s1 _ e s' from h)
    exact z.elim
  | ok fl =>
    cases fl with
    | next => exact False.elim h
    | brk => exact False.elim h
    | cont => exact False.elim h
    | ret u =>
      obtain ⟨v, H', os, bare, un, hok', rel, ev⟩ := h
      subst ev
      obtain rfl : u = Value.bool true := rel
      have same : ∀ b o, (¬ ∃ p ∈ cs, p.2 = b) → s1.heap.get? b = some o → s'.heap.get? b = some o := fun b o nb e => by
        by_cases q : b = a
        · subst q
          obtain ⟨e2, _⟩ := hok' b _ (un.frzs b ob _ Ha)
          rw [ha] at e
          cases e
          exact e2
        · exact un.keep b o e (Hn q nb) (fun z => absurd (show b ∈ ([] : List Addr) from z) (by simp)) (by simp)
      have more : ∀ b, (∃ p ∈ cs, p.2 = b) → ∃ ps : Array Value, s'.heap.get? b = some { cls := .none, data := .fields ps } := fun b hb => by
        obtain ⟨m, z⟩ := un.tbls b #[] (Ht hb)
        exact ⟨_, hok' b _ z⟩
      refine ⟨rfl, ⟨fun b o e => ?_, fun b o e => ?_⟩, os, bare⟩
      · by_cases nb : ∃ p ∈ cs, p.2 = b
        · obtain ⟨ps, hps⟩ := more b nb
          cases (atT b nb).symm.trans e
          obtain ⟨p, hp, rfl⟩ := nb
          exact .inr (.inl ⟨((hT p hp).code.tab (hT p hp).tab).isCodeTable, rfl, #[], ps, rfl, by rw [Array.empty_append]; exact hps⟩)
        · exact .inl (same b o nb e)
      · by_cases nb : ∃ p ∈ cs, p.2 = b
        · obtain ⟨ps, hps⟩ := more b nb
          exact ⟨_, hps⟩
        · exact ⟨o, same b o nb e⟩
end
end LB
/-! LB19b: a table of defs; the classes of exceptions; the end. -/
namespace LB
open PySem PySem.Spec PyProof.Rows L2 LamX
structure Row where
  id : Nat
  x : PySem.Str
  st : Stmt
  N : List PySem.Str
  np : Nat
  body : List S
def sigOf (rows : List Row) (con : List (PySem.Str × D)) (kw : List (Nat × Nat × List PySem.Str × List Nat) := []) : Sig := { fn := fun i => (rows.find? fun r => Nat.beq r.id i).map (·.x), con := con, kw := kw }
def scB (N P : List PySem.Str) (sc : Scope) : Bool :=
  decide (sc.kind = .function) && !sc.isCoroutine && !sc.isGenerator && decide N.Nodup && decide (N.take P.length = P) && P.all (fun x => locB sc x) && sc.names.all (fun y => !decide (y.2 = .free))
abbrev clx0 : Clx := ⟨fun _ => 0, 0, [], []⟩
theorem beqN : ∀ n : Nat, Nat.beq n n = true
  | 0 => rfl
  | n + 1 => beqN n
theorem nodupAt {α : Type} {l : List α} {n m : Nat} {a : α} (h : l.Nodup) (h1 : l[n]? = some a) (h2 : l[m]? = some a) : n = m := by
  obtain ⟨l1, e1⟩ := List.getElem?_eq_some_iff.mp h1
  obtain ⟨l2, e2⟩ := List.getElem?_eq_some_iff.mp h2
  exact (List.getElem_inj (h₀ := l1) (h₁ := l2) h).mp (e1.trans e2.symm)
theorem sc_by {N P : List PySem.Str} {sc : Scope} (h : scB N P sc = true) : FnScope N P sc := by
  unfold scB at h
  simp only [Bool.and_eq_true, Bool.not_eq_true', decide_eq_true_eq, List.all_eq_true, decide_eq_false_iff_not] at h
  obtain ⟨⟨⟨⟨⟨⟨a1, a2⟩, a3⟩, a4⟩, a5⟩, a6⟩, a7⟩ := h
  exact ⟨a1, a2, a3, a4, a5, fun x hx => @loc_of clx0 _ _ (a6 x hx), a7⟩
/-- what the kernel looks at -/
def rowS (G : Sig) (r : Row) : Bool :=
  scB r.N (r.N.take r.np) (L2.defScope r.st) && Nat.ble r.np r.N.length && chkSs (chkS G r.N 60 30 (L2.defScope r.st)) r.body (L2.defBody r.st)
def rowB (G : Sig) (r : Row) : Bool := rowS (G.at_ r.id) r
def Bnd (r : Row) : Prop := ∀ (kV doc pm : Value) (an : Option Addr) (cdv ct : Value) (us : List Value), us.length = (r.N.take r.np).length →
  bindArgs (PySem.W.fnOf r.x r.x (L2.defArgs r.st) (L2.defBody r.st) (L2.defScope r.st) .none kV doc pm an cdv ct) ⟨us, []⟩ = pure ((r.N.take r.np).zip us)
/-- .. called with keywords -/
def KwB (r : Row) (n : Nat) (ks : List PySem.Str) (inv : List Nat) : Prop := ∀ (kV doc pm : Value) (an : Option Addr) (cdv ct : Value) (us ws : List Value), us.length = n → ws.length = ks.length →
  ∃ zs, inv.map (fun i => (us ++ ws)[i]?) = zs.map some ∧ bindArgs (PySem.W.fnOf r.x r.x (L2.defArgs r.st) (L2.defBody r.st) (L2.defScope r.st) .none kV doc pm an cdv ct) ⟨us, ks.zip ws⟩ = pure ((r.N.take r.np).zip zs)
def KwE (rows : List Row) (e : Nat × Nat × List PySem.Str × List Nat) : Prop := ∃ r, (rows.find? fun r => Nat.beq r.id e.1) = some r ∧ KwB r e.2.1 e.2.2.1 e.2.2.2
def AllF {α : Type} (p : α → Prop) : List α → Prop
  | [] => True
  | r :: rs => p r ∧ AllF p rs
theorem AllF.get {α : Type} {p : α → Prop} {r : α} : ∀ {rows : List α}, AllF p rows → r ∈ rows → p r
  | [], _, h => by cases h
  | x :: rs, h, e => by
    rcases List.mem_cons.mp e with z | e
    · rw [z]; exact h.1
    · exact AllF.get h.2 e
def AllKw (rows : List Row) : List (Nat × Nat × List PySem.Str × List Nat) → Prop := AllF (KwE rows)
/-- what the top has written -/
def FnF (K : PySem.W.Frag) (r : Row) : Prop := ∃ f fd, L2.Fun K r.x r.x r.st f fd ∧ PySem.W.nsIn K mainGlobals r.x = some (some (.ref f))
theorem fnF {K : PySem.W.Frag} {r : Row} {f : Addr} {oc : Value} {od an : Option Addr} {osl : Array (Option Value)} {kV doc pm cdv ct : Value} (a : PySem.W.nsIn K mainGlobals r.x = some (some (.ref f)))
    (l : K.lookup f = some ⟨oc, od, .func (PySem.W.fnOf r.x r.x (L2.defArgs r.st) (L2.defBody r.st) (L2.defScope r.st) .none kV doc pm an cdv ct), osl⟩) (c : PySem.W.codeIn K cdv r.x = true) (k : PySem.W.keepIn K (.ref f) = true) : FnF K r :=
  ⟨f, _, L2.fun_mk l c k, a⟩
def Row.fn (r : Row) : Fn := ⟨r.np, r.N.length, r.body⟩
def LibF (Fs : Nat → Option Fn) : List Row → Prop := AllF fun r => Fs r.id = some r.fn
def ConF (K : PySem.W.Frag) : List (PySem.Str × D) → Prop
  | [] => True
  | (x, .int i) :: r => (∃ t, PySem.W.nsIn K mainGlobals x = some (some (.int i t))) ∧ ConF K r
  | (x, .str z) :: r => (∃ t, PySem.W.nsIn K mainGlobals x = some (some (.str z t))) ∧ ConF K r
  | _ :: r => ConF K r
theorem conI {K : PySem.W.Frag} {x : PySem.Str} {i : Int} {t : Tok} (h : PySem.W.nsIn K mainGlobals x = some (some (.int i t))) : ∃ t, PySem.W.nsIn K mainGlobals x = some (some (.int i t)) := ⟨t, h⟩
theorem conS {K : PySem.W.Frag} {x z : PySem.Str} {t : Tok} (h : PySem.W.nsIn K mainGlobals x = some (some (.str z t))) : ∃ t, PySem.W.nsIn K mainGlobals x = some (some (.str z t)) := ⟨t, h⟩
theorem ConF.get {K : PySem.W.Frag} {x : PySem.Str} {d : D} : ∀ {l : List (PySem.Str × D)}, ConF K l → (x, d) ∈ l → (∀ i, d = .int i → ∃ t, PySem.W.nsIn K mainGlobals x = some (some (.int i t))) ∧ (∀ z, d = .str z → ∃ t, PySem.W.nsIn K mainGlobals x = some (some (.str z t)))
  | [], _, h => by cases h
  | (y, e) :: l, h, m => by
    have rest : ConF K l := by
      cases e <;> first | exact h.2 | exact h
    rcases List.mem_cons.mp m with z | m
    · cases z
      refine ⟨fun i e => ?_, fun i e => ?_⟩ <;> (subst e; exact h.1)
    · exact rest.get m
def NoBlt (K : PySem.W.Frag) : List PySem.Str → Prop := AllF fun x => PySem.W.nsIn K mainGlobals x = some none
/-! classes of exceptions, by their names -/
def clsAt (K : PySem.W.Frag) (x : PySem.Str) : Addr := match PySem.W.nsIn K mainGlobals x with
  | some (some (.ref C)) => C
  | _ => 0
def tabP (K : PySem.W.Frag) (x : PySem.Str) : Addr := match PySem.W.tabIn K x with
  | some (_, P) => P
  | none => 0
abbrev clxOf (K : PySem.W.Frag) (xs tn : List PySem.Str) : Clx := ⟨fun c => clsAt K (xs.getD c ""), xs.length, [], tn.map fun x => (tabP K x, (x ++ ".<locals>." : PySem.Str) ++ "<lambda>")⟩
/-- what the top has written of a class over the one at C0 -/
def ClsF (K : PySem.W.Frag) (C0 : Addr) (x : PySem.Str) : Prop := ∃ (C : Addr) (cd : ClassData), PySem.W.nsIn K mainGlobals x = some (some (.ref C)) ∧ PySem.W.clsIn K C = some cd ∧ (cd.mro = .ref C :: .ref C0 :: veTail ∨ (C = C0 ∧ cd.mro = .ref C :: veTail)) ∧ cd.hasDict = true ∧
  PySem.W.findIn K (.ref C) "__getattribute__" = some (some (.builtin "BaseException.__getattribute__")) ∧ PySem.W.findIn K (.ref C) "__getattr__" = some none ∧ PySem.W.findIn K (.ref C) "__class__" = some (some (.builtin "object.__class__")) ∧
  PySem.W.typeIn K (.ref C) = some (.type "type") ∧ PySem.W.keepIn K (.ref C) = true ∧ PySem.W.findIn K (.ref C) "amount" = some none ∧ PySem.W.findIn K (.ref C) "limit" = some none
theorem clsF1 {K : PySem.W.Frag} {C0 C : Addr} {x : PySem.Str} {cd : ClassData} (h1 : PySem.W.nsIn K mainGlobals x = some (some (.ref C))) (h2 : PySem.W.clsIn K C = some cd) (h3 : cd.mro = .ref C :: .ref C0 :: veTail) (h4 : cd.hasDict = true)
    (h5 : PySem.W.findIn K (.ref C) "__getattribute__" = some (some (.builtin "BaseException.__getattribute__"))) (h6 : PySem.W.findIn K (.ref C) "__getattr__" = some none) (h7 : PySem.W.findIn K (.ref C) "__class__" = some (some (.builtin "object.__class__")))
    (h8 : PySem.W.typeIn K (.ref C) = some (.type "type")) (h9 : PySem.W.keepIn K (.ref C) = true) (h10 : PySem.W.findIn K (.ref C) "amount" = some none) (h11 : PySem.W.findIn K (.ref C) "limit" = some none) : ClsF K C0 x := ⟨C, cd, h1, h2, .inl h3, h4, h5, h6, h7, h8, h9, h10, h11⟩
theorem clsF0 {K : PySem.W.Frag} {C : Addr} {x : PySem.Str} {cd : ClassData} (h1 : PySem.W.nsIn K mainGlobals x = some (some (.ref C))) (h2 : PySem.W.clsIn K C = some cd) (h3 : cd.mro = .ref C :: veTail) (h4 : cd.hasDict = true)
    (h5 : PySem.W.findIn K (.ref C) "__getattribute__" = some (some (.builtin "BaseException.__getattribute__"))) (h6 : PySem.W.findIn K (.ref C) "__getattr__" = some none) (h7 : PySem.W.findIn K (.ref C) "__class__" = some (some (.builtin "object.__class__")))
    (h8 : PySem.W.typeIn K (.ref C) = some (.type "type")) (h9 : PySem.W.keepIn K (.ref C) = true) (h10 : PySem.W.findIn K (.ref C) "amount" = some none) (h11 : PySem.W.findIn K (.ref C) "limit" = some none) : ClsF K C x := ⟨C, cd, h1, h2, .inr ⟨rfl, h3⟩, h4, h5, h6, h7, h8, h9, h10, h11⟩
/-- the classes: the common one first; no two at one place -/
structure ExAll (K : PySem.W.Frag) (xs : List PySem.Str) : Prop where
  all : AllF (ClsF K (clsAt K (xs.getD 0 ""))) xs
  nd : (xs.map (clsAt K)).Nodup
  hn : PySem.W.specialIn K (.builtin "object.__class__") "__get__" = some (some (.builtin "getset_descriptor.__get__"))
  ht : PySem.W.takesIn K (.builtin "object.__class__") = some true
section
variable {K : PySem.W.Frag} {xs tn : List PySem.Str}
theorem ClsF.mroIn {C0 : Addr} {x : PySem.Str} (h : ClsF K C0 x) (b : Value) : PySem.W.mroIn K (clsAt K x) b = some ((Value.ref (clsAt K x) == b) || (Value.ref C0 == b) || veTail.contains b) := by
  obtain ⟨C, cd, h1, h2, h3, _⟩ := h
  have e : clsAt K x = C := by unfold clsAt; rw [h1]
  rw [e]
  unfold PySem.W.mroIn
  rw [h2, Option.bind_some]
  have sym : ∀ v : Value, (b == v) = (v == b) := fun v => by
    by_cases q : b = v
    · subst q; rfl
    · rw [beq_false_of_ne q, beq_false_of_ne (fun z => q z.symm)]
  rcases h3 with h3 | ⟨rfl, h3⟩
  · rw [h3, if_neg (by simp), List.contains_cons, List.contains_cons, sym, sym, Bool.or_assoc]
  · rw [h3, if_neg (by simp), List.contains_cons, sym, Bool.or_self]
theorem ExAll.at_ (E : ExAll K xs) {c : Nat} (hc : c < xs.length) : ClsF K (clsAt K (xs.getD 0 "")) (xs.getD c "") := by
  refine E.all.get ?_
  rw [List.getD_eq_getElem?_getD, List.getElem?_eq_getElem hc]
  exact List.getElem_mem hc
theorem ExAll.inj (E : ExAll K xs) {c c' : Nat} (hc : c < xs.length) (hc' : c' < xs.length) (h : clsAt K (xs.getD c "") = clsAt K (xs.getD c' "")) : c = c' := by
  have e : ∀ {i : Nat} (hi : i < xs.length), (xs.map (clsAt K))[i]? = some (clsAt K (xs.getD i "")) := fun {i} hi => by
    rw [List.getElem?_map, List.getD_eq_getElem?_getD, List.getElem?_eq_getElem hi]
    rfl
  exact nodupAt E.nd (e hc) (by rw [h]; exact e hc')
theorem ExAll.kit (E : ExAll K xs) {c c' : Nat} (hc : c < xs.length) (hc' : c' < xs.length) : PySem.W.kitOne K (.ref (clsAt K (xs.getD c ""))) (.ref (clsAt K (xs.getD c' ""))) = some (Nat.beq c c' || Nat.beq c' 0) := by
  have f := E.at_ hc
  have f' := E.at_ hc'
  have m := f.mroIn (.ref (clsAt K (xs.getD c' "")))
  obtain ⟨C', cd', g1, g2, _, _, _, _, _, g8, _⟩ := f'
  have e' : clsAt K (xs.getD c' "") = C' := by unfold clsAt; rw [g1]
  unfold PySem.W.kitOne
  by_cases h : c = c'
  · subst h
    rw [if_pos (by simp), beqN c]
    simp
  · have h1 : clsAt K (xs.getD c "") ≠ clsAt K (xs.getD c' "") := fun z => h (E.inj hc hc' z)
    have e1 : (Value.ref (clsAt K (xs.getD c "")) == Value.ref (clsAt K (xs.getD c' ""))) = false := beq_false_of_ne fun z => h1 (Value.ref.inj z)
    rw [e1, if_neg Bool.false_ne_true]
    unfold PySem.W.kitCls
    have t1 : ((PySem.W.clsIn K (clsAt K (xs.getD c' ""))).isSome && PySem.W.typeIn K (.ref (clsAt K (xs.getD c' ""))) == some (.type "type")) = true := by
      rw [e', g2, g8]; rfl
    show (if _ then PySem.W.subIn K (.ref (clsAt K (xs.getD c ""))) (.ref (clsAt K (xs.getD c' ""))) else none) = _
    rw [if_pos t1]
    show PySem.W.mroIn K (clsAt K (xs.getD c "")) (.ref (clsAt K (xs.getD c' ""))) = _
    rw [m, e1]
    have v0 : veTail.contains (Value.ref (clsAt K (xs.getD c' ""))) = false := by simp [veTail]
    have b0 : Nat.beq c c' = false := by
      cases z : Nat.beq c c' with
      | false => rfl
      | true => exact absurd (Nat.eq_of_beq_eq_true z) h
    rw [v0, b0, Bool.false_or, Bool.or_false, Bool.false_or]
    by_cases h0 : c' = 0
    · subst h0
      simp
    · have hne : clsAt K (xs.getD 0 "") ≠ clsAt K (xs.getD c' "") := fun z => h0 (E.inj (Nat.lt_of_le_of_lt (Nat.zero_le _) hc) hc' z).symm
      rw [beq_false_of_ne fun z => hne (Value.ref.inj z)]
      cases z : Nat.beq c' 0 with
      | false => rfl
      | true => exact absurd (Nat.eq_of_beq_eq_true z) h0
theorem ExAll.ok (E : ExAll K xs) {c : Nat} (hc : c < xs.length) : ExcOk K (clsAt K (xs.getD c "")) := by
  have f := E.at_ hc
  have m := f.mroIn
  obtain ⟨C, cd, g1, g2, g3, g4, g5, g6, g7, g8, g9, g10, g11⟩ := f
  have e : clsAt K (xs.getD c "") = C := by unfold clsAt; rw [g1]
  rw [e] at m ⊢
  have mT : ∀ T : String, veTail.contains (.type T) = true → PySem.W.mroIn K C (.type T) = some true := fun T hT => by rw [m, hT, Bool.or_true]
  refine ⟨⟨g5, g6, mT _ (by decide +kernel), ?_, g7, E.hn, E.ht, mT _ (by decide +kernel)⟩, ?_, g9, g8, g10, g11⟩
  · unfold PySem.W.hasDictIn
    rw [g2]
    exact g4
  · unfold PySem.W.kitOne
    rw [if_neg (by simp)]
    show (if PySem.W.kitMeta "ValueError" = true then PySem.W.subIn K (.ref C) (.type "ValueError") else none) = some true
    rw [if_pos (by decide +kernel)]
    exact mT _ (by decide +kernel)
theorem ExAll.up (E : ExAll K xs) {c : Nat} (hc : c < xs.length) : PySem.W.subIn K (.ref (clsAt K (xs.getD c ""))) (.ref (clsAt K (xs.getD 0 ""))) = some true := by
  have m := (E.at_ hc).mroIn (.ref (clsAt K (xs.getD 0 "")))
  show PySem.W.mroIn K _ _ = _
  rw [m]
  simp
end
/-- the lambdas: said's row, kind's row -/
structure LRow where
  s : Nat
  L : Lam
  sr : Row
  kr : Row
  ex : PySem.Str
def saidB (G : Sig) (kx ex : PySem.Str) (r : Row) : Bool := match r.N, L2.defBody r.st with
  | [xa, en], [.Try [.Return (some (.Call (.Name rp _) [.Call (.Name x1 _) [] [] _] [] _)) _] [.ExceptHandler (some (.Name e1 _)) (some e2) [.Return (some (.BinOp (.Constant (.str m) _ _) .Add (.Call (.Name k1 _) [.Name e3 _] [] _) _)) _] _] [] [] _] =>
    decide (rp = "repr") && decide (x1 = xa) && decide (e1 = ex) && decide (e2 = en) && decide (e3 = en) && decide (m = "! ") && decide (k1 = kx) && (G.exn.any fun q => Nat.beq q.1 0 && decide (q.2 = ex)) && scB [xa, en] [xa] (L2.defScope r.st) && glB (L2.defScope r.st) kx && glB (L2.defScope r.st) "repr" && glB (L2.defScope r.st) ex &&
      decide ((L2.defScope r.st).names.lookup en = some .local) && nmB kx && nmB en && nmB ex && nmB xa && decide (xa ≠ en) && locB (L2.defScope r.st) xa && Nat.beq r.np 1
  | _, _ => false
def lamRB (G : Sig) (l : LRow) : Bool := saidB G l.kr.x l.ex l.sr && decide (l.L.x = l.sr.x) && Nat.beq l.L.k l.kr.id && Nat.ble l.L.is.length l.L.n && (G.pf.any fun n => Nat.beq n l.L.f) && rowS G.heat l.kr
def LamFs (Fs : Nat → Option Fn) (l : LRow) : Prop := Fs l.s = some (saidFn l.L.is.length l.L.s2 l.L.k) ∧ Fs l.L.s2 = some (lamFn l.L) ∧ Fs l.L.k = some l.kr.fn
section
variable {G : Sig} {Fs : Nat → Option Fn} {K : PySem.W.Frag} {h : Heap} {mg : PySem.Str → Option Value}
theorem hotIn_of [Clx] {r : Row} (X : K.In h) (Gm : h.Ns mainGlobals mg) (B : rowS G.heat r = true) (Ff : FnF K r) (b : Bnd r) : ∃ a, HotIn G.heat K mg r.x r.fn a ∧ PySem.W.keepIn K (.ref a) = true := by
  obtain ⟨a, fd, F, ns⟩ := Ff
  unfold rowS at B
  rw [Bool.and_eq_true, Bool.and_eq_true] at B
  refine ⟨a, ⟨r.st, fd, r.N, r.N.take r.np, 60, 30, F, PySem.W.mg_of X Gm ns, sc_by B.1.1, ?_, rfl, F.binds b, B.2⟩, F.kp⟩
  rw [List.length_take]
  have := Nat.le_of_ble_eq_true B.1.2
  show min r.np r.N.length = r.np
  omega
theorem saidIn_of [Clx] {l : LRow} (X : K.In h) (Gm : h.Ns mainGlobals mg) (B : lamRB G l = true) (Ff : FnF K l.sr) (b : Bnd l.sr) (Fk : FnF K l.kr) (bk : Bnd l.kr) (fs : LamFs Fs l) : SaidIn G Fs K mg l.s l.L := by
  unfold lamRB at B
  simp only [Bool.and_eq_true, decide_eq_true_eq] at B
  obtain ⟨⟨⟨⟨⟨b1, b2⟩, b3⟩, b4⟩, b5⟩, b6⟩ := B
  obtain ⟨ka, hh, hk⟩ := hotIn_of X Gm b6 Fk bk
  obtain ⟨a, fd, F, ns⟩ := Ff
  unfold saidB at b1
  split at b1
  case h_2 => cases b1
  rename_i xa en rp p0 x1 p1 p2 p3 p4 e1 p5 e2 m j p6 k1 p7 e3 p8 p9 p10 p11 p12 p13 hN hB
  simp only [Bool.and_eq_true, decide_eq_true_eq] at b1
  obtain ⟨⟨⟨⟨⟨⟨⟨⟨⟨⟨⟨⟨⟨⟨⟨⟨⟨⟨⟨rfl, rfl⟩, c3⟩, rfl⟩, rfl⟩, rfl⟩, rfl⟩, c8⟩, c9⟩, c10⟩, c11⟩, c12⟩, c13⟩, c14⟩, c15⟩, c16⟩, c17⟩, c18⟩, c19⟩, c20⟩ := b1
  subst c3
  obtain ⟨⟨c0, y0⟩, m0, q0⟩ := List.any_eq_true.mp c8
  simp only [Bool.and_eq_true, decide_eq_true_eq] at q0
  obtain ⟨q1, rfl⟩ := q0
  have q1 := Nat.eq_of_beq_eq_true q1
  subst q1
  have hnp : l.sr.np = 1 := Nat.eq_of_beq_eq_true c20
  have hk2 : l.L.k = l.kr.id := Nat.eq_of_beq_eq_true b3
  refine ⟨l.sr.st, fd, a, ka, l.kr.x, _, _, _, l.kr.fn, _, _, _, _, _, _, _, _, _, _, _, _, _, _, _, ⟨by rw [b2]; exact F, by rw [b2]; exact PySem.W.mg_of X Gm ns, sc_by c9, ?_, hB⟩,
    ⟨m0, of_decide_eq_true (p := _ = _) c10, of_decide_eq_true (p := _ = _) c11, of_decide_eq_true (p := _ = _) c12, c13, c14, c15, c16, c17, c18, c19⟩, ⟨hh, hk, fs.2.2⟩, fs.1, fs.2.1, Nat.le_of_ble_eq_true b4, b5⟩
  have := F.binds b
  rw [hN, hnp] at this
  exact this
/-- the module, by its rows -/
theorem modF_of {con : List (PySem.Str × D)} {xs tn : List PySem.Str} (X : K.In h) (Gm : h.Ns mainGlobals mg) (hc : ConF K con) (hcon : G.con = con) (hn : NoBlt K bltNames) (hve : PySem.W.nsIn K mainGlobals "ValueError" = some none) (E : ExAll K xs) (hex : ∀ c x, (c, x) ∈ G.exn → c < xs.length ∧ x = xs.getD c "")
    (hrz : ∀ c ∈ G.raz, PySem.W.excIn K (clsAt K (xs.getD c "")) veTail "ValueError.__new__" = true) (hini : ∀ c ∈ G.ini, ∃ P, G.prg = some P ∧ IniC P K (clsAt K (xs.getD c ""))) : @ModF (clxOf K xs tn) G K mg := by
  refine @ModF.mk (clxOf K xs tn) G K mg (fun x hx => PySem.W.mg_none_of X Gm (hn.get hx)) (fun x d m => ?_) (fun c hc => E.ok hc) (fun c hc => E.up hc) (fun c c' hc hc' => E.kit hc hc') (fun c x hx => ?_) (PySem.W.mg_none_of X Gm hve) hrz hini
  · rw [hcon] at m
    obtain ⟨h1, h2⟩ := hc.get m
    exact ⟨fun i e => by obtain ⟨t, z⟩ := h1 i e; exact ⟨t, PySem.W.mg_of X Gm z⟩, fun i e => by obtain ⟨t, z⟩ := h2 i e; exact ⟨t, PySem.W.mg_of X Gm z⟩⟩
  · obtain ⟨hc, rfl⟩ := hex c x hx
    obtain ⟨C, cd, g1, _⟩ := E.at_ hc
    have e : clsAt K (xs.getD c "") = C := by unfold clsAt; rw [g1]
    refine ⟨hc, ?_⟩
    show mg _ = some (.ref (clsAt K (xs.getD c "")))
    rw [e]
    exact PySem.W.mg_of X Gm g1
theorem defIn_of [Clx] {rows : List Row} {r : Row} (X : K.In h) (Gm : h.Ns mainGlobals mg) (hx : G.fn r.id = some r.x) (B : rowB G r = true) (Ff : FnF K r) (b : Bnd r) (hr : (rows.find? fun q => Nat.beq q.id r.id) = some r) (hkw : AllKw rows G.kw) : ∃ a, DefIn G K mg r.id r.fn a := by
  obtain ⟨a, fd, F, ns⟩ := Ff
  unfold rowB rowS at B
  rw [Bool.and_eq_true, Bool.and_eq_true] at B
  refine ⟨a, ⟨r.x, r.st, fd, r.N, r.N.take r.np, 60, 30, hx, F, PySem.W.mg_of X Gm ns, sc_by B.1.1, ?_, rfl, F.binds b, fun n ks inv hk => ?_, B.2⟩⟩
  · rw [List.length_take]
    have := Nat.le_of_ble_eq_true B.1.2
    show min r.np r.N.length = r.np
    omega
  · obtain ⟨r', e', kb⟩ := hkw.get hk
    cases hr.symm.trans e'
    obtain ⟨oc, od, kV, doc, pm, an, cdv, ct, osl, rfl, lk, hcd⟩ := F.ex
    intro s us ws l1 l2 _
    obtain ⟨zs, h1, h2⟩ := kb kV doc pm an cdv ct us ws l1 l2
    exact ⟨zs, h1, .of_eq h2⟩
end
/-- all that is asked of a law's module -/
structure ModX (rows : List Row) (G : Sig) (Fs : Nat → Option Fn) (lams : List LRow) (xs tn : List PySem.Str) (K : PySem.W.Frag) : Prop where
  fnG : G.fn = fun i => (rows.find? fun r => Nat.beq r.id i).map (·.x)
  flags : G.hot = false ∧ G.rp = true
  hB : ∀ r ∈ rows, rowB G r = true
  hP : ∀ r ∈ rows, (G.pf.any fun n => Nat.beq n r.id) = true → rowB G.prog r = true
  lib : LibF Fs rows
  bnd : AllF Bnd rows
  fnf : AllF (FnF K) rows
  con : ConF K G.con
  blt : NoBlt K bltNames
  ve : PySem.W.nsIn K mainGlobals "ValueError" = some none
  kw : AllKw rows G.kw
  ex : ExAll K xs
  exn : ∀ c x, (c, x) ∈ G.exn → c < xs.length ∧ x = xs.getD c ""
  rz : ∀ c ∈ G.raz, PySem.W.excIn K (clsAt K (xs.getD c "")) veTail "ValueError.__new__" = true
  ini : ∀ c ∈ G.ini, ∃ P, G.prg = some P ∧ IniC P K (clsAt K (xs.getD c ""))
  lamG : G.lam = lams.map fun l => (l.s, l.L)
  lamB : ∀ l ∈ lams, lamRB G l = true
  lamR : AllF (fun l : LRow => FnF K l.sr ∧ FnF K l.kr ∧ Bnd l.sr ∧ Bnd l.kr ∧ LamFs Fs l) lams
  tabs : AllF (fun x => ∃ c P, PySem.W.tabIn K x = some (c, P) ∧ K.lookup P = none) tn
  tnd : (tn.map (tabP K)).Nodup
  lfn : ∀ f x, (G.lf.any fun n => Nat.beq n f) = true → G.fn f = some x → x ∈ tn
section
variable {rows : List Row} {G : Sig} {Fs : Nat → Option Fn} {lams : List LRow} {xs tn : List PySem.Str} {K : PySem.W.Frag} {h : Heap} {mg : PySem.Str → Option Value}
theorem ModX.modIn (M : ModX rows G Fs lams xs tn K) (X : K.In h) (Gm : h.Ns mainGlobals mg) : @ModIn (clxOf K xs tn) G Fs K mg ∧ @ModIn (clxOf K xs tn) G.prog Fs K mg ∧ ∀ s L, (s, L) ∈ G.lam → SaidIn G Fs K mg s L := by
  have find : ∀ {f x}, G.fn f = some x → ∃ r, r ∈ rows ∧ r.id = f ∧ r.x = x ∧ (rows.find? fun q => Nat.beq q.id r.id) = some r := fun {f x} hx => by
    rw [M.fnG] at hx
    have hx : (rows.find? fun r => Nat.beq r.id f).map (·.x) = some x := hx
    cases e : rows.find? fun r => Nat.beq r.id f with
    | none => rw [e] at hx; cases hx
    | some r =>
      rw [e] at hx
      cases hx
      have hid : r.id = f := Nat.eq_of_beq_eq_true (List.find?_some (p := fun r : Row => Nat.beq r.id f) e)
      exact ⟨r, List.mem_of_find?_eq_some e, hid, rfl, by rw [hid]; exact e⟩
  refine ⟨@ModIn.mk (clxOf K xs tn) G Fs K mg (modF_of X Gm M.con rfl M.blt M.ve M.ex M.exn M.rz M.ini) M.flags.1 rfl fun f x hx => ?_, @ModIn.mk (clxOf K xs tn) G.prog Fs K mg (modF_of X Gm M.con rfl M.blt M.ve M.ex M.exn M.rz M.ini) M.flags.1 rfl fun f x hx => ?_, fun s L hL => ?_⟩
  · obtain ⟨r, hr, rfl, rfl, hf⟩ := find hx
    obtain ⟨a, d⟩ := @defIn_of G K h mg (clxOf K xs tn) rows r X Gm hx (M.hB r hr) (M.fnf.get hr) (M.bnd.get hr) hf M.kw
    exact ⟨r.fn, a, M.lib.get hr, d⟩
  · have hx0 : (if (G.pf.any fun n => Nat.beq n f) = true then G.fn f else none) = some x := hx
    by_cases hp : (G.pf.any fun n => Nat.beq n f) = true
    · rw [if_pos hp] at hx0
      obtain ⟨r, hr, rfl, rfl, hf⟩ := find hx0
      obtain ⟨a, d⟩ := @defIn_of G.prog K h mg (clxOf K xs tn) rows r X Gm hx (M.hP r hr hp) (M.fnf.get hr) (M.bnd.get hr) hf trivial
      exact ⟨r.fn, a, M.lib.get hr, d⟩
    · rw [if_neg hp] at hx0
      cases hx0
  · rw [M.lamG] at hL
    obtain ⟨l, hl, e⟩ := List.mem_map.mp hL
    cases e
    obtain ⟨r1, r2, r3, r4, r5⟩ := M.lamR.get hl
    exact @saidIn_of G Fs K h mg (clxOf K xs tn) l X Gm (M.lamB l hl) r1 r3 r2 r4 r5
theorem ModX.tabF (M : ModX rows G Fs lams xs tn K) (X : K.In h) (Gm : h.Ns mainGlobals mg) {base : Heap} {cs : List (Addr × Addr)} (hcs : ∀ x ∈ tn, ∀ c P, PySem.W.tabIn K x = some (c, P) → (c, P) ∈ cs) (tb : ∀ p ∈ cs, TabB base mg p.1 p.2) : @TabF (clxOf K xs tn) G K mg base := by
  refine @TabF.mk (clxOf K xs tn) G K mg base fun f x a sc cdv hlf hx hm hlk => ?_
  have hxt := M.lfn f x hlf hx
  obtain ⟨c, P, ht, _⟩ := M.tabs.get hxt
  have eP : tabP K x = P := by unfold tabP; rw [ht]
  have hx2 := hx
  rw [M.fnG] at hx2
  have hx2 : (rows.find? fun r => Nat.beq r.id f).map (·.x) = some x := hx2
  obtain ⟨pg, bg, dV, kV, doc, pm, ct, oc, an, od, osl, lk⟩ := hlk
  have ec : cdv = .ref c := by
    cases e : rows.find? fun r => Nat.beq r.id f with
    | none => rw [e] at hx2; cases hx2
    | some r =>
      rw [e] at hx2
      cases hx2
      obtain ⟨a2, fd, F, ns⟩ := M.fnf.get (List.mem_of_find?_eq_some e)
      have ea : a2 = a := Value.ref.inj (Option.some.inj ((PySem.W.mg_of X Gm ns).symm.trans hm))
      subst ea
      unfold PySem.W.tabIn at ht
      rw [ns] at ht
      have ht : (match K.lookup a2 with | some ⟨_, _, .func fd, _⟩ => (match fd.code with | .ref c => (match K.lookup c with | some ⟨_, _, .fields vs, _⟩ => (match (vs[11]? : Option Value) with | some (.ref P) => some (c, P) | _ => none) | _ => none) | _ => none) | _ => none) = some (c, P) := ht
      rw [lk] at ht
      cases cdv <;> first | (cases ht; done) | skip
      rename_i c2
      have ht : (match K.lookup c2 with | some ⟨_, _, .fields vs, _⟩ => (match (vs[11]? : Option Value) with | some (.ref P) => some (c2, P) | _ => none) | _ => none) = some (c, P) := ht
      split at ht
      · split at ht
        · cases ht; rfl
        · cases ht
      · cases ht
  refine ⟨c, P, ec, tb (c, P) (hcs x hxt c P ht), ?_, fun p hp e => ?_⟩
  · refine List.mem_map.mpr ⟨x, hxt, ?_⟩
    rw [eP]
  · obtain ⟨y, hy, rfl⟩ := List.mem_map.mp hp
    have e : tabP K y = tabP K x := by rw [eP]; exact e
    obtain ⟨i, hi, rfl⟩ := List.mem_iff_getElem.mp hy
    obtain ⟨j, hj, rfl⟩ := List.mem_iff_getElem.mp hxt
    have ij : i = j := nodupAt (a := tabP K tn[j]) M.tnd (by rw [List.getElem?_map, List.getElem?_eq_getElem hi]; exact congrArg some e) (by rw [List.getElem?_map, List.getElem?_eq_getElem hj]; rfl)
    subst ij
    rfl
end
@[irreducible] def LawOk (F : Nat → Option Fn) (f : Nat) : Prop := ∀ ns : List Int, ns.length ≤ 63 → RO (call F 60 f [.lst (ns.map .int)] []) fun d _ => d = .bl true
theorem LawOk.of {F : Nat → Option Fn} {f : Nat} (h : ∀ ns : List Int, ns.length ≤ 63 → RO (call F 60 f [.lst (ns.map .int)] []) fun d _ => d = .bl true) : LawOk F f := by
  unfold LawOk; exact h
theorem LawOk.to {F : Nat → Option Fn} {f : Nat} (h : LawOk F f) : ∀ ns : List Int, ns.length ≤ 63 → RO (call F 60 f [.lst (ns.map .int)] []) fun d _ => d = .bl true := by
  unfold LawOk at h; exact h
/-- THE END -/
theorem walk_meX {l : PySem.W.OpenLaw} {f : Nat} {q : Program} {loose : List PySem.Str} {XP : (PySem.Str → Option Value) → Heap → Prop} {YP : World → Heap → Prop} {d : DefRec} {K : Params → PySem.W.Frag} {rows : List Row} {G : Sig} {Fs : Nat → Option Fn} {lams : List LRow} {xs tn : List PySem.Str}
    (hn : l.most = some 63) (hn2 : 63 ≤ sizeLine) (hdf : d.params.defaults = []) (hr : Room 60 callerA) (hY : ∀ (w : World) (h : Heap), YP w h → (K w.params).In h) (noL : ∀ w : World, noLst (K w.params) = true)
    (hx : G.fn f = some d.name) (M : ∀ w : World, ModX rows G Fs lams xs tn (K w.params)) (hrec : AllF (fun x => ((recsOf q).find? fun e => e.name == x).isSome = true) tn)
    (hP : ∀ P', G.prg = some P' → P' = l.prog) (law : LawOk Fs f) : PySem.W.WalkO q loose XP YP l.row.toRowW d [] (fun f vs => PySem.call f vs) := by
  refine Att.attach_call hn hdf fun w s0 s1 mg mb fa o pm cd doc a vs ns GG Y ho hd hcd hmg hobj hints hlen hg => ?_
  have KX := hY w _ Y
  have MX := M w
  obtain ⟨M1, M0, SI⟩ := MX.modIn KX GG.T.g
  obtain ⟨fn', a', hF', hD⟩ := @ModIn.fn (clxOf (K w.params) xs tn) _ _ _ _ M1 f _ hx
  obtain ⟨x2, pst2, fd2, N2, ps2, m2, n2, hx2, _, hmx2, _⟩ := hD.it
  cases hx.symm.trans hx2
  cases hmg.symm.trans hmx2
  let cs : List (Addr × Addr) := tn.filterMap fun x => PySem.W.tabIn (K w.params) x
  have hcs : ∀ x ∈ tn, ∀ c P, PySem.W.tabIn (K w.params) x = some (c, P) → (c, P) ∈ cs := fun x hx c P e => List.mem_filterMap.mpr ⟨x, hx, e⟩
  refine @law_me (clxOf (K w.params) xs tn) G Fs l.prog w (K w.params) mg mb 60 f fn' fa a s1 vs ns cs M1 (fun base tb => @lamM_of (clxOf (K w.params) xs tn) _ _ _ _ _ _ _ hP M1 M0 (MX.tabF KX GG.T.g hcs tb) SI) MX.flags.2 (fun p hp => ?_) (fun q hq => ?_)
    hF' hD KX GG.T.g GG.T.b GG.T.builtins GG.T.nolimit hg GG.T.bmain hobj hints (Nat.le_trans hlen hn2) hr (noL w) hP (law.to ns hlen)
  · obtain ⟨x, hxt, e⟩ := List.mem_filterMap.mp hp
    obtain ⟨c, P, e2, far⟩ := MX.tabs.get hxt
    rw [e] at e2
    cases e2
    obtain ⟨d', hd'⟩ := Option.isSome_iff_exists.mp (hrec.get hxt)
    obtain ⟨t1, t2⟩ := PySem.W.tab_of GG.T KX hd' e
    exact ⟨t2, far, t1⟩
  · obtain ⟨x, hxt, rfl⟩ := List.mem_map.mp (show q ∈ tn.map _ from hq)
    obtain ⟨c, P, e2, far⟩ := MX.tabs.get hxt
    exact ⟨(c, P), hcs x hxt c P e2, by show P = tabP _ x; unfold tabP; rw [e2]⟩
end LB
/-! LB19c: the parts of the end, by what the top has written. -/
namespace LB
open PySem PySem.Spec PyProof.Rows L2 LamX
section
variable {K : PySem.W.Frag}
theorem clsAt_of {x : PySem.Str} {C : Addr} (h : PySem.W.nsIn K mainGlobals x = some (some (.ref C))) : clsAt K x = C := by
  unfold clsAt
  rw [h]
theorem clsF1_of {x0 x : PySem.Str} {C0 C : Addr} {cd : ClassData} (h0 : PySem.W.nsIn K mainGlobals x0 = some (some (.ref C0))) (h1 : PySem.W.nsIn K mainGlobals x = some (some (.ref C))) (h2 : PySem.W.clsIn K C = some cd) (h3 : cd.mro = .ref C :: .ref C0 :: veTail) (h4 : cd.hasDict = true)
    (h5 : PySem.W.findIn K (.ref C) "__getattribute__" = some (some (.builtin "BaseException.__getattribute__"))) (h6 : PySem.W.findIn K (.ref C) "__getattr__" = some none) (h7 : PySem.W.findIn K (.ref C) "__class__" = some (some (.builtin "object.__class__")))
    (h8 : PySem.W.typeIn K (.ref C) = some (.type "type")) (h9 : PySem.W.keepIn K (.ref C) = true) (h10 : PySem.W.findIn K (.ref C) "amount" = some none) (h11 : PySem.W.findIn K (.ref C) "limit" = some none) : ClsF K (clsAt K x0) x := by
  rw [clsAt_of h0]
  exact clsF1 h1 h2 h3 h4 h5 h6 h7 h8 h9 h10 h11
theorem clsF0_of {x : PySem.Str} {C : Addr} {cd : ClassData} (h1 : PySem.W.nsIn K mainGlobals x = some (some (.ref C))) (h2 : PySem.W.clsIn K C = some cd) (h3 : cd.mro = .ref C :: veTail) (h4 : cd.hasDict = true)
    (h5 : PySem.W.findIn K (.ref C) "__getattribute__" = some (some (.builtin "BaseException.__getattribute__"))) (h6 : PySem.W.findIn K (.ref C) "__getattr__" = some none) (h7 : PySem.W.findIn K (.ref C) "__class__" = some (some (.builtin "object.__class__")))
    (h8 : PySem.W.typeIn K (.ref C) = some (.type "type")) (h9 : PySem.W.keepIn K (.ref C) = true) (h10 : PySem.W.findIn K (.ref C) "amount" = some none) (h11 : PySem.W.findIn K (.ref C) "limit" = some none) : ClsF K (clsAt K x) x := by
  rw [clsAt_of h1]
  exact clsF0 h1 h2 h3 h4 h5 h6 h7 h8 h9 h10 h11
def Nss (K : PySem.W.Frag) : List PySem.Str → List Addr → Prop
  | [], [] => True
  | x :: xs, C :: Cs => PySem.W.nsIn K mainGlobals x = some (some (.ref C)) ∧ Nss K xs Cs
  | _, _ => False
theorem nss_nil : Nss K [] [] := trivial
theorem nss_cons {x : PySem.Str} {C : Addr} {xs : List PySem.Str} {Cs : List Addr} (h : PySem.W.nsIn K mainGlobals x = some (some (.ref C))) (t : Nss K xs Cs) : Nss K (x :: xs) (C :: Cs) := ⟨h, t⟩
theorem nss_map : ∀ {xs : List PySem.Str} {Cs : List Addr}, Nss K xs Cs → xs.map (clsAt K) = Cs
  | [], [], _ => rfl
  | x :: xs, C :: Cs, h => by rw [List.map_cons, clsAt_of h.1, nss_map h.2]
theorem nss_nd {xs : List PySem.Str} {Cs : List Addr} (h : Nss K xs Cs) (n : Cs.Nodup) : (xs.map (clsAt K)).Nodup := by rw [nss_map h]; exact n
theorem tab_of' {x : PySem.Str} {f c P : Addr} {oc oc2 : Value} {od od2 : Option Addr} {osl osl2 : Array (Option Value)} {fd : FuncData} {vs : Array Value} (h1 : PySem.W.nsIn K mainGlobals x = some (some (.ref f)))
    (h2 : K.lookup f = some ⟨oc, od, .func fd, osl⟩) (h3 : fd.code = .ref c) (h4 : K.lookup c = some ⟨oc2, od2, .fields vs, osl2⟩) (h5 : (vs[11]? : Option Value) = some (.ref P)) : PySem.W.tabIn K x = some (c, P) := by
  unfold PySem.W.tabIn
  rw [h1]
  show (match K.lookup f with | some ⟨_, _, .func fd, _⟩ => (match fd.code with | .ref c => (match K.lookup c with | some ⟨_, _, .fields vs, _⟩ => (match (vs[11]? : Option Value) with | some (.ref P) => some (c, P) | _ => none) | _ => none) | _ => none) | _ => none) = some (c, P)
  rw [h2]
  show (match fd.code with | .ref c => (match K.lookup c with | some ⟨_, _, .fields vs, _⟩ => (match (vs[11]? : Option Value) with | some (.ref P) => some (c, P) | _ => none) | _ => none) | _ => none) = some (c, P)
  rw [h3]
  show (match K.lookup c with | some ⟨_, _, .fields vs, _⟩ => (match (vs[11]? : Option Value) with | some (.ref P) => some (c, P) | _ => none) | _ => none) = some (c, P)
  rw [h4]
  show (match (vs[11]? : Option Value) with | some (.ref P) => some (c, P) | _ => none) = some (c, P)
  rw [h5]
def Tbs (K : PySem.W.Frag) : List PySem.Str → List Addr → Prop
  | [], [] => True
  | x :: xs, P :: Ps => (∃ c, PySem.W.tabIn K x = some (c, P) ∧ K.lookup P = none) ∧ Tbs K xs Ps
  | _, _ => False
theorem tbs_nil : Tbs K [] [] := trivial
theorem tbs_cons {x : PySem.Str} {c P : Addr} {xs : List PySem.Str} {Ps : List Addr} (h : PySem.W.tabIn K x = some (c, P)) (l : K.lookup P = none) (t : Tbs K xs Ps) : Tbs K (x :: xs) (P :: Ps) := ⟨⟨c, h, l⟩, t⟩
theorem tbs_map : ∀ {xs : List PySem.Str} {Cs : List Addr}, Tbs K xs Cs → xs.map (tabP K) = Cs
  | [], [], _ => rfl
  | x :: xs, C :: Cs, h => by
    obtain ⟨⟨c, e, _⟩, h2⟩ := h
    have : tabP K x = C := by unfold tabP; rw [e]
    rw [List.map_cons, this, tbs_map h2]
theorem tbs_all : ∀ {xs : List PySem.Str} {Cs : List Addr}, Tbs K xs Cs → AllF (fun x => ∃ c P, PySem.W.tabIn K x = some (c, P) ∧ K.lookup P = none) xs
  | [], [], _ => trivial
  | x :: xs, C :: Cs, h => ⟨by obtain ⟨⟨c, e, l⟩, _⟩ := h; exact ⟨c, C, e, l⟩, tbs_all h.2⟩
theorem tbs_nd {xs : List PySem.Str} {Cs : List Addr} (h : Tbs K xs Cs) (n : Cs.Nodup) : (xs.map (tabP K)).Nodup := by rw [tbs_map h]; exact n
def exnOf (xs : List PySem.Str) : List (Nat × PySem.Str) := (List.range xs.length).map fun c => (c, xs.getD c "")
theorem exnOf_ok {xs : List PySem.Str} : ∀ c x, (c, x) ∈ exnOf xs → c < xs.length ∧ x = xs.getD c "" := fun c x h => by
  obtain ⟨i, hi, e⟩ := List.mem_map.mp h
  cases e
  exact ⟨List.mem_range.mp hi, rfl⟩
theorem rz_of {x : PySem.Str} {C : Addr} (h : PySem.W.nsIn K mainGlobals x = some (some (.ref C))) (e : PySem.W.excIn K C veTail "ValueError.__new__" = true) : PySem.W.excIn K (clsAt K x) veTail "ValueError.__new__" = true := by
  rw [clsAt_of h]
  exact e
/-- a class made with two ints, by what the top has written -/
theorem ini_of {P : Program} {x name qual msg file : PySem.Str} {C C0 f cda cc : Addr} {cd : ClassData} {st : Stmt} {dV kV doc pm ct oc ccl cl : Value} {an od cdd cld : Option Addr} {osl ccs csl : Array (Option Value)} {ar : Arg} {vs : Array Value} {tf : Tok} {j : Nat} {p0 p1 p2 p3 p4 p5 q1 q2 q3 q4 r1 r2 r3 r4 : Pos} {nm q : PySem.Str} {N : Addr} {bs bm : List Value} {sn : List PySem.Str} {sub : List Value} {ab : Bool} {col : Option Bool} {dd : Option Addr} {k0 k1 k2 k3 k5 : Option Value}
    (h1 : PySem.W.nsIn K mainGlobals x = some (some (.ref C))) (h2 : PySem.W.clsIn K C = some cd) (h3 : cd.mro = .ref C :: .ref C0 :: veTail) (hne : (C == C0) = false) (h4 : PySem.W.findIn K (.ref C) "__init__" = some (some (.ref f))) (h5 : PySem.W.typeIn K (.ref f) = some (.type "function"))
    (h6 : K.lookup f = some ⟨oc, od, .func (PySem.W.ksFn name qual (L2.defArgs st) (L2.defBody st) (L2.defScope st) dV kV doc pm an (.ref cda) ct cc), osl⟩) (h7 : PySem.W.codeIn K (.ref cda) qual = true) (h8 : ((L2.defArgs st).posonlyargs ++ (L2.defArgs st).args).head? = some ar) (h9 : ar.arg = "self")
    (h10 : K.lookup cda = some ⟨ccl, cdd, .fields vs, ccs⟩) (h11 : vs[2]? = some (.str file tf)) (h12 : ((P.main.file : PySem.Str) == file) = true) (h13 : K.lookup cc = some ⟨cl, cld, .cell (some (.ref C)), csl⟩)
    (hb : L2.defBody st = [.Expr (.Call (.Attribute (.Call (.Name "super" p0) [] [] p1) "__init__" p2) [.Constant (.str msg) j p3] [] p4) p5, .Assign [.Attribute (.Name "self" q1) "amount" q2] (.Name "amount" q3) q4, .Assign [.Attribute (.Name "self" r1) "limit" r2] (.Name "limit" r3) r4])
    (hs : (decide ((L2.defScope st).kind = .function) && !(L2.defScope st).isCoroutine && !(L2.defScope st).isGenerator && ((L2.defScope st).names.all fun x => !decide (x.2 = .cell)) && decide ((L2.defScope st).names.lookup ("super" : PySem.Str) = some .globalImplicit) && decide ((L2.defScope st).names.lookup ("__class__" : PySem.Str) = some .free) &&
      decide ((L2.defScope st).names.lookup ("self" : PySem.Str) = some .local) && decide ((L2.defScope st).names.lookup ("amount" : PySem.Str) = some .local) && decide ((L2.defScope st).names.lookup ("limit" : PySem.Str) = some .local) && (p2.endLine == p4.line)) = true)
    (h14 : PySem.W.ks_superIn K C C "__init__" = some (some (.builtin "ValueError.__init__"))) (h15 : PySem.W.nsIn K mainGlobals "super" = some none) (h16 : PySem.W.nsIn K cStatics "thirdparty.any" = some none) (h17 : (P.main.scope.names.lookup ("super" : PySem.Str)).isSome = false)
    (h18 : K.lookup C = some (excClassObj nm q C N bs bm true sn sub ab col dd k0 k1 k2 k3 k5 "ValueError.__new__")) (h19 : PySem.HandSPX.refsVE bm = true) (h20 : PySem.W.findIn K (.ref C) "__setattr__" = some (some (.builtin "object.__setattr__"))) (h21 : PySem.W.subIn K (.ref C) (.type "BaseException") = some true)
    (h22 : PySem.W.typeIn K (.ref C) = some (.type "type")) (h23 : PySem.W.keepIn K (.ref C) = true) (h24 : PySem.W.findIn K (.ref C) "amount" = some none) (h25 : PySem.W.findIn K (.ref C) "limit" = some none)
    (h26 : ∀ us : List Value, us.length = 3 → bindArgs (PySem.W.ksFn name qual (L2.defArgs st) (L2.defBody st) (L2.defScope st) dV kV doc pm an (.ref cda) ct cc) ⟨us, []⟩ = pure ((["self", "amount", "limit"] : List PySem.Str).zip us)) :
    IniC P K (clsAt K x) := by
  rw [clsAt_of h1]
  simp only [Bool.and_eq_true, decide_eq_true_eq, Bool.not_eq_true', List.all_eq_true, decide_eq_false_iff_not] at hs
  obtain ⟨⟨⟨⟨⟨⟨⟨⟨⟨s1, s2⟩, s3⟩, s4⟩, s5⟩, s6⟩, s7⟩, s8⟩, s9⟩, s10⟩ := hs
  rw [hb] at h6 h26
  refine ⟨C0, f, _, ⟨⟨name, qual, msg, file, L2.defArgs st, L2.defScope st, dV, kV, doc, pm, ct, oc, ccl, cl, an, od, cdd, cld, osl, ccs, csl, cda, cc, ar, vs, tf, j, p0, p1, p2, p3, p4, p5, q1, q2, q3, q4, r1, r2, r3, r4, rfl, h6, h7, h8, h9, h10, h11, h12, h13, ⟨s1, s2, s3, s4⟩, ⟨s5, s6, s7, s8, s9⟩, s10⟩, ⟨cd, h2, h3⟩, fun e => by rw [e] at hne; simp at hne, ?_, h15, h16, h17, ⟨⟨nm, q, N, bs, bm, sn, sub, ab, col, dd, k0, k1, k2, k3, k5, h18, h19⟩, h20, h21, h22, h23⟩, h24, h25⟩, h4, h5, Binds.all h26⟩
  unfold PySem.W.ks_superIn at h14
  rw [h2, Option.bind_some, h3] at h14
  simpa [List.dropWhile] using h14
theorem allF_mem {α : Type} {p : α → Prop} {l : List α} (h : AllF p l) : ∀ x ∈ l, p x := fun x hx => h.get hx
theorem lamR2 {Fs : Nat → Option Fn} {sr kr : Row} (hs : FnF K sr) (hk : FnF K kr) (bs : Bnd sr) (bk : Bnd kr) : ∀ {lams : List LRow}, AllF (fun l : LRow => l.sr = sr ∧ l.kr = kr ∧ LamFs Fs l) lams → AllF (fun l : LRow => FnF K l.sr ∧ FnF K l.kr ∧ Bnd l.sr ∧ Bnd l.kr ∧ LamFs Fs l) lams
  | [], _ => trivial
  | l :: r, ⟨⟨e1, e2, h⟩, t⟩ => ⟨⟨by rw [e1]; exact hs, by rw [e2]; exact hk, by rw [e1]; exact bs, by rw [e2]; exact bk, h⟩, lamR2 hs hk bs bk t⟩
theorem modX_of {rows : List Row} {G : Sig} {Fs : Nat → Option Fn} {lams : List LRow} {xs tn : List PySem.Str} {Ps : List Addr} (fnG : G.fn = fun i => (rows.find? fun r => Nat.beq r.id i).map (·.x)) (flags : G.hot = false ∧ G.rp = true) (hB : ∀ r ∈ rows, rowB G r = true) (hP : ∀ r ∈ rows, (G.pf.any fun n => Nat.beq n r.id) = true → rowB G.prog r = true)
    (lib : LibF Fs rows) (bnd : AllF Bnd rows) (fnf : AllF (FnF K) rows) (con : ConF K G.con) (blt : NoBlt K bltNames) (ve : PySem.W.nsIn K mainGlobals "ValueError" = some none) (kw : AllKw rows G.kw) (ex : ExAll K xs)
    (exn : ∀ c x, (c, x) ∈ G.exn → c < xs.length ∧ x = xs.getD c "") (rz : ∀ c ∈ G.raz, PySem.W.excIn K (clsAt K (xs.getD c "")) veTail "ValueError.__new__" = true) (ini : ∀ c ∈ G.ini, ∃ P, G.prg = some P ∧ IniC P K (clsAt K (xs.getD c ""))) (lamG : G.lam = lams.map fun l => (l.s, l.L)) (lamB : ∀ l ∈ lams, lamRB G l = true)
    (lamR : AllF (fun l : LRow => FnF K l.sr ∧ FnF K l.kr ∧ Bnd l.sr ∧ Bnd l.kr ∧ LamFs Fs l) lams) (tabs : Tbs K tn Ps) (tnd : Ps.Nodup) (lfn : ∀ f x, (G.lf.any fun n => Nat.beq n f) = true → G.fn f = some x → x ∈ tn) : ModX rows G Fs lams xs tn K :=
  ⟨fnG, flags, hB, hP, lib, bnd, fnf, con, blt, ve, kw, ex, exn, rz, ini, lamG, lamB, lamR, tbs_all tabs, tbs_nd tabs tnd, lfn⟩
end
end LB
namespace KK
abbrev icl0 : LB.Clx := LB.clx0
scoped instance icl : LB.Clx := icl0
end KK

namespace KK
open LB
/-! FA: the road of evaluation -/
class Has (F : Nat → Option Fn) (n : Nat) (f : Fn) : Prop where
  eq : F n = some f
theorem call_h {F : Nat → Option Fn} {n : Nat} {f : Fn} [h : Has F n f] (k : Nat) (ds : List D) (st : Store) : call F (k + 1) n ds st = if ds.length == f.ps then (exs (call F k) f.body (enter f ds) st).fin else .bad := by
  rw [call_s, h.eq]
theorem lenOk_le {n : Nat} (h : n ≤ 100000) : lenOk n = true := by
  unfold lenOk
  exact Nat.ble_eq.mpr (by omega)
/-! comprehensions -/
theorem comp_all {f : D → Store → Res (Option D)} {st : Store} {α : Type} {i g : α → D} : ∀ {ds : List α}, (∀ d ∈ ds, f (i d) st = .ok (some (g d)) st) → compM f (ds.map i) st = .ok (ds.map g) st
  | [], _ => rfl
  | d :: ds, h => by
    show (f (i d) st).bind _ = _
    rw [h d (.head _), rb, comp_all fun x hx => h x (.tail _ hx)]
    rfl
theorem ev_comp {T : Tab} {m : Md} {e it : E} {tg : Tg} {own : List (PySem.Str × Nat)} {env : Env} {st st0 : Store} {α : Type} {i g : α → D} {ds : List α} (hi : evE T it .i env st0 = .ok (.lst (ds.map i)) st) (hl : ds.length ≤ 100000)
    (h : ∀ d ∈ ds, ∃ env', setTg (wipe env (own.map (·.2))) tg (i d) = some env' ∧ evE T e .v env' st = .ok (g d) st) : evE T (.comp e tg it [] own) m env st0 = post m (.lst (ds.map g)) st := by
  simp only [evE, hi, rb]
  rw [comp_all (g := g) fun d hd => ?_]
  · simp [rb, lenOk_le, hl]
  · obtain ⟨env', h1, h2⟩ := h d hd
    rw [h1]
    simp [evC, rb, h2]
theorem comp_filter {f : D → Store → Res (Option D)} {st : Store} {α : Type} {i g : α → D} {p : α → Bool} : ∀ {ds : List α}, (∀ d ∈ ds, f (i d) st = .ok (if p d then some (g d) else none) st) → compM f (ds.map i) st = .ok ((ds.filter p).map g) st
  | [], _ => rfl
  | d :: ds, h => by
    show (f (i d) st).bind _ = _
    rw [h d (.head _), rb, comp_filter fun x hx => h x (.tail _ hx)]
    by_cases q : p d = true
    · rw [List.filter_cons_of_pos q]; simp [rb, q]
    · rw [List.filter_cons_of_neg q]; simp [rb, q]
theorem ev_compF {T : Tab} {m : Md} {e it c : E} {tg : Tg} {own : List (PySem.Str × Nat)} {env : Env} {st st0 : Store} {α : Type} {i g : α → D} {p : α → Bool} {ds : List α} (hi : evE T it .i env st0 = .ok (.lst (ds.map i)) st) (hl : ds.length ≤ 100000)
    (h : ∀ d ∈ ds, ∃ env', setTg (wipe env (own.map (·.2))) tg (i d) = some env' ∧ evE T c .t env' st = .ok (.bl (p d)) st ∧ (p d = true → evE T e .v env' st = .ok (g d) st)) : evE T (.comp e tg it [c] own) m env st0 = post m (.lst ((ds.filter p).map g)) st := by
  simp only [evE, hi, rb]
  rw [comp_filter (g := g) (p := p) fun d hd => ?_]
  · simp [rb, lenOk_le, hl]
  · obtain ⟨env', h1, h2, h3⟩ := h d hd
    rw [h1]
    by_cases q : p d = true
    · simp [evC, rb, h2, h3 q, q]
    · simp [evC, rb, h2, q]
/-- .. that changes the store -/
theorem compM_inv {f : D → Store → Res (Option D)} {I : Store → Prop} {P : D → Prop} : ∀ (ds : List D) (st : Store), I st → (∀ d ∈ ds, ∀ st, I st → ∃ y st', f d st = .ok (some y) st' ∧ I st' ∧ P y) →
    ∃ ys st', compM f ds st = .ok ys st' ∧ I st' ∧ ys.length = ds.length ∧ ∀ y ∈ ys, P y
  | [], st, h, _ => ⟨[], st, rfl, h, rfl, fun _ z => nomatch z⟩
  | d :: ds, st, h, k => by
    obtain ⟨y, st1, e1, h1, p1⟩ := k d (.head _) st h
    obtain ⟨ys, st2, e2, h2, l2, p2⟩ := compM_inv ds st1 h1 fun x hx => k x (.tail _ hx)
    refine ⟨y :: ys, st2, ?_, h2, congrArg (· + 1) l2, fun z hz => ?_⟩
    · show (f d st).bind _ = _
      rw [e1, rb, e2]
      rfl
    · rcases List.mem_cons.mp hz with e | hz
      · rw [e]; exact p1
      · exact p2 z hz
theorem ev_compS {T : Tab} {m : Md} {e it : E} {tg : Tg} {own : List (PySem.Str × Nat)} {env : Env} {st st1 : Store} {ds : List D} {I : Store → Prop} {P : D → Prop} (hi : evE T it .i env st = .ok (.lst ds) st1) (hl : ds.length ≤ 100000) (h1 : I st1)
    (h : ∀ d ∈ ds, ∀ st, I st → ∃ env' y st', setTg (wipe env (own.map (·.2))) tg d = some env' ∧ evE T e .v env' st = .ok y st' ∧ I st' ∧ P y) :
    ∃ ys st', evE T (.comp e tg it [] own) m env st = post m (.lst ys) st' ∧ I st' ∧ ys.length = ds.length ∧ ∀ y ∈ ys, P y := by
  obtain ⟨ys, st2, e2, h2, l2, p2⟩ := compM_inv (f := fun d st => match setTg (wipe env (own.map (·.2))) tg d with
    | some env' => (evC T [] env' st).bind fun k st2 => if k then (evE T e .v env' st2).bind fun y st3 => .ok (some y) st3 else .ok none st2
    | none => .bad) (I := I) (P := P) ds st1 h1 fun d hd st hst => by
      obtain ⟨env', y, st', a, b, c, p⟩ := h d hd st hst
      refine ⟨y, st', ?_, c, p⟩
      rw [a]
      simp [evC, rb, b]
  refine ⟨ys, st2, ?_, h2, l2, p2⟩
  simp only [evE, hi, rb]
  exact (congrArg (fun z : Res (List D) => z.bind fun r st2 => if lenOk ds.length = true then post m (.lst r) st2 else .bad) e2).trans (by simp [rb, lenOk_le hl])
/-- side by side -/
inductive Fa {α β : Type} (R : α → β → Prop) : List α → List β → Prop
  | nil : Fa R [] []
  | cons {a : α} {b : β} {l : List α} {m : List β} : R a b → Fa R l m → Fa R (a :: l) (b :: m)
theorem Fa.len {α β : Type} {R : α → β → Prop} : ∀ {l : List α} {m : List β}, Fa R l m → m.length = l.length
  | _, _, .nil => rfl
  | _, _, .cons _ h => congrArg (· + 1) h.len
theorem Fa.imp {α β : Type} {R S : α → β → Prop} (k : ∀ a b, R a b → S a b) : ∀ {l : List α} {m : List β}, Fa R l m → Fa S l m
  | _, _, .nil => .nil
  | _, _, .cons r h => .cons (k _ _ r) (h.imp k)
theorem Fa.right {α β : Type} {R : α → β → Prop} : ∀ {l : List α} {m : List β}, Fa R l m → ∀ b ∈ m, ∃ a ∈ l, R a b
  | _, _, .nil, _, h => by cases h
  | _, _, .cons r h, b, hb => by
    rcases List.mem_cons.mp hb with e | hb
    · subst e; exact ⟨_, .head _, r⟩
    · obtain ⟨a, ha, q⟩ := h.right b hb
      exact ⟨a, .tail _ ha, q⟩
theorem compM_rel {f : D → Store → Res (Option D)} {I : Store → Prop} {α β : Type} {i : α → D} {g : β → D} {R : α → β → Prop} : ∀ (l : List α) (st : Store), I st → (∀ a ∈ l, ∀ st, I st → ∃ b st', f (i a) st = .ok (some (g b)) st' ∧ I st' ∧ R a b) →
    ∃ m st', compM f (l.map i) st = .ok (m.map g) st' ∧ I st' ∧ Fa R l m
  | [], st, h, _ => ⟨[], st, rfl, h, .nil⟩
  | d :: ds, st, h, k => by
    obtain ⟨y, st1, e1, h1, p1⟩ := k d (.head _) st h
    obtain ⟨ys, st2, e2, h2, p2⟩ := compM_rel ds st1 h1 fun x hx => k x (.tail _ hx)
    refine ⟨y :: ys, st2, ?_, h2, .cons p1 p2⟩
    show (f (i d) st).bind _ = _
    rw [e1, rb, e2]
    rfl
theorem ev_compR {T : Tab} {m : Md} {e it : E} {tg : Tg} {own : List (PySem.Str × Nat)} {env : Env} {st st1 : Store} {α β : Type} {i : α → D} {g : β → D} {l : List α} (I : Store → Prop) (R : α → β → Prop) (hi : evE T it .i env st = .ok (.lst (l.map i)) st1) (hl : l.length ≤ 100000) (h1 : I st1)
    (h : ∀ a ∈ l, ∀ st, I st → ∃ env' b st', setTg (wipe env (own.map (·.2))) tg (i a) = some env' ∧ evE T e .v env' st = .ok (g b) st' ∧ I st' ∧ R a b) :
    ∃ bs st', evE T (.comp e tg it [] own) m env st = post m (.lst (bs.map g)) st' ∧ I st' ∧ Fa R l bs := by
  obtain ⟨ys, st2, e2, h2, p2⟩ := compM_rel (f := fun d st => match setTg (wipe env (own.map (·.2))) tg d with
    | some env' => (evC T [] env' st).bind fun k st2 => if k then (evE T e .v env' st2).bind fun y st3 => .ok (some y) st3 else .ok none st2
    | none => .bad) (I := I) (R := R) (i := i) (g := g) l st1 h1 fun d hd st hst => by
      obtain ⟨env', y, st', a, b, c, p⟩ := h d hd st hst
      refine ⟨y, st', ?_, c, p⟩
      rw [a]
      simp [evC, rb, b]
  refine ⟨ys, st2, ?_, h2, p2⟩
  simp only [evE, hi, rb]
  exact (congrArg (fun z : Res (List D) => z.bind fun r st2 => if lenOk (l.map i).length = true then post m (.lst r) st2 else .bad) e2).trans (by simp [rb, lenOk_le hl])
/-- values with a property come from typed ones -/
theorem lift_all {α : Type} {f : α → D} : ∀ {ys : List D}, (∀ y ∈ ys, ∃ a, y = f a) → ∃ as : List α, ys = as.map f
  | [], _ => ⟨[], rfl⟩
  | y :: ys, h => by
    obtain ⟨a, rfl⟩ := h y (.head _)
    obtain ⟨as, rfl⟩ := lift_all fun x hx => h x (.tail _ hx)
    exact ⟨a :: as, rfl⟩
/-! loops -/
theorem loop_any {f : D → Env → Store → Out} {I : Env → Store → Prop} : ∀ {ds : List D} {env : Env} {st : Store}, I env st → (∀ d ∈ ds, ∀ env st, I env st → ∃ env' st', f d env st = .nx env' st' ∧ I env' st') →
    ∃ env' st', loop f ds env st = .nx env' st' ∧ I env' st'
  | [], env, st, h, _ => ⟨env, st, rfl, h⟩
  | d :: ds, env, st, h, k => by
    obtain ⟨env1, st1, e1, h1⟩ := k d (.head _) env st h
    obtain ⟨env2, st2, e2, h2⟩ := loop_any (ds := ds) h1 fun x hx => k x (.tail _ hx)
    refine ⟨env2, st2, ?_, h2⟩
    show (match f d env st with | .nx env1 st1 => loop f ds env1 st1 | r => r) = _
    rw [e1]
    exact e2
theorem law_end {F : Nat → Option Fn} {n : Nat} {f : Fn} [h : Has F n f] (hp : f.ps = 1) (e : ∀ ns : List Int, ∃ st, (exs (call F 59) f.body (enter f [.lst (ns.map .int)]) []).fin = .ok (.bl true) st) : LawOk F n := by
  refine LawOk.of fun ns _ => ?_
  obtain ⟨st, e⟩ := e ns
  have : call F (59 + 1) n [.lst (ns.map .int)] [] = .ok (.bl true) st := by
    rw [call_h (f := f), hp]
    exact e
  rw [show (60 : Nat) = 59 + 1 from rfl, this]
  rfl
theorem nx_of {o : Out} {I : Env → Store → Prop} {e : Env} {s : Store} (h : o = .nx e s) (k : I e s) : ∃ e s, o = .nx e s ∧ I e s := ⟨e, s, h, k⟩
/-- a loop that keeps I -/
theorem for_any {T : Tab} {tg : Tg} {it : E} {b : List S} {env : Env} {st st1 : Store} {ds : List D} (hi : evE T it .i env st = .ok (.lst ds) st1) (I : Env → Store → Prop) (h0 : I env st1)
    (hb : ∀ d ∈ ds, ∀ env st, I env st → ∃ env' st', forB T tg b d env st = .nx env' st' ∧ I env' st') : ∃ env' st', ex T (.for_ tg it b) env st = .nx env' st' ∧ I env' st' := by
  rw [ex_for hi]
  exact loop_any h0 hb
/-- a loop as a fold -/
theorem loop_fold {α σ : Type} {f : D → Env → Store → Out} {i : α → D} {E : σ → Env} {step : σ → α → σ} {st : Store} : ∀ {l : List α} {s : σ}, (∀ a ∈ l, ∀ s, f (i a) (E s) st = .nx (E (step s a)) st) → loop f (l.map i) (E s) st = .nx (E (l.foldl step s)) st
  | [], s, _ => rfl
  | a :: l, s, h => by
    show (match f (i a) (E s) st with | .nx env1 st1 => loop f (l.map i) env1 st1 | r => r) = _
    rw [h a (.head _)]
    exact loop_fold fun x hx => h x (.tail _ hx)
theorem for_fold {α σ : Type} {T : Tab} {tg : Tg} {it : E} {b : List S} {i : α → D} {E : σ → Env} {st st0 : Store} {l : List α} {s : σ} (hi : evE T it .i (E s) st0 = .ok (.lst (l.map i)) st) (step : σ → α → σ)
    (h : ∀ a ∈ l, ∀ s, forB T tg b (i a) (E s) st = .nx (E (step s a)) st) : ex T (.for_ tg it b) (E s) st0 = .nx (E (l.foldl step s)) st := by
  rw [ex_for hi]
  exact loop_fold h
/-- .. with what holds of the first so many -/
theorem for_inv {α : Type} {T : Tab} {tg : Tg} {it : E} {b : List S} {i : α → D} {env : Env} {st st0 : Store} {l : List α} (hi : evE T it .i env st0 = .ok (.lst (l.map i)) st) (I : Nat → Env → Store → Prop) (h0 : I 0 env st)
    (h : ∀ j a env st, l[j]? = some a → j < l.length → I j env st → ∃ env' st', forB T tg b (i a) env st = .nx env' st' ∧ I (j + 1) env' st') : ∃ env' st', ex T (.for_ tg it b) env st0 = .nx env' st' ∧ I l.length env' st' := by
  rw [ex_for hi]
  have := loop_inv (f := forB T tg b) (I := I) (ds := l.map i) (n := 0) h0 fun j d env st hd hI => by
    rw [List.getElem?_map] at hd
    cases e : l[j]? with
    | none => rw [e] at hd; cases hd
    | some a =>
      rw [e] at hd
      cases hd
      obtain ⟨env', st', h1, h2⟩ := h j a env st e (List.getElem?_eq_some_iff.mp e).1 (by rw [← Nat.zero_add j]; exact hI)
      exact ⟨env', st', h1, by rw [Nat.zero_add]; exact h2⟩
  rw [List.length_map, Nat.zero_add] at this
  exact this
theorem upto_map : ∀ (n : Nat) (lo : Int), upto lo n = (List.range n).map fun (i : Nat) => D.int (lo + (i : Int))
  | 0, _ => rfl
  | n + 1, lo => by
    rw [List.range_succ_eq_map, List.map_cons, List.map_map]
    show D.int lo :: upto (lo + 1) n = _
    rw [upto_map n]
    congr 1
    · simp
    · refine List.map_congr_left fun i _ => ?_
      show D.int (lo + 1 + (i : Int)) = D.int (lo + ((i + 1 : Nat) : Int))
      congr 1
      omega
theorem mem_upto {lo : Int} {n : Nat} {d : D} (h : d ∈ upto lo n) : ∃ i : Int, d = .int i ∧ lo ≤ i ∧ i < lo + n := by
  rw [upto_map] at h
  obtain ⟨i, hi, rfl⟩ := List.mem_map.mp h
  have := List.mem_range.mp hi
  exact ⟨_, rfl, by omega, by omega⟩
theorem mid_i {i : Int} (h : -4000000 ≤ i) (h2 : i ≤ 4000000) : mid i = true := by
  unfold mid
  simp
  omega
/-! pairs, counted, slices -/
theorem pairs_zip {α β : Type} (f : α → D) (g : β → D) : ∀ (l : List α) (m : List β), pairs (l.map f) (m.map g) = (l.zip m).map fun p => .tup [f p.1, g p.2]
  | [], m => by cases m <;> rfl
  | _ :: _, [] => rfl
  | a :: l, b :: m => congrArg (D.tup [f a, g b] :: ·) (pairs_zip f g l m)
theorem counted_map {α : Type} (f : α → D) : ∀ (l : List α) (n : Nat), counted n (l.map f) = (l.zipIdx n).map fun p => .tup [.int (p.2 : Nat), f p.1]
  | [], _ => rfl
  | a :: l, n => congrArg (D.tup [.int n, f a] :: ·) (counted_map f l (n + 1))
theorem toBls_map {α : Type} {f : α → Bool} : ∀ l : List α, toBls (l.map fun x => .bl (f x)) = some (l.map f)
  | [] => rfl
  | a :: l => by
    show (toBls (l.map fun x => .bl (f x))).map (f a :: ·) = _
    rw [toBls_map l]
    rfl
theorem toInts_map {α : Type} {f : α → Int} : ∀ l : List α, toInts (l.map fun x => .int (f x)) = some (l.map f)
  | [] => rfl
  | a :: l => by
    show (toInts (l.map fun x => .int (f x))).map (f a :: ·) = _
    rw [toInts_map l]
    rfl
theorem toInts_ints : ∀ l : List Int, toInts (l.map .int) = some l
  | [] => rfl
  | a :: l => by
    show (toInts (l.map .int)).map (a :: ·) = _
    rw [toInts_ints l]
    rfl
theorem at_nat {l : List D} {i : Nat} {d : D} (h : l[i]? = some d) : at_ l (i : Int) = some d := by
  have := (List.getElem?_eq_some_iff.mp h).1
  unfold at_ ixN
  rw [if_pos (by omega), if_pos (by omega)]
  simpa using h
theorem at_int {l : List D} {i : Int} {d : D} (h0 : 0 ≤ i) (h : l[i.toNat]? = some d) : at_ l i = some d := by
  have := at_nat h
  rwa [show ((i.toNat : Nat) : Int) = i by omega] at this
theorem at_map {α : Type} {f : α → D} {l : List α} {i : Nat} {a : α} (h : l[i]? = some a) : at_ (l.map f) (i : Int) = some (f a) := at_nat (by rw [List.getElem?_map, h]; rfl)
theorem at0 (a : D) (l : List D) : at_ (a :: l) 0 = some a := at_nat (i := 0) rfl
theorem at1 (a b : D) (l : List D) : at_ (a :: b :: l) 1 = some b := at_nat (i := 1) rfl
theorem at2 (a b c : D) (l : List D) : at_ (a :: b :: c :: l) 2 = some c := at_nat (i := 2) rfl
theorem at_last (xs : List D) (x : D) : at_ (xs ++ [x]) (-1) = some x := by
  have h : LB.ixN (xs ++ [x]).length (-1) = some xs.length := by
    unfold ixN
    rw [if_neg (by decide), if_pos (by rw [List.length_append, List.length_singleton]; omega)]
    rw [List.length_append, List.length_singleton]
    exact congrArg some (by omega)
  unfold at_
  rw [h]
  exact List.getElem?_concat_length ..
theorem cutAt_nat (n i : Nat) : cutAt n (i : Int) = min i n := by
  unfold cutAt
  rw [if_neg (by omega)]
  simp
/-! equality -/
theorem eq_plain {a b : D} (h1 : plain 60 a = true) (h2 : plain 60 b = true) (h3 : ∀ x y, a = .str x → b = .str y → False) : eqD a b = some (eqv a b) := by
  unfold eqD
  split
  · exact (h3 _ _ rfl rfl).elim
  · cases h1
  · rw [h1, h2]; rfl
theorem eqvs_map {α : Type} [DecidableEq α] {f : α → D} (hf : ∀ a b, eqv (f a) (f b) = decide (a = b)) : ∀ l m : List α, eqvs (l.map f) (m.map f) = decide (l = m)
  | [], [] => by simp [eqvs]
  | [], _ :: _ => by simp [eqvs]
  | _ :: _, [] => by simp [eqvs]
  | a :: l, b :: m => by
    show (eqv (f a) (f b) && eqvs (l.map f) (m.map f)) = _
    rw [hf, eqvs_map hf l m]
    simp
theorem tame_i {i : Int} (h : -100000000 ≤ i) (h2 : i ≤ 100000000) : tame (.int i) = true := by
  unfold tame
  exact decide_eq_true (Nat.lt_of_le_of_lt (show i.natAbs ≤ 100000000 by omega) (by decide))
/-- what has a text: so deep, ints that are small, so many parts -/
structure Tx (n k : Nat) (d : D) : Prop where
  p : plain n d = true
  t : tame d = true
  w : wt d ≤ k
structure Txs (n k : Nat) (l : List D) : Prop where
  p : plains n l = true
  t : tames l = true
  w : wts l ≤ k
theorem Tx.repr {d : D} (h : Tx 60 300000 d) : ∃ x, reprD d = some (.str x) := by
  refine ⟨(toPy d).shown, ?_⟩
  unfold reprD
  rw [h.p, h.t, decide_eq_true h.w]
  rfl
mutual
theorem plain_up : ∀ (d : D) (n : Nat), plain n d = true → plain (n + 1) d = true
  | .non, _, _ => by unfold plain; rfl
  | .bl _, _, _ => by unfold plain; rfl
  | .int _, _, _ => by unfold plain; rfl
  | .str x, n, h => by
    have e : ∀ n, plain n (.str x) = x.cps.all (· < 0x110000) := fun n => by cases n <;> rfl
    rw [e] at h ⊢; exact h
  | .tup l, 0, h => by cases h
  | .tup l, n + 1, h => plains_up l n h
  | .lst l, 0, h => by cases h
  | .lst l, n + 1, h => plains_up l n h
  | .dct _ _ _, 0, h => by cases h
  | .dct _ _ _, _ + 1, h => by cases h
  | .ref _, 0, h => by cases h
  | .ref _, _ + 1, h => by cases h
theorem plains_up : ∀ (l : List D) (n : Nat), plains n l = true → plains (n + 1) l = true
  | [], n, h => by cases n <;> rfl
  | d :: ds, n, h => by
    have e : ∀ n, plains n (d :: ds) = (plain n d && plains n ds) := fun n => by cases n <;> rfl
    rw [e, Bool.and_eq_true] at h ⊢
    exact ⟨plain_up d n h.1, plains_up ds n h.2⟩
end
theorem plain_le {d : D} {n m : Nat} (h : plain n d = true) (k : n ≤ m) : plain m d = true := by
  induction k with
  | refl => exact h
  | step _ ih => exact plain_up d _ ih
theorem plains_le {d : List D} {n m : Nat} (h : plains n d = true) (k : n ≤ m) : plains m d = true := by
  induction k with
  | refl => exact h
  | step _ ih => exact plains_up d _ ih
theorem Tx.le {d : D} {n m k j : Nat} (h : Tx n k d) (a : n ≤ m := by omega) (b : k ≤ j := by omega) : Tx m j d := ⟨plain_le h.p a, h.t, Nat.le_trans h.w b⟩
theorem tx_non {n : Nat} : Tx n 1 .non := ⟨by cases n <;> rfl, rfl, Nat.le_refl _⟩
theorem tx_bl {n : Nat} (b : Bool) : Tx n 1 (.bl b) := ⟨by cases n <;> rfl, rfl, Nat.le_refl _⟩
theorem tx_int {n : Nat} {i : Int} (h : -100000000 ≤ i) (h2 : i ≤ 100000000) : Tx n 1 (.int i) := ⟨by cases n <;> rfl, tame_i h h2, Nat.le_refl _⟩
theorem txs_nil {n : Nat} : Txs n 0 [] := ⟨by cases n <;> rfl, rfl, Nat.le_refl _⟩
theorem txs_cons {n k j : Nat} {d : D} {l : List D} (h : Tx n k d) (h2 : Txs n j l) : Txs n (k + j) (d :: l) := by
  refine ⟨?_, ?_, Nat.add_le_add h.w h2.w⟩
  · have e : plains n (d :: l) = (plain n d && plains n l) := by cases n <;> rfl
    rw [e, h.p, h2.p]; rfl
  · show (tame d && tames l) = true
    rw [h.t, h2.t]; rfl
theorem txs_map {α : Type} {n k : Nat} {f : α → D} : ∀ {l : List α}, (∀ a ∈ l, Tx n k (f a)) → Txs n (k * l.length) (l.map f)
  | [], _ => ⟨by cases n <;> rfl, rfl, Nat.le_refl _⟩
  | a :: l, h => by
    have := txs_cons (h a (.head _)) (txs_map fun x hx => h x (.tail _ hx))
    refine ⟨this.p, this.t, ?_⟩
    rw [List.length_cons, Nat.mul_add]
    have := this.w
    show wts (f a :: l.map f) ≤ _
    omega
theorem Txs.tup {n k : Nat} {l : List D} (h : Txs n k l) : Tx (n + 1) (k + 1) (.tup l) := ⟨h.p, h.t, Nat.succ_le_succ h.w⟩
theorem Txs.lst {n k : Nat} {l : List D} (h : Txs n k l) : Tx (n + 1) (k + 1) (.lst l) := ⟨h.p, h.t, Nat.succ_le_succ h.w⟩
theorem Txs.le {d : List D} {n m k j : Nat} (h : Txs n k d) (a : n ≤ m := by omega) (b : k ≤ j := by omega) : Txs m j d := ⟨plains_le h.p a, h.t, Nat.le_trans h.w b⟩

end KK
namespace KK
open LB
/-! FB: latches, banks, states, rows; the program's latches and steps -/
structure Hook where
  lo : Int
  hi : Int
  w : Int
  a : -20 ≤ lo
  b : lo < hi
  c : hi ≤ 20
  d : -99 ≤ w
  e : w ≤ 99
  f : w ≠ 0
deriving DecidableEq
def Hook.key (h : Hook) : Int × Int := (h.lo, h.hi)
theorem Hook.ext' {h g : Hook} (a : h.lo = g.lo) (b : h.hi = g.hi) (c : h.w = g.w) : h = g := by
  cases h; cases g; simp_all
def hookD (h : Hook) : D := .tup [.int h.lo, .int h.hi, .int h.w]
def Hook.lt (h g : Hook) : Prop := h.lo < g.lo ∨ (h.lo = g.lo ∧ h.hi < g.hi)
instance (h g : Hook) : Decidable (h.lt g) := inferInstanceAs (Decidable (_ ∨ _))
structure Bank where
  l : List Hook
  len : l.length ≤ 30
  srt : l.Pairwise Hook.lt
abbrev bankD (b : Bank) : D := .tup (b.l.map hookD)
theorem Bank.le3 (b : Bank) : b.l.length ≤ 100000 := by have := b.len; omega
theorem Bank.le6 (b : Bank) : b.l.length ≤ 1000000 := by have := b.len; omega
structure Lv where
  i : Int
  a : -20 ≤ i
  b : i ≤ 20
deriving DecidableEq
def lvD (l : Lv) : D := .int l.i
abbrev rowD (r : List Lv) : D := .tup (r.map lvD)
def bi (b : Bool) : Int := if b then 1 else 0
def bitD (b : Bool) : D := .int (bi b)
theorem bit0 : bitD false = .int 0 := rfl
theorem bit1 : bitD true = .int 1 := rfl
abbrev stD (s : List Bool) : D := .tup (s.map bitD)
theorem Lv.ext' {a b : Lv} (h : a.i = b.i) : a = b := by cases a; cases b; simp_all
theorem bi_inj {a b : Bool} : bi a = bi b ↔ a = b := by cases a <;> cases b <;> decide
/-! what has a text -/
theorem tx_hook {n : Nat} (h : Hook) : Tx (n + 1) 4 (hookD h) := by
  have a := h.a; have b := h.b; have c := h.c; have d := h.d; have e := h.e
  exact (txs_cons (tx_int (by omega) (by omega)) (txs_cons (tx_int (by omega) (by omega)) (txs_cons (tx_int (by omega) (by omega)) txs_nil))).tup
theorem tx_hooks {n : Nat} {l : List Hook} (h : l.length ≤ 200) : Tx (n + 2) 801 (.tup (l.map hookD)) := (txs_map (n := n + 1) fun h _ => tx_hook h).tup.le (by omega) (by omega)
theorem tx_bank {n : Nat} (b : Bank) : Tx (n + 2) 801 (bankD b) := tx_hooks (by have := b.len; omega)
theorem tx_bit {n : Nat} (b : Bool) : Tx n 1 (bitD b) := by cases b <;> exact tx_int (by decide) (by decide)
theorem tx_st {n : Nat} {s : List Bool} (h : s.length ≤ 1000) : Tx (n + 1) 1001 (stD s) := (txs_map (n := n) fun h _ => tx_bit h).tup.le (by omega) (by omega)
theorem tx_lv {n : Nat} (l : Lv) : Tx n 1 (lvD l) := tx_int (by have := l.a; omega) (by have := l.b; omega)
theorem tx_row {n : Nat} {s : List Lv} (h : s.length ≤ 1000) : Tx (n + 1) 1001 (rowD s) := (txs_map (n := n) fun h _ => tx_lv h).tup.le (by omega) (by omega)
theorem tx_ints {n : Nat} {s : List Int} (h : s.length ≤ 1000) (k : ∀ i ∈ s, -100000000 ≤ i ∧ i ≤ 100000000) : Tx (n + 1) 1001 (.tup (s.map .int)) := (txs_map (n := n) fun i hi => tx_int (k i hi).1 (k i hi).2).tup.le (by omega) (by omega)
/-! equality -/
theorem eqv_int (i j : Int) : eqv (.int i) (.int j) = decide (i = j) := by show (i == j) = _; rfl
theorem eqv_bit (a b : Bool) : eqv (bitD a) (bitD b) = decide (a = b) := by cases a <;> cases b <;> rfl
theorem eqv_lv (a b : Lv) : eqv (lvD a) (lvD b) = decide (a = b) := by
  show (a.i == b.i) = _
  by_cases h : a = b
  · subst h; simp
  · rw [decide_eq_false h]
    have : a.i ≠ b.i := fun z => h (Lv.ext' z)
    simpa using this
theorem eqv_hook (a b : Hook) : eqv (hookD a) (hookD b) = decide (a = b) := by
  show ((a.lo == b.lo) && ((a.hi == b.hi) && ((a.w == b.w) && true))) = _
  by_cases h : a = b
  · subst h; simp
  · rw [decide_eq_false h]
    by_cases h1 : a.lo = b.lo
    · by_cases h2 : a.hi = b.hi
      · have : a.w ≠ b.w := fun z => h (Hook.ext' h1 h2 z)
        simp [h1, h2, this]
      · simp [h1, h2]
    · simp [h1]
theorem eqv_tup (a b : List D) : eqv (.tup a) (.tup b) = eqvs a b := rfl
theorem eqv_lst (a b : List D) : eqv (.lst a) (.lst b) = eqvs a b := rfl
theorem cm_eqX {a b : D} {n k m j : Nat} (h1 : Tx n k a) (h2 : Tx m j b) (h3 : ∀ x, a ≠ .str x) (n60 : n ≤ 60 := by omega) (m60 : m ≤ 60 := by omega) : cm2 .eq a b = some (eqv a b) :=
  eq_plain (plain_le h1.p n60) (plain_le h2.p m60) fun x y e _ => h3 x e
theorem cm_neX {a b : D} {n k m j : Nat} (h1 : Tx n k a) (h2 : Tx m j b) (h3 : ∀ x, a ≠ .str x) (n60 : n ≤ 60 := by omega) (m60 : m ≤ 60 := by omega) : cm2 .ne a b = some (!eqv a b) := by
  show (eqD a b).map (!·) = _
  rw [show eqD a b = some (eqv a b) from cm_eqX h1 h2 h3 n60 m60]
  rfl
theorem cm_eqSt {s t : List Bool} (h : s.length ≤ 1000) (h2 : t.length ≤ 1000) : cm2 .eq (stD s) (stD t) = some (decide (s = t)) := by
  rw [cm_eqX (tx_st (n := 0) h) (tx_st (n := 0) h2) (fun _ z => nomatch z), eqv_tup, eqvs_map eqv_bit]
theorem cm_neSt {s t : List Bool} (h : s.length ≤ 1000) (h2 : t.length ≤ 1000) : cm2 .ne (stD s) (stD t) = some (!decide (s = t)) := by
  rw [cm_neX (tx_st (n := 0) h) (tx_st (n := 0) h2) (fun _ z => nomatch z), eqv_tup, eqvs_map eqv_bit]
theorem cm_eqBk {s t : List Hook} (h : s.length ≤ 200) (h2 : t.length ≤ 200) : cm2 .eq (.tup (s.map hookD)) (.tup (t.map hookD)) = some (decide (s = t)) := by
  rw [cm_eqX (tx_hooks (n := 0) h) (tx_hooks (n := 0) h2) (fun _ z => nomatch z), eqv_tup, eqvs_map eqv_hook]
theorem cm_neBk {s t : List Hook} (h : s.length ≤ 200) (h2 : t.length ≤ 200) : cm2 .ne (.tup (s.map hookD)) (.tup (t.map hookD)) = some (!decide (s = t)) := by
  rw [cm_neX (tx_hooks (n := 0) h) (tx_hooks (n := 0) h2) (fun _ z => nomatch z), eqv_tup, eqvs_map eqv_hook]
theorem cm_eqRw {s t : List Lv} (h : s.length ≤ 1000) (h2 : t.length ≤ 1000) : cm2 .eq (rowD s) (rowD t) = some (decide (s = t)) := by
  rw [cm_eqX (tx_row (n := 0) h) (tx_row (n := 0) h2) (fun _ z => nomatch z), eqv_tup, eqvs_map eqv_lv]
theorem cm_neRw {s t : List Lv} (h : s.length ≤ 1000) (h2 : t.length ≤ 1000) : cm2 .ne (rowD s) (rowD t) = some (!decide (s = t)) := by
  rw [cm_neX (tx_row (n := 0) h) (tx_row (n := 0) h2) (fun _ z => nomatch z), eqv_tup, eqvs_map eqv_lv]
theorem plainI (n : Nat) (i : Int) : plain n (.int i) = true := by cases n <;> rfl
theorem eqv_ints (s t : List Int) : eqvs (s.map .int) (t.map .int) = decide (s = t) := eqvs_map eqv_int s t
theorem plain_ints (s : List Int) : plain 60 (.tup (s.map .int)) = true := plains_map (n := 59) (fun i => plainI _ i) s
theorem plain_intsL (s : List Int) : plain 60 (.lst (s.map .int)) = true := plains_map (n := 59) (fun i => plainI _ i) s
theorem cm_eqIn (s t : List Int) : cm2 .eq (.tup (s.map .int)) (.tup (t.map .int)) = some (decide (s = t)) := by
  show eqD (.tup (s.map .int)) (.tup (t.map .int)) = _
  rw [eq_plain (plain_ints s) (plain_ints t) (fun _ _ z => nomatch z), eqv_tup, eqv_ints]
theorem cm_neIn (s t : List Int) : cm2 .ne (.tup (s.map .int)) (.tup (t.map .int)) = some (!decide (s = t)) := by
  show (eqD (.tup (s.map .int)) (.tup (t.map .int))).map _ = _
  rw [eq_plain (plain_ints s) (plain_ints t) (fun _ _ z => nomatch z), eqv_tup, eqv_ints]
  rfl
theorem cm_eqIl (s t : List Int) : cm2 .eq (.lst (s.map .int)) (.lst (t.map .int)) = some (decide (s = t)) := by
  show eqD (.lst (s.map .int)) (.lst (t.map .int)) = _
  rw [eq_plain (plain_intsL s) (plain_intsL t) (fun _ _ z => nomatch z), eqv_lst, eqv_ints]
theorem cm_neIl (s t : List Int) : cm2 .ne (.lst (s.map .int)) (.lst (t.map .int)) = some (!decide (s = t)) := by
  show (eqD (.lst (s.map .int)) (.lst (t.map .int))).map _ = _
  rw [eq_plain (plain_intsL s) (plain_intsL t) (fun _ _ z => nomatch z), eqv_lst, eqv_ints]
  rfl
/-! the program: latches -/
theorem is_integer (F : Nat → Option Fn) [Has F 0 f0] (k : Nat) (i : Int) (st : Store) : call F (k + 1) 0 [.int i] st = .ok (.bl true) st := by
  rw [call_h (n := 0) (f := f0)]; simp [f0, b0, exs, ex, evE, evL, evB, evC, evAnd, evOr, enter_s, ↓bd, ↓od, rs, slot, post_v, post_p, post_t, post_i, fin_rt, fin_nx, cm_lt, cm_le, cm_gt, cm_ge, cm_eqI, cm_neI, cm_eqS, cm_neS, cm_isN, cm_notN, op_addI, op_subI, op_mulI, op_modI, op_fdivI, op_addL, op_addT, op_mulT, tr_bl, ix_tup, ix_lst, ix_ref, bv1, bv2, bv3, bv4, bvR, bvr, bvM, bvm, bi1, Md.noM, wipe, setTg, setTgs, sl_t, sl_l, cut_to, cut_from, okS_i, okS_n, lenOk_iff, all_t, seq_l, items, itemsI, srtsetD, parSet, pickAll, isTy]
theorem is_between (F : Nat → Option Fn) [Has F 0 f0] [Has F 1 f1] (k : Nat) (i a b : Int) (st : Store) : call F (k + 2) 1 [.int i, .int a, .int b] st = .ok (.bl (decide (a ≤ i) && decide (i ≤ b))) st := by
  rw [call_h (n := 1) (f := f1)]; simp [f1, b1, exs, ex, evE, evL, evB, evC, evAnd, evOr, enter_s, ↓bd, ↓od, rs, slot, post_v, post_p, post_t, post_i, fin_rt, fin_nx, cm_lt, cm_le, cm_gt, cm_ge, cm_eqI, cm_neI, cm_eqS, cm_neS, cm_isN, cm_notN, op_addI, op_subI, op_mulI, op_modI, op_fdivI, op_addL, op_addT, op_mulT, tr_bl, ix_tup, ix_lst, ix_ref, bv1, bv2, bv3, bv4, bvR, bvr, bvM, bvm, bi1, Md.noM, wipe, setTg, setTgs, sl_t, sl_l, cut_to, cut_from, okS_i, okS_n, lenOk_iff, all_t, seq_l, items, itemsI, srtsetD, parSet, pickAll, is_integer F]
  by_cases h : a ≤ i <;> simp [h, fin_rt]
theorem is_level (F : Nat → Option Fn) [Has F 0 f0] [Has F 1 f1] [Has F 2 f2] (k : Nat) (i : Int) (st : Store) : call F (k + 3) 2 [.int i] st = .ok (.bl (decide (-20 ≤ i) && decide (i ≤ 20))) st := by
  rw [call_h (n := 2) (f := f2)]; simp [f2, b2, exs, ex, evE, evL, evB, evC, evAnd, evOr, enter_s, ↓bd, ↓od, rs, slot, post_v, post_p, post_t, post_i, fin_rt, fin_nx, cm_lt, cm_le, cm_gt, cm_ge, cm_eqI, cm_neI, cm_eqS, cm_neS, cm_isN, cm_notN, op_addI, op_subI, op_mulI, op_modI, op_fdivI, op_addL, op_addT, op_mulT, tr_bl, ix_tup, ix_lst, ix_ref, bv1, bv2, bv3, bv4, bvR, bvr, bvM, bvm, bi1, Md.noM, wipe, setTg, setTgs, sl_t, sl_l, cut_to, cut_from, okS_i, okS_n, lenOk_iff, all_t, seq_l, items, itemsI, srtsetD, parSet, pickAll, is_between F]
theorem is_latch (F : Nat → Option Fn) [Has F 0 f0] [Has F 1 f1] [Has F 2 f2] [Has F 3 f3] (k : Nat) (h : Hook) (st : Store) : call F (k + 4) 3 [hookD h] st = .ok (.bl true) st := by
  obtain ⟨lo, hi, w, a, b, c, d, e, f⟩ := h
  have a2 : -20 ≤ hi := by omega
  have c2 : lo ≤ 20 := by omega
  rw [call_h (n := 3) (f := f3)]; simp [f3, b3, exs, ex, evE, evL, evB, evC, evAnd, evOr, enter_s, ↓bd, ↓od, rs, slot, post_v, post_p, post_t, post_i, fin_rt, fin_nx, cm_lt, cm_le, cm_gt, cm_ge, cm_eqI, cm_neI, cm_eqS, cm_neS, cm_isN, cm_notN, op_addI, op_subI, op_mulI, op_modI, op_fdivI, op_addL, op_addT, op_mulT, tr_bl, ix_tup, ix_lst, ix_ref, bv1, bv2, bv3, bv4, bvR, bvr, bvM, bvm, bi1, Md.noM, wipe, setTg, setTgs, sl_t, sl_l, cut_to, cut_from, okS_i, okS_n, lenOk_iff, all_t, seq_l, items, itemsI, srtsetD, parSet, pickAll, is_level F, is_between F, hookD, at0, at1, at2, isTy, a, b, c, d, e, f, a2, c2]
theorem zip_lt : ∀ {l : List Hook}, l.Pairwise Hook.lt → ∀ p ∈ l.zip (l.drop 1), p.1.lt p.2 := by
  intro l h
  induction h with
  | nil => intro p hp; cases hp
  | @cons a l h1 h2 ih =>
    intro p hp
    cases l with
    | nil => cases hp
    | cons b l =>
      have hp : p ∈ (a, b) :: (b :: l).zip ((b :: l).drop 1) := hp
      rcases List.mem_cons.mp hp with e | hp
      · subst e; exact h1 b (.head _)
      · exact ih p hp
theorem lex_lt {h g : Hook} (q : h.lt g) : lexLt [h.lo, h.hi] [g.lo, g.hi] = true := by
  unfold Hook.lt at q
  by_cases e : h.lo = g.lo
  · simp [lexLt, e]; omega
  · simp [lexLt, e]; omega
theorem cm_ltT (x y : List D) : cm2 .lt (.tup x) (.tup y) = (toInts x).bind fun a => (toInts y).bind fun b => some (lexLt a b) := rfl
theorem take2 (h : Hook) : slice (hookD h) .non (.int 2) = some (.tup [.int h.lo, .int h.hi]) := rfl
theorem is_bank (F : Nat → Option Fn) [Has F 0 f0] [Has F 1 f1] [Has F 2 f2] [Has F 3 f3] [Has F 4 f4] (k : Nat) (b : Bank) (st : Store) : call F (k + 5) 4 [bankD b] st = .ok (.bl true) st := by
  have h0 : ∀ x y, evE (call F (k + 4)) c4_0 .p [.v (bankD b), x, y] st = .ok (.lst (b.l.map fun _ => .bl true)) st := fun x y =>
    ev_comp (i := hookD) (ds := b.l) rfl b.le3 fun h _ => ⟨_, rfl, by simp [exs, ex, evE, evL, evB, evC, evAnd, evOr, enter_s, ↓bd, ↓od, rs, slot, post_v, post_p, post_t, post_i, fin_rt, fin_nx, cm_lt, cm_le, cm_gt, cm_ge, cm_eqI, cm_neI, cm_eqS, cm_neS, cm_isN, cm_notN, op_addI, op_subI, op_mulI, op_modI, op_fdivI, op_addL, op_addT, op_mulT, tr_bl, ix_tup, ix_lst, ix_ref, bv1, bv2, bv3, bv4, bvR, bvr, bvM, bvm, bi1, Md.noM, wipe, setTg, setTgs, sl_t, sl_l, cut_to, cut_from, okS_i, okS_n, lenOk_iff, all_t, seq_l, items, itemsI, srtsetD, parSet, pickAll, is_latch F]⟩
  have h1 : ∀ x y, evE (call F (k + 4)) c4_1 .p [.v (bankD b), x, y] st = .ok (.lst ((b.l.zip (b.l.drop 1)).map fun _ => .bl true)) st := fun x y => by
    refine ev_comp (i := fun p => .tup [hookD p.1, hookD p.2]) (ds := b.l.zip (b.l.drop 1)) ?_ (by rw [List.length_zip]; have := b.le3; omega) fun p hp => ⟨_, rfl, ?_⟩
    · rw [← pairs_zip]
      have e : cutAt b.l.length 1 = min 1 b.l.length := cutAt_nat _ 1
      have e2 : (b.l.map hookD).drop (min 1 b.l.length) = (b.l.map hookD).tail := by
        cases b.l with
        | nil => rfl
        | cons a l => simp
      simp [exs, ex, evE, evL, evB, evC, evAnd, evOr, enter_s, ↓bd, ↓od, rs, slot, post_v, post_p, post_t, post_i, fin_rt, fin_nx, cm_lt, cm_le, cm_gt, cm_ge, cm_eqI, cm_neI, cm_eqS, cm_neS, cm_isN, cm_notN, op_addI, op_subI, op_mulI, op_modI, op_fdivI, op_addL, op_addT, op_mulT, tr_bl, ix_tup, ix_lst, ix_ref, bv1, bv2, bv3, bv4, bvR, bvr, bvM, bvm, bi1, Md.noM, wipe, setTg, setTgs, sl_t, sl_l, cut_to, cut_from, okS_i, okS_n, lenOk_iff, all_t, seq_l, items, itemsI, srtsetD, parSet, pickAll, e, e2]
    · simp [exs, ex, evE, evL, evB, evC, evAnd, evOr, enter_s, ↓bd, ↓od, rs, slot, post_v, post_p, post_t, post_i, fin_rt, fin_nx, cm_lt, cm_le, cm_gt, cm_ge, cm_eqI, cm_neI, cm_eqS, cm_neS, cm_isN, cm_notN, op_addI, op_subI, op_mulI, op_modI, op_fdivI, op_addL, op_addT, op_mulT, tr_bl, ix_tup, ix_lst, ix_ref, bv1, bv2, bv3, bv4, bvR, bvr, bvM, bvm, bi1, Md.noM, wipe, setTg, setTgs, sl_t, sl_l, cut_to, cut_from, okS_i, okS_n, lenOk_iff, all_t, seq_l, items, itemsI, srtsetD, parSet, pickAll, hookD, cm_ltT, toInts, cutAt, lex_lt (zip_lt b.srt p hp)]
  have hl : ¬ (30 < (b.l.length : Int)) := by have := b.len; omega
  rw [call_h (n := 4) (f := f4)]; simp [f4, b4, exs, ex, evE, evL, evB, evC, evAnd, evOr, enter_s, ↓bd, ↓od, rs, slot, post_v, post_p, post_t, post_i, fin_rt, fin_nx, cm_lt, cm_le, cm_gt, cm_ge, cm_eqI, cm_neI, cm_eqS, cm_neS, cm_isN, cm_notN, op_addI, op_subI, op_mulI, op_modI, op_fdivI, op_addL, op_addT, op_mulT, tr_bl, ix_tup, ix_lst, ix_ref, bv1, bv2, bv3, bv4, bvR, bvr, bvM, bvm, bi1, Md.noM, wipe, setTg, setTgs, sl_t, sl_l, cut_to, cut_from, okS_i, okS_n, lenOk_iff, all_t, seq_l, items, itemsI, srtsetD, parSet, pickAll, isTy, h0, h1, hl, toBls_map]
theorem need_bank (F : Nat → Option Fn) [Has F 0 f0] [Has F 1 f1] [Has F 2 f2] [Has F 3 f3] [Has F 4 f4] [Has F 17 f17] (k : Nat) (b : Bank) (st : Store) : call F (k + 6) 17 [bankD b] st = .ok .non st := by
  rw [call_h (n := 17) (f := f17)]; simp [f17, b17, exs, ex, evE, evL, evB, evC, evAnd, evOr, enter_s, ↓bd, ↓od, rs, slot, post_v, post_p, post_t, post_i, fin_rt, fin_nx, cm_lt, cm_le, cm_gt, cm_ge, cm_eqI, cm_neI, cm_eqS, cm_neS, cm_isN, cm_notN, op_addI, op_subI, op_mulI, op_modI, op_fdivI, op_addL, op_addT, op_mulT, tr_bl, ix_tup, ix_lst, ix_ref, bv1, bv2, bv3, bv4, bvR, bvr, bvM, bvm, bi1, Md.noM, wipe, setTg, setTgs, sl_t, sl_l, cut_to, cut_from, okS_i, okS_n, lenOk_iff, all_t, seq_l, items, itemsI, srtsetD, parSet, pickAll, is_bank F]
theorem need_level (F : Nat → Option Fn) [Has F 0 f0] [Has F 1 f1] [Has F 2 f2] [Has F 37 f37] (k : Nat) (i : Int) (a : -20 ≤ i) (b : i ≤ 20) (st : Store) : call F (k + 4) 37 [.int i] st = .ok .non st := by
  rw [call_h (n := 37) (f := f37)]; simp [f37, b37, exs, ex, evE, evL, evB, evC, evAnd, evOr, enter_s, ↓bd, ↓od, rs, slot, post_v, post_p, post_t, post_i, fin_rt, fin_nx, cm_lt, cm_le, cm_gt, cm_ge, cm_eqI, cm_neI, cm_eqS, cm_neS, cm_isN, cm_notN, op_addI, op_subI, op_mulI, op_modI, op_fdivI, op_addL, op_addT, op_mulT, tr_bl, ix_tup, ix_lst, ix_ref, bv1, bv2, bv3, bv4, bvR, bvr, bvM, bvm, bi1, Md.noM, wipe, setTg, setTgs, sl_t, sl_l, cut_to, cut_from, okS_i, okS_n, lenOk_iff, all_t, seq_l, items, itemsI, srtsetD, parSet, pickAll, is_level F, a, b]
def wsum (l : List Hook) : Int := (l.map Hook.w).sum
theorem total (F : Nat → Option Fn) [Has F 0 f0] [Has F 1 f1] [Has F 2 f2] [Has F 3 f3] [Has F 4 f4] [Has F 17 f17] [Has F 18 f18] (k : Nat) (b : Bank) (st : Store) : call F (k + 7) 18 [bankD b] st = .ok (.int (wsum b.l)) st := by
  have h0 : ∀ T x y z, evE T c18_0 .p [.v (bankD b), x, y, z] st = .ok (.lst (b.l.map fun h => .int h.w)) st := fun T x y z =>
    ev_comp (i := hookD) (ds := b.l) rfl b.le3 fun h _ => ⟨_, rfl, by simp [exs, ex, evE, evL, evB, evC, evAnd, evOr, enter_s, ↓bd, ↓od, rs, slot, post_v, post_p, post_t, post_i, fin_rt, fin_nx, cm_lt, cm_le, cm_gt, cm_ge, cm_eqI, cm_neI, cm_eqS, cm_neS, cm_isN, cm_notN, op_addI, op_subI, op_mulI, op_modI, op_fdivI, op_addL, op_addT, op_mulT, tr_bl, ix_tup, ix_lst, ix_ref, bv1, bv2, bv3, bv4, bvR, bvr, bvM, bvm, bi1, Md.noM, wipe, setTg, setTgs, sl_t, sl_l, cut_to, cut_from, okS_i, okS_n, lenOk_iff, all_t, seq_l, items, itemsI, srtsetD, parSet, pickAll]⟩
  rw [call_h (n := 18) (f := f18)]; simp [f18, b18, exs, ex, evE, evL, evB, evC, evAnd, evOr, enter_s, ↓bd, ↓od, rs, slot, post_v, post_p, post_t, post_i, fin_rt, fin_nx, cm_lt, cm_le, cm_gt, cm_ge, cm_eqI, cm_neI, cm_eqS, cm_neS, cm_isN, cm_notN, op_addI, op_subI, op_mulI, op_modI, op_fdivI, op_addL, op_addT, op_mulT, tr_bl, ix_tup, ix_lst, ix_ref, bv1, bv2, bv3, bv4, bvR, bvr, bvM, bvm, bi1, Md.noM, wipe, setTg, setTgs, sl_t, sl_l, cut_to, cut_from, okS_i, okS_n, lenOk_iff, all_t, seq_l, items, itemsI, srtsetD, parSet, pickAll, need_bank F, h0, toInts_map, wsum]
def zeros (n : Nat) : List Bool := List.replicate n false
theorem zerosD (n : Nat) : (zeros n).map bitD = List.replicate n (.int 0) := by simp [zeros, bitD, bi]
theorem zeros_len (n : Nat) : (zeros n).length = n := by simp [zeros]
theorem rep_one (n : Nat) (d : D) : (List.replicate n [d]).flatten = List.replicate n d := by
  induction n with
  | zero => rfl
  | succ n ih => rw [List.replicate_succ, List.flatten_cons, ih]; rfl
theorem rest_of (F : Nat → Option Fn) [Has F 20 f20] (k : Nat) (l : List Hook) (hl : l.length ≤ 1000) (st : Store) : call F (k + 1) 20 [.tup (l.map hookD)] st = .ok (stD (zeros l.length)) st := by
  have h1 : (l.length : Int) ≤ 1000 := by omega
  rw [call_h (n := 20) (f := f20)]; simp [f20, b20, exs, ex, evE, evL, evB, evC, evAnd, evOr, enter_s, ↓bd, ↓od, rs, slot, post_v, post_p, post_t, post_i, fin_rt, fin_nx, cm_lt, cm_le, cm_gt, cm_ge, cm_eqI, cm_neI, cm_eqS, cm_neS, cm_isN, cm_notN, op_addI, op_subI, op_mulI, op_modI, op_fdivI, op_addL, op_addT, op_mulT, tr_bl, ix_tup, ix_lst, ix_ref, bv1, bv2, bv3, bv4, bvR, bvr, bvM, bvm, bi1, Md.noM, wipe, setTg, setTgs, sl_t, sl_l, cut_to, cut_from, okS_i, okS_n, lenOk_iff, all_t, seq_l, items, itemsI, srtsetD, parSet, pickAll, h1, hl, zerosD, rep_one]
theorem rest (F : Nat → Option Fn) [Has F 0 f0] [Has F 1 f1] [Has F 2 f2] [Has F 3 f3] [Has F 4 f4] [Has F 17 f17] [Has F 20 f20] [Has F 21 f21] (k : Nat) (b : Bank) (st : Store) : call F (k + 7) 21 [bankD b] st = .ok (stD (zeros b.l.length)) st := by
  rw [call_h (n := 21) (f := f21)]; simp [f21, b21, exs, ex, evE, evL, evB, evC, evAnd, evOr, enter_s, ↓bd, ↓od, rs, slot, post_v, post_p, post_t, post_i, fin_rt, fin_nx, cm_lt, cm_le, cm_gt, cm_ge, cm_eqI, cm_neI, cm_eqS, cm_neS, cm_isN, cm_notN, op_addI, op_subI, op_mulI, op_modI, op_fdivI, op_addL, op_addT, op_mulT, tr_bl, ix_tup, ix_lst, ix_ref, bv1, bv2, bv3, bv4, bvR, bvr, bvM, bvm, bi1, Md.noM, wipe, setTg, setTgs, sl_t, sl_l, cut_to, cut_from, okS_i, okS_n, lenOk_iff, all_t, seq_l, items, itemsI, srtsetD, parSet, pickAll, need_bank F, rest_of F (k + 5) b.l (by have := b.len; omega)]
theorem is_state_of (F : Nat → Option Fn) [Has F 0 f0] [Has F 1 f1] [Has F 25 f25] (k : Nat) (l : List Hook) (s : List Bool) (hs : s.length = l.length) (hl : l.length ≤ 100000) (st : Store) : call F (k + 3) 25 [.tup (l.map hookD), stD s] st = .ok (.bl true) st := by
  have h0 : ∀ x y, evE (call F (k + 2)) c25_0 .p [x, .v (stD s), y] st = .ok (.lst (s.map fun _ => .bl true)) st := fun x y =>
    ev_comp (i := bitD) (ds := s) rfl (by omega) fun h _ => ⟨_, rfl, by cases h <;> simp [exs, ex, evE, evL, evB, evC, evAnd, evOr, enter_s, ↓bd, ↓od, rs, slot, post_v, post_p, post_t, post_i, fin_rt, fin_nx, cm_lt, cm_le, cm_gt, cm_ge, cm_eqI, cm_neI, cm_eqS, cm_neS, cm_isN, cm_notN, op_addI, op_subI, op_mulI, op_modI, op_fdivI, op_addL, op_addT, op_mulT, tr_bl, ix_tup, ix_lst, ix_ref, bv1, bv2, bv3, bv4, bvR, bvr, bvM, bvm, bi1, Md.noM, wipe, setTg, setTgs, sl_t, sl_l, cut_to, cut_from, okS_i, okS_n, lenOk_iff, all_t, seq_l, items, itemsI, srtsetD, parSet, pickAll, is_between F, bitD, bi]⟩
  rw [call_h (n := 25) (f := f25)]; simp [f25, b25, exs, ex, evE, evL, evB, evC, evAnd, evOr, enter_s, ↓bd, ↓od, rs, slot, post_v, post_p, post_t, post_i, fin_rt, fin_nx, cm_lt, cm_le, cm_gt, cm_ge, cm_eqI, cm_neI, cm_eqS, cm_neS, cm_isN, cm_notN, op_addI, op_subI, op_mulI, op_modI, op_fdivI, op_addL, op_addT, op_mulT, tr_bl, ix_tup, ix_lst, ix_ref, bv1, bv2, bv3, bv4, bvR, bvr, bvM, bvm, bi1, Md.noM, wipe, setTg, setTgs, sl_t, sl_l, cut_to, cut_from, okS_i, okS_n, lenOk_iff, all_t, seq_l, items, itemsI, srtsetD, parSet, pickAll, isTy, h0, hs, toBls_map]
theorem need_state (F : Nat → Option Fn) [Has F 0 f0] [Has F 1 f1] [Has F 25 f25] [Has F 26 f26] (k : Nat) (l : List Hook) (s : List Bool) (hs : s.length = l.length) (hl : l.length ≤ 100000) (st : Store) : call F (k + 4) 26 [.tup (l.map hookD), stD s] st = .ok .non st := by
  rw [call_h (n := 26) (f := f26)]; simp [f26, b26, exs, ex, evE, evL, evB, evC, evAnd, evOr, enter_s, ↓bd, ↓od, rs, slot, post_v, post_p, post_t, post_i, fin_rt, fin_nx, cm_lt, cm_le, cm_gt, cm_ge, cm_eqI, cm_neI, cm_eqS, cm_neS, cm_isN, cm_notN, op_addI, op_subI, op_mulI, op_modI, op_fdivI, op_addL, op_addT, op_mulT, tr_bl, ix_tup, ix_lst, ix_ref, bv1, bv2, bv3, bv4, bvR, bvr, bvM, bvm, bi1, Md.noM, wipe, setTg, setTgs, sl_t, sl_l, cut_to, cut_from, okS_i, okS_n, lenOk_iff, all_t, seq_l, items, itemsI, srtsetD, parSet, pickAll, is_state_of F (k) l s hs hl]
/-! steps -/
def bitPut (i : Int) (h : Hook) (b : Bool) : Bool := if h.hi ≤ i then true else if i ≤ h.lo then false else b
def putL (l : List Hook) (s : List Bool) (i : Int) : List Bool := List.zipWith (bitPut i) l s
theorem putL_len {l : List Hook} {s : List Bool} (i : Int) (h : s.length = l.length) : (putL l s i).length = l.length := by simp [putL, h]
theorem latched (F : Nat → Option Fn) [Has F 38 f38] (k : Nat) (g : Hook) (b : Bool) (i : Int) (st : Store) : call F (k + 1) 38 [hookD g, bitD b, .int i] st = .ok (bitD (bitPut i g b)) st := by
  unfold bitPut
  by_cases h1 : g.hi ≤ i
  · rw [call_h (n := 38) (f := f38)]; simp [f38, b38, exs, ex, evE, evL, evB, evC, evAnd, evOr, enter_s, ↓bd, ↓od, rs, slot, post_v, post_p, post_t, post_i, fin_rt, fin_nx, cm_lt, cm_le, cm_gt, cm_ge, cm_eqI, cm_neI, cm_eqS, cm_neS, cm_isN, cm_notN, op_addI, op_subI, op_mulI, op_modI, op_fdivI, op_addL, op_addT, op_mulT, tr_bl, ix_tup, ix_lst, ix_ref, bv1, bv2, bv3, bv4, bvR, bvr, bvM, bvm, bi1, Md.noM, wipe, setTg, setTgs, sl_t, sl_l, cut_to, cut_from, okS_i, okS_n, lenOk_iff, all_t, seq_l, items, itemsI, srtsetD, parSet, pickAll, hookD, h1, bitD, bi]
  · by_cases h2 : i ≤ g.lo
    · rw [call_h (n := 38) (f := f38)]; simp [f38, b38, exs, ex, evE, evL, evB, evC, evAnd, evOr, enter_s, ↓bd, ↓od, rs, slot, post_v, post_p, post_t, post_i, fin_rt, fin_nx, cm_lt, cm_le, cm_gt, cm_ge, cm_eqI, cm_neI, cm_eqS, cm_neS, cm_isN, cm_notN, op_addI, op_subI, op_mulI, op_modI, op_fdivI, op_addL, op_addT, op_mulT, tr_bl, ix_tup, ix_lst, ix_ref, bv1, bv2, bv3, bv4, bvR, bvr, bvM, bvm, bi1, Md.noM, wipe, setTg, setTgs, sl_t, sl_l, cut_to, cut_from, okS_i, okS_n, lenOk_iff, all_t, seq_l, items, itemsI, srtsetD, parSet, pickAll, hookD, h1, h2, bitD, bi]
    · rw [call_h (n := 38) (f := f38)]; simp [f38, b38, exs, ex, evE, evL, evB, evC, evAnd, evOr, enter_s, ↓bd, ↓od, rs, slot, post_v, post_p, post_t, post_i, fin_rt, fin_nx, cm_lt, cm_le, cm_gt, cm_ge, cm_eqI, cm_neI, cm_eqS, cm_neS, cm_isN, cm_notN, op_addI, op_subI, op_mulI, op_modI, op_fdivI, op_addL, op_addT, op_mulT, tr_bl, ix_tup, ix_lst, ix_ref, bv1, bv2, bv3, bv4, bvR, bvr, bvM, bvm, bi1, Md.noM, wipe, setTg, setTgs, sl_t, sl_l, cut_to, cut_from, okS_i, okS_n, lenOk_iff, all_t, seq_l, items, itemsI, srtsetD, parSet, pickAll, hookD, h1, h2, bitD, bi]
theorem zipWith_map {α β : Type} (f : α → β → Bool) (l : List α) (m : List β) : (List.zipWith f l m).map bitD = (l.zip m).map fun p => bitD (f p.1 p.2) := by
  induction l generalizing m with
  | nil => rfl
  | cons a l ih => cases m with
    | nil => rfl
    | cons b m => simp [ih]
theorem put (F : Nat → Option Fn) [Has F 38 f38] [Has F 39 f39] (k : Nat) (l : List Hook) (s : List Bool) (hl : l.length ≤ 1000) (i : Int) (st : Store) : call F (k + 2) 39 [.tup (l.map hookD), stD s, .int i] st = .ok (stD (putL l s i)) st := by
  have e0 : ∀ x y, evE (call F (k + 1)) c39_0 .p [.v (.tup (l.map hookD)), .v (stD s), .v (.int i), x, y] st = .ok (.lst ((putL l s i).map bitD)) st := fun x y => by
    rw [putL, zipWith_map]
    exact ev_comp (i := fun p : Hook × Bool => .tup [hookD p.1, bitD p.2]) (ds := l.zip s) (by rw [← pairs_zip]; simp [exs, ex, evE, evL, evB, evC, evAnd, evOr, enter_s, ↓bd, ↓od, rs, slot, post_v, post_p, post_t, post_i, fin_rt, fin_nx, cm_lt, cm_le, cm_gt, cm_ge, cm_eqI, cm_neI, cm_eqS, cm_neS, cm_isN, cm_notN, op_addI, op_subI, op_mulI, op_modI, op_fdivI, op_addL, op_addT, op_mulT, tr_bl, ix_tup, ix_lst, ix_ref, bv1, bv2, bv3, bv4, bvR, bvr, bvM, bvm, bi1, Md.noM, wipe, setTg, setTgs, sl_t, sl_l, cut_to, cut_from, okS_i, okS_n, lenOk_iff, all_t, seq_l, items, itemsI, srtsetD, parSet, pickAll]) (by rw [List.length_zip]; omega) fun p hp => ⟨_, rfl, by simp [exs, ex, evE, evL, evB, evC, evAnd, evOr, enter_s, ↓bd, ↓od, rs, slot, post_v, post_p, post_t, post_i, fin_rt, fin_nx, cm_lt, cm_le, cm_gt, cm_ge, cm_eqI, cm_neI, cm_eqS, cm_neS, cm_isN, cm_notN, op_addI, op_subI, op_mulI, op_modI, op_fdivI, op_addL, op_addT, op_mulT, tr_bl, ix_tup, ix_lst, ix_ref, bv1, bv2, bv3, bv4, bvR, bvr, bvM, bvm, bi1, Md.noM, wipe, setTg, setTgs, sl_t, sl_l, cut_to, cut_from, okS_i, okS_n, lenOk_iff, all_t, seq_l, items, itemsI, srtsetD, parSet, pickAll, latched F]⟩
  rw [call_h (n := 39) (f := f39)]; simp [f39, b39, exs, ex, evE, evL, evB, evC, evAnd, evOr, enter_s, ↓bd, ↓od, rs, slot, post_v, post_p, post_t, post_i, fin_rt, fin_nx, cm_lt, cm_le, cm_gt, cm_ge, cm_eqI, cm_neI, cm_eqS, cm_neS, cm_isN, cm_notN, op_addI, op_subI, op_mulI, op_modI, op_fdivI, op_addL, op_addT, op_mulT, tr_bl, ix_tup, ix_lst, ix_ref, bv1, bv2, bv3, bv4, bvR, bvr, bvM, bvm, bi1, Md.noM, wipe, setTg, setTgs, sl_t, sl_l, cut_to, cut_from, okS_i, okS_n, lenOk_iff, all_t, seq_l, items, itemsI, srtsetD, parSet, pickAll, e0]

end KK
namespace KK
open LB
/-! FC: rows, outputs; after, behind, follow -/
theorem need_row (F : Nat → Option Fn) [Has F 0 f0] [Has F 1 f1] [Has F 2 f2] [Has F 44 f44] (k : Nat) (r : List Lv) (hr : r.length ≤ 200) (st : Store) : call F (k + 4) 44 [rowD r] st = .ok .non st := by
  have h0 : ∀ y, evE (call F (k + 3)) c44_0 .p [.v (rowD r), y] st = .ok (.lst (r.map fun _ => .bl true)) st := fun y =>
    ev_comp (i := lvD) (ds := r) rfl (by omega) fun h _ => ⟨_, rfl, by simp [exs, ex, evE, evL, evB, evC, evAnd, evOr, enter_s, ↓bd, ↓od, rs, slot, post_v, post_p, post_t, post_i, fin_rt, fin_nx, cm_lt, cm_le, cm_gt, cm_ge, cm_eqI, cm_neI, cm_eqS, cm_neS, cm_isN, cm_notN, op_addI, op_subI, op_mulI, op_modI, op_fdivI, op_addL, op_addT, op_mulT, tr_bl, ix_tup, ix_lst, ix_ref, bv1, bv2, bv3, bv4, bvR, bvr, bvM, bvm, bi1, Md.noM, wipe, setTg, setTgs, sl_t, sl_l, cut_to, cut_from, okS_i, okS_n, lenOk_iff, all_t, seq_l, items, itemsI, srtsetD, parSet, pickAll, is_level F, lvD, h.a, h.b]⟩
  have hl : ¬ (200 < (r.length : Int)) := by omega
  rw [call_h (n := 44) (f := f44)]; simp [f44, b44, exs, ex, evE, evL, evB, evC, evAnd, evOr, enter_s, ↓bd, ↓od, rs, slot, post_v, post_p, post_t, post_i, fin_rt, fin_nx, cm_lt, cm_le, cm_gt, cm_ge, cm_eqI, cm_neI, cm_eqS, cm_neS, cm_isN, cm_notN, op_addI, op_subI, op_mulI, op_modI, op_fdivI, op_addL, op_addT, op_mulT, tr_bl, ix_tup, ix_lst, ix_ref, bv1, bv2, bv3, bv4, bvR, bvr, bvM, bvm, bi1, Md.noM, wipe, setTg, setTgs, sl_t, sl_l, cut_to, cut_from, okS_i, okS_n, lenOk_iff, all_t, seq_l, items, itemsI, srtsetD, parSet, pickAll, isTy, h0, hl, toBls_map]
def outL (l : List Hook) (s : List Bool) : Int := ((l.zip s).map fun p => p.1.w * bi p.2).sum
theorem small_i {i : Int} (h : -1000000 ≤ i) (h2 : i ≤ 1000000) : small i = true := by
  unfold small
  simp
  omega
theorem output_of (F : Nat → Option Fn) [Has F 28 f28] (k : Nat) (l : List Hook) (s : List Bool) (hl : l.length ≤ 100000) (st : Store) : call F (k + 1) 28 [.tup (l.map hookD), stD s] st = .ok (.int (outL l s)) st := by
  have h0 : ∀ x y, evE (call F k) c28_0 .p [.v (.tup (l.map hookD)), .v (stD s), x, y] st = .ok (.lst ((l.zip s).map fun p => .int (p.1.w * bi p.2))) st := fun x y =>
    ev_comp (i := fun p : Hook × Bool => .tup [hookD p.1, bitD p.2]) (ds := l.zip s) (by rw [← pairs_zip]; simp [exs, ex, evE, evL, evB, evC, evAnd, evOr, enter_s, ↓bd, ↓od, rs, slot, post_v, post_p, post_t, post_i, fin_rt, fin_nx, cm_lt, cm_le, cm_gt, cm_ge, cm_eqI, cm_neI, cm_eqS, cm_neS, cm_isN, cm_notN, op_addI, op_subI, op_mulI, op_modI, op_fdivI, op_addL, op_addT, op_mulT, tr_bl, ix_tup, ix_lst, ix_ref, bv1, bv2, bv3, bv4, bvR, bvr, bvM, bvm, bi1, Md.noM, wipe, setTg, setTgs, sl_t, sl_l, cut_to, cut_from, okS_i, okS_n, lenOk_iff, all_t, seq_l, items, itemsI, srtsetD, parSet, pickAll]) (by rw [List.length_zip]; omega) fun p hp => ⟨_, rfl, by
      have := p.1.d; have := p.1.e
      simp [exs, ex, evE, evL, evB, evC, evAnd, evOr, enter_s, ↓bd, ↓od, rs, slot, post_v, post_p, post_t, post_i, fin_rt, fin_nx, cm_lt, cm_le, cm_gt, cm_ge, cm_eqI, cm_neI, cm_eqS, cm_neS, cm_isN, cm_notN, op_addI, op_subI, op_mulI, op_modI, op_fdivI, op_addL, op_addT, op_mulT, tr_bl, ix_tup, ix_lst, ix_ref, bv1, bv2, bv3, bv4, bvR, bvr, bvM, bvm, bi1, Md.noM, wipe, setTg, setTgs, sl_t, sl_l, cut_to, cut_from, okS_i, okS_n, lenOk_iff, all_t, seq_l, items, itemsI, srtsetD, parSet, pickAll, hookD, bitD, at2, small_i (i := p.1.w) (by omega) (by omega)]⟩
  rw [call_h (n := 28) (f := f28)]; simp [f28, b28, exs, ex, evE, evL, evB, evC, evAnd, evOr, enter_s, ↓bd, ↓od, rs, slot, post_v, post_p, post_t, post_i, fin_rt, fin_nx, cm_lt, cm_le, cm_gt, cm_ge, cm_eqI, cm_neI, cm_eqS, cm_neS, cm_isN, cm_notN, op_addI, op_subI, op_mulI, op_modI, op_fdivI, op_addL, op_addT, op_mulT, tr_bl, ix_tup, ix_lst, ix_ref, bv1, bv2, bv3, bv4, bvR, bvr, bvM, bvm, bi1, Md.noM, wipe, setTg, setTgs, sl_t, sl_l, cut_to, cut_from, okS_i, okS_n, lenOk_iff, all_t, seq_l, items, itemsI, srtsetD, parSet, pickAll, h0, toInts_map, outL]
theorem output (F : Nat → Option Fn) [Has F 0 f0] [Has F 1 f1] [Has F 2 f2] [Has F 3 f3] [Has F 4 f4] [Has F 17 f17] [Has F 25 f25] [Has F 26 f26] [Has F 28 f28] [Has F 29 f29] (k : Nat) (b : Bank) (s : List Bool) (hs : s.length = b.l.length) (st : Store) : call F (k + 7) 29 [bankD b, stD s] st = .ok (.int (outL b.l s)) st := by
  rw [call_h (n := 29) (f := f29)]; simp [f29, b29, exs, ex, evE, evL, evB, evC, evAnd, evOr, enter_s, ↓bd, ↓od, rs, slot, post_v, post_p, post_t, post_i, fin_rt, fin_nx, cm_lt, cm_le, cm_gt, cm_ge, cm_eqI, cm_neI, cm_eqS, cm_neS, cm_isN, cm_notN, op_addI, op_subI, op_mulI, op_modI, op_fdivI, op_addL, op_addT, op_mulT, tr_bl, ix_tup, ix_lst, ix_ref, bv1, bv2, bv3, bv4, bvR, bvr, bvM, bvm, bi1, Md.noM, wipe, setTg, setTgs, sl_t, sl_l, cut_to, cut_from, okS_i, okS_n, lenOk_iff, all_t, seq_l, items, itemsI, srtsetD, parSet, pickAll, need_bank F, need_state F (k + 2) b.l s hs b.le3, output_of F (k + 5) b.l s b.le3]
theorem is_state (F : Nat → Option Fn) [Has F 0 f0] [Has F 1 f1] [Has F 2 f2] [Has F 3 f3] [Has F 4 f4] [Has F 17 f17] [Has F 25 f25] [Has F 27 f27] (k : Nat) (b : Bank) (s : List Bool) (hs : s.length = b.l.length) (st : Store) : call F (k + 7) 27 [bankD b, stD s] st = .ok (.bl true) st := by
  rw [call_h (n := 27) (f := f27)]; simp [f27, b27, exs, ex, evE, evL, evB, evC, evAnd, evOr, enter_s, ↓bd, ↓od, rs, slot, post_v, post_p, post_t, post_i, fin_rt, fin_nx, cm_lt, cm_le, cm_gt, cm_ge, cm_eqI, cm_neI, cm_eqS, cm_neS, cm_isN, cm_notN, op_addI, op_subI, op_mulI, op_modI, op_fdivI, op_addL, op_addT, op_mulT, tr_bl, ix_tup, ix_lst, ix_ref, bv1, bv2, bv3, bv4, bvR, bvr, bvM, bvm, bi1, Md.noM, wipe, setTg, setTgs, sl_t, sl_l, cut_to, cut_from, okS_i, okS_n, lenOk_iff, all_t, seq_l, items, itemsI, srtsetD, parSet, pickAll, need_bank F, is_state_of F (k + 3) b.l s hs b.le3]
theorem after (F : Nat → Option Fn) [Has F 0 f0] [Has F 1 f1] [Has F 2 f2] [Has F 3 f3] [Has F 4 f4] [Has F 17 f17] [Has F 25 f25] [Has F 26 f26] [Has F 37 f37] [Has F 38 f38] [Has F 39 f39] [Has F 40 f40] (k : Nat) (b : Bank) (s : List Bool) (hs : s.length = b.l.length) (i : Int) (h1 : -20 ≤ i) (h2 : i ≤ 20) (st : Store) : call F (k + 7) 40 [bankD b, stD s, .int i] st = .ok (stD (putL b.l s i)) st := by
  rw [call_h (n := 40) (f := f40)]; simp [f40, b40, exs, ex, evE, evL, evB, evC, evAnd, evOr, enter_s, ↓bd, ↓od, rs, slot, post_v, post_p, post_t, post_i, fin_rt, fin_nx, cm_lt, cm_le, cm_gt, cm_ge, cm_eqI, cm_neI, cm_eqS, cm_neS, cm_isN, cm_notN, op_addI, op_subI, op_mulI, op_modI, op_fdivI, op_addL, op_addT, op_mulT, tr_bl, ix_tup, ix_lst, ix_ref, bv1, bv2, bv3, bv4, bvR, bvr, bvM, bvm, bi1, Md.noM, wipe, setTg, setTgs, sl_t, sl_l, cut_to, cut_from, okS_i, okS_n, lenOk_iff, all_t, seq_l, items, itemsI, srtsetD, parSet, pickAll, need_bank F, need_state F (k + 2) b.l s hs b.le3, need_level F (k + 2) i h1 h2, put F (k + 4) b.l s (by have := b.len; omega) i]
/-- the states behind the levels, the first one ahead -/
def statesL (l : List Hook) : List Bool → List Lv → List (List Bool)
  | s, [] => [s]
  | s, v :: r => s :: statesL l (putL l s v.i) r
def behindL (l : List Hook) (s : List Bool) (r : List Lv) : List Bool := r.foldl (fun s v => putL l s v.i) s
theorem statesL_snoc (l : List Hook) : ∀ (r : List Lv) (s : List Bool) (v : Lv), statesL l s (r ++ [v]) = statesL l s r ++ [putL l (behindL l s r) v.i]
  | [], s, v => rfl
  | u :: r, s, v => congrArg (s :: ·) (statesL_snoc l r _ v)
theorem statesL_last (l : List Hook) : ∀ (r : List Lv) (s : List Bool), ∃ xs, statesL l s r = xs ++ [behindL l s r] ∧ xs.length = r.length
  | [], s => ⟨[], rfl, rfl⟩
  | u :: r, s => by
    obtain ⟨xs, e, h⟩ := statesL_last l r (putL l s u.i)
    exact ⟨s :: xs, congrArg (s :: ·) e, by simp [h]⟩
theorem statesL_len (l : List Hook) (r : List Lv) (s : List Bool) : (statesL l s r).length = r.length + 1 := by
  obtain ⟨xs, e, h⟩ := statesL_last l r s
  rw [e, List.length_append, h]; rfl
theorem behindL_len {l : List Hook} : ∀ (r : List Lv) (s : List Bool), s.length = l.length → (behindL l s r).length = l.length
  | [], s, h => h
  | v :: r, s, h => behindL_len r _ (putL_len v.i h)
theorem states_by (F : Nat → Option Fn) [Has F 38 f38] [Has F 39 f39] [Has F 45 f45] (k : Nat) (l : List Hook) (s : List Bool) (hl : l.length ≤ 1000) (r : List Lv) (hr : r.length ≤ 10000) (st : Store) : call F (k + 3) 45 [.tup (l.map hookD), stD s, rowD r] st = .ok (.lst ((statesL l s r).map stD)) st := by
  obtain ⟨env', st', e, x, rfl, rfl⟩ := for_inv (T := call F (k + 2)) (tg := .nm 4) (b := l45_0) (it := .var 2) (i := lvD) (env := [.v (.tup (l.map hookD)), .v (stD s), .v (rowD r), .o (.lst [stD s]), .u]) (st := st) (st0 := st) (l := r) rfl
    (fun j env st1 => ∃ x, env = [.v (.tup (l.map hookD)), .v (stD s), .v (rowD r), .o (.lst ((statesL l s (r.take j)).map stD)), x] ∧ st1 = st) ⟨.u, rfl, rfl⟩ (by
    rintro j v _ _ hj hlt ⟨x, rfl, rfl⟩
    obtain ⟨xs, hxs, hx⟩ := statesL_last l (r.take j) s
    have et : r.take (j + 1) = r.take j ++ [v] := by rw [List.take_add_one, hj]; rfl
    have hxl : xs.length ≤ 10000 := by rw [hx, List.length_take]; omega
    have hxl2 : xs.length + 1 ≤ 1000000 := by omega
    refine nx_of (by conv => lhs; simp [forB, exs, ex, evE, evL, evB, evC, evAnd, evOr, enter_s, ↓bd, ↓od, rs, slot, post_v, post_p, post_t, post_i, fin_rt, fin_nx, cm_lt, cm_le, cm_gt, cm_ge, cm_eqI, cm_neI, cm_eqS, cm_neS, cm_isN, cm_notN, op_addI, op_subI, op_mulI, op_modI, op_fdivI, op_addL, op_addT, op_mulT, tr_bl, ix_tup, ix_lst, ix_ref, bv1, bv2, bv3, bv4, bvR, bvr, bvM, bvm, bi1, Md.noM, wipe, setTg, setTgs, sl_t, sl_l, cut_to, cut_from, okS_i, okS_n, lenOk_iff, all_t, seq_l, items, itemsI, srtsetD, parSet, pickAll, l45_0, hxs, at_last, put F k l _ hl, lvD, hxl2]) ?_
    exact ⟨.v (.int v.i), by rw [et, statesL_snoc, hxs]; simp, rfl⟩)
  rw [List.take_length] at e
  change LB.ex _ s45_0 _ _ = _ at e
  rw [call_h (n := 45) (f := f45)]; simp [f45, b45, exs, ex, evE, evL, evB, evC, evAnd, evOr, enter_s, ↓bd, ↓od, rs, slot, post_v, post_p, post_t, post_i, fin_rt, fin_nx, cm_lt, cm_le, cm_gt, cm_ge, cm_eqI, cm_neI, cm_eqS, cm_neS, cm_isN, cm_notN, op_addI, op_subI, op_mulI, op_modI, op_fdivI, op_addL, op_addT, op_mulT, tr_bl, ix_tup, ix_lst, ix_ref, bv1, bv2, bv3, bv4, bvR, bvr, bvM, bvm, bi1, Md.noM, wipe, setTg, setTgs, sl_t, sl_l, cut_to, cut_from, okS_i, okS_n, lenOk_iff, all_t, seq_l, items, itemsI, srtsetD, parSet, pickAll, e]
theorem behind (F : Nat → Option Fn) [Has F 0 f0] [Has F 1 f1] [Has F 2 f2] [Has F 3 f3] [Has F 4 f4] [Has F 17 f17] [Has F 25 f25] [Has F 26 f26] [Has F 38 f38] [Has F 39 f39] [Has F 44 f44] [Has F 45 f45] [Has F 46 f46] (k : Nat) (b : Bank) (s : List Bool) (hs : s.length = b.l.length) (r : List Lv) (hr : r.length ≤ 200) (st : Store) : call F (k + 7) 46 [bankD b, stD s, rowD r] st = .ok (stD (behindL b.l s r)) st := by
  obtain ⟨xs, hxs, hx⟩ := statesL_last b.l r s
  have h4 := states_by F (k + 3) b.l s (by have := b.len; omega) r (by omega) st
  rw [hxs, List.map_append] at h4
  rw [call_h (n := 46) (f := f46)]; simp [f46, b46, exs, ex, evE, evL, evB, evC, evAnd, evOr, enter_s, ↓bd, ↓od, rs, slot, post_v, post_p, post_t, post_i, fin_rt, fin_nx, cm_lt, cm_le, cm_gt, cm_ge, cm_eqI, cm_neI, cm_eqS, cm_neS, cm_isN, cm_notN, op_addI, op_subI, op_mulI, op_modI, op_fdivI, op_addL, op_addT, op_mulT, tr_bl, ix_tup, ix_lst, ix_ref, bv1, bv2, bv3, bv4, bvR, bvr, bvM, bvm, bi1, Md.noM, wipe, setTg, setTgs, sl_t, sl_l, cut_to, cut_from, okS_i, okS_n, lenOk_iff, all_t, seq_l, items, itemsI, srtsetD, parSet, pickAll, need_bank F, need_state F (k + 2) b.l s hs b.le3, need_row F (k + 2) r hr, h4, at_last]
def followL (l : List Hook) (s : List Bool) (r : List Lv) : List Int := (statesL l s r).tail.map (outL l)
theorem follow (F : Nat → Option Fn) [Has F 0 f0] [Has F 1 f1] [Has F 2 f2] [Has F 3 f3] [Has F 4 f4] [Has F 17 f17] [Has F 25 f25] [Has F 26 f26] [Has F 28 f28] [Has F 38 f38] [Has F 39 f39] [Has F 44 f44] [Has F 45 f45] [Has F 47 f47] (k : Nat) (b : Bank) (s : List Bool) (hs : s.length = b.l.length) (r : List Lv) (hr : r.length ≤ 200) (st : Store) : call F (k + 7) 47 [bankD b, stD s, rowD r] st = .ok (.tup ((followL b.l s r).map .int)) st := by
  have h4 := states_by F (k + 3) b.l s (by have := b.len; omega) r (by omega) st
  have hn : (statesL b.l s r).length = r.length + 1 := statesL_len ..
  have hc : cutAt (r.length + 1) 1 = 1 := by
    have := cutAt_nat (r.length + 1) 1
    rw [show ((1 : Nat) : Int) = 1 from rfl] at this
    rw [this]
    omega
  have h5 : ∀ x, evE (call F (k + 6)) c47_0 .p [.v (bankD b), .v (stD s), .v (rowD r), x] st = .ok (.lst ((followL b.l s r).map .int)) st := fun x => by
    unfold followL
    rw [List.map_map]
    refine ev_comp (i := stD) (ds := (statesL b.l s r).tail) ?_ (by rw [List.length_tail, hn]; omega) fun t ht => ⟨_, rfl, by simp [exs, ex, evE, evL, evB, evC, evAnd, evOr, enter_s, ↓bd, ↓od, rs, slot, post_v, post_p, post_t, post_i, fin_rt, fin_nx, cm_lt, cm_le, cm_gt, cm_ge, cm_eqI, cm_neI, cm_eqS, cm_neS, cm_isN, cm_notN, op_addI, op_subI, op_mulI, op_modI, op_fdivI, op_addL, op_addT, op_mulT, tr_bl, ix_tup, ix_lst, ix_ref, bv1, bv2, bv3, bv4, bvR, bvr, bvM, bvm, bi1, Md.noM, wipe, setTg, setTgs, sl_t, sl_l, cut_to, cut_from, okS_i, okS_n, lenOk_iff, all_t, seq_l, items, itemsI, srtsetD, parSet, pickAll, output_of F (k + 5) b.l _ b.le3]⟩
    simp [exs, ex, evE, evL, evB, evC, evAnd, evOr, enter_s, ↓bd, ↓od, rs, slot, post_v, post_p, post_t, post_i, fin_rt, fin_nx, cm_lt, cm_le, cm_gt, cm_ge, cm_eqI, cm_neI, cm_eqS, cm_neS, cm_isN, cm_notN, op_addI, op_subI, op_mulI, op_modI, op_fdivI, op_addL, op_addT, op_mulT, tr_bl, ix_tup, ix_lst, ix_ref, bv1, bv2, bv3, bv4, bvR, bvr, bvM, bvm, bi1, Md.noM, wipe, setTg, setTgs, sl_t, sl_l, cut_to, cut_from, okS_i, okS_n, lenOk_iff, all_t, seq_l, items, itemsI, srtsetD, parSet, pickAll, h4, hn, hc]
  rw [call_h (n := 47) (f := f47)]; simp [f47, b47, exs, ex, evE, evL, evB, evC, evAnd, evOr, enter_s, ↓bd, ↓od, rs, slot, post_v, post_p, post_t, post_i, fin_rt, fin_nx, cm_lt, cm_le, cm_gt, cm_ge, cm_eqI, cm_neI, cm_eqS, cm_neS, cm_isN, cm_notN, op_addI, op_subI, op_mulI, op_modI, op_fdivI, op_addL, op_addT, op_mulT, tr_bl, ix_tup, ix_lst, ix_ref, bv1, bv2, bv3, bv4, bvR, bvr, bvM, bvm, bi1, Md.noM, wipe, setTg, setTgs, sl_t, sl_l, cut_to, cut_from, okS_i, okS_n, lenOk_iff, all_t, seq_l, items, itemsI, srtsetD, parSet, pickAll, need_bank F, need_state F (k + 2) b.l s hs b.le3, need_row F (k + 2) r hr, h5]

end KK
namespace KK
open LB
/-! FP: pens and what is drawn -/
structure PenOk (p : List D) : Prop where
  ex : ∃ a b c : Int, p = [.int a, .int b, .int c] ∧ 0 ≤ a ∧ 0 ≤ b ∧ b < 2147483648
theorem small_of {i : Int} (h : 0 ≤ i) (h2 : i < 18446744073709551616) : small i = true := by
  unfold small
  simp
  omega
theorem draw0 (F : Nat → Option Fn) [Has F 7 f7] (k n : Nat) (u : Int) (st : Store) (p : List D) (hp : PenOk p) (hn : st[n]? = some p) (hu : 0 < u) (hu2 : u < 1073741824) :
    ∃ r p', call F (k + 1) 7 [.ref n, .int u] st = .ok (.int r) (st.set n p') ∧ 0 ≤ r ∧ r < u ∧ PenOk p' := by
  obtain ⟨a, b, c, rfl, ha, hb, hb2⟩ := hp.ex
  have hlt : n < st.length := (List.getElem?_eq_some_iff.mp hn).1
  by_cases h : 0 < a
  · refine ⟨a % u, [.int (a / u), .int b, .int c], ?_, Int.emod_nonneg _ (by omega), Int.emod_lt_of_pos _ hu, ⟨⟨_, _, _, rfl, Int.ediv_nonneg ha (by omega), hb, hb2⟩⟩⟩
    rw [call_h (n := 7) (f := f7)]; simp [f7, b7, exs, ex, evE, evL, evB, evC, evAnd, evOr, enter_s, ↓bd, ↓od, rs, slot, post_v, post_p, post_t, post_i, fin_rt, fin_nx, cm_lt, cm_le, cm_gt, cm_ge, cm_eqI, cm_neI, cm_eqS, cm_neS, cm_isN, cm_notN, op_addI, op_subI, op_mulI, op_modI, op_fdivI, op_addL, op_addT, op_mulT, tr_bl, ix_tup, ix_lst, ix_ref, bv1, bv2, bv3, bv4, bvR, bvr, bvM, bvm, bi1, Md.noM, wipe, setTg, setTgs, sl_t, sl_l, cut_to, cut_from, okS_i, okS_n, lenOk_iff, all_t, seq_l, items, itemsI, srtsetD, parSet, pickAll, hn, at_, ixN, h, hu, hu2, cstO, cstR]
  · let b1 : Int := (b * 48271 + 1009 * (c + 1) + 7) % 2147483647
    have e1 : (b * 48271 + 1009 * (c + 1) + 7) % 2147483647 = b1 := rfl
    have p1 : 0 ≤ b1 := Int.emod_nonneg _ (by decide)
    have q1 : b1 < 2147483647 := Int.emod_lt_of_pos _ (by decide)
    clear_value b1
    let s1 : Int := (b1 * b1 + 69621 * b1 + 11) % 2147483629
    have e2 : (b1 * b1 + 69621 * b1 + 11) % 2147483629 = s1 := rfl
    have p2 : 0 ≤ s1 := Int.emod_nonneg _ (by decide)
    have q2 : s1 < 2147483629 := Int.emod_lt_of_pos _ (by decide)
    clear_value s1
    let s2 : Int := (s1 * s1 + 40014 * s1) % 2147483587
    have e3 : (s1 * s1 + 40014 * s1) % 2147483587 = s2 := rfl
    clear_value s2
    refine ⟨s2 / 16 % u, [.int a, .int b1, .int (c + 1)], ?_, Int.emod_nonneg _ (by omega), Int.emod_lt_of_pos _ hu, ⟨⟨_, _, _, rfl, ha, p1, by omega⟩⟩⟩
    have z1 := small_of hb (by omega)
    have z2 := small_of p1 (by omega)
    have z3 := small_of p2 (by omega)
    have hs : ∀ q : List D, (st.set n q)[n]? = some q := fun q => List.getElem?_set_self hlt
    clear hlt
    rw [call_h (n := 7) (f := f7)]; simp [f7, b7, exs, ex, evE, evL, evB, evC, evAnd, evOr, enter_s, ↓bd, ↓od, rs, slot, post_v, post_p, post_t, post_i, fin_rt, fin_nx, cm_lt, cm_le, cm_gt, cm_ge, cm_eqI, cm_neI, cm_eqS, cm_neS, cm_isN, cm_notN, op_addI, op_subI, op_mulI, op_modI, op_fdivI, op_addL, op_addT, op_mulT, tr_bl, ix_tup, ix_lst, ix_ref, bv1, bv2, bv3, bv4, bvR, bvr, bvM, bvm, bi1, Md.noM, wipe, setTg, setTgs, sl_t, sl_l, cut_to, cut_from, okS_i, okS_n, lenOk_iff, all_t, seq_l, items, itemsI, srtsetD, parSet, pickAll, hn, at_, ixN, h, hu, hu2, cstO, cstR, hs, e1, e2, e3, z1, z2, z3, show small 1009 = true from rfl]
structure PenAt (n : Nat) (st0 st : Store) : Prop where
  lt : n < st0.length
  ex : ∃ p, PenOk p ∧ st = st0.set n p
theorem draw (F : Nat → Option Fn) [Has F 7 f7] (k : Nat) {n : Nat} {st0 st : Store} (h : PenAt n st0 st) {u : Int} (hu : 0 < u) (hu2 : u < 1073741824) : ∃ r st', call F (k + 1) 7 [.ref n, .int u] st = .ok (.int r) st' ∧ PenAt n st0 st' ∧ 0 ≤ r ∧ r < u := by
  obtain ⟨p, hp, rfl⟩ := h.ex
  obtain ⟨r, q, e, h1, h2, h3⟩ := draw0 F k n u (st0.set n p) p hp (List.getElem?_set_self h.lt) hu hu2
  rw [List.set_set] at e
  exact ⟨r, _, e, ⟨h.lt, q, h3, rfl⟩, h1, h2⟩
theorem pick (F : Nat → Option Fn) [Has F 7 f7] [Has F 8 f8] (k : Nat) {n : Nat} {st0 st : Store} (h : PenAt n st0 st) {xs : List D} (hx : xs ≠ []) (hl : xs.length ≤ 100000) : ∃ x st', call F (k + 2) 8 [.ref n, .lst xs] st = .ok x st' ∧ PenAt n st0 st' ∧ x ∈ xs := by
  have hpos : 0 < xs.length := List.length_pos_iff.mpr hx
  obtain ⟨r, st', e, h1, h2, h3⟩ := draw F k h (u := (xs.length : Int)) (by omega) (by omega)
  have hlt : r.toNat < xs.length := by omega
  refine ⟨xs[r.toNat], st', ?_, h1, List.getElem_mem _⟩
  have e2 : at_ xs r = some xs[r.toNat] := at_int h2 (List.getElem?_eq_getElem hlt)
  rw [call_h (n := 8) (f := f8)]; simp [f8, b8, exs, ex, evE, evL, evB, evC, evAnd, evOr, enter_s, ↓bd, ↓od, rs, slot, post_v, post_p, post_t, post_i, fin_rt, fin_nx, cm_lt, cm_le, cm_gt, cm_ge, cm_eqI, cm_neI, cm_eqS, cm_neS, cm_isN, cm_notN, op_addI, op_subI, op_mulI, op_modI, op_fdivI, op_addL, op_addT, op_mulT, tr_bl, ix_tup, ix_lst, ix_ref, bv1, bv2, bv3, bv4, bvR, bvr, bvM, bvm, bi1, Md.noM, wipe, setTg, setTgs, sl_t, sl_l, cut_to, cut_from, okS_i, okS_n, lenOk_iff, all_t, seq_l, items, itemsI, srtsetD, parSet, pickAll, e, e2]
/-- .. of ints within bounds -/
theorem pickI (F : Nat → Option Fn) [Has F 7 f7] [Has F 8 f8] (k : Nat) {n : Nat} {st0 st : Store} (h : PenAt n st0 st) (xs : List Int) (hx : xs ≠ []) (hl : xs.length ≤ 100000) : ∃ x st', call F (k + 2) 8 [.ref n, .lst (xs.map .int)] st = .ok (.int x) st' ∧ PenAt n st0 st' ∧ x ∈ xs := by
  obtain ⟨x, st', e, h1, h2⟩ := pick F k h (xs := xs.map .int) (by simpa using hx) (by simpa using hl)
  obtain ⟨i, hi, rfl⟩ := List.mem_map.mp h2
  exact ⟨i, st', e, h1, hi⟩
theorem op_powI' (i j : Int) : op2 .pow (.int i) (.int j) = if decide (0 ≤ j) && decide (j ≤ 1000) && small i then some (.int (i ^ j.toNat)) else none := rfl
theorem pen (F : Nat → Option Fn) [Has F 6 f6] (k : Nat) (c : Int) (st : Store) : ∃ st', call F (k + 1) 6 [.int c] st = .ok (.ref st.length) st' ∧ PenAt st.length st' st' := by
  have h1 := Int.emod_nonneg c (b := 2147483629) (by decide)
  have h2 := Int.emod_lt_of_pos c (b := 2147483629) (by decide)
  let p : List D := [.int (if c - 1000000000000000000 > 0 then c - 1000000000000000000 else 0), .int (c % 2147483629 + 1), .int 0]
  have hp : PenOk p := ⟨⟨_, _, _, rfl, by split <;> omega, by omega, by omega⟩⟩
  have e : call F (k + 1) 6 [.int c] st = .ok (.ref st.length) (st ++ [p]) := by
    rw [call_h (n := 6) (f := f6)]; simp [f6, b6, exs, ex, evE, evL, evB, evC, evAnd, evOr, enter_s, ↓bd, ↓od, rs, slot, post_v, post_p, post_t, post_i, fin_rt, fin_nx, cm_lt, cm_le, cm_gt, cm_ge, cm_eqI, cm_neI, cm_eqS, cm_neS, cm_isN, cm_notN, op_addI, op_subI, op_mulI, op_modI, op_fdivI, op_addL, op_addT, op_mulT, tr_bl, ix_tup, ix_lst, ix_ref, bv1, bv2, bv3, bv4, bvR, bvr, bvM, bvm, bi1, Md.noM, wipe, setTg, setTgs, sl_t, sl_l, cut_to, cut_from, okS_i, okS_n, lenOk_iff, all_t, seq_l, items, itemsI, srtsetD, parSet, pickAll, op_powI', show small 10 = true from rfl, p]
  refine ⟨st ++ [p], e, ⟨by simp, p, hp, ?_⟩⟩
  refine List.ext_getElem? fun j => ?_
  by_cases hj : st.length = j
  · subst hj
    rw [List.getElem?_set_self (by simp), List.getElem?_concat_length]
  · rw [List.getElem?_set_ne hj]
theorem cell (F : Nat → Option Fn) [Has F 5 f5] (k : Nat) (ns : List Int) (i : Int) (hi : 0 ≤ i) (st : Store) : ∃ c, call F (k + 1) 5 [.lst (ns.map .int), .int i] st = .ok (.int c) st := by
  by_cases h : i < ns.length
  · have hlt : i.toNat < ns.length := by omega
    refine ⟨ns[i.toNat], ?_⟩
    have e : at_ (ns.map D.int) i = some (.int ns[i.toNat]) := at_int hi (by simp [hlt])
    rw [call_h (n := 5) (f := f5)]; simp [f5, b5, exs, ex, evE, evL, evB, evC, evAnd, evOr, enter_s, ↓bd, ↓od, rs, slot, post_v, post_p, post_t, post_i, fin_rt, fin_nx, cm_lt, cm_le, cm_gt, cm_ge, cm_eqI, cm_neI, cm_eqS, cm_neS, cm_isN, cm_notN, op_addI, op_subI, op_mulI, op_modI, op_fdivI, op_addL, op_addT, op_mulT, tr_bl, ix_tup, ix_lst, ix_ref, bv1, bv2, bv3, bv4, bvR, bvr, bvM, bvm, bi1, Md.noM, wipe, setTg, setTgs, sl_t, sl_l, cut_to, cut_from, okS_i, okS_n, lenOk_iff, all_t, seq_l, items, itemsI, srtsetD, parSet, pickAll, h, e]
  · refine ⟨0, ?_⟩
    rw [call_h (n := 5) (f := f5)]; simp [f5, b5, exs, ex, evE, evL, evB, evC, evAnd, evOr, enter_s, ↓bd, ↓od, rs, slot, post_v, post_p, post_t, post_i, fin_rt, fin_nx, cm_lt, cm_le, cm_gt, cm_ge, cm_eqI, cm_neI, cm_eqS, cm_neS, cm_isN, cm_notN, op_addI, op_subI, op_mulI, op_modI, op_fdivI, op_addL, op_addT, op_mulT, tr_bl, ix_tup, ix_lst, ix_ref, bv1, bv2, bv3, bv4, bvR, bvr, bvM, bvm, bi1, Md.noM, wipe, setTg, setTgs, sl_t, sl_l, cut_to, cut_from, okS_i, okS_n, lenOk_iff, all_t, seq_l, items, itemsI, srtsetD, parSet, pickAll, h]
theorem same (F : Nat → Option Fn) [Has F 9 f9] (k : Nat) (a : D) (h : Tx 60 300000 a) (st : Store) : call F (k + 1) 9 [a, a] st = .ok (.bl true) st := by
  obtain ⟨x, hx⟩ := h.repr
  rw [call_h (n := 9) (f := f9)]; simp [f9, b9, exs, ex, evE, evL, evB, evC, evAnd, evOr, enter_s, ↓bd, ↓od, rs, slot, post_v, post_p, post_t, post_i, fin_rt, fin_nx, cm_lt, cm_le, cm_gt, cm_ge, cm_eqI, cm_neI, cm_eqS, cm_neS, cm_isN, cm_notN, op_addI, op_subI, op_mulI, op_modI, op_fdivI, op_addL, op_addT, op_mulT, tr_bl, ix_tup, ix_lst, ix_ref, bv1, bv2, bv3, bv4, bvR, bvr, bvM, bvm, bi1, Md.noM, wipe, setTg, setTgs, sl_t, sl_l, cut_to, cut_from, okS_i, okS_n, lenOk_iff, all_t, seq_l, items, itemsI, srtsetD, parSet, pickAll, hx]
/-! banks -/
def MarkOk (near : Int) (q : Int × Int) : Prop := -near ≤ q.1 ∧ q.1 < q.2 ∧ q.2 ≤ near
theorem toPairs_of : ∀ ps : List (Int × Int), toPairs (ps.map pairD) = some ps
  | [] => rfl
  | p :: ps => by
    show (toPairs (ps.map pairD)).map ((p.1, p.2) :: ·) = _
    rw [toPairs_of ps]
    rfl
theorem psort_len : ∀ l : List (Int × Int), (psort l).length ≤ l.length
  | [] => Nat.le_refl _
  | p :: r => by
    have h : ∀ m : List (Int × Int), (insP p m).length ≤ m.length + 1 := by
      intro m
      induction m with
      | nil => exact Nat.le_refl _
      | cons q m ih =>
        show (if ltP2 p q then p :: q :: m else if ltP2 q p then q :: insP p m else q :: m).length ≤ _
        split
        · exact Nat.le_refl _
        split
        · exact Nat.succ_le_succ ih
        · exact Nat.le_succ _
    exact Nat.le_trans (h _) (Nat.succ_le_succ (psort_len r))
theorem rack1 (F : Nat → Option Fn) [Has F 7 f7] [Has F 8 f8] [Has F 13 f13] (k : Nat) {n : Nat} {st0 st : Store} (h : PenAt n st0 st) {up near : Int} (hu : 0 ≤ up) (hu2 : up ≤ 30) (hn : 0 < near) (hn2 : near ≤ 20) :
    ∃ (marks : List (Int × Int)) (a b : Slot) (st' : Store), LB.ex (call F (k + 3)) s13_0 [.v (.ref n), .v (.int up), .v (.int near), .o (.lst []), .u, .u, .u, .u, .u] st = .nx [.v (.ref n), .v (.int up), .v (.int near), .o (.lst (marks.map pairD)), a, b, .u, .u, .u] st' ∧
      PenAt n st0 st' ∧ (marks.length : Int) ≤ up ∧ ∀ q ∈ marks, MarkOk near q := by
  obtain ⟨r, st1, e1, h1, r0, r1⟩ := draw F (k + 2) h (u := up + 1) (by omega) (by omega)
  obtain ⟨env', st', e, marks, a, b, rfl, hl, hp, hq⟩ := for_inv (T := call F (k + 3)) (b := l13_0) (tg := .nm 4) (it := .rng1 (.call 7 [.var 0, .op .add (.var 1) (.lit (.int 1))])) (env := [.v (.ref n), .v (.int up), .v (.int near), .o (.lst []), .u, .u, .u, .u, .u]) (st := st1) (st0 := st) (i := fun (i : Nat) => D.int (0 + (i : Int))) (l := List.range r.toNat)
    (by rw [← upto_map]; simp [exs, ex, evE, evL, evB, evC, evAnd, evOr, enter_s, ↓bd, ↓od, rs, slot, post_v, post_p, post_t, post_i, fin_rt, fin_nx, cm_lt, cm_le, cm_gt, cm_ge, cm_eqI, cm_neI, cm_eqS, cm_neS, cm_isN, cm_notN, op_addI, op_subI, op_mulI, op_modI, op_fdivI, op_addL, op_addT, op_mulT, tr_bl, ix_tup, ix_lst, ix_ref, bv1, bv2, bv3, bv4, bvR, bvr, bvM, bvm, bi1, Md.noM, wipe, setTg, setTgs, sl_t, sl_l, cut_to, cut_from, okS_i, okS_n, lenOk_iff, all_t, seq_l, items, itemsI, srtsetD, parSet, pickAll, e1, mid_i (i := r) (by omega) (by omega)])
    (fun i env st => ∃ (marks : List (Int × Int)) (a b : Slot), env = [.v (.ref n), .v (.int up), .v (.int near), .o (.lst (marks.map pairD)), a, b, .u, .u, .u] ∧ marks.length = i ∧ PenAt n st0 st ∧ ∀ q ∈ marks, MarkOk near q)
    ⟨[], .u, .u, rfl, rfl, h1, fun _ z => nomatch z⟩ (by
      rintro i x _ st2 hx hi ⟨marks, a, b, rfl, hl, hp, hq⟩
      rw [List.length_range] at hi
      obtain ⟨s, st3, e3, h3, s0, s1⟩ := draw F (k + 2) hp (u := 2 * near) (by omega) (by omega)
      obtain ⟨t, st4, e4, h4, t0, t1⟩ := draw F (k + 2) h3 (u := near - (s - near)) (by omega) (by omega)
      have hlen2 : marks.length ≤ 1000000 := by omega
      refine nx_of (by conv => lhs; simp [forB, exs, ex, evE, evL, evB, evC, evAnd, evOr, enter_s, ↓bd, ↓od, rs, slot, post_v, post_p, post_t, post_i, fin_rt, fin_nx, cm_lt, cm_le, cm_gt, cm_ge, cm_eqI, cm_neI, cm_eqS, cm_neS, cm_isN, cm_notN, op_addI, op_subI, op_mulI, op_modI, op_fdivI, op_addL, op_addT, op_mulT, tr_bl, ix_tup, ix_lst, ix_ref, bv1, bv2, bv3, bv4, bvR, bvr, bvM, bvm, bi1, Md.noM, wipe, setTg, setTgs, sl_t, sl_l, cut_to, cut_from, okS_i, okS_n, lenOk_iff, all_t, seq_l, items, itemsI, srtsetD, parSet, pickAll, l13_0, e3, e4, hlen2, small_i (i := 2) (by decide) (by decide)]) ?_
      refine ⟨marks ++ [(s - near, s - near + 1 + t)], .v (.int x), .v (.int (s - near)), ?_, by simp [hl], h4, fun q hq' => ?_⟩
      · simp [pairD]
      · rcases List.mem_append.mp hq' with m | m
        · exact hq q m
        · rw [List.mem_singleton.mp m]
          exact ⟨by show -near ≤ s - near; omega, by show s - near < s - near + 1 + t; omega, by show s - near + 1 + t ≤ near; omega⟩)
  rw [List.length_range] at hl
  exact ⟨marks, a, b, st', e, hp, by omega, hq⟩
def wOk (w : Int) : Prop := -99 ≤ w ∧ w ≤ 99 ∧ w ≠ 0
theorem rack2 (F : Nat → Option Fn) [Has F 7 f7] [Has F 8 f8] [Has F 13 f13] (k : Nat) {n : Nat} {st0 st : Store} (h : PenAt n st0 st) {u v c4 c5 : Slot} (marks : List (Int × Int)) (hl : marks.length ≤ 30) (hm : ∀ q ∈ marks, MarkOk 20 q) :
    ∃ (found : List Hook) (a b c : Slot) (st' : Store), LB.ex (call F (k + 3)) s13_2 [.v (.ref n), u, v, .o (.lst (marks.map pairD)), c4, c5, .o (.lst []), .u, .u] st = .nx [.v (.ref n), u, v, .o (.lst (marks.map pairD)), c4, a, .o (.lst (found.map hookD)), b, c] st' ∧
      PenAt n st0 st' ∧ found.map Hook.key = psort marks := by
  have tp := toPairs_of marks
  have hl2 := psort_len marks
  have hl3 : marks.length < 64 := by omega
  obtain ⟨env', st', e, found, a, b, c, rfl, hk, hp⟩ := for_inv (T := call F (k + 3)) (b := l13_2) (tg := .tp [.nm 5, .nm 7]) (it := .bi .srtset [.var 3]) (env := [.v (.ref n), u, v, .o (.lst (marks.map pairD)), c4, c5, .o (.lst []), .u, .u]) (st := st) (st0 := st) (i := pairD) (l := psort marks)
    (by simp [exs, ex, evE, evL, evB, evC, evAnd, evOr, enter_s, ↓bd, ↓od, rs, slot, post_v, post_p, post_t, post_i, fin_rt, fin_nx, cm_lt, cm_le, cm_gt, cm_ge, cm_eqI, cm_neI, cm_eqS, cm_neS, cm_isN, cm_notN, op_addI, op_subI, op_mulI, op_modI, op_fdivI, op_addL, op_addT, op_mulT, tr_bl, ix_tup, ix_lst, ix_ref, bv1, bv2, bv3, bv4, bvR, bvr, bvM, bvm, bi1, Md.noM, wipe, setTg, setTgs, sl_t, sl_l, cut_to, cut_from, okS_i, okS_n, lenOk_iff, all_t, seq_l, items, itemsI, srtsetD, parSet, pickAll, tp, hl3])
    (fun i env st => ∃ (found : List Hook) (a b c : Slot), env = [.v (.ref n), u, v, .o (.lst (marks.map pairD)), c4, a, .o (.lst (found.map hookD)), b, c] ∧ found.map Hook.key = (psort marks).take i ∧ PenAt n st0 st)
    ⟨[], c5, .u, .u, rfl, by simp, h⟩ (by
      rintro i p _ st2 ep hip ⟨found, a, b, c, rfl, hk, hp⟩
      obtain ⟨m1, m2, m3⟩ := hm p (psort_mem.mp (List.mem_of_getElem? ep))
      obtain ⟨z, st3, e3, h3, hx⟩ := pickI F (k + 1) hp [3, 9, 99] (by simp) (by simp)
      have hz : 0 < z ∧ z ≤ 99 := by
        simp only [List.mem_cons, List.not_mem_nil, or_false] at hx
        omega
      obtain ⟨y, st4, e4, h4, y0, y1⟩ := draw F (k + 2) h3 (u := z) hz.1 (by omega)
      obtain ⟨w, st5, e5, h5, ht⟩ := pickI F (k + 1) h4 [1 + y, 1 + y, -(1 + y)] (by simp) (by simp)
      have hw : wOk w := by
        simp only [List.mem_cons, List.not_mem_nil, or_false] at ht
        unfold wOk
        omega
      have hfl : found.length = ((psort marks).take i).length := by rw [← hk, List.length_map]
      have hlen2 : found.length ≤ 1000000 := by rw [hfl, List.length_take]; omega
      simp only [List.map_cons, List.map_nil] at e3 e5
      refine nx_of (by conv => lhs; simp [forB, exs, ex, evE, evL, evB, evC, evAnd, evOr, enter_s, ↓bd, ↓od, rs, slot, post_v, post_p, post_t, post_i, fin_rt, fin_nx, cm_lt, cm_le, cm_gt, cm_ge, cm_eqI, cm_neI, cm_eqS, cm_neS, cm_isN, cm_notN, op_addI, op_subI, op_mulI, op_modI, op_fdivI, op_addL, op_addT, op_mulT, tr_bl, ix_tup, ix_lst, ix_ref, bv1, bv2, bv3, bv4, bvR, bvr, bvM, bvm, bi1, Md.noM, wipe, setTg, setTgs, sl_t, sl_l, cut_to, cut_from, okS_i, okS_n, lenOk_iff, all_t, seq_l, items, itemsI, srtsetD, parSet, pickAll, pairD, l13_2, e3, e4, e5, hlen2]) ?_
      refine ⟨found ++ [(⟨p.1, p.2, w, by omega, m2, by omega, hw.1, hw.2.1, hw.2.2⟩ : Hook)], .v (.int p.1), .v (.int p.2), .v (.int (1 + y)), by simp [hookD], ?_, h5⟩
      rw [List.map_append, hk, List.take_add_one, ep]
      rfl)
  rw [List.take_length] at hk
  exact ⟨found, a, b, c, st', e, hp, hk⟩
theorem rack (F : Nat → Option Fn) [Has F 7 f7] [Has F 8 f8] [Has F 13 f13] (k : Nat) {n : Nat} {st0 st : Store} (h : PenAt n st0 st) {up near : Int} (hu : 0 ≤ up) (hu2 : up ≤ 30) (hn : 0 < near) (hn2 : near ≤ 20) :
    ∃ (b : Bank) (st' : Store), call F (k + 4) 13 [.ref n, .int up, .int near] st = .ok (bankD b) st' ∧ PenAt n st0 st' ∧ (b.l.length : Int) ≤ up ∧ ∀ h ∈ b.l, -near ≤ h.lo ∧ h.hi ≤ near := by
  obtain ⟨marks, a, b, st1, e1, h1, hl, hm⟩ := rack1 F k h hu hu2 hn hn2
  obtain ⟨found, a2, b2, c2, st2, e2, h2, hk⟩ := rack2 F k h1 (u := .v (.int up)) (v := .v (.int near)) (c4 := a) (c5 := b) marks (by omega) fun q hq => by
    obtain ⟨x, y, z⟩ := hm q hq
    exact ⟨by omega, y, by omega⟩
  have hlen : found.length ≤ marks.length := by
    have := psort_len marks
    have := congrArg List.length hk
    rw [List.length_map] at this
    omega
  have srt : found.Pairwise Hook.lt := by
    have p := psort_sorted marks
    rw [← hk] at p
    exact (List.pairwise_map.mp p).imp fun q => ltP2_iff.mp q
  refine ⟨⟨found, by omega, srt⟩, st2, ?_, h2, by show (found.length : Int) ≤ up; omega, fun g hg => ?_⟩
  · rw [call_h (n := 13) (f := f13)]; simp [f13, b13, exs, ex, evE, evL, evB, evC, evAnd, evOr, enter_s, ↓bd, ↓od, rs, slot, post_v, post_p, post_t, post_i, fin_rt, fin_nx, cm_lt, cm_le, cm_gt, cm_ge, cm_eqI, cm_neI, cm_eqS, cm_neS, cm_isN, cm_notN, op_addI, op_subI, op_mulI, op_modI, op_fdivI, op_addL, op_addT, op_mulT, tr_bl, ix_tup, ix_lst, ix_ref, bv1, bv2, bv3, bv4, bvR, bvr, bvM, bvm, bi1, Md.noM, wipe, setTg, setTgs, sl_t, sl_l, cut_to, cut_from, okS_i, okS_n, lenOk_iff, all_t, seq_l, items, itemsI, srtsetD, parSet, pickAll, e1, e2]
  · have hgk : g.key ∈ psort marks := by rw [← hk]; exact List.mem_map.mpr ⟨g, hg, rfl⟩
    obtain ⟨m1, m2, m3⟩ := hm _ (psort_mem.mp hgk)
    exact ⟨m1, m3⟩
theorem spot (F : Nat → Option Fn) [Has F 7 f7] [Has F 30 f30] (k : Nat) {n : Nat} {st0 st : Store} (h : PenAt n st0 st) (l : List Hook) (hl : l.length ≤ 1000) : ∃ s st', call F (k + 2) 30 [.ref n, .tup (l.map hookD)] st = .ok (stD s) st' ∧ PenAt n st0 st' ∧ s.length = l.length := by
  obtain ⟨ys, st1, e1, h1, l1, p1⟩ := ev_compS (T := call F (k + 1)) (m := .p) (e := .call 7 [.var 0, .lit (.int 2)]) (it := .var 1) (tg := .nm 2) (own := [("_law_hook", 2)]) (env := [.v (.ref n), .v (.tup (l.map hookD)), .u]) (st := st) (st1 := st)
    (ds := l.map hookD) (I := PenAt n st0) (P := fun d => ∃ b, d = bitD b) rfl (by simp; omega) h fun d hd st2 h2 => by
      obtain ⟨r, st3, e3, h3, r0, r1⟩ := draw F k h2 (u := 2) (by decide) (by decide)
      refine ⟨_, .int r, st3, rfl, by simp [exs, ex, evE, evL, evB, evC, evAnd, evOr, enter_s, ↓bd, ↓od, rs, slot, post_v, post_p, post_t, post_i, fin_rt, fin_nx, cm_lt, cm_le, cm_gt, cm_ge, cm_eqI, cm_neI, cm_eqS, cm_neS, cm_isN, cm_notN, op_addI, op_subI, op_mulI, op_modI, op_fdivI, op_addL, op_addT, op_mulT, tr_bl, ix_tup, ix_lst, ix_ref, bv1, bv2, bv3, bv4, bvR, bvr, bvM, bvm, bi1, Md.noM, wipe, setTg, setTgs, sl_t, sl_l, cut_to, cut_from, okS_i, okS_n, lenOk_iff, all_t, seq_l, items, itemsI, srtsetD, parSet, pickAll, e3], h3, ?_⟩
      have : r = 0 ∨ r = 1 := by omega
      rcases this with z | z
      · exact ⟨false, by rw [z]; rfl⟩
      · exact ⟨true, by rw [z]; rfl⟩
  obtain ⟨s, rfl⟩ := lift_all p1
  have e2 : evE (call F (k + 1)) c30_0 .p [.v (.ref n), .v (.tup (l.map hookD)), .u] st = .ok (.lst (s.map bitD)) st1 := e1
  refine ⟨s, st1, ?_, h1, by simpa using l1⟩
  rw [call_h (n := 30) (f := f30)]; simp [f30, b30, exs, ex, evE, evL, evB, evC, evAnd, evOr, enter_s, ↓bd, ↓od, rs, slot, post_v, post_p, post_t, post_i, fin_rt, fin_nx, cm_lt, cm_le, cm_gt, cm_ge, cm_eqI, cm_neI, cm_eqS, cm_neS, cm_isN, cm_notN, op_addI, op_subI, op_mulI, op_modI, op_fdivI, op_addL, op_addT, op_mulT, tr_bl, ix_tup, ix_lst, ix_ref, bv1, bv2, bv3, bv4, bvR, bvr, bvM, bvm, bi1, Md.noM, wipe, setTg, setTgs, sl_t, sl_l, cut_to, cut_from, okS_i, okS_n, lenOk_iff, all_t, seq_l, items, itemsI, srtsetD, parSet, pickAll, e2]

end KK
namespace KK
open LB
/-! FQ: rows drawn; the law's own put -/
theorem line (F : Nat → Option Fn) [Has F 7 f7] [Has F 8 f8] [Has F 48 f48] (k : Nat) {n : Nat} {st0 st : Store} (h : PenAt n st0 st) {up near : Int} (hu : 0 ≤ up) (hu2 : up ≤ 1000) (hn : 0 ≤ near) (hn2 : near ≤ 20) :
    ∃ (r : List Lv) (st' : Store), call F (k + 4) 48 [.ref n, .int up, .int near] st = .ok (rowD r) st' ∧ PenAt n st0 st' ∧ (r.length : Int) ≤ up := by
  obtain ⟨r, st1, e1, h1, r0, r1⟩ := draw F (k + 2) h (u := up + 1) (by omega) (by omega)
  obtain ⟨env', st', e, found, a, b, rfl, hl, hp⟩ := for_inv (T := call F (k + 3)) (b := l48_0) (tg := .nm 4) (it := .rng1 (.call 7 [.var 0, .op .add (.var 1) (.lit (.int 1))])) (env := [.v (.ref n), .v (.int up), .v (.int near), .o (.lst []), .u, .u]) (st := st1) (st0 := st) (i := fun (i : Nat) => D.int (0 + (i : Int))) (l := List.range r.toNat)
    (by rw [← upto_map]; simp [exs, ex, evE, evL, evB, evC, evAnd, evOr, enter_s, ↓bd, ↓od, rs, slot, post_v, post_p, post_t, post_i, fin_rt, fin_nx, cm_lt, cm_le, cm_gt, cm_ge, cm_eqI, cm_neI, cm_eqS, cm_neS, cm_isN, cm_notN, op_addI, op_subI, op_mulI, op_modI, op_fdivI, op_addL, op_addT, op_mulT, tr_bl, ix_tup, ix_lst, ix_ref, bv1, bv2, bv3, bv4, bvR, bvr, bvM, bvm, bi1, Md.noM, wipe, setTg, setTgs, sl_t, sl_l, cut_to, cut_from, okS_i, okS_n, lenOk_iff, all_t, seq_l, items, itemsI, srtsetD, parSet, pickAll, e1, mid_i (i := r) (by omega) (by omega)])
    (fun i env st => ∃ (found : List Lv) (a b : Slot), env = [.v (.ref n), .v (.int up), .v (.int near), .o (.lst (found.map lvD)), a, b] ∧ found.length = i ∧ PenAt n st0 st)
    ⟨[], .u, .u, rfl, rfl, h1⟩ (by
      rintro i x _ st2 hx hi ⟨found, a, b, rfl, hl, hp⟩
      rw [List.length_range] at hi
      obtain ⟨s, st3, e3, h3, s0, s1⟩ := draw F (k + 2) hp (u := 2 * near + 1) (by omega) (by omega)
      obtain ⟨t, st4, e4, h4, t0, t1⟩ := draw F (k + 2) h3 (u := 41) (by omega) (by omega)
      obtain ⟨y, st5, e5, h5, hy⟩ := pickI F (k + 1) h4 [s - near, s - near, s - near, s - near, s - near, s - near, s - near, s - near, s - near, -20, 20, t - 20] (by simp) (by simp)
      have hb : -20 ≤ y ∧ y ≤ 20 := by
        simp only [List.mem_cons, List.not_mem_nil, or_false] at hy
        omega
      have hlen2 : found.length ≤ 1000000 := by omega
      simp only [List.map_cons, List.map_nil] at e5
      have e8 : (9 : Int).toNat = 9 := rfl
      refine nx_of (by conv => lhs; simp [forB, exs, ex, evE, evL, evB, evC, evAnd, evOr, enter_s, ↓bd, ↓od, rs, slot, post_v, post_p, post_t, post_i, fin_rt, fin_nx, cm_lt, cm_le, cm_gt, cm_ge, cm_eqI, cm_neI, cm_eqS, cm_neS, cm_isN, cm_notN, op_addI, op_subI, op_mulI, op_modI, op_fdivI, op_addL, op_addT, op_mulT, tr_bl, ix_tup, ix_lst, ix_ref, bv1, bv2, bv3, bv4, bvR, bvr, bvM, bvm, bi1, Md.noM, wipe, setTg, setTgs, sl_t, sl_l, cut_to, cut_from, okS_i, okS_n, lenOk_iff, all_t, seq_l, items, itemsI, srtsetD, parSet, pickAll, l48_0, e3, e4, e5, e8, hlen2, small_i (i := 2) (by decide) (by decide), op_mulL]) ?_
      exact ⟨found ++ [⟨y, hb.1, hb.2⟩], .v (.int x), .v (.int (s - near)), by simp [lvD], by simp [hl], h5⟩)
  rw [List.length_range] at hl
  change LB.ex _ s48_0 _ _ = _ at e
  refine ⟨found, st', ?_, hp, by omega⟩
  rw [call_h (n := 48) (f := f48)]; simp [f48, b48, exs, ex, evE, evL, evB, evC, evAnd, evOr, enter_s, ↓bd, ↓od, rs, slot, post_v, post_p, post_t, post_i, fin_rt, fin_nx, cm_lt, cm_le, cm_gt, cm_ge, cm_eqI, cm_neI, cm_eqS, cm_neS, cm_isN, cm_notN, op_addI, op_subI, op_mulI, op_modI, op_fdivI, op_addL, op_addT, op_mulT, tr_bl, ix_tup, ix_lst, ix_ref, bv1, bv2, bv3, bv4, bvR, bvr, bvM, bvm, bi1, Md.noM, wipe, setTg, setTgs, sl_t, sl_l, cut_to, cut_from, okS_i, okS_n, lenOk_iff, all_t, seq_l, items, itemsI, srtsetD, parSet, pickAll, e]
theorem putL_get {l : List Hook} {s : List Bool} {i : Int} {j : Nat} {g : Hook} {b : Bool} (hg : l[j]? = some g) (hb : s[j]? = some b) : (putL l s i)[j]? = some (bitPut i g b) := by
  simp [putL, List.getElem?_zipWith, hg, hb]
theorem putL_take {l : List Hook} {s : List Bool} {i : Int} {j : Nat} {g : Hook} {b : Bool} (hg : l[j]? = some g) (hb : s[j]? = some b) (hl : s.length = l.length) : ((putL l s i).take j ++ s.drop j).set j (bitPut i g b) = (putL l s i).take (j + 1) ++ s.drop (j + 1) := by
  have hil := (List.getElem?_eq_some_iff.mp hg).1
  have hib := (List.getElem?_eq_some_iff.mp hb).1
  have hpl := putL_len i hl
  have hd : s.drop j = b :: s.drop (j + 1) := by
    rw [List.drop_eq_getElem_cons hib]
    congr 1
    exact Option.some.inj ((List.getElem?_eq_getElem hib).symm.trans hb)
  rw [hd, List.take_add_one, putL_get hg hb, List.set_append_right _ _ (by rw [List.length_take]; omega)]
  have : j - ((putL l s i).take j).length = 0 := by rw [List.length_take]; omega
  rw [this]
  simp
theorem set_same {α : Type} {L : List α} {j : Nat} {b : α} (h : L[j]? = some b) : L.set j b = L := by
  refine List.ext_getElem? fun m => ?_
  by_cases hj : j = m
  · subst hj
    rw [List.getElem?_set_self (List.getElem?_eq_some_iff.mp h).1, h]
  · rw [List.getElem?_set_ne hj]
theorem put2 (F : Nat → Option Fn) [Has F 41 f41] (k : Nat) (l : List Hook) (s : List Bool) (hs : s.length = l.length) (hl : l.length ≤ 1000) (i : Int) (st : Store) : call F (k + 1) 41 [.tup (l.map hookD), stD s, .int i] st = .ok (stD (putL l s i)) st := by
  have hpl := putL_len i hs
  obtain ⟨env', st', e, a, b, rfl, rfl⟩ := for_inv (T := call F k) (b := l41_0) (tg := .tp [.nm 4, .nm 5]) (it := .enum (.var 0)) (env := [.v (.tup (l.map hookD)), .v (stD s), .v (.int i), .o (.lst (s.map bitD)), .u, .u]) (st := st) (st0 := st) (i := fun p : Hook × Nat => .tup [.int (p.2 : Nat), hookD p.1]) (l := l.zipIdx)
    (by rw [← counted_map]; simp [exs, ex, evE, evL, evB, evC, evAnd, evOr, enter_s, ↓bd, ↓od, rs, slot, post_v, post_p, post_t, post_i, fin_rt, fin_nx, cm_lt, cm_le, cm_gt, cm_ge, cm_eqI, cm_neI, cm_eqS, cm_neS, cm_isN, cm_notN, op_addI, op_subI, op_mulI, op_modI, op_fdivI, op_addL, op_addT, op_mulT, tr_bl, ix_tup, ix_lst, ix_ref, bv1, bv2, bv3, bv4, bvR, bvr, bvM, bvm, bi1, Md.noM, wipe, setTg, setTgs, sl_t, sl_l, cut_to, cut_from, okS_i, okS_n, lenOk_iff, all_t, seq_l, items, itemsI, srtsetD, parSet, pickAll])
    (fun j env st1 => ∃ a b, env = [.v (.tup (l.map hookD)), .v (stD s), .v (.int i), .o (.lst (((putL l s i).take j ++ s.drop j).map bitD)), a, b] ∧ st1 = st) ⟨.u, .u, by simp, rfl⟩ (by
      rintro j ⟨g, j2⟩ _ _ hj hlt ⟨a, b, rfl, rfl⟩
      rw [List.getElem?_zipIdx] at hj
      cases eg : l[j]? with
      | none => rw [eg] at hj; cases hj
      | some g' =>
      rw [eg] at hj
      simp only [Option.map_some, Option.some.injEq, Prod.mk.injEq, Nat.zero_add] at hj
      obtain ⟨rfl, rfl⟩ := hj
      have hil := (List.getElem?_eq_some_iff.mp eg).1
      obtain ⟨b0, eb⟩ : ∃ b0, s[j]? = some b0 := ⟨_, List.getElem?_eq_getElem (by omega)⟩
      have step := putL_take (i := i) eg eb hs
      have lenL : ((putL l s i).take j ++ s.drop j).length = l.length := by
        rw [List.length_append, List.length_take, List.length_drop]
        omega
      have glt := g'.b
      have at0' : ((putL l s i).take j ++ s.drop j)[j]? = some b0 := by
        rw [List.getElem?_append_right (by rw [List.length_take]; omega)]
        rw [List.length_take, show j - min j (putL l s i).length = 0 by omega, List.getElem?_drop, Nat.add_zero]
        exact eb
      rw [← step]
      generalize hL : (putL l s i).take j ++ s.drop j = L at *
      have ix : LB.ixN (L.map bitD).length (j : Nat) = some j := by
        unfold ixN
        rw [if_pos (by omega), if_pos (by rw [List.length_map, lenL]; omega)]
        rfl
      have ix2 : LB.ixN L.length (j : Nat) = some j := by rw [← List.length_map (f := bitD)]; exact ix
      have ms : ∀ z : Bool, (L.map bitD).set j (bitD z) = (L.set j z).map bitD := fun z => by rw [List.map_set]
      have m1 : (L.map bitD).set j (.int 1) = (L.set j true).map bitD := ms true
      have m0 : (L.map bitD).set j (.int 0) = (L.set j false).map bitD := ms false
      by_cases h1 : g'.hi ≤ i
      · have h2 : ¬ i ≤ g'.lo := by omega
        have bp : bitPut i g' b0 = true := by simp [bitPut, h1]
        refine nx_of (by conv => lhs; simp [forB, exs, ex, evE, evL, evB, evC, evAnd, evOr, enter_s, ↓bd, ↓od, rs, slot, post_v, post_p, post_t, post_i, fin_rt, fin_nx, cm_lt, cm_le, cm_gt, cm_ge, cm_eqI, cm_neI, cm_eqS, cm_neS, cm_isN, cm_notN, op_addI, op_subI, op_mulI, op_modI, op_fdivI, op_addL, op_addT, op_mulT, tr_bl, ix_tup, ix_lst, ix_ref, bv1, bv2, bv3, bv4, bvR, bvr, bvM, bvm, bi1, Md.noM, wipe, setTg, setTgs, sl_t, sl_l, cut_to, cut_from, okS_i, okS_n, lenOk_iff, all_t, seq_l, items, itemsI, srtsetD, parSet, pickAll, l41_0, hookD, h1, h2, cstO, cstL, ix, ix2, at0, at1]) ?_
        exact ⟨_, _, by rw [m1, bp], rfl⟩
      · by_cases h2 : i ≤ g'.lo
        · have bp : bitPut i g' b0 = false := by simp [bitPut, h1, h2]
          refine nx_of (by conv => lhs; simp [forB, exs, ex, evE, evL, evB, evC, evAnd, evOr, enter_s, ↓bd, ↓od, rs, slot, post_v, post_p, post_t, post_i, fin_rt, fin_nx, cm_lt, cm_le, cm_gt, cm_ge, cm_eqI, cm_neI, cm_eqS, cm_neS, cm_isN, cm_notN, op_addI, op_subI, op_mulI, op_modI, op_fdivI, op_addL, op_addT, op_mulT, tr_bl, ix_tup, ix_lst, ix_ref, bv1, bv2, bv3, bv4, bvR, bvr, bvM, bvm, bi1, Md.noM, wipe, setTg, setTgs, sl_t, sl_l, cut_to, cut_from, okS_i, okS_n, lenOk_iff, all_t, seq_l, items, itemsI, srtsetD, parSet, pickAll, l41_0, hookD, h1, h2, cstO, cstL, ix, ix2, at0, at1]) ?_
          exact ⟨_, _, by rw [m0, bp], rfl⟩
        · have bp : bitPut i g' b0 = b0 := by simp [bitPut, h1, h2]
          refine nx_of (by conv => lhs; simp [forB, exs, ex, evE, evL, evB, evC, evAnd, evOr, enter_s, ↓bd, ↓od, rs, slot, post_v, post_p, post_t, post_i, fin_rt, fin_nx, cm_lt, cm_le, cm_gt, cm_ge, cm_eqI, cm_neI, cm_eqS, cm_neS, cm_isN, cm_notN, op_addI, op_subI, op_mulI, op_modI, op_fdivI, op_addL, op_addT, op_mulT, tr_bl, ix_tup, ix_lst, ix_ref, bv1, bv2, bv3, bv4, bvR, bvr, bvM, bvm, bi1, Md.noM, wipe, setTg, setTgs, sl_t, sl_l, cut_to, cut_from, okS_i, okS_n, lenOk_iff, all_t, seq_l, items, itemsI, srtsetD, parSet, pickAll, l41_0, hookD, h1, h2, cstO, cstL, ix, ix2, at0, at1]) ?_
          exact ⟨_, _, by rw [bp, set_same at0'], rfl⟩)
  have q1 : (putL l s i).take l.length = putL l s i := List.take_of_length_le (by omega)
  have q2 : s.drop l.length = [] := List.drop_of_length_le (by omega)
  rw [List.length_zipIdx, q1, q2, List.append_nil] at e
  change LB.ex _ s41_0 _ _ = _ at e
  rw [call_h (n := 41) (f := f41)]; simp [f41, b41, exs, ex, evE, evL, evB, evC, evAnd, evOr, enter_s, ↓bd, ↓od, rs, slot, post_v, post_p, post_t, post_i, fin_rt, fin_nx, cm_lt, cm_le, cm_gt, cm_ge, cm_eqI, cm_neI, cm_eqS, cm_neS, cm_isN, cm_notN, op_addI, op_subI, op_mulI, op_modI, op_fdivI, op_addL, op_addT, op_mulT, tr_bl, ix_tup, ix_lst, ix_ref, bv1, bv2, bv3, bv4, bvR, bvr, bvM, bvm, bi1, Md.noM, wipe, setTg, setTgs, sl_t, sl_l, cut_to, cut_from, okS_i, okS_n, lenOk_iff, all_t, seq_l, items, itemsI, srtsetD, parSet, pickAll, e]
/-! the law's turns -/
theorem turns3 {T : Tab} {env : Env} {st : Store} (m : Int) (hm : m ≤ 1000000) (ns : List Int) (h : env[0]? = some (.v (.lst (ns.map .int)))) :
    ∃ r : Int, 1 ≤ r ∧ evE T (.rng1 (.bi .max2 [.lit (.int 1), .bi .min2 [.bi .len [.var 0], .lit (.int m)]])) .i env st = .ok (.lst (upto 0 r.toNat)) st := by
  generalize em : (if m < (ns.length : Int) then m else ns.length) = q
  have hq : q ≤ m := by rw [← em]; split <;> omega
  generalize er : (if 1 < q then q else 1) = r
  have hr : 1 ≤ r ∧ r ≤ 1000000 := by rw [← er]; split <;> omega
  refine ⟨r, hr.1, ?_⟩
  simp [exs, ex, evE, evL, evB, evC, evAnd, evOr, enter_s, ↓bd, ↓od, rs, slot, post_v, post_p, post_t, post_i, fin_rt, fin_nx, cm_lt, cm_le, cm_gt, cm_ge, cm_eqI, cm_neI, cm_eqS, cm_neS, cm_isN, cm_notN, op_addI, op_subI, op_mulI, op_modI, op_fdivI, op_addL, op_addT, op_mulT, tr_bl, ix_tup, ix_lst, ix_ref, bv1, bv2, bv3, bv4, bvR, bvr, bvM, bvm, bi1, Md.noM, wipe, setTg, setTgs, sl_t, sl_l, cut_to, cut_from, okS_i, okS_n, lenOk_iff, all_t, seq_l, items, itemsI, srtsetD, parSet, pickAll, h, em, er, mid_i (i := r) (by omega) (by omega)]

end KK
namespace KK
open LB
/-! FR: the law's own sums, rows put one by one -/
theorem outL_filter : ∀ (l : List Hook) (s : List Bool), (((l.zip s).filter fun p => p.2).map fun p => p.1.w).sum = outL l s
  | [], s => by cases s <;> rfl
  | _ :: _, [] => rfl
  | h :: l, b :: s => by
    have ih := outL_filter l s
    have e : outL (h :: l) (b :: s) = h.w * bi b + outL l s := by simp [outL]
    rw [e, ← ih]
    cases b <;> simp [bi]
theorem sum (F : Nat → Option Fn) [Has F 31 f31] (k : Nat) (l : List Hook) (s : List Bool) (hl : l.length ≤ 100000) (st : Store) : call F (k + 1) 31 [.tup (l.map hookD), stD s] st = .ok (.int (outL l s)) st := by
  have h0 : ∀ x y, evE (call F k) c31_0 .p [.v (.tup (l.map hookD)), .v (stD s), x, y] st = .ok (.lst (((l.zip s).filter fun p => p.2).map fun p => .int p.1.w)) st := fun x y =>
    ev_compF (i := fun p : Hook × Bool => .tup [hookD p.1, bitD p.2]) (ds := l.zip s) (by rw [← pairs_zip]; simp [exs, ex, evE, evL, evB, evC, evAnd, evOr, enter_s, ↓bd, ↓od, rs, slot, post_v, post_p, post_t, post_i, fin_rt, fin_nx, cm_lt, cm_le, cm_gt, cm_ge, cm_eqI, cm_neI, cm_eqS, cm_neS, cm_isN, cm_notN, op_addI, op_subI, op_mulI, op_modI, op_fdivI, op_addL, op_addT, op_mulT, tr_bl, ix_tup, ix_lst, ix_ref, bv1, bv2, bv3, bv4, bvR, bvr, bvM, bvm, bi1, Md.noM, wipe, setTg, setTgs, sl_t, sl_l, cut_to, cut_from, okS_i, okS_n, lenOk_iff, all_t, seq_l, items, itemsI, srtsetD, parSet, pickAll]) (by rw [List.length_zip]; omega) fun p hp => ⟨_, rfl, by cases p.2 <;> simp [exs, ex, evE, evL, evB, evC, evAnd, evOr, enter_s, ↓bd, ↓od, rs, slot, post_v, post_p, post_t, post_i, fin_rt, fin_nx, cm_lt, cm_le, cm_gt, cm_ge, cm_eqI, cm_neI, cm_eqS, cm_neS, cm_isN, cm_notN, op_addI, op_subI, op_mulI, op_modI, op_fdivI, op_addL, op_addT, op_mulT, tr_bl, ix_tup, ix_lst, ix_ref, bv1, bv2, bv3, bv4, bvR, bvr, bvM, bvm, bi1, Md.noM, wipe, setTg, setTgs, sl_t, sl_l, cut_to, cut_from, okS_i, okS_n, lenOk_iff, all_t, seq_l, items, itemsI, srtsetD, parSet, pickAll, bitD, bi], fun _ => by simp [exs, ex, evE, evL, evB, evC, evAnd, evOr, enter_s, ↓bd, ↓od, rs, slot, post_v, post_p, post_t, post_i, fin_rt, fin_nx, cm_lt, cm_le, cm_gt, cm_ge, cm_eqI, cm_neI, cm_eqS, cm_neS, cm_isN, cm_notN, op_addI, op_subI, op_mulI, op_modI, op_fdivI, op_addL, op_addT, op_mulT, tr_bl, ix_tup, ix_lst, ix_ref, bv1, bv2, bv3, bv4, bvR, bvr, bvM, bvm, bi1, Md.noM, wipe, setTg, setTgs, sl_t, sl_l, cut_to, cut_from, okS_i, okS_n, lenOk_iff, all_t, seq_l, items, itemsI, srtsetD, parSet, pickAll, hookD, at2]⟩
  rw [call_h (n := 31) (f := f31)]; simp [f31, b31, exs, ex, evE, evL, evB, evC, evAnd, evOr, enter_s, ↓bd, ↓od, rs, slot, post_v, post_p, post_t, post_i, fin_rt, fin_nx, cm_lt, cm_le, cm_gt, cm_ge, cm_eqI, cm_neI, cm_eqS, cm_neS, cm_isN, cm_notN, op_addI, op_subI, op_mulI, op_modI, op_fdivI, op_addL, op_addT, op_mulT, tr_bl, ix_tup, ix_lst, ix_ref, bv1, bv2, bv3, bv4, bvR, bvr, bvM, bvm, bi1, Md.noM, wipe, setTg, setTgs, sl_t, sl_l, cut_to, cut_from, okS_i, okS_n, lenOk_iff, all_t, seq_l, items, itemsI, srtsetD, parSet, pickAll, h0, toInts_map, outL_filter]
theorem led (F : Nat → Option Fn) [Has F 41 f41] [Has F 49 f49] (k : Nat) (l : List Hook) (s : List Bool) (hs : s.length = l.length) (hl : l.length ≤ 1000) (r : List Lv) (st : Store) : call F (k + 2) 49 [.tup (l.map hookD), stD s, rowD r] st = .ok (stD (behindL l s r)) st := by
  obtain ⟨_, _, e, x, rfl, rfl⟩ := for_inv (T := call F (k + 1)) (tg := .nm 3) (b := l49_0) (it := .var 2) (i := lvD) (env := [.v (.tup (l.map hookD)), .v (stD s), .v (rowD r), .u]) (st := st) (st0 := st) (l := r) rfl
    (fun j env st1 => ∃ x, env = [.v (.tup (l.map hookD)), .v (stD (behindL l s (r.take j))), .v (rowD r), x] ∧ st1 = st) ⟨.u, rfl, rfl⟩ (by
    rintro j v _ _ hj hlt ⟨x, rfl, rfl⟩
    have et : r.take (j + 1) = r.take j ++ [v] := by rw [List.take_add_one, hj]; rfl
    refine nx_of (by conv => lhs; simp [forB, exs, ex, evE, evL, evB, evC, evAnd, evOr, enter_s, ↓bd, ↓od, rs, slot, post_v, post_p, post_t, post_i, fin_rt, fin_nx, cm_lt, cm_le, cm_gt, cm_ge, cm_eqI, cm_neI, cm_eqS, cm_neS, cm_isN, cm_notN, op_addI, op_subI, op_mulI, op_modI, op_fdivI, op_addL, op_addT, op_mulT, tr_bl, ix_tup, ix_lst, ix_ref, bv1, bv2, bv3, bv4, bvR, bvr, bvM, bvm, bi1, Md.noM, wipe, setTg, setTgs, sl_t, sl_l, cut_to, cut_from, okS_i, okS_n, lenOk_iff, all_t, seq_l, items, itemsI, srtsetD, parSet, pickAll, l49_0, lvD, put2 F k l _ (behindL_len _ _ hs) hl]) ?_
    exact ⟨.v (.int v.i), by rw [et]; simp [behindL], rfl⟩)
  rw [List.take_length] at e
  change LB.ex _ s49_0 _ _ = _ at e
  rw [call_h (n := 49) (f := f49)]; simp [f49, b49, exs, ex, evE, evL, evB, evC, evAnd, evOr, enter_s, ↓bd, ↓od, rs, slot, post_v, post_p, post_t, post_i, fin_rt, fin_nx, cm_lt, cm_le, cm_gt, cm_ge, cm_eqI, cm_neI, cm_eqS, cm_neS, cm_isN, cm_notN, op_addI, op_subI, op_mulI, op_modI, op_fdivI, op_addL, op_addT, op_mulT, tr_bl, ix_tup, ix_lst, ix_ref, bv1, bv2, bv3, bv4, bvR, bvr, bvM, bvm, bi1, Md.noM, wipe, setTg, setTgs, sl_t, sl_l, cut_to, cut_from, okS_i, okS_n, lenOk_iff, all_t, seq_l, items, itemsI, srtsetD, parSet, pickAll, e]
/-- the outputs one by one -/
def outsL (l : List Hook) : List Bool → List Lv → List Int
  | _, [] => []
  | s, v :: r => outL l (putL l s v.i) :: outsL l (putL l s v.i) r
theorem followL_eq (l : List Hook) : ∀ (r : List Lv) (s : List Bool), followL l s r = outsL l s r
  | [], s => rfl
  | v :: r, s => by
    have ih := followL_eq l r (putL l s v.i)
    unfold followL at ih ⊢
    show (statesL l (putL l s v.i) r).map (outL l) = _
    cases r with
    | nil => rfl
    | cons u r => exact congrArg (outL l (putL l s v.i) :: ·) ih
theorem outsL_snoc (l : List Hook) : ∀ (r : List Lv) (s : List Bool) (v : Lv), outsL l s (r ++ [v]) = outsL l s r ++ [outL l (putL l (behindL l s r) v.i)]
  | [], s, v => rfl
  | u :: r, s, v => congrArg (outL l (putL l s u.i) :: ·) (outsL_snoc l r _ v)
theorem outsL_len (l : List Hook) : ∀ (r : List Lv) (s : List Bool), (outsL l s r).length = r.length
  | [], _ => rfl
  | _ :: r, _ => congrArg (· + 1) (outsL_len l r _)
theorem behindL_snoc (l : List Hook) (s : List Bool) (r : List Lv) (v : Lv) : behindL l s (r ++ [v]) = putL l (behindL l s r) v.i := by simp [behindL]
theorem outs (F : Nat → Option Fn) [Has F 31 f31] [Has F 41 f41] [Has F 50 f50] (k : Nat) (l : List Hook) (s : List Bool) (hs : s.length = l.length) (hl : l.length ≤ 1000) (r : List Lv) (hr : r.length ≤ 1000) (st : Store) : call F (k + 2) 50 [.tup (l.map hookD), stD s, rowD r] st = .ok (.tup ((outsL l s r).map .int)) st := by
  obtain ⟨_, _, e, y, rfl, rfl⟩ := for_inv (T := call F (k + 1)) (tg := .nm 4) (b := l50_0) (it := .var 2) (i := lvD) (env := [.v (.tup (l.map hookD)), .v (stD s), .v (rowD r), .o (.lst []), .u]) (st := st) (st0 := st) (l := r) rfl
    (fun j env st1 => ∃ y, env = [.v (.tup (l.map hookD)), .v (stD (behindL l s (r.take j))), .v (rowD r), .o (.lst ((outsL l s (r.take j)).map .int)), y] ∧ st1 = st) ⟨.u, rfl, rfl⟩ (by
    rintro j v _ _ hj hlt ⟨y, rfl, rfl⟩
    have et : r.take (j + 1) = r.take j ++ [v] := by rw [List.take_add_one, hj]; rfl
    have hb := behindL_len (r.take j) s hs
    have hle : min j r.length ≤ 1000000 := by omega
    refine nx_of (by conv => lhs; simp [forB, exs, ex, evE, evL, evB, evC, evAnd, evOr, enter_s, ↓bd, ↓od, rs, slot, post_v, post_p, post_t, post_i, fin_rt, fin_nx, cm_lt, cm_le, cm_gt, cm_ge, cm_eqI, cm_neI, cm_eqS, cm_neS, cm_isN, cm_notN, op_addI, op_subI, op_mulI, op_modI, op_fdivI, op_addL, op_addT, op_mulT, tr_bl, ix_tup, ix_lst, ix_ref, bv1, bv2, bv3, bv4, bvR, bvr, bvM, bvm, bi1, Md.noM, wipe, setTg, setTgs, sl_t, sl_l, cut_to, cut_from, okS_i, okS_n, lenOk_iff, all_t, seq_l, items, itemsI, srtsetD, parSet, pickAll, l50_0, lvD, put2 F k l _ hb hl, sum F k l _ (by omega : l.length ≤ 100000), outsL_len, hle]) ?_
    exact ⟨.v (.int v.i), by rw [et, outsL_snoc, behindL_snoc]; simp, rfl⟩)
  rw [List.take_length] at e
  change LB.ex _ s50_0 _ _ = _ at e
  rw [call_h (n := 50) (f := f50)]; simp [f50, b50, exs, ex, evE, evL, evB, evC, evAnd, evOr, enter_s, ↓bd, ↓od, rs, slot, post_v, post_p, post_t, post_i, fin_rt, fin_nx, cm_lt, cm_le, cm_gt, cm_ge, cm_eqI, cm_neI, cm_eqS, cm_neS, cm_isN, cm_notN, op_addI, op_subI, op_mulI, op_modI, op_fdivI, op_addL, op_addT, op_mulT, tr_bl, ix_tup, ix_lst, ix_ref, bv1, bv2, bv3, bv4, bvR, bvr, bvM, bvm, bi1, Md.noM, wipe, setTg, setTgs, sl_t, sl_l, cut_to, cut_from, okS_i, okS_n, lenOk_iff, all_t, seq_l, items, itemsI, srtsetD, parSet, pickAll, e]
/-- outputs are small -/
theorem outL_le : ∀ (l : List Hook) (s : List Bool), -(99 * (l.length : Int)) ≤ outL l s ∧ outL l s ≤ 99 * (l.length : Int)
  | [], s => by cases s <;> simp [outL]
  | h :: l, [] => by simp [outL]; omega
  | h :: l, b :: s => by
    obtain ⟨i1, i2⟩ := outL_le l s
    have e : outL (h :: l) (b :: s) = h.w * bi b + outL l s := by simp [outL]
    have := h.d
    have := h.e
    rw [e, List.length_cons]
    cases b <;> simp [bi] <;> omega
theorem mem_outsL {l : List Hook} : ∀ {r : List Lv} {s : List Bool} {i : Int}, i ∈ outsL l s r → ∃ t, i = outL l t
  | [], _, _, h => by cases h
  | v :: r, s, i, h => by
    rcases List.mem_cons.mp h with h | h
    · exact ⟨_, h⟩
    · exact mem_outsL h
theorem tx_outs {n : Nat} {l : List Hook} {s : List Bool} {r : List Lv} (hl : l.length ≤ 1000) (hr : r.length ≤ 1000) : Tx (n + 1) 1001 (.tup ((outsL l s r).map .int)) :=
  tx_ints (by rw [outsL_len]; exact hr) fun i hi => by
    obtain ⟨t, rfl⟩ := mem_outsL hi
    have := outL_le l t
    omega

end KK
namespace KK
open LB
/-! FS: order of states -/
def leS (s t : List Bool) : Bool := (s.zip t).all fun p => !p.1 || p.2
theorem eq_nil {x : List D} (h : plains 59 x = true) : cm2 .eq (.lst x) (.lst []) = some x.isEmpty := by
  show eqD (.lst x) (.lst []) = _
  rw [eq_plain (show plain 60 (.lst x) = true from h) rfl (fun _ _ z => nomatch z)]
  cases x <;> rfl
theorem plains_ones {α : Type} (l : List α) : plains 59 (l.map fun _ => D.int 1) = true := plains_map (fun _ => rfl) l
theorem below (F : Nat → Option Fn) [Has F 84 f84] (k : Nat) (s t : List Bool) (hs : s.length ≤ 100000) (st : Store) : call F (k + 1) 84 [stD s, stD t] st = .ok (.bl (leS s t)) st := by
  have h0 : ∀ x y, evE (call F k) c84_0 .p [.v (stD s), .v (stD t), x, y] st = .ok (.lst (((s.zip t).filter fun p => p.1 && !p.2).map fun p => .int 1)) st := fun x y =>
    ev_compF (i := fun p : Bool × Bool => .tup [bitD p.1, bitD p.2]) (ds := s.zip t) (by rw [← pairs_zip]; simp [exs, ex, evE, evL, evB, evC, evAnd, evOr, enter_s, ↓bd, ↓od, rs, slot, post_v, post_p, post_t, post_i, fin_rt, fin_nx, cm_lt, cm_le, cm_gt, cm_ge, cm_eqI, cm_neI, cm_eqS, cm_neS, cm_isN, cm_notN, op_addI, op_subI, op_mulI, op_modI, op_fdivI, op_addL, op_addT, op_mulT, tr_bl, ix_tup, ix_lst, ix_ref, bv1, bv2, bv3, bv4, bvR, bvr, bvM, bvm, bi1, Md.noM, wipe, setTg, setTgs, sl_t, sl_l, cut_to, cut_from, okS_i, okS_n, lenOk_iff, all_t, seq_l, items, itemsI, srtsetD, parSet, pickAll]) (by rw [List.length_zip]; omega) fun p hp => ⟨_, rfl, by
      obtain ⟨a, b⟩ := p
      cases a <;> cases b <;> simp [exs, ex, evE, evL, evB, evC, evAnd, evOr, enter_s, ↓bd, ↓od, rs, slot, post_v, post_p, post_t, post_i, fin_rt, fin_nx, cm_lt, cm_le, cm_gt, cm_ge, cm_eqI, cm_neI, cm_eqS, cm_neS, cm_isN, cm_notN, op_addI, op_subI, op_mulI, op_modI, op_fdivI, op_addL, op_addT, op_mulT, tr_bl, ix_tup, ix_lst, ix_ref, bv1, bv2, bv3, bv4, bvR, bvr, bvM, bvm, bi1, Md.noM, wipe, setTg, setTgs, sl_t, sl_l, cut_to, cut_from, okS_i, okS_n, lenOk_iff, all_t, seq_l, items, itemsI, srtsetD, parSet, pickAll, bitD, bi], fun _ => by simp [exs, ex, evE, evL, evB, evC, evAnd, evOr, enter_s, ↓bd, ↓od, rs, slot, post_v, post_p, post_t, post_i, fin_rt, fin_nx, cm_lt, cm_le, cm_gt, cm_ge, cm_eqI, cm_neI, cm_eqS, cm_neS, cm_isN, cm_notN, op_addI, op_subI, op_mulI, op_modI, op_fdivI, op_addL, op_addT, op_mulT, tr_bl, ix_tup, ix_lst, ix_ref, bv1, bv2, bv3, bv4, bvR, bvr, bvM, bvm, bi1, Md.noM, wipe, setTg, setTgs, sl_t, sl_l, cut_to, cut_from, okS_i, okS_n, lenOk_iff, all_t, seq_l, items, itemsI, srtsetD, parSet, pickAll]⟩
  have h1 : (((s.zip t).filter fun p => p.1 && !p.2).map fun p => D.int 1).isEmpty = leS s t := by
    unfold leS
    generalize s.zip t = l
    induction l with
    | nil => rfl
    | cons p l ih =>
      obtain ⟨a, b⟩ := p
      cases a <;> cases b <;> simp_all
  have h2 := eq_nil (plains_ones ((s.zip t).filter fun p => p.1 && !p.2))
  rw [h1] at h2
  rw [call_h (n := 84) (f := f84)]; simp [f84, b84, exs, ex, evE, evL, evB, evC, evAnd, evOr, enter_s, ↓bd, ↓od, rs, slot, post_v, post_p, post_t, post_i, fin_rt, fin_nx, cm_lt, cm_le, cm_gt, cm_ge, cm_eqI, cm_neI, cm_eqS, cm_neS, cm_isN, cm_notN, op_addI, op_subI, op_mulI, op_modI, op_fdivI, op_addL, op_addT, op_mulT, tr_bl, ix_tup, ix_lst, ix_ref, bv1, bv2, bv3, bv4, bvR, bvr, bvM, bvm, bi1, Md.noM, wipe, setTg, setTgs, sl_t, sl_l, cut_to, cut_from, okS_i, okS_n, lenOk_iff, all_t, seq_l, items, itemsI, srtsetD, parSet, pickAll, h0, h2]
theorem leS_iff {s t : List Bool} (h : s.length = t.length) : leS s t = true ↔ ∀ j : Nat, s[j]? = some true → t[j]? = some true := by
  induction s generalizing t with
  | nil => cases t with
    | nil => simp [leS]
    | cons => simp at h
  | cons a s ih => cases t with
    | nil => simp at h
    | cons b t =>
      have ih := ih (t := t) (by simpa using h)
      have e : leS (a :: s) (b :: t) = ((!a || b) && leS s t) := by simp [leS]
      rw [e, Bool.and_eq_true, ih]
      constructor
      · rintro ⟨h1, h2⟩ j hj
        cases j with
        | zero => simp at hj ⊢; subst hj; simpa using h1
        | succ j => simpa using h2 j (by simpa using hj)
      · intro h1
        refine ⟨?_, fun j hj => by simpa using h1 (j + 1) (by simpa using hj)⟩
        cases a with
        | false => rfl
        | true => simpa using h1 0 rfl
theorem leS_refl (s : List Bool) : leS s s = true := (leS_iff rfl).mpr fun _ h => h
theorem putL_at (l : List Hook) (s : List Bool) (i : Int) (j : Nat) (h : s.length = l.length) : (putL l s i)[j]? = (l[j]?).bind fun g => (s[j]?).map fun b => bitPut i g b := by
  unfold putL
  rw [List.getElem?_zipWith]
  cases l[j]? <;> cases s[j]? <;> rfl
theorem putL_mono {l : List Hook} {s t : List Bool} {i j : Int} (hs : s.length = l.length) (ht : t.length = l.length) (h : leS s t = true) (hij : i ≤ j) : leS (putL l s i) (putL l t j) = true := by
  have h := (leS_iff (hs.trans ht.symm)).mp h
  refine (leS_iff ((putL_len i hs).trans (putL_len j ht).symm)).mpr fun m hm => ?_
  rw [putL_at l s i m hs] at hm
  rw [putL_at l t j m ht]
  cases eg : l[m]? with
  | none => rw [eg] at hm; cases hm
  | some g =>
    rw [eg] at hm
    have hlt : m < t.length := by rw [ht]; exact (List.getElem?_eq_some_iff.mp eg).1
    have hlt2 : m < s.length := by rw [hs]; exact (List.getElem?_eq_some_iff.mp eg).1
    have h := h m
    rw [List.getElem?_eq_getElem hlt2] at hm h
    rw [List.getElem?_eq_getElem hlt] at h ⊢
    have gb := g.b
    simp only [Option.bind_some, Option.map_some, Option.some.injEq, bitPut] at hm h ⊢
    by_cases h1 : g.hi ≤ j
    · simp [h1]
    · rw [if_neg h1]
      rw [if_neg (by omega)] at hm
      by_cases h2 : i ≤ g.lo
      · rw [if_pos h2] at hm; cases hm
      · rw [if_neg h2] at hm
        rw [if_neg (by omega)]
        exact h hm
theorem putL_idem (l : List Hook) (s : List Bool) (i : Int) (hs : s.length = l.length) : putL l (putL l s i) i = putL l s i := by
  refine List.ext_getElem? fun m => ?_
  rw [putL_at l _ i m (putL_len i hs), putL_at l s i m hs]
  cases l[m]? with
  | none => rfl
  | some g =>
    cases s[m]? with
    | none => rfl
    | some b =>
      simp only [Option.bind_some, Option.map_some, bitPut]
      by_cases h1 : g.hi ≤ i <;> by_cases h2 : i ≤ g.lo <;> simp [h1, h2]
theorem putL_low (l : List Hook) (s : List Bool) (hs : s.length = l.length) : putL l s (-20) = zeros l.length := by
  refine List.ext_getElem? fun m => ?_
  rw [putL_at l s _ m hs]
  unfold zeros
  by_cases hm : m < l.length
  · have e2 : m < s.length := by omega
    have := l[m].a
    have := l[m].b
    simp only [List.getElem?_eq_getElem hm, List.getElem?_eq_getElem e2, Option.bind_some, Option.map_some, bitPut]
    rw [if_neg (by omega), if_pos (by omega)]
    simp [hm]
  · simp [hm]
theorem putL_high (l : List Hook) (s : List Bool) (hs : s.length = l.length) : putL l s 20 = List.replicate l.length true := by
  refine List.ext_getElem? fun m => ?_
  rw [putL_at l s _ m hs]
  by_cases hm : m < l.length
  · have e2 : m < s.length := by omega
    have := l[m].c
    simp only [List.getElem?_eq_getElem hm, List.getElem?_eq_getElem e2, Option.bind_some, Option.map_some, bitPut]
    rw [if_pos (by omega)]
    simp [hm]
  · simp [hm]
theorem outL_full : ∀ (l : List Hook), outL l (List.replicate l.length true) = wsum l
  | [] => rfl
  | h :: l => by
    have ih := outL_full l
    have e : outL (h :: l) (List.replicate (l.length + 1) true) = h.w * 1 + outL l (List.replicate l.length true) := by simp [outL, List.replicate_succ, bi]
    rw [List.length_cons, e, ih]
    simp [wsum]
/-- row by row -/
theorem behindL_mono {l : List Hook} : ∀ {r q : List Lv} {s t : List Bool}, s.length = l.length → t.length = l.length → leS s t = true → Fa (fun a b : Lv => a.i ≤ b.i) r q → leS (behindL l s r) (behindL l t q) = true
  | _, _, s, t, _, _, h, .nil => h
  | v :: r, u :: q, s, t, hs, ht, h, .cons h1 h2 => behindL_mono (r := r) (q := q) (s := putL l s v.i) (t := putL l t u.i) (putL_len _ hs) (putL_len _ ht) (putL_mono hs ht h h1) h2

end KK
namespace KK
open LB
/-! FH: what is worked out by hand -/
def isT : Res D → Bool
  | .ok (.bl true) [] => true
  | _ => false
theorem of_isT {r : Res D} (h : isT r = true) : r = .ok (.bl true) [] := by
  unfold isT at h
  split at h
  · rfl
  · cases h
/-- is a state a latch? -/
theorem latch_st (F : Nat → Option Fn) [Has F 0 f0] [Has F 1 f1] [Has F 2 f2] [Has F 3 f3] (k : Nat) (s : List Bool) : ∃ b, ∀ st, call F (k + 4) 3 [stD s] st = .ok (.bl b) st := by
  by_cases hl : s.length = 3
  · match s, hl with
    | [x, y, z], _ =>
      cases x <;> cases y <;> cases z <;> first
        | (refine ⟨true, fun st => ?_⟩; rw [call_h (n := 3) (f := f3)]; simp [f3, b3, exs, ex, evE, evL, evB, evC, evAnd, evOr, enter_s, ↓bd, ↓od, rs, slot, post_v, post_p, post_t, post_i, fin_rt, fin_nx, cm_lt, cm_le, cm_gt, cm_ge, cm_eqI, cm_neI, cm_eqS, cm_neS, cm_isN, cm_notN, op_addI, op_subI, op_mulI, op_modI, op_fdivI, op_addL, op_addT, op_mulT, tr_bl, ix_tup, ix_lst, ix_ref, bv1, bv2, bv3, bv4, bvR, bvr, bvM, bvm, bi1, Md.noM, wipe, setTg, setTgs, sl_t, sl_l, cut_to, cut_from, okS_i, okS_n, lenOk_iff, all_t, seq_l, items, itemsI, srtsetD, parSet, pickAll, is_level F, is_between F, bit0, bit1, at0, at1, at2, isTy]; done)
        | (refine ⟨false, fun st => ?_⟩; rw [call_h (n := 3) (f := f3)]; simp [f3, b3, exs, ex, evE, evL, evB, evC, evAnd, evOr, enter_s, ↓bd, ↓od, rs, slot, post_v, post_p, post_t, post_i, fin_rt, fin_nx, cm_lt, cm_le, cm_gt, cm_ge, cm_eqI, cm_neI, cm_eqS, cm_neS, cm_isN, cm_notN, op_addI, op_subI, op_mulI, op_modI, op_fdivI, op_addL, op_addT, op_mulT, tr_bl, ix_tup, ix_lst, ix_ref, bv1, bv2, bv3, bv4, bvR, bvr, bvM, bvm, bi1, Md.noM, wipe, setTg, setTgs, sl_t, sl_l, cut_to, cut_from, okS_i, okS_n, lenOk_iff, all_t, seq_l, items, itemsI, srtsetD, parSet, pickAll, is_level F, is_between F, bit0, bit1, at0, at1, at2, isTy]; done)
  · refine ⟨false, fun st => ?_⟩
    have : ¬ ((s.length : Int) = 3) := by omega
    rw [call_h (n := 3) (f := f3)]; simp [f3, b3, exs, ex, evE, evL, evB, evC, evAnd, evOr, enter_s, ↓bd, ↓od, rs, slot, post_v, post_p, post_t, post_i, fin_rt, fin_nx, cm_lt, cm_le, cm_gt, cm_ge, cm_eqI, cm_neI, cm_eqS, cm_neS, cm_isN, cm_notN, op_addI, op_subI, op_mulI, op_modI, op_fdivI, op_addL, op_addT, op_mulT, tr_bl, ix_tup, ix_lst, ix_ref, bv1, bv2, bv3, bv4, bvR, bvr, bvM, bvm, bi1, Md.noM, wipe, setTg, setTgs, sl_t, sl_l, cut_to, cut_from, okS_i, okS_n, lenOk_iff, all_t, seq_l, items, itemsI, srtsetD, parSet, pickAll, isTy, this]

end KK
namespace KK
open LB
/-! FT: ends -/
def endsD (l : List Hook) : D := match minL (l.map Hook.lo), maxL (l.map Hook.hi) with
  | some a, some b => .tup [.int a, .int b]
  | _, _ => .non
theorem minL_some : ∀ {l : List Int}, l ≠ [] → ∃ a, minL l = some a
  | [], h => absurd rfl h
  | x :: r, _ => by
    show ∃ a, (match minL r with | none => some x | some m => some (if m < x then m else x)) = some a
    cases minL r <;> exact ⟨_, rfl⟩
theorem maxL_some : ∀ {l : List Int}, l ≠ [] → ∃ a, maxL l = some a
  | [], h => absurd rfl h
  | x :: r, _ => by
    show ∃ a, (match maxL r with | none => some x | some m => some (if m > x then m else x)) = some a
    cases maxL r <;> exact ⟨_, rfl⟩
theorem ends (F : Nat → Option Fn) [Has F 0 f0] [Has F 1 f1] [Has F 2 f2] [Has F 3 f3] [Has F 4 f4] [Has F 17 f17] [Has F 19 f19] (k : Nat) (b : Bank) (st : Store) : call F (k + 7) 19 [bankD b] st = .ok (endsD b.l) st := by
  have c0 : ∀ T x y z, evE T c19_0 .p [.v (bankD b), x, y, z] st = .ok (.lst (b.l.map fun h => .int h.lo)) st := fun T x y z =>
    ev_comp (i := hookD) (ds := b.l) rfl b.le3 fun h _ => ⟨_, rfl, by simp [exs, ex, evE, evL, evB, evC, evAnd, evOr, enter_s, ↓bd, ↓od, rs, slot, post_v, post_p, post_t, post_i, fin_rt, fin_nx, cm_lt, cm_le, cm_gt, cm_ge, cm_eqI, cm_neI, cm_eqS, cm_neS, cm_isN, cm_notN, op_addI, op_subI, op_mulI, op_modI, op_fdivI, op_addL, op_addT, op_mulT, tr_bl, ix_tup, ix_lst, ix_ref, bv1, bv2, bv3, bv4, bvR, bvr, bvM, bvm, bi1, Md.noM, wipe, setTg, setTgs, sl_t, sl_l, cut_to, cut_from, okS_i, okS_n, lenOk_iff, all_t, seq_l, items, itemsI, srtsetD, parSet, pickAll, hookD]⟩
  have c1 : ∀ T x y z, evE T c19_1 .p [.v (bankD b), x, y, z] st = .ok (.lst (b.l.map fun h => .int h.hi)) st := fun T x y z =>
    ev_comp (i := hookD) (ds := b.l) rfl b.le3 fun h _ => ⟨_, rfl, by simp [exs, ex, evE, evL, evB, evC, evAnd, evOr, enter_s, ↓bd, ↓od, rs, slot, post_v, post_p, post_t, post_i, fin_rt, fin_nx, cm_lt, cm_le, cm_gt, cm_ge, cm_eqI, cm_neI, cm_eqS, cm_neS, cm_isN, cm_notN, op_addI, op_subI, op_mulI, op_modI, op_fdivI, op_addL, op_addT, op_mulT, tr_bl, ix_tup, ix_lst, ix_ref, bv1, bv2, bv3, bv4, bvR, bvr, bvM, bvm, bi1, Md.noM, wipe, setTg, setTgs, sl_t, sl_l, cut_to, cut_from, okS_i, okS_n, lenOk_iff, all_t, seq_l, items, itemsI, srtsetD, parSet, pickAll, hookD]⟩
  have q := cm_eqBk (s := b.l) (t := []) (by have := b.len; omega) (by simp)
  by_cases hne : b.l = []
  · rw [hne] at c0 c1 q
    unfold bankD at c0 c1 ⊢
    have n0 := fun st => need_bank F k b st
    unfold bankD at n0
    rw [hne] at n0 ⊢
    simp only [List.map_nil, decide_true] at q c0 c1 n0 ⊢
    rw [call_h (n := 19) (f := f19)]; simp [f19, b19, exs, ex, evE, evL, evB, evC, evAnd, evOr, enter_s, ↓bd, ↓od, rs, slot, post_v, post_p, post_t, post_i, fin_rt, fin_nx, cm_lt, cm_le, cm_gt, cm_ge, cm_eqI, cm_neI, cm_eqS, cm_neS, cm_isN, cm_notN, op_addI, op_subI, op_mulI, op_modI, op_fdivI, op_addL, op_addT, op_mulT, tr_bl, ix_tup, ix_lst, ix_ref, bv1, bv2, bv3, bv4, bvR, bvr, bvM, bvm, bi1, Md.noM, wipe, setTg, setTgs, sl_t, sl_l, cut_to, cut_from, okS_i, okS_n, lenOk_iff, all_t, seq_l, items, itemsI, srtsetD, parSet, pickAll, n0, q]
    rfl
  · obtain ⟨x, ea⟩ := minL_some (l := b.l.map Hook.lo) (by simpa using hne)
    obtain ⟨y, eb⟩ := maxL_some (l := b.l.map Hook.hi) (by simpa using hne)
    unfold endsD
    have q : cm2 .eq (bankD b) (.tup []) = some false := by rw [decide_eq_false hne] at q; exact q
    rw [call_h (n := 19) (f := f19)]; simp [f19, b19, exs, ex, evE, evL, evB, evC, evAnd, evOr, enter_s, ↓bd, ↓od, rs, slot, post_v, post_p, post_t, post_i, fin_rt, fin_nx, cm_lt, cm_le, cm_gt, cm_ge, cm_eqI, cm_neI, cm_eqS, cm_neS, cm_isN, cm_notN, op_addI, op_subI, op_mulI, op_modI, op_fdivI, op_addL, op_addT, op_mulT, tr_bl, ix_tup, ix_lst, ix_ref, bv1, bv2, bv3, bv4, bvR, bvr, bvM, bvm, bi1, Md.noM, wipe, setTg, setTgs, sl_t, sl_l, cut_to, cut_from, okS_i, okS_n, lenOk_iff, all_t, seq_l, items, itemsI, srtsetD, parSet, pickAll, need_bank F, c0, c1, q, toInts_map, ea, eb]
theorem mem_of_min : ∀ {l : List Int} {a : Int}, minL l = some a → a ∈ l
  | [], _, h => by cases h
  | x :: r, a, h => by
    have h : (match minL r with | none => some x | some m => some (if m < x then m else x)) = some a := h
    cases e : minL r with
    | none => rw [e] at h; cases h; exact .head _
    | some m =>
      rw [e] at h
      have h : (if m < x then m else x) = a := Option.some.inj h
      split at h
      · subst h; exact .tail _ (mem_of_min e)
      · subst h; exact .head _
theorem mem_of_max : ∀ {l : List Int} {a : Int}, maxL l = some a → a ∈ l
  | [], _, h => by cases h
  | x :: r, a, h => by
    have h : (match maxL r with | none => some x | some m => some (if m > x then m else x)) = some a := h
    cases e : maxL r with
    | none => rw [e] at h; cases h; exact .head _
    | some m =>
      rw [e] at h
      have h : (if m > x then m else x) = a := Option.some.inj h
      split at h
      · subst h; exact .tail _ (mem_of_max e)
      · subst h; exact .head _
theorem tx_ends {n : Nat} (b : Bank) : Tx (n + 1) 3 (endsD b.l) := by
  unfold endsD
  cases e1 : minL (b.l.map Hook.lo) with
  | none => exact (tx_non (n := n + 1)).le
  | some x =>
    cases e2 : maxL (b.l.map Hook.hi) with
    | none => exact (tx_non (n := n + 1)).le
    | some y =>
      obtain ⟨h, _, rfl⟩ := List.mem_map.mp (mem_of_min e1)
      obtain ⟨g, _, rfl⟩ := List.mem_map.mp (mem_of_max e2)
      have := h.a; have := h.b; have := h.c; have := g.a; have := g.b; have := g.c
      exact (txs_cons (tx_int (n := n) (by omega) (by omega)) (txs_cons (tx_int (by omega) (by omega)) txs_nil)).tup.le
theorem wsum_le : ∀ (l : List Hook), -(99 * (l.length : Int)) ≤ wsum l ∧ wsum l ≤ 99 * (l.length : Int) := fun l => by
  have := outL_le l (List.replicate l.length true)
  rwa [outL_full] at this

end KK
namespace KK
open LB
/-! FU: turns -/
def clearedL (i : Int) : Bool → List Lv → List Lv
  | _, [] => []
  | up, v :: r => if (if up then decide (i < v.i) else decide (v.i < i)) then v :: clearedL i (!up) r else []
def stepL (found : List Lv) (v : Lv) : List Lv := if v.i = -20 then [] else clearedL v.i true found ++ [v]
def turnsL (r : List Lv) : List Lv := r.foldl stepL []
theorem clearedL_len (i : Int) : ∀ (r : List Lv) (up : Bool), (clearedL i up r).length ≤ r.length
  | [], up => by simp [clearedL]
  | v :: r, up => by
    have := clearedL_len i r (!up)
    rw [clearedL]
    generalize (if up = true then decide (i < v.i) else decide (v.i < i)) = c
    cases c <;> simp <;> omega
theorem turnsL_snoc (r : List Lv) (v : Lv) : turnsL (r ++ [v]) = stepL (turnsL r) v := by simp [turnsL]
theorem snocR {α : Type} {P : List α → Prop} (h0 : P []) (h1 : ∀ l a, P l → P (l ++ [a])) (l : List α) : P l := by
  have : ∀ m : List α, P m.reverse := by
    intro m
    induction m with
    | nil => exact h0
    | cons a m ih => rw [List.reverse_cons]; exact h1 _ _ ih
  have := this l.reverse
  rwa [List.reverse_reverse] at this
theorem turnsL_len (r : List Lv) : (turnsL r).length ≤ r.length := by
  refine snocR (P := fun r => (turnsL r).length ≤ r.length) (Nat.le_refl 0) (fun r v ih => ?_) r
  rw [turnsL_snoc]
  unfold stepL
  split
  · simp
  · have := clearedL_len v.i (turnsL r) true
    simp
    omega
theorem cleared_loop (T : Tab) (i : Int) (st : Store) (L : Slot) : ∀ (r : List Lv) (n : Nat) (acc : List Lv) (x y z : Slot), acc.length + r.length ≤ 100000 →
    (match loop (forB T (.tp [.nm 3, .nm 4]) l58_0) (counted n (r.map lvD)) [L, .v (.int i), .o (.lst (acc.map lvD)), x, y, z] st with | .nx env1 st1 => exs T [.frz 2, .ret (.var 2)] env1 st1 | r => r) = .rt (.lst ((acc ++ clearedL i (decide (n % 2 = 0)) r).map lvD)) st
  | [], n, acc, x, y, z, _ => by
    show exs T [.frz 2, .ret (.var 2)] _ st = _
    simp [exs, ex, evE, evL, evB, evC, evAnd, evOr, enter_s, ↓bd, ↓od, rs, slot, post_v, post_p, post_t, post_i, fin_rt, fin_nx, cm_lt, cm_le, cm_gt, cm_ge, cm_eqI, cm_neI, cm_eqS, cm_neS, cm_isN, cm_notN, op_addI, op_subI, op_mulI, op_modI, op_fdivI, op_addL, op_addT, op_mulT, tr_bl, ix_tup, ix_lst, ix_ref, bv1, bv2, bv3, bv4, bvR, bvr, bvM, bvm, bi1, Md.noM, wipe, setTg, setTgs, sl_t, sl_l, cut_to, cut_from, okS_i, okS_n, lenOk_iff, all_t, seq_l, items, itemsI, srtsetD, parSet, pickAll, clearedL]
  | v :: r, n, acc, x, y, z, hl => by
    have hl2 : acc.length ≤ 1000000 := by simp at hl; omega
    have par : decide ((n + 1) % 2 = 0) = !decide (n % 2 = 0) := by
      rcases Nat.mod_two_eq_zero_or_one n with h | h <;> simp [Nat.add_mod, h]
    have hm : ((n : Int) % 2 = 0) ↔ n % 2 = 0 := by omega
    by_cases hs : (if decide (n % 2 = 0) = true then decide (i < v.i) else decide (v.i < i)) = true
    · have e : forB T (.tp [.nm 3, .nm 4]) l58_0 (.tup [.int n, lvD v]) [L, .v (.int i), .o (.lst (acc.map lvD)), x, y, z] st = .nx [L, .v (.int i), .o (.lst ((acc ++ [v]).map lvD)), .v (.int n), .v (lvD v), .v (.bl true)] st := by
        by_cases hp : n % 2 = 0
        · rw [decide_eq_true hp, if_pos rfl, decide_eq_true_eq] at hs
          simp [exs, ex, evE, evL, evB, evC, evAnd, evOr, enter_s, ↓bd, ↓od, rs, slot, post_v, post_p, post_t, post_i, fin_rt, fin_nx, cm_lt, cm_le, cm_gt, cm_ge, cm_eqI, cm_neI, cm_eqS, cm_neS, cm_isN, cm_notN, op_addI, op_subI, op_mulI, op_modI, op_fdivI, op_addL, op_addT, op_mulT, tr_bl, ix_tup, ix_lst, ix_ref, bv1, bv2, bv3, bv4, bvR, bvr, bvM, bvm, bi1, Md.noM, wipe, setTg, setTgs, sl_t, sl_l, cut_to, cut_from, okS_i, okS_n, lenOk_iff, all_t, seq_l, items, itemsI, srtsetD, parSet, pickAll, forB, l58_0, lvD, hl2, hm, hp, hs]
        · rw [decide_eq_false hp, if_neg Bool.false_ne_true, decide_eq_true_eq] at hs
          simp [exs, ex, evE, evL, evB, evC, evAnd, evOr, enter_s, ↓bd, ↓od, rs, slot, post_v, post_p, post_t, post_i, fin_rt, fin_nx, cm_lt, cm_le, cm_gt, cm_ge, cm_eqI, cm_neI, cm_eqS, cm_neS, cm_isN, cm_notN, op_addI, op_subI, op_mulI, op_modI, op_fdivI, op_addL, op_addT, op_mulT, tr_bl, ix_tup, ix_lst, ix_ref, bv1, bv2, bv3, bv4, bvR, bvr, bvM, bvm, bi1, Md.noM, wipe, setTg, setTgs, sl_t, sl_l, cut_to, cut_from, okS_i, okS_n, lenOk_iff, all_t, seq_l, items, itemsI, srtsetD, parSet, pickAll, forB, l58_0, lvD, hl2, hm, hp, hs]
      have ih := cleared_loop T i st L r (n + 1) (acc ++ [v]) (.v (.int n)) (.v (lvD v)) (.v (.bl true)) (by simp at hl ⊢; omega)
      show (match (match forB T (.tp [.nm 3, .nm 4]) l58_0 (.tup [.int n, lvD v]) _ st with | .nx e1 s1 => loop (forB T (.tp [.nm 3, .nm 4]) l58_0) (counted (n + 1) (r.map lvD)) e1 s1 | r => r) with | .nx env1 st1 => exs T [.frz 2, .ret (.var 2)] env1 st1 | r => r) = _
      rw [e]
      show (match loop (forB T (.tp [.nm 3, .nm 4]) l58_0) (counted (n + 1) (r.map lvD)) _ st with | .nx env1 st1 => exs T [.frz 2, .ret (.var 2)] env1 st1 | r => r) = _
      rw [ih, par]
      have : clearedL i (decide (n % 2 = 0)) (v :: r) = v :: clearedL i (!decide (n % 2 = 0)) r := by
        rw [clearedL, if_pos hs]
      rw [this]
      simp
    · have e : forB T (.tp [.nm 3, .nm 4]) l58_0 (.tup [.int n, lvD v]) [L, .v (.int i), .o (.lst (acc.map lvD)), x, y, z] st = .rt (.lst (acc.map lvD)) st := by
        by_cases hp : n % 2 = 0
        · rw [decide_eq_true hp, if_pos rfl, decide_eq_true_eq] at hs
          simp [exs, ex, evE, evL, evB, evC, evAnd, evOr, enter_s, ↓bd, ↓od, rs, slot, post_v, post_p, post_t, post_i, fin_rt, fin_nx, cm_lt, cm_le, cm_gt, cm_ge, cm_eqI, cm_neI, cm_eqS, cm_neS, cm_isN, cm_notN, op_addI, op_subI, op_mulI, op_modI, op_fdivI, op_addL, op_addT, op_mulT, tr_bl, ix_tup, ix_lst, ix_ref, bv1, bv2, bv3, bv4, bvR, bvr, bvM, bvm, bi1, Md.noM, wipe, setTg, setTgs, sl_t, sl_l, cut_to, cut_from, okS_i, okS_n, lenOk_iff, all_t, seq_l, items, itemsI, srtsetD, parSet, pickAll, forB, l58_0, lvD, hl2, hm, hp, hs]
        · rw [decide_eq_false hp, if_neg Bool.false_ne_true, decide_eq_true_eq] at hs
          simp [exs, ex, evE, evL, evB, evC, evAnd, evOr, enter_s, ↓bd, ↓od, rs, slot, post_v, post_p, post_t, post_i, fin_rt, fin_nx, cm_lt, cm_le, cm_gt, cm_ge, cm_eqI, cm_neI, cm_eqS, cm_neS, cm_isN, cm_notN, op_addI, op_subI, op_mulI, op_modI, op_fdivI, op_addL, op_addT, op_mulT, tr_bl, ix_tup, ix_lst, ix_ref, bv1, bv2, bv3, bv4, bvR, bvr, bvM, bvm, bi1, Md.noM, wipe, setTg, setTgs, sl_t, sl_l, cut_to, cut_from, okS_i, okS_n, lenOk_iff, all_t, seq_l, items, itemsI, srtsetD, parSet, pickAll, forB, l58_0, lvD, hl2, hm, hp, hs]
      show (match (match forB T (.tp [.nm 3, .nm 4]) l58_0 (.tup [.int n, lvD v]) _ st with | .nx e1 s1 => loop (forB T (.tp [.nm 3, .nm 4]) l58_0) (counted (n + 1) (r.map lvD)) e1 s1 | r => r) with | .nx env1 st1 => exs T [.frz 2, .ret (.var 2)] env1 st1 | r => r) = _
      rw [e]
      have : clearedL i (decide (n % 2 = 0)) (v :: r) = [] := by
        rw [clearedL, if_neg hs]
      rw [this, List.append_nil]
theorem cleared (F : Nat → Option Fn) [Has F 58 f58] (k : Nat) (r : List Lv) (hr : r.length ≤ 100000) (i : Int) (st : Store) : call F (k + 1) 58 [rowD r, .int i] st = .ok (.lst ((clearedL i true r).map lvD)) st := by
  have h := cleared_loop (call F k) i st (.v (rowD r)) r 0 [] .u .u .u (by simpa using hr)
  rw [call_h (n := 58) (f := f58)]
  have e : (exs (call F k) b58 [.v (rowD r), .v (.int i), .u, .u, .u, .u] st) = .rt (.lst ((clearedL i true r).map lvD)) st := by
    have e0 : LB.ex (call F k) (.own 2 (.lst [])) [.v (rowD r), .v (.int i), .u, .u, .u, .u] st = .nx [.v (rowD r), .v (.int i), .o (.lst []), .u, .u, .u] st := by simp [exs, ex, evE, evL, evB, evC, evAnd, evOr, enter_s, ↓bd, ↓od, rs, slot, post_v, post_p, post_t, post_i, fin_rt, fin_nx, cm_lt, cm_le, cm_gt, cm_ge, cm_eqI, cm_neI, cm_eqS, cm_neS, cm_isN, cm_notN, op_addI, op_subI, op_mulI, op_modI, op_fdivI, op_addL, op_addT, op_mulT, tr_bl, ix_tup, ix_lst, ix_ref, bv1, bv2, bv3, bv4, bvR, bvr, bvM, bvm, bi1, Md.noM, wipe, setTg, setTgs, sl_t, sl_l, cut_to, cut_from, okS_i, okS_n, lenOk_iff, all_t, seq_l, items, itemsI, srtsetD, parSet, pickAll]
    have e1 : LB.ex (call F k) s58_0 [.v (rowD r), .v (.int i), .o (.lst []), .u, .u, .u] st = loop (forB (call F k) (.tp [.nm 3, .nm 4]) l58_0) (counted 0 (r.map lvD)) [.v (rowD r), .v (.int i), .o (.lst []), .u, .u, .u] st := ex_for (by simp [exs, ex, evE, evL, evB, evC, evAnd, evOr, enter_s, ↓bd, ↓od, rs, slot, post_v, post_p, post_t, post_i, fin_rt, fin_nx, cm_lt, cm_le, cm_gt, cm_ge, cm_eqI, cm_neI, cm_eqS, cm_neS, cm_isN, cm_notN, op_addI, op_subI, op_mulI, op_modI, op_fdivI, op_addL, op_addT, op_mulT, tr_bl, ix_tup, ix_lst, ix_ref, bv1, bv2, bv3, bv4, bvR, bvr, bvM, bvm, bi1, Md.noM, wipe, setTg, setTgs, sl_t, sl_l, cut_to, cut_from, okS_i, okS_n, lenOk_iff, all_t, seq_l, items, itemsI, srtsetD, parSet, pickAll])
    rw [show b58 = [.own 2 (.lst []), s58_0, .frz 2, .ret (.var 2)] from rfl]
    show (match LB.ex (call F k) (.own 2 (.lst [])) _ st with | .nx env1 st1 => exs (call F k) [s58_0, .frz 2, .ret (.var 2)] env1 st1 | r => r) = _
    rw [e0]
    show (match LB.ex (call F k) s58_0 _ st with | .nx env1 st1 => exs (call F k) [.frz 2, .ret (.var 2)] env1 st1 | r => r) = _
    rw [e1]
    exact h
  show (exs (call F k) b58 [.v (rowD r), .v (.int i), .u, .u, .u, .u] st).fin = _
  rw [e]
  rfl
theorem turns_of (F : Nat → Option Fn) [Has F 58 f58] [Has F 59 f59] (k : Nat) (r : List Lv) (hr : r.length ≤ 10000) (st : Store) : call F (k + 2) 59 [rowD r] st = .ok (rowD (turnsL r)) st := by
  obtain ⟨_, _, e, x, rfl, rfl⟩ := for_inv (T := call F (k + 1)) (tg := .nm 2) (b := l59_0) (it := .var 0) (i := lvD) (env := [.v (rowD r), .v (rowD []), .u]) (st := st) (st0 := st) (l := r) rfl
    (fun j env st1 => ∃ x, env = [.v (rowD r), .v (rowD (turnsL (r.take j))), x] ∧ st = st1) ⟨.u, rfl, rfl⟩ (by
    rintro j v _ _ hj hlt ⟨x, rfl, rfl⟩
    have et : r.take (j + 1) = r.take j ++ [v] := by rw [List.take_add_one, hj]; rfl
    have h1 := turnsL_len (r.take j)
    rw [List.length_take] at h1
    have h2 := clearedL_len v.i (turnsL (r.take j)) true
    have h3 : (clearedL v.i true (turnsL (r.take j))).length + 1 ≤ 1000000 := by omega
    by_cases hv : v.i = -20
    · refine nx_of (by conv => lhs; simp [forB, exs, ex, evE, evL, evB, evC, evAnd, evOr, enter_s, ↓bd, ↓od, rs, slot, post_v, post_p, post_t, post_i, fin_rt, fin_nx, cm_lt, cm_le, cm_gt, cm_ge, cm_eqI, cm_neI, cm_eqS, cm_neS, cm_isN, cm_notN, op_addI, op_subI, op_mulI, op_modI, op_fdivI, op_addL, op_addT, op_mulT, tr_bl, ix_tup, ix_lst, ix_ref, bv1, bv2, bv3, bv4, bvR, bvr, bvM, bvm, bi1, Md.noM, wipe, setTg, setTgs, sl_t, sl_l, cut_to, cut_from, okS_i, okS_n, lenOk_iff, all_t, seq_l, items, itemsI, srtsetD, parSet, pickAll, l59_0, lvD, hv]) ?_
      exact ⟨.v (.int (-20)), by rw [et, turnsL_snoc]; simp [stepL, hv], rfl⟩
    · refine nx_of (by conv => lhs; simp [forB, exs, ex, evE, evL, evB, evC, evAnd, evOr, enter_s, ↓bd, ↓od, rs, slot, post_v, post_p, post_t, post_i, fin_rt, fin_nx, cm_lt, cm_le, cm_gt, cm_ge, cm_eqI, cm_neI, cm_eqS, cm_neS, cm_isN, cm_notN, op_addI, op_subI, op_mulI, op_modI, op_fdivI, op_addL, op_addT, op_mulT, tr_bl, ix_tup, ix_lst, ix_ref, bv1, bv2, bv3, bv4, bvR, bvr, bvM, bvm, bi1, Md.noM, wipe, setTg, setTgs, sl_t, sl_l, cut_to, cut_from, okS_i, okS_n, lenOk_iff, all_t, seq_l, items, itemsI, srtsetD, parSet, pickAll, l59_0, lvD, hv, cleared F k _ (by omega : (turnsL (r.take j)).length ≤ 100000), h3]) ?_
      exact ⟨.v (.int v.i), by rw [et, turnsL_snoc]; simp [stepL, hv, lvD], rfl⟩)
  rw [List.take_length] at e
  change LB.ex _ s59_0 [_, .v (.tup []), _] _ = _ at e
  rw [call_h (n := 59) (f := f59)]; simp [f59, b59, exs, ex, evE, evL, evB, evC, evAnd, evOr, enter_s, ↓bd, ↓od, rs, slot, post_v, post_p, post_t, post_i, fin_rt, fin_nx, cm_lt, cm_le, cm_gt, cm_ge, cm_eqI, cm_neI, cm_eqS, cm_neS, cm_isN, cm_notN, op_addI, op_subI, op_mulI, op_modI, op_fdivI, op_addL, op_addT, op_mulT, tr_bl, ix_tup, ix_lst, ix_ref, bv1, bv2, bv3, bv4, bvR, bvr, bvM, bvm, bi1, Md.noM, wipe, setTg, setTgs, sl_t, sl_l, cut_to, cut_from, okS_i, okS_n, lenOk_iff, all_t, seq_l, items, itemsI, srtsetD, parSet, pickAll, e]
theorem turns (F : Nat → Option Fn) [Has F 0 f0] [Has F 1 f1] [Has F 2 f2] [Has F 44 f44] [Has F 58 f58] [Has F 59 f59] [Has F 60 f60] (k : Nat) (r : List Lv) (hr : r.length ≤ 200) (st : Store) : call F (k + 5) 60 [rowD r] st = .ok (rowD (turnsL r)) st := by
  rw [call_h (n := 60) (f := f60)]; simp [f60, b60, exs, ex, evE, evL, evB, evC, evAnd, evOr, enter_s, ↓bd, ↓od, rs, slot, post_v, post_p, post_t, post_i, fin_rt, fin_nx, cm_lt, cm_le, cm_gt, cm_ge, cm_eqI, cm_neI, cm_eqS, cm_neS, cm_isN, cm_notN, op_addI, op_subI, op_mulI, op_modI, op_fdivI, op_addL, op_addT, op_mulT, tr_bl, ix_tup, ix_lst, ix_ref, bv1, bv2, bv3, bv4, bvR, bvr, bvM, bvm, bi1, Md.noM, wipe, setTg, setTgs, sl_t, sl_l, cut_to, cut_from, okS_i, okS_n, lenOk_iff, all_t, seq_l, items, itemsI, srtsetD, parSet, pickAll, need_row F (k) r hr, turns_of F (k + 2) r (by omega)]
/-- turns: all above -20, and turns of themselves -/
structure Kept (r : List Lv) : Prop where
  hi : ∀ v ∈ r, -20 < v.i
  id : turnsL r = r
theorem is_turns (F : Nat → Option Fn) [Has F 0 f0] [Has F 1 f1] [Has F 2 f2] [Has F 58 f58] [Has F 59 f59] [Has F 64 f64] (k : Nat) (r : List Lv) (hr : r.length ≤ 1000) (hk : Kept r) (st : Store) : call F (k + 4) 64 [rowD r] st = .ok (.bl true) st := by
  have h0 : ∀ y, evE (call F (k + 3)) c64_0 .p [.v (rowD r), y] st = .ok (.lst (r.map fun _ => .bl true)) st := fun y =>
    ev_comp (i := lvD) (ds := r) rfl (by omega) fun h hh => ⟨_, rfl, by simp [exs, ex, evE, evL, evB, evC, evAnd, evOr, enter_s, ↓bd, ↓od, rs, slot, post_v, post_p, post_t, post_i, fin_rt, fin_nx, cm_lt, cm_le, cm_gt, cm_ge, cm_eqI, cm_neI, cm_eqS, cm_neS, cm_isN, cm_notN, op_addI, op_subI, op_mulI, op_modI, op_fdivI, op_addL, op_addT, op_mulT, tr_bl, ix_tup, ix_lst, ix_ref, bv1, bv2, bv3, bv4, bvR, bvr, bvM, bvm, bi1, Md.noM, wipe, setTg, setTgs, sl_t, sl_l, cut_to, cut_from, okS_i, okS_n, lenOk_iff, all_t, seq_l, items, itemsI, srtsetD, parSet, pickAll, is_level F, lvD, h.a, h.b, hk.hi h hh]⟩
  have q := cm_eqRw (s := r) (t := r) hr hr
  rw [decide_eq_true rfl] at q
  rw [call_h (n := 64) (f := f64)]; simp [f64, b64, exs, ex, evE, evL, evB, evC, evAnd, evOr, enter_s, ↓bd, ↓od, rs, slot, post_v, post_p, post_t, post_i, fin_rt, fin_nx, cm_lt, cm_le, cm_gt, cm_ge, cm_eqI, cm_neI, cm_eqS, cm_neS, cm_isN, cm_notN, op_addI, op_subI, op_mulI, op_modI, op_fdivI, op_addL, op_addT, op_mulT, tr_bl, ix_tup, ix_lst, ix_ref, bv1, bv2, bv3, bv4, bvR, bvr, bvM, bvm, bi1, Md.noM, wipe, setTg, setTgs, sl_t, sl_l, cut_to, cut_from, okS_i, okS_n, lenOk_iff, all_t, seq_l, items, itemsI, srtsetD, parSet, pickAll, isTy, h0, toBls_map, turns_of F (k + 1) r (by omega), hk.id, q]
theorem added (F : Nat → Option Fn) [Has F 0 f0] [Has F 1 f1] [Has F 2 f2] [Has F 37 f37] [Has F 58 f58] [Has F 59 f59] [Has F 64 f64] [Has F 65 f65] (k : Nat) (r : List Lv) (hr : r.length ≤ 1000) (hk : Kept r) (v : Lv) (st : Store) : call F (k + 5) 65 [rowD r, .int v.i] st = .ok (rowD (stepL r v)) st := by
  have h1 := turns_of F (k + 2) (r ++ [v]) (by simp; omega)
  rw [turnsL_snoc, hk.id] at h1
  simp only [rowD, List.map_append, List.map_cons, List.map_nil, lvD] at h1
  have hl : r.length + 1 ≤ 1000000 := by omega
  rw [call_h (n := 65) (f := f65)]; simp [f65, b65, exs, ex, evE, evL, evB, evC, evAnd, evOr, enter_s, ↓bd, ↓od, rs, slot, post_v, post_p, post_t, post_i, fin_rt, fin_nx, cm_lt, cm_le, cm_gt, cm_ge, cm_eqI, cm_neI, cm_eqS, cm_neS, cm_isN, cm_notN, op_addI, op_subI, op_mulI, op_modI, op_fdivI, op_addL, op_addT, op_mulT, tr_bl, ix_tup, ix_lst, ix_ref, bv1, bv2, bv3, bv4, bvR, bvr, bvM, bvm, bi1, Md.noM, wipe, setTg, setTgs, sl_t, sl_l, cut_to, cut_from, okS_i, okS_n, lenOk_iff, all_t, seq_l, items, itemsI, srtsetD, parSet, pickAll, is_turns F k r hr hk, need_level F k v.i v.a v.b, h1, hl]

end KK
namespace KK
open LB
/-! FV: turns looked for in the row -/
def hasL (x : Int) (l : List Lv) : Bool := l.any fun v => decide (v.i = x)
/-- what stands behind the last x -/
def aft (x : Int) : List Lv → List Lv
  | [] => []
  | v :: r => if hasL x r then aft x r else if v.i = x then r else v :: r
theorem aft_none {x : Int} : ∀ {l : List Lv}, hasL x l = false → aft x l = l
  | [], _ => rfl
  | v :: r, h => by
    have h : (decide (v.i = x) || hasL x r) = false := h
    rw [Bool.or_eq_false_iff] at h
    have : ¬ v.i = x := by simpa using h.1
    rw [aft, h.2, if_neg Bool.false_ne_true, if_neg this]
theorem aft_snoc (x : Int) : ∀ (l : List Lv) (v : Lv), aft x (l ++ [v]) = if v.i = x then [] else aft x l ++ [v]
  | [], v => by
    by_cases h : v.i = x <;> simp [aft, hasL, h]
  | u :: l, v => by
    have ih := aft_snoc x l v
    have e : hasL x (l ++ [v]) = (hasL x l || decide (v.i = x)) := by simp [hasL]
    rw [List.cons_append, aft, aft, e, ih]
    by_cases h : v.i = x
    · simp [h]
    · by_cases h2 : hasL x l = true
      · simp [h, h2]
      · by_cases h3 : u.i = x <;> simp [h, h2, h3]
theorem aft_len {x : Int} : ∀ (l : List Lv), (aft x l).length ≤ l.length
  | [] => Nat.le_refl _
  | v :: r => by
    have := aft_len (x := x) r
    rw [aft]
    split
    · simp; omega
    · split <;> simp
theorem aft_lt {x : Int} : ∀ {l : List Lv}, hasL x l = true → (aft x l).length < l.length
  | [], h => by cases h
  | v :: r, h => by
    have := aft_len (x := x) r
    rw [aft]
    by_cases h2 : hasL x r = true
    · rw [if_pos h2]; simp; omega
    · rw [if_neg h2]
      have h : (decide (v.i = x) || hasL x r) = true := h
      have : v.i = x := by simpa [h2] using h
      rw [if_pos this]
      simp
theorem aft_hasnt {x : Int} : ∀ (l : List Lv), hasL x (aft x l) = false
  | [] => rfl
  | v :: r => by
    rw [aft]
    by_cases h2 : hasL x r = true
    · rw [if_pos h2]; exact aft_hasnt r
    · rw [if_neg h2]
      have h2 : hasL x r = false := by simpa using h2
      by_cases h3 : v.i = x
      · rw [if_pos h3]; exact h2
      · rw [if_neg h3]
        show (decide (v.i = x) || hasL x r) = false
        rw [h2, decide_eq_false h3]; rfl
theorem aft_sub {x : Int} : ∀ (l : List Lv), ∀ v ∈ aft x l, v ∈ l
  | [], v, h => by cases h
  | u :: r, v, h => by
    rw [aft] at h
    split at h
    · exact .tail _ (aft_sub r v h)
    · split at h
      · exact .tail _ h
      · exact h
/-- behind the first x the last one is the same -/
theorem aft_first {x : Int} : ∀ {l : List Lv} {i : Nat}, l.findIdx? (fun v => decide (v.i = x)) = some i → aft x (l.drop (i + 1)) = aft x l
  | [], _, h => by simp at h
  | v :: r, i, h => by
    rw [List.findIdx?_cons] at h
    by_cases hv : v.i = x
    · rw [decide_eq_true hv, if_pos rfl] at h
      cases h
      rw [aft]
      show aft x r = _
      by_cases h2 : hasL x r = true
      · rw [if_pos h2]
      · rw [if_neg h2, if_pos hv, aft_none (by simpa using h2)]
    · rw [decide_eq_false hv, if_neg Bool.false_ne_true] at h
      cases e : r.findIdx? (fun v => decide (v.i = x)) with
      | none => rw [e] at h; cases h
      | some j =>
        rw [e] at h
        cases h
        have h2 : hasL x r = true := by
          have := List.findIdx?_isSome (xs := r) (p := fun v => decide (v.i = x))
          rw [e] at this
          exact this.symm
        rw [aft, if_pos h2]
        exact aft_first e
def extL (up : Bool) : List Lv → Option Lv
  | [] => none
  | v :: r => match extL up r with
    | none => some v
    | some m => some (if (if up then decide (v.i < m.i) else decide (m.i < v.i)) then m else v)
theorem ext_max : ∀ l : List Lv, maxL (l.map Lv.i) = (extL true l).map Lv.i
  | [] => rfl
  | v :: r => by
    have ih := ext_max r
    show (match maxL (r.map Lv.i) with | none => some v.i | some m => some (if m > v.i then m else v.i)) = _
    rw [ih, extL]
    cases extL true r with
    | none => rfl
    | some m =>
      show some (if m.i > v.i then m.i else v.i) = some (Lv.i (if decide (v.i < m.i) = true then m else v))
      by_cases h : v.i < m.i <;> simp [h]
theorem ext_min : ∀ l : List Lv, minL (l.map Lv.i) = (extL false l).map Lv.i
  | [] => rfl
  | v :: r => by
    have ih := ext_min r
    show (match minL (r.map Lv.i) with | none => some v.i | some m => some (if m < v.i then m else v.i)) = _
    rw [ih, extL]
    cases extL false r with
    | none => rfl
    | some m =>
      show some (if m.i < v.i then m.i else v.i) = some (Lv.i (if decide (m.i < v.i) = true then m else v))
      by_cases h : m.i < v.i <;> simp [h]
theorem ext_some (up : Bool) : ∀ (l : List Lv), l ≠ [] → ∃ m, extL up l = some m
  | [], h => absurd rfl h
  | v :: r, _ => by
    rw [extL]
    cases extL up r <;> exact ⟨_, rfl⟩
theorem ext_mem {up : Bool} : ∀ {l : List Lv} {m : Lv}, extL up l = some m → m ∈ l
  | [], _, h => by cases h
  | v :: r, m, h => by
    rw [extL] at h
    cases e : extL up r with
    | none => rw [e] at h; cases h; exact .head _
    | some n =>
      rw [e] at h
      have h := Option.some.inj h
      subst h
      have := ext_mem e
      generalize (if up = true then decide (v.i < n.i) else decide (n.i < v.i)) = c
      cases c
      · exact .head _
      · exact .tail _ this
theorem ext_snoc (up : Bool) : ∀ (l : List Lv) (v m : Lv), extL up l = some m → extL up (l ++ [v]) = some (if (if up then decide (m.i < v.i) else decide (v.i < m.i)) then v else m)
  | [], _, _, h => by cases h
  | u :: l, v, m, h => by
    rw [extL] at h
    rw [List.cons_append, extL]
    cases l with
    | nil =>
      cases h
      simp [extL]
    | cons w l =>
      obtain ⟨n, hn⟩ := ext_some up (w :: l) (by simp)
      rw [hn] at h
      have ih := ext_snoc up (w :: l) v n hn
      rw [ih]
      have h := Option.some.inj h
      subst h
      cases up
      · simp only [Bool.false_eq_true, if_false, decide_eq_true_eq]
        by_cases h1 : v.i < n.i <;> by_cases h2 : n.i < u.i <;> by_cases h3 : v.i < u.i <;> simp [h1, h2, h3] <;> first | omega | skip
      · simp only [if_true, decide_eq_true_eq]
        by_cases h1 : n.i < v.i <;> by_cases h2 : u.i < n.i <;> by_cases h3 : u.i < v.i <;> simp [h1, h2, h3] <;> first | omega | skip
/-- by turns the greatest, the least .. -/
def kepL : Nat → Bool → List Lv → List Lv
  | 0, _, _ => []
  | n + 1, up, l => match extL up l with
    | none => []
    | some m => m :: kepL n (!up) (aft m.i l)
theorem has_mem {l : List Lv} {m : Lv} (h : m ∈ l) : hasL m.i l = true := List.any_eq_true.mpr ⟨m, h, decide_eq_true rfl⟩
theorem kepL_snoc : ∀ (n : Nat) (up : Bool) (l : List Lv) (v : Lv), l.length < n → kepL n up (l ++ [v]) = clearedL v.i up (kepL n up l) ++ [v]
  | 0, _, _, _, h => absurd h (Nat.not_lt_zero _)
  | n + 1, up, l, v, h => by
    cases l with
    | nil =>
      have e : aft v.i [v] = [] := by simp [aft, hasL]
      show (match extL up [v] with | none => [] | some m => m :: kepL n (!up) (aft m.i [v])) = _
      rw [show extL up [v] = some v from rfl]
      show v :: kepL n (!up) (aft v.i [v]) = _
      rw [e]
      have : kepL n (!up) [] = [] := by cases n <;> rfl
      rw [this]
      rfl
    | cons w l =>
      obtain ⟨m, hm⟩ := ext_some up (w :: l) (by simp)
      have h2 := ext_snoc up (w :: l) v m hm
      have hlt := aft_lt (has_mem (ext_mem hm))
      rw [kepL, kepL, h2, hm]
      show (if (if up = true then decide (m.i < v.i) else decide (v.i < m.i)) = true then v else m) :: kepL n (!up) (aft (if (if up = true then decide (m.i < v.i) else decide (v.i < m.i)) = true then v else m).i (w :: l ++ [v])) = clearedL v.i up (m :: kepL n (!up) (aft m.i (w :: l))) ++ [v]
      rw [clearedL]
      by_cases hc : (if up = true then decide (v.i < m.i) else decide (m.i < v.i)) = true
      · have hn : (if up = true then decide (m.i < v.i) else decide (v.i < m.i)) = false := by
          cases up
          · simp only [Bool.false_eq_true, if_false, decide_eq_true_eq] at hc; simp; omega
          · simp only [if_true, decide_eq_true_eq] at hc; simp; omega
        have hne : ¬ v.i = m.i := by
          cases up
          · simp only [Bool.false_eq_true, if_false, decide_eq_true_eq] at hc; omega
          · simp only [if_true, decide_eq_true_eq] at hc; omega
        rw [if_pos hc, hn, if_neg Bool.false_ne_true, aft_snoc, if_neg hne, kepL_snoc n (!up) _ v (by simp at h hlt; omega)]
        rfl
      · rw [if_neg hc]
        have all : ∀ (q : Bool), kepL n q [] = [] := fun q => by cases n <;> rfl
        by_cases hq : (if up = true then decide (m.i < v.i) else decide (v.i < m.i)) = true
        · rw [if_pos hq, aft_snoc, if_pos rfl, all]
          rfl
        · have he : m.i = v.i := by
            cases up
            · simp only [Bool.false_eq_true, if_false, decide_eq_true_eq] at hc hq; omega
            · simp only [if_true, decide_eq_true_eq] at hc hq; omega
          rw [if_neg hq, aft_snoc, if_pos he.symm, all, Lv.ext' he]
          rfl
theorem kepL_more : ∀ (n m : Nat) (up : Bool) (l : List Lv), l.length < n → l.length < m → kepL n up l = kepL m up l
  | 0, _, _, _, h, _ => absurd h (Nat.not_lt_zero _)
  | _ + 1, 0, _, _, _, h => absurd h (Nat.not_lt_zero _)
  | n + 1, m + 1, up, l, h, k => by
    rw [kepL, kepL]
    cases e : extL up l with
    | none => rfl
    | some x =>
      have hlt := aft_lt (has_mem (ext_mem e))
      show x :: _ = x :: _
      rw [kepL_more n m (!up) _ (by omega) (by omega)]
def keptL (r : List Lv) : List Lv := kepL ((aft (-20) r).length + 1) true (aft (-20) r)
theorem keptL_eq (r : List Lv) : keptL r = turnsL r := by
  refine snocR (P := fun r => keptL r = turnsL r) rfl (fun r v ih => ?_) r
  rw [turnsL_snoc, ← ih]
  unfold keptL stepL
  rw [aft_snoc]
  by_cases h : v.i = -20
  · rw [if_pos h, if_pos h]; rfl
  · rw [if_neg h, if_neg h, kepL_snoc _ _ _ _ (by simp; omega), List.length_append, kepL_more ((aft (-20) r).length + [v].length + 1) ((aft (-20) r).length + 1) true _ (by simp; omega) (by simp)]
/-- the turns of a row are turns -/
theorem clearedL_split (i : Int) : ∀ (r : List Lv) (up : Bool), ∃ s, r = clearedL i up r ++ s
  | [], _ => ⟨[], rfl⟩
  | u :: r, up => by
    obtain ⟨s, hs⟩ := clearedL_split i r (!up)
    rw [clearedL]
    generalize (if up = true then decide (i < u.i) else decide (u.i < i)) = c
    cases c
    · exact ⟨u :: r, rfl⟩
    · exact ⟨s, congrArg (u :: ·) hs⟩
theorem clearedL_mem {i : Int} {r : List Lv} {up : Bool} : ∀ v ∈ clearedL i up r, v ∈ r := fun v h => by
  obtain ⟨s, hs⟩ := clearedL_split i r up
  rw [hs]
  exact List.mem_append_left _ h
theorem clearedL_idem (i : Int) : ∀ (r : List Lv) (up : Bool), clearedL i up (clearedL i up r) = clearedL i up r
  | [], _ => rfl
  | u :: r, up => by
    have ih := clearedL_idem i r (!up)
    by_cases c : (if up = true then decide (i < u.i) else decide (u.i < i)) = true
    · have e : clearedL i up (u :: r) = u :: clearedL i (!up) r := by rw [clearedL, if_pos c]
      rw [e]
      have e2 : clearedL i up (u :: clearedL i (!up) r) = u :: clearedL i (!up) (clearedL i (!up) r) := by rw [clearedL, if_pos c]
      rw [e2, ih]
    · have e : clearedL i up (u :: r) = [] := by rw [clearedL, if_neg c]
      rw [e]
      rfl
theorem turnsL_hi : ∀ (r : List Lv), ∀ v ∈ turnsL r, -20 < v.i := fun r => by
  refine snocR (P := fun r => ∀ v ∈ turnsL r, -20 < v.i) (fun _ h => by cases h) (fun r u ih v hv => ?_) r
  rw [turnsL_snoc] at hv
  unfold stepL at hv
  split at hv
  · cases hv
  · rename_i hu
    rcases List.mem_append.mp hv with h | h
    · exact ih v (clearedL_mem v h)
    · rw [List.mem_singleton.mp h]
      have := u.a
      omega
theorem Kept.init {p : List Lv} {x : Lv} (h : Kept (p ++ [x])) : Kept p ∧ clearedL x.i true p = p := by
  have hx : ¬ x.i = -20 := by have := h.hi x (by simp); omega
  have e := h.id
  rw [turnsL_snoc] at e
  unfold stepL at e
  rw [if_neg hx] at e
  have e := List.append_cancel_right e
  have l1 := clearedL_len x.i (turnsL p) true
  have l2 := turnsL_len p
  rw [e] at l1
  obtain ⟨s, hs⟩ := clearedL_split x.i (turnsL p) true
  rw [e] at hs
  have hl := congrArg List.length hs
  rw [List.length_append] at hl
  have hs0 : s = [] := List.eq_nil_of_length_eq_zero (by omega)
  rw [hs0, List.append_nil] at hs
  exact ⟨⟨fun v hv => h.hi v (List.mem_append_left _ hv), hs⟩, by rw [hs] at e; exact e⟩
theorem Kept.pre : ∀ {s p : List Lv}, Kept (p ++ s) → Kept p := fun {s} => by
  refine snocR (P := fun s => ∀ {p : List Lv}, Kept (p ++ s) → Kept p) (fun {p} h => by rwa [List.append_nil] at h) (fun s x ih {p} h => ?_) s
  rw [← List.append_assoc] at h
  exact ih h.init.1
theorem kept_nil : Kept [] := ⟨fun _ h => (by cases h), rfl⟩
theorem Kept.step {t : List Lv} (h : Kept t) (v : Lv) : Kept (stepL t v) := by
  unfold stepL
  by_cases hv : v.i = -20
  · rw [if_pos hv]; exact kept_nil
  · rw [if_neg hv]
    obtain ⟨s, hs⟩ := clearedL_split v.i t true
    have hc : Kept (clearedL v.i true t) := Kept.pre (s := s) (by rw [← hs]; exact h)
    refine ⟨fun u hu => ?_, ?_⟩
    · rcases List.mem_append.mp hu with m | m
      · exact hc.hi u m
      · rw [List.mem_singleton.mp m]
        have := v.a
        omega
    · rw [turnsL_snoc, hc.id]
      unfold stepL
      rw [if_neg hv, clearedL_idem]
theorem turnsL_kept (r : List Lv) : Kept (turnsL r) := by
  refine snocR (P := fun r => Kept (turnsL r)) kept_nil (fun r v ih => ?_) r
  rw [turnsL_snoc]
  exact ih.step v

end KK
namespace KK
open LB
/-! FW: the law's own way to the turns -/
theorem whl_inv {α : Type} {t : Env → Store → Res D} {b : Env → Store → Out} {E : α → Env} {st : Store} (I : α → Prop) (cond : α → Bool) (μ : α → Nat) (ht : ∀ a, I a → t (E a) st = .ok (.bl (cond a)) st)
    (hb : ∀ a, I a → cond a = true → ∃ a', b (E a) st = .nx (E a') st ∧ I a' ∧ μ a' < μ a) : ∀ (n : Nat) (a : α), I a → μ a < n → ∃ a', whl t b n (E a) st = .nx (E a') st ∧ I a' ∧ cond a' = false
  | 0, _, _, h => absurd h (Nat.not_lt_zero _)
  | n + 1, a, hI, h => by
    show ∃ a', ((t (E a) st).toOut (E a) fun d st1 => match d with | .bl true => (match b (E a) st1 with | .nx env2 st2 => whl t b n env2 st2 | r => r) | .bl false => .nx (E a) st1 | _ => .bad) = _ ∧ _
    rw [ht a hI, ro]
    by_cases hc : cond a = true
    · obtain ⟨a', e, hI', hm⟩ := hb a hI hc
      obtain ⟨a2, e2, hI2, hc2⟩ := whl_inv I cond μ ht hb n a' hI' (by omega)
      refine ⟨a2, ?_, hI2, hc2⟩
      rw [hc]
      show (match b (E a) st with | .nx env2 st2 => whl t b n env2 st2 | r => r) = _
      rw [e]
      exact e2
    · have hc : cond a = false := by simpa using hc
      refine ⟨a, ?_, hI, hc⟩
      rw [hc]
theorem ex_while {T : Tab} {t : E} {b : List S} {env : Env} {st : Store} : LB.ex T (.while_ t b) env st = whl (evE T t .t) (exs T b) 100000 env st := rfl
theorem plain_lvs (l : List Lv) : plains 59 (l.map lvD) = true := plains_map (fun _ => rfl) l
theorem inn_lv (x : Int) (l : List Lv) : cm2 .inn (.int x) (.lst (l.map lvD)) = some (hasL x l) := by
  show (if plain 60 (.int x) && plains 59 (l.map lvD) then some ((l.map lvD).any fun z => eqv z (.int x)) else none) = _
  rw [plain_lvs]
  show some _ = _
  congr 1
  unfold hasL
  rw [List.any_map]
  rfl
theorem idxOf_lv (x : Int) : ∀ l : List Lv, idxOf (.int x) (l.map lvD) = l.findIdx? fun v => decide (v.i = x)
  | [] => rfl
  | v :: l => by
    rw [List.map_cons, List.findIdx?_cons, ← idxOf_lv x l]
    show (if eqv (lvD v) (.int x) = true then some 0 else _) = _
    rw [show eqv (lvD v) (.int x) = decide (v.i = x) from rfl]
theorem index_lv {x : Int} {l : List Lv} (h : hasL x l = true) : ∃ i, l.findIdx? (fun v => decide (v.i = x)) = some i ∧ i < l.length ∧ indexD (.lst (l.map lvD)) (.int x) = some (.int (i : Nat)) := by
  have h2 := List.findIdx?_isSome (xs := l) (p := fun v => decide (v.i = x))
  have h : l.any (fun v => decide (v.i = x)) = true := h
  rw [h] at h2
  cases e : l.findIdx? (fun v => decide (v.i = x)) with
  | none => rw [e] at h2; cases h2
  | some i =>
    refine ⟨i, rfl, (List.findIdx?_eq_some_iff_findIdx_eq.mp e).1, ?_⟩
    show (if plain 60 (.int x) && plains 59 (l.map lvD) then (idxOf (.int x) (l.map lvD)).map fun (i : Nat) => D.int i else none) = _
    rw [plain_lvs, idxOf_lv, e]
    rfl
theorem toInts_lv (l : List Lv) : toInts (l.map lvD) = some (l.map Lv.i) := by
  rw [show l.map lvD = (l.map Lv.i).map .int by rw [List.map_map]; rfl]
  exact toInts_ints _
theorem cut_more (l : List Lv) (i : Nat) (h : i < l.length) : cutAt l.length ((i : Int) + 1) = i + 1 := by
  rw [show ((i : Int) + 1) = ((i + 1 : Nat) : Int) by omega, cutAt_nat]
  omega
theorem neNil (l : List Lv) : cm2 .ne (.lst (l.map lvD)) (.lst []) = some (!l.isEmpty) := by
  show (eqD (.lst (l.map lvD)) (.lst [])).map _ = _
  rw [show eqD (.lst (l.map lvD)) (.lst []) = cm2 .eq (.lst (l.map lvD)) (.lst []) from rfl, eq_nil (plain_lvs l)]
  cases l <;> rfl
/-- the first while -/
theorem kept1 (T : Tab) (r : List Lv) (hr : r.length ≤ 10000) (a0 a2 a3 : Slot) (st : Store) : LB.ex T s61_0 [a0, .v (.lst (r.map lvD)), a2, a3] st = .nx [a0, .v (.lst ((aft (-20) r).map lvD)), a2, a3] st := by
  obtain ⟨l, e, hI, hc⟩ := whl_inv (t := evE T (.cmp .inn (.neg (.lit (.int 20))) (.var 1)) .t) (b := exs T l61_0) (E := fun l : List Lv => [a0, .v (.lst (l.map lvD)), a2, a3]) (st := st) (fun l => aft (-20) l = aft (-20) r) (fun l => hasL (-20) l) (fun l => l.length)
    (fun l _ => by simp [exs, ex, evE, evL, evB, evC, evAnd, evOr, enter_s, ↓bd, ↓od, rs, slot, post_v, post_p, post_t, post_i, fin_rt, fin_nx, cm_lt, cm_le, cm_gt, cm_ge, cm_eqI, cm_neI, cm_eqS, cm_neS, cm_isN, cm_notN, op_addI, op_subI, op_mulI, op_modI, op_fdivI, op_addL, op_addT, op_mulT, tr_bl, ix_tup, ix_lst, ix_ref, bv1, bv2, bv3, bv4, bvR, bvr, bvM, bvm, bi1, Md.noM, wipe, setTg, setTgs, sl_t, sl_l, cut_to, cut_from, okS_i, okS_n, lenOk_iff, all_t, seq_l, items, itemsI, srtsetD, parSet, pickAll, inn_lv]) (fun l hl hc => by
      obtain ⟨i, h1, h2, h3⟩ := index_lv hc
      refine ⟨l.drop (i + 1), ?_, by rw [aft_first h1]; exact hl, by rw [List.length_drop]; omega⟩
      simp [exs, ex, evE, evL, evB, evC, evAnd, evOr, enter_s, ↓bd, ↓od, rs, slot, post_v, post_p, post_t, post_i, fin_rt, fin_nx, cm_lt, cm_le, cm_gt, cm_ge, cm_eqI, cm_neI, cm_eqS, cm_neS, cm_isN, cm_notN, op_addI, op_subI, op_mulI, op_modI, op_fdivI, op_addL, op_addT, op_mulT, tr_bl, ix_tup, ix_lst, ix_ref, bv1, bv2, bv3, bv4, bvR, bvr, bvM, bvm, bi1, Md.noM, wipe, setTg, setTgs, sl_t, sl_l, cut_to, cut_from, okS_i, okS_n, lenOk_iff, all_t, seq_l, items, itemsI, srtsetD, parSet, pickAll, l61_0, h3, cut_more l i h2]) 100000 r rfl (by omega)
  rw [aft_none hc] at hI
  rw [hI] at e
  exact e
theorem kept2 (T : Tab) (r : List Lv) (hr : r.length ≤ 10000) (found : List Lv) (m : Lv) (a0 a3 : Slot) (st : Store) : LB.ex T s61_2 [a0, .v (.lst (r.map lvD)), .o (.lst ((found ++ [m]).map lvD)), a3] st = .nx [a0, .v (.lst ((aft m.i r).map lvD)), .o (.lst ((found ++ [m]).map lvD)), a3] st := by
  have al : at_ ((found ++ [m]).map lvD) (-1) = some (.int m.i) := by
    rw [List.map_append]
    exact at_last _ _
  generalize (found ++ [m]).map lvD = Fd at *
  obtain ⟨l, e, hI, hc⟩ := whl_inv (t := evE T (.cmp .inn (.idx (.var 2) (.neg (.lit (.int 1)))) (.var 1)) .t) (b := exs T l61_2) (E := fun l : List Lv => [a0, .v (.lst (l.map lvD)), .o (.lst Fd), a3]) (st := st) (fun l => aft m.i l = aft m.i r) (fun l => hasL m.i l) (fun l => l.length)
    (fun l _ => by simp [exs, ex, evE, evL, evB, evC, evAnd, evOr, enter_s, ↓bd, ↓od, rs, slot, post_v, post_p, post_t, post_i, fin_rt, fin_nx, cm_lt, cm_le, cm_gt, cm_ge, cm_eqI, cm_neI, cm_eqS, cm_neS, cm_isN, cm_notN, op_addI, op_subI, op_mulI, op_modI, op_fdivI, op_addL, op_addT, op_mulT, tr_bl, ix_tup, ix_lst, ix_ref, bv1, bv2, bv3, bv4, bvR, bvr, bvM, bvm, bi1, Md.noM, wipe, setTg, setTgs, sl_t, sl_l, cut_to, cut_from, okS_i, okS_n, lenOk_iff, all_t, seq_l, items, itemsI, srtsetD, parSet, pickAll, inn_lv, al]) (fun l hl hc => by
      obtain ⟨i, h1, h2, h3⟩ := index_lv hc
      refine ⟨l.drop (i + 1), ?_, by rw [aft_first h1]; exact hl, by rw [List.length_drop]; omega⟩
      simp [exs, ex, evE, evL, evB, evC, evAnd, evOr, enter_s, ↓bd, ↓od, rs, slot, post_v, post_p, post_t, post_i, fin_rt, fin_nx, cm_lt, cm_le, cm_gt, cm_ge, cm_eqI, cm_neI, cm_eqS, cm_neS, cm_isN, cm_notN, op_addI, op_subI, op_mulI, op_modI, op_fdivI, op_addL, op_addT, op_mulT, tr_bl, ix_tup, ix_lst, ix_ref, bv1, bv2, bv3, bv4, bvR, bvr, bvM, bvm, bi1, Md.noM, wipe, setTg, setTgs, sl_t, sl_l, cut_to, cut_from, okS_i, okS_n, lenOk_iff, all_t, seq_l, items, itemsI, srtsetD, parSet, pickAll, l61_2, h3, al, cut_more l i h2]) 100000 r rfl (by omega)
  rw [aft_none hc] at hI
  rw [hI] at e
  exact e
theorem kept3 (T : Tab) (r : List Lv) (hr : r.length ≤ 10000) (a0 : Slot) (st : Store) : ∃ a3, LB.ex T s61_4 [a0, .v (.lst (r.map lvD)), .o (.lst []), .v (.bl true)] st = .nx [a0, .v (.lst []), .o (.lst ((kepL (r.length + 1) true r).map lvD)), a3] st := by
  obtain ⟨⟨l, found, up⟩, e, hI, hc⟩ := whl_inv (t := evE T (.cmp .ne (.var 1) (.lst [])) .t) (b := exs T l61_4) (E := fun q : List Lv × List Lv × Bool => [a0, .v (.lst (q.1.map lvD)), .o (.lst (q.2.1.map lvD)), .v (.bl q.2.2)]) (st := st)
    (fun q => q.2.1 ++ kepL (q.1.length + 1) q.2.2 q.1 = kepL (r.length + 1) true r ∧ q.2.1.length + q.1.length ≤ 10000) (fun q => !q.1.isEmpty) (fun q => q.1.length)
    (fun q _ => by simp [exs, ex, evE, evL, evB, evC, evAnd, evOr, enter_s, ↓bd, ↓od, rs, slot, post_v, post_p, post_t, post_i, fin_rt, fin_nx, cm_lt, cm_le, cm_gt, cm_ge, cm_eqI, cm_neI, cm_eqS, cm_neS, cm_isN, cm_notN, op_addI, op_subI, op_mulI, op_modI, op_fdivI, op_addL, op_addT, op_mulT, tr_bl, ix_tup, ix_lst, ix_ref, bv1, bv2, bv3, bv4, bvR, bvr, bvM, bvm, bi1, Md.noM, wipe, setTg, setTgs, sl_t, sl_l, cut_to, cut_from, okS_i, okS_n, lenOk_iff, all_t, seq_l, items, itemsI, srtsetD, parSet, pickAll, neNil]) (fun q hq hc => by
      obtain ⟨l, found, up⟩ := q
      obtain ⟨h1, h2⟩ := hq
      have hne : l ≠ [] := by intro z; subst z; cases hc
      obtain ⟨m, hm⟩ := ext_some up l hne
      have hlt := aft_lt (has_mem (ext_mem hm))
      have hfl : found.length ≤ 1000000 := by simp at h2; omega
      have k2 := kept2 T l (by simp at h2; omega) found m a0 (.v (.bl up)) st
      have mm : (if up then maxL (l.map Lv.i) else minL (l.map Lv.i)) = some m.i := by
        cases up
        · rw [if_neg Bool.false_ne_true, ext_min, hm]; rfl
        · rw [if_pos rfl, ext_max, hm]; rfl
      refine ⟨(aft m.i l, found ++ [m], !up), ?_, ⟨?_, ?_⟩, hlt⟩
      · rw [List.map_append] at k2 ⊢
        simp only [List.map_cons, List.map_nil, lvD] at k2 ⊢
        cases up
        · rw [if_neg Bool.false_ne_true] at mm
          simp [exs, ex, evE, evL, evB, evC, evAnd, evOr, enter_s, ↓bd, ↓od, rs, slot, post_v, post_p, post_t, post_i, fin_rt, fin_nx, cm_lt, cm_le, cm_gt, cm_ge, cm_eqI, cm_neI, cm_eqS, cm_neS, cm_isN, cm_notN, op_addI, op_subI, op_mulI, op_modI, op_fdivI, op_addL, op_addT, op_mulT, tr_bl, ix_tup, ix_lst, ix_ref, bv1, bv2, bv3, bv4, bvR, bvr, bvM, bvm, bi1, Md.noM, wipe, setTg, setTgs, sl_t, sl_l, cut_to, cut_from, okS_i, okS_n, lenOk_iff, all_t, seq_l, items, itemsI, srtsetD, parSet, pickAll, l61_4, toInts_lv, mm, hfl, k2]
        · rw [if_pos rfl] at mm
          simp [exs, ex, evE, evL, evB, evC, evAnd, evOr, enter_s, ↓bd, ↓od, rs, slot, post_v, post_p, post_t, post_i, fin_rt, fin_nx, cm_lt, cm_le, cm_gt, cm_ge, cm_eqI, cm_neI, cm_eqS, cm_neS, cm_isN, cm_notN, op_addI, op_subI, op_mulI, op_modI, op_fdivI, op_addL, op_addT, op_mulT, tr_bl, ix_tup, ix_lst, ix_ref, bv1, bv2, bv3, bv4, bvR, bvr, bvM, bvm, bi1, Md.noM, wipe, setTg, setTgs, sl_t, sl_l, cut_to, cut_from, okS_i, okS_n, lenOk_iff, all_t, seq_l, items, itemsI, srtsetD, parSet, pickAll, l61_4, toInts_lv, mm, hfl, k2]
      · rw [← h1]
        show found ++ [m] ++ kepL ((aft m.i l).length + 1) (!up) (aft m.i l) = found ++ kepL (l.length + 1) up l
        rw [show kepL (l.length + 1) up l = m :: kepL l.length (!up) (aft m.i l) by rw [kepL, hm], kepL_more ((aft m.i l).length + 1) l.length _ _ (by omega) hlt]
        simp
      · show (found ++ [m]).length + (aft m.i l).length ≤ 10000
        simp at h2 ⊢
        omega) 100000 (r, [], true) ⟨rfl, by simpa using hr⟩ (by show r.length < 100000; omega)
  have hl : l = [] := by
    cases l with
    | nil => rfl
    | cons => cases hc
  subst hl
  have h1 : found ++ kepL 1 up [] = kepL (r.length + 1) true r := hI.1
  rw [show kepL 1 up [] = [] from rfl, List.append_nil] at h1
  refine ⟨.v (.bl up), ?_⟩
  rw [← h1]
  exact e
theorem kept_of (F : Nat → Option Fn) [Has F 61 f61] (k : Nat) (r : List Lv) (hr : r.length ≤ 10000) (st : Store) : call F (k + 1) 61 [rowD r] st = .ok (rowD (turnsL r)) st := by
  have e1 := kept1 (call F k) r hr (.v (rowD r)) .u .u st
  obtain ⟨a3, e2⟩ := kept3 (call F k) (aft (-20) r) (by have := aft_len (x := -20) r; omega) (.v (rowD r)) st
  have e3 : kepL ((aft (-20) r).length + 1) true (aft (-20) r) = turnsL r := keptL_eq r
  rw [e3] at e2
  rw [call_h (n := 61) (f := f61)]; simp [f61, b61, exs, ex, evE, evL, evB, evC, evAnd, evOr, enter_s, ↓bd, ↓od, rs, slot, post_v, post_p, post_t, post_i, fin_rt, fin_nx, cm_lt, cm_le, cm_gt, cm_ge, cm_eqI, cm_neI, cm_eqS, cm_neS, cm_isN, cm_notN, op_addI, op_subI, op_mulI, op_modI, op_fdivI, op_addL, op_addT, op_mulT, tr_bl, ix_tup, ix_lst, ix_ref, bv1, bv2, bv3, bv4, bvR, bvr, bvM, bvm, bi1, Md.noM, wipe, setTg, setTgs, sl_t, sl_l, cut_to, cut_from, okS_i, okS_n, lenOk_iff, all_t, seq_l, items, itemsI, srtsetD, parSet, pickAll, e1, e2]

end KK
namespace KK
open LB
/-! FX: the first statements of a law -/
def envOf : Out → Env
  | .nx e _ => e
  | _ => []
theorem exs_app {T : Tab} : ∀ {xs ys : List S} {env : Env} {st : Store}, exs T (xs ++ ys) env st = (match exs T xs env st with | .nx e s => exs T ys e s | r => r)
  | [], _, _, _ => rfl
  | x :: xs, ys, env, st => by
    show (match LB.ex T x env st with | .nx env1 st1 => exs T (xs ++ ys) env1 st1 | r => r) = (match (match LB.ex T x env st with | .nx env1 st1 => exs T xs env1 st1 | r => r) with | .nx e s => exs T ys e s | r => r)
    cases LB.ex T x env st with
    | nx e s => exact exs_app
    | rt => rfl
    | exc => rfl
    | bad => rfl
theorem exs_pre {T : Tab} {b : List S} {n : Nat} {env env1 : Env} {st st1 : Store} (h : exs T (b.take n) env st = .nx env1 st1) : exs T b env st = exs T (b.drop n) env1 st1 := by
  have := exs_app (T := T) (xs := b.take n) (ys := b.drop n) (env := env) (st := st)
  rw [List.take_append_drop, h] at this
  exact this
theorem exs_nx {T : Tab} {s : S} {ss : List S} {env e1 : Env} {st s1 : Store} (h : LB.ex T s env st = .nx e1 s1) : exs T (s :: ss) env st = exs T ss e1 s1 := by
  show (match LB.ex T s env st with | .nx env1 st1 => exs T ss env1 st1 | r => r) = _
  rw [h]

end KK
namespace KK
open LB
def lib : Nat → Option Fn
  | 0 => some f0
  | 1 => some f1
  | 2 => some f2
  | 3 => some f3
  | 4 => some f4
  | 5 => some f5
  | 6 => some f6
  | 7 => some f7
  | 9 => some f9
  | 185 => some f185
  | 272 => some f272
  | 294 => some f294
  | 418 => some f418
  | 441 => some f441
  | 442 => some f442
  | 595 => some f595
  | 599 => some f599
  | 606 => some f606
  | 607 => some f607
  | 608 => some f608
  | 617 => some f617
  | 624 => some f624
  | 632 => some f632
  | 633 => some f633
  | 634 => some f634
  | 635 => some f635
  | 636 => some f636
  | 637 => some f637
  | 638 => some f638
  | 639 => some f639
  | 640 => some f640
  | 641 => some f641
  | 642 => some f642
  | 643 => some f643
  | 644 => some f644
  | 645 => some f645
  | 646 => some f646
  | 647 => some f647
  | _ => none
instance : Has lib 0 f0 := ⟨rfl⟩
instance : Has lib 1 f1 := ⟨rfl⟩
instance : Has lib 2 f2 := ⟨rfl⟩
instance : Has lib 3 f3 := ⟨rfl⟩
instance : Has lib 4 f4 := ⟨rfl⟩
instance : Has lib 5 f5 := ⟨rfl⟩
instance : Has lib 6 f6 := ⟨rfl⟩
instance : Has lib 7 f7 := ⟨rfl⟩
instance : Has lib 9 f9 := ⟨rfl⟩
instance : Has lib 185 f185 := ⟨rfl⟩
instance : Has lib 272 f272 := ⟨rfl⟩
instance : Has lib 294 f294 := ⟨rfl⟩
instance : Has lib 418 f418 := ⟨rfl⟩
instance : Has lib 441 f441 := ⟨rfl⟩
instance : Has lib 442 f442 := ⟨rfl⟩
instance : Has lib 595 f595 := ⟨rfl⟩
instance : Has lib 599 f599 := ⟨rfl⟩
instance : Has lib 606 f606 := ⟨rfl⟩
instance : Has lib 607 f607 := ⟨rfl⟩
instance : Has lib 608 f608 := ⟨rfl⟩
instance : Has lib 617 f617 := ⟨rfl⟩
instance : Has lib 624 f624 := ⟨rfl⟩
instance : Has lib 632 f632 := ⟨rfl⟩
instance : Has lib 633 f633 := ⟨rfl⟩
instance : Has lib 634 f634 := ⟨rfl⟩
instance : Has lib 635 f635 := ⟨rfl⟩
instance : Has lib 636 f636 := ⟨rfl⟩
instance : Has lib 637 f637 := ⟨rfl⟩
instance : Has lib 638 f638 := ⟨rfl⟩
instance : Has lib 639 f639 := ⟨rfl⟩
instance : Has lib 640 f640 := ⟨rfl⟩
instance : Has lib 641 f641 := ⟨rfl⟩
instance : Has lib 642 f642 := ⟨rfl⟩
instance : Has lib 643 f643 := ⟨rfl⟩
instance : Has lib 644 f644 := ⟨rfl⟩
instance : Has lib 645 f645 := ⟨rfl⟩
instance : Has lib 646 f646 := ⟨rfl⟩
instance : Has lib 647 f647 := ⟨rfl⟩
theorem pre_ok (a : Slot) : ∃ b1 b2 b3 b4 b5, exs (call lib 59) (b647.take 5) [a, .u, .u, .u, .u, .u] [] = .nx [a, b1, b2, b3, b4, b5] [] :=
  ⟨(envOf (exs (call lib 59) (b647.take 5) [a, .u, .u, .u, .u, .u] [])).getD 1 .u, (envOf (exs (call lib 59) (b647.take 5) [a, .u, .u, .u, .u, .u] [])).getD 2 .u, (envOf (exs (call lib 59) (b647.take 5) [a, .u, .u, .u, .u, .u] [])).getD 3 .u, (envOf (exs (call lib 59) (b647.take 5) [a, .u, .u, .u, .u, .u] [])).getD 4 .u, (envOf (exs (call lib 59) (b647.take 5) [a, .u, .u, .u, .u, .u] [])).getD 5 .u, by kernel_rfl⟩
def zOf (w : Int) : D := match biV [] .str [.int w] with
  | some t => (op2 .add (.str "-20/20:-") t).getD .non
  | none => .non
theorem a78_0 (a0 a1 a2 a3 a5 : Slot) (st : Store) : ((List.range' 0 11).map fun (i : Nat) => exs (call lib 59) (l647_0.drop 2) [a0, a1, a2, a3, .v (.int (1 + (i : Int))), a5] st) = (List.range' 0 11).map fun (i : Nat) => .nx [a0, a1, a2, a3, .v (.int (1 + (i : Int))), .v (zOf (1 + (i : Int)))] st := by kernel_rfl
theorem a78_1 (a0 a1 a2 a3 a5 : Slot) (st : Store) : ((List.range' 11 11).map fun (i : Nat) => exs (call lib 59) (l647_0.drop 2) [a0, a1, a2, a3, .v (.int (1 + (i : Int))), a5] st) = (List.range' 11 11).map fun (i : Nat) => .nx [a0, a1, a2, a3, .v (.int (1 + (i : Int))), .v (zOf (1 + (i : Int)))] st := by kernel_rfl
theorem a78_2 (a0 a1 a2 a3 a5 : Slot) (st : Store) : ((List.range' 22 11).map fun (i : Nat) => exs (call lib 59) (l647_0.drop 2) [a0, a1, a2, a3, .v (.int (1 + (i : Int))), a5] st) = (List.range' 22 11).map fun (i : Nat) => .nx [a0, a1, a2, a3, .v (.int (1 + (i : Int))), .v (zOf (1 + (i : Int)))] st := by kernel_rfl
theorem a78_3 (a0 a1 a2 a3 a5 : Slot) (st : Store) : ((List.range' 33 11).map fun (i : Nat) => exs (call lib 59) (l647_0.drop 2) [a0, a1, a2, a3, .v (.int (1 + (i : Int))), a5] st) = (List.range' 33 11).map fun (i : Nat) => .nx [a0, a1, a2, a3, .v (.int (1 + (i : Int))), .v (zOf (1 + (i : Int)))] st := by kernel_rfl
theorem a78_4 (a0 a1 a2 a3 a5 : Slot) (st : Store) : ((List.range' 44 11).map fun (i : Nat) => exs (call lib 59) (l647_0.drop 2) [a0, a1, a2, a3, .v (.int (1 + (i : Int))), a5] st) = (List.range' 44 11).map fun (i : Nat) => .nx [a0, a1, a2, a3, .v (.int (1 + (i : Int))), .v (zOf (1 + (i : Int)))] st := by kernel_rfl
theorem a78_5 (a0 a1 a2 a3 a5 : Slot) (st : Store) : ((List.range' 55 11).map fun (i : Nat) => exs (call lib 59) (l647_0.drop 2) [a0, a1, a2, a3, .v (.int (1 + (i : Int))), a5] st) = (List.range' 55 11).map fun (i : Nat) => .nx [a0, a1, a2, a3, .v (.int (1 + (i : Int))), .v (zOf (1 + (i : Int)))] st := by kernel_rfl
theorem a78_6 (a0 a1 a2 a3 a5 : Slot) (st : Store) : ((List.range' 66 11).map fun (i : Nat) => exs (call lib 59) (l647_0.drop 2) [a0, a1, a2, a3, .v (.int (1 + (i : Int))), a5] st) = (List.range' 66 11).map fun (i : Nat) => .nx [a0, a1, a2, a3, .v (.int (1 + (i : Int))), .v (zOf (1 + (i : Int)))] st := by kernel_rfl
theorem a78_7 (a0 a1 a2 a3 a5 : Slot) (st : Store) : ((List.range' 77 11).map fun (i : Nat) => exs (call lib 59) (l647_0.drop 2) [a0, a1, a2, a3, .v (.int (1 + (i : Int))), a5] st) = (List.range' 77 11).map fun (i : Nat) => .nx [a0, a1, a2, a3, .v (.int (1 + (i : Int))), .v (zOf (1 + (i : Int)))] st := by kernel_rfl
theorem a78_8 (a0 a1 a2 a3 a5 : Slot) (st : Store) : ((List.range' 88 11).map fun (i : Nat) => exs (call lib 59) (l647_0.drop 2) [a0, a1, a2, a3, .v (.int (1 + (i : Int))), a5] st) = (List.range' 88 11).map fun (i : Nat) => .nx [a0, a1, a2, a3, .v (.int (1 + (i : Int))), .v (zOf (1 + (i : Int)))] st := by kernel_rfl
theorem one78 (a0 a1 a2 a3 a5 : Slot) (st : Store) (r : Int) (h0 : 0 ≤ r) (h1 : r < 99) : exs (call lib 59) (l647_0.drop 2) [a0, a1, a2, a3, .v (.int (1 + r)), a5] st = .nx [a0, a1, a2, a3, .v (.int (1 + r)), .v (zOf (1 + r))] st := by
  obtain ⟨i, rfl⟩ : ∃ i : Nat, r = (i : Int) := ⟨r.toNat, by omega⟩
  by_cases c0 : i < 11
  · exact List.map_inj_left.mp (a78_0 a0 a1 a2 a3 a5 st) i (List.mem_range'_1.mpr (by omega))
  by_cases c1 : i < 22
  · exact List.map_inj_left.mp (a78_1 a0 a1 a2 a3 a5 st) i (List.mem_range'_1.mpr (by omega))
  by_cases c2 : i < 33
  · exact List.map_inj_left.mp (a78_2 a0 a1 a2 a3 a5 st) i (List.mem_range'_1.mpr (by omega))
  by_cases c3 : i < 44
  · exact List.map_inj_left.mp (a78_3 a0 a1 a2 a3 a5 st) i (List.mem_range'_1.mpr (by omega))
  by_cases c4 : i < 55
  · exact List.map_inj_left.mp (a78_4 a0 a1 a2 a3 a5 st) i (List.mem_range'_1.mpr (by omega))
  by_cases c5 : i < 66
  · exact List.map_inj_left.mp (a78_5 a0 a1 a2 a3 a5 st) i (List.mem_range'_1.mpr (by omega))
  by_cases c6 : i < 77
  · exact List.map_inj_left.mp (a78_6 a0 a1 a2 a3 a5 st) i (List.mem_range'_1.mpr (by omega))
  by_cases c7 : i < 88
  · exact List.map_inj_left.mp (a78_7 a0 a1 a2 a3 a5 st) i (List.mem_range'_1.mpr (by omega))
  by_cases c8 : i < 99
  · exact List.map_inj_left.mp (a78_8 a0 a1 a2 a3 a5 st) i (List.mem_range'_1.mpr (by omega))
  omega
theorem lap78 {n : Nat} {st0 st : Store} (hp : PenAt n st0 st) (a0 a1 a2 a3 a5 : Slot) : ∃ st' b4 b5, exs (call lib 59) (l647_0.drop 1) [a0, a1, a2, a3, .v (.ref n), a5] st = .nx [a0, a1, a2, a3, b4, b5] st' := by
  obtain ⟨r, st1, e1, p1, r0, r1⟩ := draw lib 58 hp (u := 99) (by decide) (by decide)
  have o := one78 a0 a1 a2 a3 a5 st1 r r0 r1
  refine ⟨st1, .v (.int (1 + r)), .v (zOf (1 + r)), ?_⟩
  have pre : exs (call lib 59) ((l647_0.drop 1).take 1) [a0, a1, a2, a3, .v (.ref n), a5] st = .nx [a0, a1, a2, a3, .v (.int (1 + r)), a5] st1 := by
    simp only [l647_0, List.take, List.drop]
    simp [exs, ex, evE, evL, evB, evC, evAnd, evOr, enter_s, ↓bd, ↓od, rs, slot, post_v, post_p, post_t, post_i, fin_rt, fin_nx, cm_lt, cm_le, cm_gt, cm_ge, cm_eqI, cm_neI, cm_eqS, cm_neS, cm_isN, cm_notN, op_addI, op_subI, op_mulI, op_modI, op_fdivI, op_addL, op_addT, op_mulT, tr_bl, ix_tup, ix_lst, ix_ref, bv1, bv2, bv3, bv4, bvR, bvr, bvM, bvm, bi1, Md.noM, wipe, setTg, setTgs, sl_t, sl_l, cut_to, cut_from, okS_i, okS_n, lenOk_iff, all_t, seq_l, items, itemsI, srtsetD, parSet, pickAll, e1]
  exact (exs_pre (n := 1) pre).trans o
theorem rounds (ns : List Int) (a1 a2 a3 a4 a5 : Slot) : ∃ env st', LB.ex (call lib 59) s647_0 [.v (.lst (ns.map .int)), a1, a2, a3, a4, a5] [] = .nx env st' := by
  obtain ⟨r, hr, er⟩ := turns3 (T := call lib 59) (st := []) (env := [.v (.lst (ns.map .int)), a1, a2, a3, a4, a5]) 3 (by decide) ns rfl
  obtain ⟨env, st', e, _⟩ := for_any (T := call lib 59) (tg := .nm 3) (b := l647_0) er
    (fun env st1 => ∃ b1 b2 b3 b4 b5, env = [.v (.lst (ns.map .int)), b1, b2, b3, b4, b5]) ⟨_, _, _, _, _, rfl⟩ (by
    rintro d hd _ st1 ⟨b1, b2, b3, b4, b5, rfl⟩
    obtain ⟨i, rfl, i0, i1⟩ := mem_upto hd
    obtain ⟨c, e1⟩ := cell lib 58 ns i i0 st1
    obtain ⟨st2, e2, h2⟩ := pen lib 58 c st1
    obtain ⟨st3, f4, f5, e3⟩ := lap78 h2 (.v (.lst (ns.map .int))) b1 b2 (.v (.int i)) b5
    have pre : exs (call lib 59) (l647_0.take 1) [.v (.lst (ns.map .int)), b1, b2, .v (.int i), b4, b5] st1 = .nx [.v (.lst (ns.map .int)), b1, b2, .v (.int i), .v (.ref st1.length), b5] st2 := by
      simp only [l647_0, List.take]
      simp [exs, ex, evE, evL, evB, evC, evAnd, evOr, enter_s, ↓bd, ↓od, rs, slot, post_v, post_p, post_t, post_i, fin_rt, fin_nx, cm_lt, cm_le, cm_gt, cm_ge, cm_eqI, cm_neI, cm_eqS, cm_neS, cm_isN, cm_notN, op_addI, op_subI, op_mulI, op_modI, op_fdivI, op_addL, op_addT, op_mulT, tr_bl, ix_tup, ix_lst, ix_ref, bv1, bv2, bv3, bv4, bvR, bvr, bvM, bvm, bi1, Md.noM, wipe, setTg, setTgs, sl_t, sl_l, cut_to, cut_from, okS_i, okS_n, lenOk_iff, all_t, seq_l, items, itemsI, srtsetD, parSet, pickAll, e1, e2]
    exact ⟨_, _, (exs_pre (b := l647_0) (n := 1) pre).trans e3, _, _, _, _, _, rfl⟩)
  exact ⟨env, st', e⟩
theorem law_at (ns : List Int) : ∃ st, (exs (call lib 59) f647.body (enter f647 [.lst (ns.map .int)]) []).fin = .ok (.bl true) st := by
  obtain ⟨b1, b2, b3, b4, b5, e1⟩ := pre_ok (.v (.lst (ns.map .int)))
  obtain ⟨env, st', e2⟩ := rounds ns b1 b2 b3 b4 b5
  refine ⟨st', ?_⟩
  show (exs (call lib 59) b647 [.v (.lst (ns.map .int)), .u, .u, .u, .u, .u] []).fin = _
  rw [exs_pre e1, show b647.drop 5 = [s647_0, .ret (.lit (.bl true))] from rfl]
  generalize s647_0 = g0 at *
  simp [exs, ex, evE, evL, evB, evC, evAnd, evOr, enter_s, ↓bd, ↓od, rs, slot, post_v, post_p, post_t, post_i, fin_rt, fin_nx, cm_lt, cm_le, cm_gt, cm_ge, cm_eqI, cm_neI, cm_eqS, cm_neS, cm_isN, cm_notN, op_addI, op_subI, op_mulI, op_modI, op_fdivI, op_addL, op_addT, op_mulT, tr_bl, ix_tup, ix_lst, ix_ref, bv1, bv2, bv3, bv4, bvR, bvr, bvM, bvm, bi1, Md.noM, wipe, setTg, setTgs, sl_t, sl_l, cut_to, cut_from, okS_i, okS_n, lenOk_iff, all_t, seq_l, items, itemsI, srtsetD, parSet, pickAll, e2]
theorem law_ok : LawOk lib 647 := law_end (f := f647) rfl law_at

end KK
namespace KK
open PySem LB
def kws : List (Nat × Nat × List PySem.Str × List Nat) := []
def st (i : Nat) : Stmt := PySem.Challenge.pw_latchbanks_k78_texts_by_hand.main.body.getD i (.Pass ⟨0, 0, 0, 0⟩)
def cons : List (PySem.Str × D) := [("LOWEST", .int (-20)), ("HIGHEST", .int 20), ("MOST_LATCHES", .int 30), ("GREATEST", .int 99), ("MOST_LEVELS", .int 200), ("NOTHING", .str "none"), ("DIGITS", .str "0123456789")]
def r0 : Row := ⟨0, "is_integer", st 24, ["thing"], 1, b0⟩
def r1 : Row := ⟨1, "is_between", st 25, ["thing", "low", "high"], 3, b1⟩
def r2 : Row := ⟨2, "is_level", st 26, ["thing"], 1, b2⟩
def r3 : Row := ⟨3, "is_latch", st 27, ["thing"], 1, b3⟩
def r4 : Row := ⟨4, "is_bank", st 28, ["thing", "one", "other"], 1, b4⟩
def r272 : Row := ⟨272, "need_bank", st 29, ["bank"], 1, b272⟩
def r294 : Row := ⟨294, "need_row", st 32, ["row", "level"], 1, b294⟩
def r185 : Row := ⟨185, "number_in", st 36, ["word", "digits", "sign"], 1, b185⟩
def r595 : Row := ⟨595, "latch_in", st 37, ["word", "marks", "one"], 1, b595⟩
def r606 : Row := ⟨606, "bank_text", st 38, ["bank", "down", "up", "weight"], 1, b606⟩
def r607 : Row := ⟨607, "state_text", st 39, ["state", "one"], 1, b607⟩
def r608 : Row := ⟨608, "row_text", st 40, ["row", "level"], 1, b608⟩
def r599 : Row := ⟨599, "words_of", st 41, ["text"], 1, b599⟩
def r441 : Row := ⟨441, "need_text", st 42, ["text"], 1, b441⟩
def r617 : Row := ⟨617, "read_bank", st 43, ["text", "found", "word"], 1, b617⟩
def r442 : Row := ⟨442, "read_state", st 44, ["text", "sign"], 1, b442⟩
def r624 : Row := ⟨624, "read_row", st 45, ["text", "found", "word", "level"], 1, b624⟩
def r5 : Row := ⟨5, "_law_cell", st 47, ["_law_script", "_law_k"], 2, b5⟩
def r6 : Row := ⟨6, "_law_pen", st 48, ["_law_cell_here"], 1, b6⟩
def r7 : Row := ⟨7, "_law_draw", st 49, ["_law_pen_here", "_law_many", "_law_found", "_law_stirred"], 2, b7⟩
def r9 : Row := ⟨9, "_law_same", st 50, ["_law_found", "_law_due"], 2, b9⟩
def r646 : Row := ⟨646, "_law_refused", st 53, ["_law_words"], 0, b646⟩
def r647 : Row := ⟨647, "law", st 54, ["_law_script", "_law_bank", "_law_told", "_law_k", "_law_weight", "_law_text"], 1, b647⟩
def rows : List Row := [r0, r1, r2, r3, r4, r272, r294, r185, r595, r606, r607, r608, r599, r441, r617, r442, r624, r5, r6, r7, r9, r646, r647]
def rKind : Row := ⟨418, "_law_word_of", st 51, ["_law_e", "_law_marks", "_law_words"], 1, b418⟩
def rSaid : Row := ⟨0, "_law_said", st 52, ["_law_call", "_law_e"], 1, []⟩
def lr633 : LRow := ⟨633, ⟨"_law_said", 632, 418, 1, [], 0, 617, [(.lit (.str "0/1:2 -2/3:1"))]⟩, rSaid, rKind, "LatchError"⟩
def lr635 : LRow := ⟨635, ⟨"_law_said", 634, 418, 1, [], 0, 617, [(.lit (.str "3/-2:1"))]⟩, rSaid, rKind, "LatchError"⟩
def lr637 : LRow := ⟨637, ⟨"_law_said", 636, 418, 1, [], 0, 442, [(.lit (.str "102"))]⟩, rSaid, rKind, "LatchError"⟩
def lr639 : LRow := ⟨639, ⟨"_law_said", 638, 418, 1, [], 0, 624, [(.lit (.str "3 21"))]⟩, rSaid, rKind, "LatchError"⟩
def lr641 : LRow := ⟨641, ⟨"_law_said", 640, 418, 1, [], 0, 606, [(.tup [(.tup [(.lit (.int 0)), (.lit (.int 1)), (.lit (.int 2))]), (.tup [(.neg (.lit (.int 2))), (.lit (.int 3)), (.lit (.int 1))])])]⟩, rSaid, rKind, "LatchError"⟩
def lr643 : LRow := ⟨643, ⟨"_law_said", 642, 418, 1, [], 0, 607, [(.tup [(.lit (.int 0)), (.lit (.int 2))])]⟩, rSaid, rKind, "LatchError"⟩
def lr645 : LRow := ⟨645, ⟨"_law_said", 644, 418, 1, [], 0, 608, [(.tup [(.lit (.int 3)), (.neg (.lit (.int 21)))])]⟩, rSaid, rKind, "LatchError"⟩
theorem bSaid : Bnd rSaid := fun _ _ _ _ _ _ us hl => match us, hl with | [_], _ => rfl
theorem bKind : Bnd rKind := fun _ _ _ _ _ _ us hl => match us, hl with | [_], _ => rfl
def lams : List LRow := [lr633, lr635, lr637, lr639, lr641, lr643, lr645]
def xs : List PySem.Str := ["LatchError", "NoBank", "NoLevel", "NoState", "NoRow", "NoLoop", "NoFactor", "NoInteger", "NoShift", "NotArisen", "NoWay", "TooMany", "TooGreat", "NoTurns", "NoPlace", "Barred", "NoText", "NothingDone"]
def tn : List PySem.Str := ["_law_refused"]
def G : Sig := { sigOf rows cons kws with exn := exnOf xs, lam := lams.map fun l => (l.s, l.L), raz := [1, 3, 4, 16], lf := [646], pf := [0, 1, 2, 3, 4, 272, 294, 185, 595, 606, 607, 608, 599, 441, 617, 442, 624], ini := [], prg := some PySem.Challenge.rw_latchbanks_k78_texts_by_hand.prog }
theorem bnd : AllF Bnd rows := by
  refine ⟨?_, ?_, ?_, ?_, ?_, ?_, ?_, ?_, ?_, ?_, ?_, ?_, ?_, ?_, ?_, ?_, ?_, ?_, ?_, ?_, ?_, ?_, ?_, trivial⟩
  · exact fun _ _ _ _ _ _ us hl => match us, hl with | [_], _ => rfl
  · exact fun _ _ _ _ _ _ us hl => match us, hl with | [_, _, _], _ => rfl
  · exact fun _ _ _ _ _ _ us hl => match us, hl with | [_], _ => rfl
  · exact fun _ _ _ _ _ _ us hl => match us, hl with | [_], _ => rfl
  · exact fun _ _ _ _ _ _ us hl => match us, hl with | [_], _ => rfl
  · exact fun _ _ _ _ _ _ us hl => match us, hl with | [_], _ => rfl
  · exact fun _ _ _ _ _ _ us hl => match us, hl with | [_], _ => rfl
  · exact fun _ _ _ _ _ _ us hl => match us, hl with | [_], _ => rfl
  · exact fun _ _ _ _ _ _ us hl => match us, hl with | [_], _ => rfl
  · exact fun _ _ _ _ _ _ us hl => match us, hl with | [_], _ => rfl
  · exact fun _ _ _ _ _ _ us hl => match us, hl with | [_], _ => rfl
  · exact fun _ _ _ _ _ _ us hl => match us, hl with | [_], _ => rfl
  · exact fun _ _ _ _ _ _ us hl => match us, hl with | [_], _ => rfl
  · exact fun _ _ _ _ _ _ us hl => match us, hl with | [_], _ => rfl
  · exact fun _ _ _ _ _ _ us hl => match us, hl with | [_], _ => rfl
  · exact fun _ _ _ _ _ _ us hl => match us, hl with | [_], _ => rfl
  · exact fun _ _ _ _ _ _ us hl => match us, hl with | [_], _ => rfl
  · exact fun _ _ _ _ _ _ us hl => match us, hl with | [_, _], _ => rfl
  · exact fun _ _ _ _ _ _ us hl => match us, hl with | [_], _ => rfl
  · exact fun _ _ _ _ _ _ us hl => match us, hl with | [_, _], _ => rfl
  · exact fun _ _ _ _ _ _ us hl => match us, hl with | [_, _], _ => rfl
  · exact fun _ _ _ _ _ _ us hl => match us, hl with | [], _ => rfl
  · exact fun _ _ _ _ _ _ us hl => match us, hl with | [_], _ => rfl
theorem kk0 : rowB G r0 = true := by decide +kernel
theorem kk1 : rowB G r1 = true := by decide +kernel
theorem kk2 : rowB G r2 = true := by decide +kernel
theorem kk3 : rowB G r3 = true := by decide +kernel
theorem kk4 : rowB G r4 = true := by decide +kernel
theorem kk272 : rowB G r272 = true := by decide +kernel
theorem kk294 : rowB G r294 = true := by decide +kernel
theorem kk185 : rowB G r185 = true := by decide +kernel
theorem kk595 : rowB G r595 = true := by decide +kernel
theorem kk606 : rowB G r606 = true := by decide +kernel
theorem kk607 : rowB G r607 = true := by decide +kernel
theorem kk608 : rowB G r608 = true := by decide +kernel
theorem kk599 : rowB G r599 = true := by decide +kernel
theorem kk441 : rowB G r441 = true := by decide +kernel
theorem kk617 : rowB G r617 = true := by decide +kernel
theorem kk442 : rowB G r442 = true := by decide +kernel
theorem kk624 : rowB G r624 = true := by decide +kernel
theorem kk5 : rowB G r5 = true := by decide +kernel
theorem kk6 : rowB G r6 = true := by decide +kernel
theorem kk7 : rowB G r7 = true := by decide +kernel
theorem kk9 : rowB G r9 = true := by decide +kernel
theorem kk646 : rowB G r646 = true := by decide +kernel
theorem kk647 : rowB G r647 = true := by decide +kernel
theorem kp0 : rowB G.prog r0 = true := by decide +kernel
theorem kp1 : rowB G.prog r1 = true := by decide +kernel
theorem kp2 : rowB G.prog r2 = true := by decide +kernel
theorem kp3 : rowB G.prog r3 = true := by decide +kernel
theorem kp4 : rowB G.prog r4 = true := by decide +kernel
theorem kp272 : rowB G.prog r272 = true := by decide +kernel
theorem kp294 : rowB G.prog r294 = true := by decide +kernel
theorem kp185 : rowB G.prog r185 = true := by decide +kernel
theorem kp595 : rowB G.prog r595 = true := by decide +kernel
theorem kp606 : rowB G.prog r606 = true := by decide +kernel
theorem kp607 : rowB G.prog r607 = true := by decide +kernel
theorem kp608 : rowB G.prog r608 = true := by decide +kernel
theorem kp599 : rowB G.prog r599 = true := by decide +kernel
theorem kp441 : rowB G.prog r441 = true := by decide +kernel
theorem kp617 : rowB G.prog r617 = true := by decide +kernel
theorem kp442 : rowB G.prog r442 = true := by decide +kernel
theorem kp624 : rowB G.prog r624 = true := by decide +kernel
theorem okr : ∀ r ∈ rows, rowB G r = true := by
  intro r h
  simp only [rows, List.mem_cons, List.not_mem_nil, or_false] at h
  rcases h with rfl | rfl | rfl | rfl | rfl | rfl | rfl | rfl | rfl | rfl | rfl | rfl | rfl | rfl | rfl | rfl | rfl | rfl | rfl | rfl | rfl | rfl | rfl
  · exact kk0
  · exact kk1
  · exact kk2
  · exact kk3
  · exact kk4
  · exact kk272
  · exact kk294
  · exact kk185
  · exact kk595
  · exact kk606
  · exact kk607
  · exact kk608
  · exact kk599
  · exact kk441
  · exact kk617
  · exact kk442
  · exact kk624
  · exact kk5
  · exact kk6
  · exact kk7
  · exact kk9
  · exact kk646
  · exact kk647
theorem okp : ∀ r ∈ rows, (G.pf.any fun n => Nat.beq n r.id) = true → rowB G.prog r = true := by
  intro r h
  simp only [rows, List.mem_cons, List.not_mem_nil, or_false] at h
  rcases h with rfl | rfl | rfl | rfl | rfl | rfl | rfl | rfl | rfl | rfl | rfl | rfl | rfl | rfl | rfl | rfl | rfl | rfl | rfl | rfl | rfl | rfl | rfl
  · exact fun _ => kp0
  · exact fun _ => kp1
  · exact fun _ => kp2
  · exact fun _ => kp3
  · exact fun _ => kp4
  · exact fun _ => kp272
  · exact fun _ => kp294
  · exact fun _ => kp185
  · exact fun _ => kp595
  · exact fun _ => kp606
  · exact fun _ => kp607
  · exact fun _ => kp608
  · exact fun _ => kp599
  · exact fun _ => kp441
  · exact fun _ => kp617
  · exact fun _ => kp442
  · exact fun _ => kp624
  · exact fun h => absurd h (by decide +kernel)
  · exact fun h => absurd h (by decide +kernel)
  · exact fun h => absurd h (by decide +kernel)
  · exact fun h => absurd h (by decide +kernel)
  · exact fun h => absurd h (by decide +kernel)
  · exact fun h => absurd h (by decide +kernel)
theorem kl633 : lamRB G lr633 = true := by decide +kernel
theorem kl635 : lamRB G lr635 = true := by decide +kernel
theorem kl637 : lamRB G lr637 = true := by decide +kernel
theorem kl639 : lamRB G lr639 = true := by decide +kernel
theorem kl641 : lamRB G lr641 = true := by decide +kernel
theorem kl643 : lamRB G lr643 = true := by decide +kernel
theorem kl645 : lamRB G lr645 = true := by decide +kernel
theorem lamok : ∀ l ∈ lams, lamRB G l = true := allF_mem ⟨kl633, kl635, kl637, kl639, kl641, kl643, kl645, trivial⟩
theorem lfn : ∀ f x, (G.lf.any fun n => Nat.beq n f) = true → G.fn f = some x → x ∈ tn := by
  intro f x h
  obtain ⟨n, hn, e⟩ := List.any_eq_true.mp h
  have e := Nat.eq_of_beq_eq_true e
  subst e
  simp only [show G.lf = [646] from rfl, List.mem_cons, List.not_mem_nil, or_false] at hn
  rcases hn with rfl
  · exact fun h => by have h : some ("_law_refused" : PySem.Str) = some x := h; cases h; decide
theorem allkw : AllKw rows kws := trivial
end KK
open PySem PySem.W PyProof.Rows
set_option maxHeartbeats 0 in
theorem PySem.Challenge.cw_latchbanks_k78_texts_by_hand_holds : PySem.Challenge.rw_latchbanks_k78_texts_by_hand.Holds := by
  w_on; o_law; k_head; (case hw => w_witness2)
  k_fill
  refine LB.walk_meX (l := PySem.Challenge.rw_latchbanks_k78_texts_by_hand) (f := 647) (G := KK.G) (Fs := KK.lib) (rows := KK.rows) (lams := KK.lams) (xs := KK.xs) (tn := KK.tn) rfl (by decide) rfl ⟨rfl, by decide, by decide⟩ (fun w h Y => PySem.W.km_in_of Y) (fun w => rfl) rfl ?modx ?recx (fun _ h => by cases h; rfl) ?lawx
  case lawx => exact KK.law_ok
  case recx => exact ⟨by decide, trivial⟩
  case modx =>
    intro w
    refine' LB.modX_of rfl ⟨rfl, rfl⟩ KK.okr KK.okp ?zla KK.bnd ?zlc ?zld ?zle ?zve KK.allkw ?zex LB.exnOf_ok ?zrz ?zin rfl KK.lamok ?zlr ?ztb ?ztd KK.lfn
    case zla =>
      exact ⟨rfl, rfl, rfl, rfl, rfl, rfl, rfl, rfl, rfl, rfl, rfl, rfl, rfl, rfl, rfl, rfl, rfl, rfl, rfl, rfl, rfl, rfl, rfl, trivial⟩
    case zlc =>
      refine ⟨?_, ?_, ?_, ?_, ?_, ?_, ?_, ?_, ?_, ?_, ?_, ?_, ?_, ?_, ?_, ?_, ?_, ?_, ?_, ?_, ?_, ?_, ?_, trivial⟩ <;> (refine' LB.fnF ?zfa ?zfl ?zfc ?zfk; (case zfa => k_is); (case zfl => k_is); (case zfc => k_is); (case zfk => k_is))
    case zld =>
      refine ⟨?_, ?_, ?_, ?_, ?_, ?_, ?_, trivial⟩ <;> (first | (refine' LB.conI ?zqi; (case zqi => k_is)) | (refine' LB.conS ?zqs; (case zqs => k_is)))
    case zle =>
      refine ⟨?_, ?_, ?_, ?_, ?_, ?_, ?_, ?_, ?_, ?_, ?_, ?_, ?_, ?_, ?_, ?_, ?_, ?_, ?_, ?_, trivial⟩ <;> (show PySem.W.nsIn _ _ _ = _; k_is)
    case zve =>
      k_is
    case zex =>
      refine ⟨?ea, ?en, ?eh, ?et⟩
      (case eh => k_is)
      (case et => k_is)
      case ea =>
        refine ⟨?_, ?_, ?_, ?_, ?_, ?_, ?_, ?_, ?_, ?_, ?_, ?_, ?_, ?_, ?_, ?_, ?_, ?_, trivial⟩
        · (refine' LB.clsF0_of ?z1 ?z2 ?z3 ?z4 ?z5 ?z6 ?z7 ?z8 ?z9 ?za ?zb; (case z1 => k_is); (case z2 => k_is); (case z3 => rfl); (case z4 => rfl); (case z5 => k_is); (case z6 => k_is); (case z7 => k_is); (case z8 => k_is); (case z9 => k_is); (case za => k_is); (case zb => k_is))
        · (refine' LB.clsF1_of ?z0 ?z1 ?z2 ?z3 ?z4 ?z5 ?z6 ?z7 ?z8 ?z9 ?za ?zb; (case z0 => k_is); (case z1 => k_is); (case z2 => k_is); (case z3 => rfl); (case z4 => rfl); (case z5 => k_is); (case z6 => k_is); (case z7 => k_is); (case z8 => k_is); (case z9 => k_is); (case za => k_is); (case zb => k_is))
        · (refine' LB.clsF1_of ?z0 ?z1 ?z2 ?z3 ?z4 ?z5 ?z6 ?z7 ?z8 ?z9 ?za ?zb; (case z0 => k_is); (case z1 => k_is); (case z2 => k_is); (case z3 => rfl); (case z4 => rfl); (case z5 => k_is); (case z6 => k_is); (case z7 => k_is); (case z8 => k_is); (case z9 => k_is); (case za => k_is); (case zb => k_is))
        · (refine' LB.clsF1_of ?z0 ?z1 ?z2 ?z3 ?z4 ?z5 ?z6 ?z7 ?z8 ?z9 ?za ?zb; (case z0 => k_is); (case z1 => k_is); (case z2 => k_is); (case z3 => rfl); (case z4 => rfl); (case z5 => k_is); (case z6 => k_is); (case z7 => k_is); (case z8 => k_is); (case z9 => k_is); (case za => k_is); (case zb => k_is))
        · (refine' LB.clsF1_of ?z0 ?z1 ?z2 ?z3 ?z4 ?z5 ?z6 ?z7 ?z8 ?z9 ?za ?zb; (case z0 => k_is); (case z1 => k_is); (case z2 => k_is); (case z3 => rfl); (case z4 => rfl); (case z5 => k_is); (case z6 => k_is); (case z7 => k_is); (case z8 => k_is); (case z9 => k_is); (case za => k_is); (case zb => k_is))
        · (refine' LB.clsF1_of ?z0 ?z1 ?z2 ?z3 ?z4 ?z5 ?z6 ?z7 ?z8 ?z9 ?za ?zb; (case z0 => k_is); (case z1 => k_is); (case z2 => k_is); (case z3 => rfl); (case z4 => rfl); (case z5 => k_is); (case z6 => k_is); (case z7 => k_is); (case z8 => k_is); (case z9 => k_is); (case za => k_is); (case zb => k_is))
        · (refine' LB.clsF1_of ?z0 ?z1 ?z2 ?z3 ?z4 ?z5 ?z6 ?z7 ?z8 ?z9 ?za ?zb; (case z0 => k_is); (case z1 => k_is); (case z2 => k_is); (case z3 => rfl); (case z4 => rfl); (case z5 => k_is); (case z6 => k_is); (case z7 => k_is); (case z8 => k_is); (case z9 => k_is); (case za => k_is); (case zb => k_is))
        · (refine' LB.clsF1_of ?z0 ?z1 ?z2 ?z3 ?z4 ?z5 ?z6 ?z7 ?z8 ?z9 ?za ?zb; (case z0 => k_is); (case z1 => k_is); (case z2 => k_is); (case z3 => rfl); (case z4 => rfl); (case z5 => k_is); (case z6 => k_is); (case z7 => k_is); (case z8 => k_is); (case z9 => k_is); (case za => k_is); (case zb => k_is))
        · (refine' LB.clsF1_of ?z0 ?z1 ?z2 ?z3 ?z4 ?z5 ?z6 ?z7 ?z8 ?z9 ?za ?zb; (case z0 => k_is); (case z1 => k_is); (case z2 => k_is); (case z3 => rfl); (case z4 => rfl); (case z5 => k_is); (case z6 => k_is); (case z7 => k_is); (case z8 => k_is); (case z9 => k_is); (case za => k_is); (case zb => k_is))
        · (refine' LB.clsF1_of ?z0 ?z1 ?z2 ?z3 ?z4 ?z5 ?z6 ?z7 ?z8 ?z9 ?za ?zb; (case z0 => k_is); (case z1 => k_is); (case z2 => k_is); (case z3 => rfl); (case z4 => rfl); (case z5 => k_is); (case z6 => k_is); (case z7 => k_is); (case z8 => k_is); (case z9 => k_is); (case za => k_is); (case zb => k_is))
        · (refine' LB.clsF1_of ?z0 ?z1 ?z2 ?z3 ?z4 ?z5 ?z6 ?z7 ?z8 ?z9 ?za ?zb; (case z0 => k_is); (case z1 => k_is); (case z2 => k_is); (case z3 => rfl); (case z4 => rfl); (case z5 => k_is); (case z6 => k_is); (case z7 => k_is); (case z8 => k_is); (case z9 => k_is); (case za => k_is); (case zb => k_is))
        · (refine' LB.clsF1_of ?z0 ?z1 ?z2 ?z3 ?z4 ?z5 ?z6 ?z7 ?z8 ?z9 ?za ?zb; (case z0 => k_is); (case z1 => k_is); (case z2 => k_is); (case z3 => rfl); (case z4 => rfl); (case z5 => k_is); (case z6 => k_is); (case z7 => k_is); (case z8 => k_is); (case z9 => k_is); (case za => k_is); (case zb => k_is))
        · (refine' LB.clsF1_of ?z0 ?z1 ?z2 ?z3 ?z4 ?z5 ?z6 ?z7 ?z8 ?z9 ?za ?zb; (case z0 => k_is); (case z1 => k_is); (case z2 => k_is); (case z3 => rfl); (case z4 => rfl); (case z5 => k_is); (case z6 => k_is); (case z7 => k_is); (case z8 => k_is); (case z9 => k_is); (case za => k_is); (case zb => k_is))
        · (refine' LB.clsF1_of ?z0 ?z1 ?z2 ?z3 ?z4 ?z5 ?z6 ?z7 ?z8 ?z9 ?za ?zb; (case z0 => k_is); (case z1 => k_is); (case z2 => k_is); (case z3 => rfl); (case z4 => rfl); (case z5 => k_is); (case z6 => k_is); (case z7 => k_is); (case z8 => k_is); (case z9 => k_is); (case za => k_is); (case zb => k_is))
        · (refine' LB.clsF1_of ?z0 ?z1 ?z2 ?z3 ?z4 ?z5 ?z6 ?z7 ?z8 ?z9 ?za ?zb; (case z0 => k_is); (case z1 => k_is); (case z2 => k_is); (case z3 => rfl); (case z4 => rfl); (case z5 => k_is); (case z6 => k_is); (case z7 => k_is); (case z8 => k_is); (case z9 => k_is); (case za => k_is); (case zb => k_is))
        · (refine' LB.clsF1_of ?z0 ?z1 ?z2 ?z3 ?z4 ?z5 ?z6 ?z7 ?z8 ?z9 ?za ?zb; (case z0 => k_is); (case z1 => k_is); (case z2 => k_is); (case z3 => rfl); (case z4 => rfl); (case z5 => k_is); (case z6 => k_is); (case z7 => k_is); (case z8 => k_is); (case z9 => k_is); (case za => k_is); (case zb => k_is))
        · (refine' LB.clsF1_of ?z0 ?z1 ?z2 ?z3 ?z4 ?z5 ?z6 ?z7 ?z8 ?z9 ?za ?zb; (case z0 => k_is); (case z1 => k_is); (case z2 => k_is); (case z3 => rfl); (case z4 => rfl); (case z5 => k_is); (case z6 => k_is); (case z7 => k_is); (case z8 => k_is); (case z9 => k_is); (case za => k_is); (case zb => k_is))
        · (refine' LB.clsF1_of ?z0 ?z1 ?z2 ?z3 ?z4 ?z5 ?z6 ?z7 ?z8 ?z9 ?za ?zb; (case z0 => k_is); (case z1 => k_is); (case z2 => k_is); (case z3 => rfl); (case z4 => rfl); (case z5 => k_is); (case z6 => k_is); (case z7 => k_is); (case z8 => k_is); (case z9 => k_is); (case za => k_is); (case zb => k_is))
      case en =>
        refine' LB.nss_nd (LB.nss_cons ?a0 (LB.nss_cons ?a1 (LB.nss_cons ?a2 (LB.nss_cons ?a3 (LB.nss_cons ?a4 (LB.nss_cons ?a5 (LB.nss_cons ?a6 (LB.nss_cons ?a7 (LB.nss_cons ?a8 (LB.nss_cons ?a9 (LB.nss_cons ?a10 (LB.nss_cons ?a11 (LB.nss_cons ?a12 (LB.nss_cons ?a13 (LB.nss_cons ?a14 (LB.nss_cons ?a15 (LB.nss_cons ?a16 (LB.nss_cons ?a17 (LB.nss_nil))))))))))))))))))) ?nd
        (case a0 => k_is)
        (case a1 => k_is)
        (case a2 => k_is)
        (case a3 => k_is)
        (case a4 => k_is)
        (case a5 => k_is)
        (case a6 => k_is)
        (case a7 => k_is)
        (case a8 => k_is)
        (case a9 => k_is)
        (case a10 => k_is)
        (case a11 => k_is)
        (case a12 => k_is)
        (case a13 => k_is)
        (case a14 => k_is)
        (case a15 => k_is)
        (case a16 => k_is)
        (case a17 => k_is)
        (case nd => decide)
    case zrz =>
      intro c hc
      simp only [show KK.G.raz = [1, 3, 4, 16] from rfl, List.mem_cons, List.not_mem_nil, or_false] at hc
      rcases hc with rfl | rfl | rfl | rfl <;> (refine' LB.rz_of ?zra ?zrb; (case zra => k_is); (case zrb => k_exc))
    case zin =>
      intro c hc; cases hc
    case zlr =>
      refine' LB.lamR2 (sr := KK.rSaid) (kr := KK.rKind) ?hs ?hk KK.bSaid KK.bKind ⟨⟨rfl, rfl, rfl, rfl, rfl⟩, ⟨rfl, rfl, rfl, rfl, rfl⟩, ⟨rfl, rfl, rfl, rfl, rfl⟩, ⟨rfl, rfl, rfl, rfl, rfl⟩, ⟨rfl, rfl, rfl, rfl, rfl⟩, ⟨rfl, rfl, rfl, rfl, rfl⟩, ⟨rfl, rfl, rfl, rfl, rfl⟩, trivial⟩
      (case hs => (refine' LB.fnF ?zfa ?zfl ?zfc ?zfk; (case zfa => k_is); (case zfl => k_is); (case zfc => k_is); (case zfk => k_is)))
      (case hk => (refine' LB.fnF ?zfa ?zfl ?zfc ?zfk; (case zfa => k_is); (case zfl => k_is); (case zfc => k_is); (case zfk => k_is)))
    case ztb =>
      refine' (LB.tbs_cons (LB.tab_of' ?y1_0 ?y2_0 ?y3_0 ?y4_0 ?y5_0) ?y6_0 (LB.tbs_nil))
      (case y1_0 => k_is)
      (case y2_0 => k_is)
      (case y3_0 => rfl)
      (case y4_0 => k_is)
      (case y5_0 => rfl)
      (case y6_0 => first | k_is | kernel_rfl | rfl)
    case ztd =>
      decide
