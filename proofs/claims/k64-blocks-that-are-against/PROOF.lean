import PyProof.Rows.All
import HandS.ForMost
import HandS.Walk
import HandS.CallSlots
import HandS.WordsExc
import HandS.HeadHook1
import HandS.ExcIs
import HandS.ExcField
import HandS.Star
import HandS.ExcOwn
import HandS.Zip
import HandS.Rev
import HandS.TryOnly
import HandS.Comp
import KE.GoesEnum
import KE.GoesMore
import HandS.Deep
import HandS.Wide
import HandS.TupAny
import HandS.TupMul
import HandS.IsInst
import HandS.Flow
import HandS.Text
import HandS.TryMany
import HandS.ExcValue
import KE.KExcIs
import KE.KIsAll
import KE.KExcSuper
import KE.KExcInit
import KE.KSuper
import HandS.HeadWalk
import HandS.RaiseMore
import HandS.List
import HandS.Words
import KE.SortData
import HandS.Set
import HandS.SetFor
import HandS.SetKeys
import HandS.Style
import KE.LtData
import HandS.More
import HandS.DictComp
import HandS.ForExc
import KE.KStateDown
import HandS.Head2
import HandS.HeadEnd
import PySem.Challenge.RW_roomswithin_k64_blocks_that_are_against
set_option Elab.async false
section
set_option linter.all false
set_option maxRecDepth 100000
namespace Ev
/-- plain values -/
inductive T where
  | non | bl (b : Bool) | int (i : Int) | str (s : List Nat) | tup (ts : List T) | lst (ts : List T) | dct (ks vs : List T) | fz (ns : List Int) | err (c : Nat) (fs : List T)
  deriving Inhabited
/-- a value with what is known of who holds it: sh: anybody; own: a list that nobody else holds (own2: a list of such lists; ownD: a dict); box: a list that the caller lends -/
inductive R where
  | sh (t : T) | own (ts : List T) | own2 (tss : List (List T)) | ownD (ks vs : List T) | box (ts : List T)
  deriving Inhabited
def R.t : R → T
  | .sh t => t
  | .own ts => .lst ts
  | .own2 tss => .lst (tss.map .lst)
  | .ownD ks vs => .dct ks vs
  | .box ts => .lst ts
abbrev Env := List (Option R)
inductive Out (α : Type) where
  | ok (a : α) (ρ : Env) | exc (c : Nat) (fs : List T) (ρ : Env) | bad
  deriving Inhabited
def Out.bind {α β : Type} (x : Out α) (f : α → Env → Out β) : Out β :=
  match x with
  | .ok a ρ => f a ρ
  | .exc c fs ρ => .exc c fs ρ
  | .bad => .bad
def ncmp (a b : Nat) : Ordering := if Nat.blt a b then .lt else if Nat.beq a b then .eq else .gt
def icmp (a b : Int) : Ordering := if a < b then .lt else if a = b then .eq else .gt
def scmp : List Nat → List Nat → Ordering
  | [], [] => .eq
  | [], _ :: _ => .lt
  | _ :: _, [] => .gt
  | x :: xs, y :: ys => match ncmp x y with
    | .eq => scmp xs ys
    | o => o
def b2z (b : Bool) : Int := if b then 1 else 0
def T.rank : T → Nat
  | .non => 0 | .bl _ => 1 | .int _ => 1 | .str _ => 2 | .tup _ => 3 | .lst _ => 4 | .dct _ _ => 5 | .fz _ => 6 | .err _ _ => 7
mutual
def tcmp : T → T → Ordering
  | .non, .non => .eq
  | .bl a, .bl b => icmp (b2z a) (b2z b)
  | .bl a, .int j => icmp (b2z a) j
  | .int i, .bl b => icmp i (b2z b)
  | .int i, .int j => icmp i j
  | .str x, .str y => scmp x y
  | .tup xs, .tup ys => tcmps xs ys
  | .lst xs, .lst ys => tcmps xs ys
  | .dct _ _, .dct _ _ => .eq
  | .fz _, .fz _ => .eq
  | .err _ _, .err _ _ => .eq
  | a, b => ncmp a.rank b.rank
def tcmps : List T → List T → Ordering
  | [], [] => .eq
  | [], _ :: _ => .lt
  | _ :: _, [] => .gt
  | x :: xs, y :: ys => match tcmp x y with
    | .eq => tcmps xs ys
    | o => o
end
def oEq : Ordering → Bool
  | .eq => true
  | _ => false
def oLt : Ordering → Bool
  | .lt => true
  | _ => false
def teq (a b : T) : Bool := oEq (tcmp a b)
def tlt (a b : T) : Bool := oLt (tcmp a b)
-- no dict in it, at most n deep
mutual
def fit : Nat → T → Bool
  | _, .non => true
  | _, .bl _ => true
  | _, .int _ => true
  | _, .str _ => true
  | 0, .tup _ => false
  | 0, .lst _ => false
  | n + 1, .tup ts => fits n ts
  | n + 1, .lst ts => fits n ts
  | _, .dct _ _ => false
  | _, .fz _ => false
  | _, .err _ _ => false
def fits : Nat → List T → Bool
  | _, [] => true
  | n, t :: ts => fit n t && fits n ts
end
-- a < b is defined: they are alike, place by place
mutual
def alikeT : T → T → Bool
  | .non, .non => true
  | .bl _, .bl _ => true
  | .int _, .int _ => true
  | .str _, .str _ => true
  | .tup xs, .tup ys => alikeTs xs ys
  | .lst xs, .lst ys => alikeTs xs ys
  | _, _ => false
def alikeTs : List T → List T → Bool
  | x :: xs, y :: ys => alikeT x y && alikeTs xs ys
  | [], _ => true
  | _ :: _, [] => true
end
def tupNE : T → Bool
  | .tup (_ :: _) => true
  | _ => false
def notTup : T → Bool
  | .tup _ => false
  | .non => false
  | _ => true
def tins (x : T) : List T → List T
  | [] => [x]
  | y :: ys => if tlt y x then y :: tins x ys else x :: y :: ys
def tsort : List T → List T
  | [] => []
  | x :: xs => tins x (tsort xs)
/-- any two of them can be compared -/
def sortOk (ts : List T) : Bool := fits 60 ts && (ts.all fun x => ts.all fun y => alikeT x y) && (ts.all tupNE || ts.all notTup)
def tmem (x : T) (ts : List T) : Bool := ts.any fun y => teq y x
def dedup : List T → List T
  | [] => []
  | x :: xs => if tmem x xs then dedup xs else x :: dedup xs
inductive Ty where
  | int | bool | str | list | tuple | dict | lookE | valE
  deriving DecidableEq, Inhabited
inductive Op where
  | add | sub | mul | fdiv | mod | pow | neg | not_
  | lt | le | gt | ge | eq | ne | in_ | nin | isN | notN
  | idx | sl (lo hi : Bool) | slr | sl2 (lo : Option Nat) | tup | lst
  | len | abs | min2 | max2 | minL | maxL | sum | sumL | sorted | toTup | toLst | sset | lset | all | any | isi (tys : List Ty) | toInt | toStr | toBool
  | attr (k : Bool) | count | index | join | split | dget | dget1 | dvals | ditems | revs
  deriving Inhabited
def line : Nat := 16777216
def ixN (n : Nat) (i : Int) : Option Nat := if 0 ≤ i then (if i < n then some i.toNat else none) else if -(n : Int) ≤ i then some (i + n).toNat else none
def atI {α : Type} (xs : List α) (i : Int) : Option α := (ixN xs.length i).bind fun j => xs[j]?
def sIx (n d : Nat) : Option Int → Nat
  | none => d
  | some v => if v < 0 then (v + (n : Int)).toNat else min v.toNat n
def cut {α : Type} (xs : List α) (lo hi : Option Int) : List α := (xs.drop (sIx xs.length 0 lo)).take (sIx xs.length xs.length hi - sIx xs.length 0 lo)
def two {α : Type} : List α → List α
  | [] => []
  | [x] => [x]
  | x :: _ :: r => x :: two r
def truth : T → Option Bool
  | .non => some false
  | .bl b => some b
  | .int i => some (i != 0)
  | .str s => if s.length ≤ line then some (s.length != 0) else none
  | .tup ts => some (!ts.isEmpty)
  | .lst ts => some (!ts.isEmpty)
  | .dct ks _ => some (!ks.isEmpty)
  | .fz _ => none
  | .err _ _ => none
def isTy : T → Ty → Bool
  | .bl _, .int => true
  | .bl _, .bool => true
  | .int _, .int => true
  | .str _, .str => true
  | .tup _, .tuple => true
  | .lst _, .list => true
  | .dct _ _, .dict => true
  | _, _ => false
def seqOf : T → Option (List T)
  | .tup ts => some ts
  | .lst ts => some ts
  | .str s => some (s.map fun c => .str [c])
  | _ => none
def seqL : T → Option (List T)
  | .tup ts => some ts
  | .lst ts => some ts
  | _ => none
def lsts : List T → Option (List T)
  | [] => some []
  | .lst ts :: r => (lsts r).map (ts ++ ·)
  | _ => none
def intsT : List T → Option (List Int)
  | [] => some []
  | .int i :: r => (intsT r).map (i :: ·)
  | _ => none
def minI : Int → List Int → Int
  | a, [] => a
  | a, i :: r => minI (if i < a then i else a) r
def maxI : Int → List Int → Int
  | a, [] => a
  | a, i :: r => maxI (if a < i then i else a) r
def boolsT : List T → Option (List Bool)
  | [] => some []
  | .bl b :: r => (boolsT r).map (b :: ·)
  | _ => none
def isNon : T → Bool
  | .non => true
  | _ => false
def isStr : T → Bool
  | .str _ => true
  | _ => false
def isInt : T → Bool
  | .int _ => true
  | _ => false
def flat : T → Bool
  | .non => true
  | .bl _ => true
  | .int _ => true
  | .str _ => true
  | _ => false
def isKey : T → Bool
  | .int _ => true
  | .str _ => true
  | _ => false
def firstAt (x : T) : List T → Option Nat
  | [] => none
  | y :: r => if teq y x then some 0 else (firstAt x r).map (· + 1)
def look (k : T) : List T → List T → Option T
  | k' :: ks, v :: vs => if teq k' k then some v else look k ks vs
  | _, _ => none
def opt (b : Bool) (ts : List T) : Option (Option Int × List T) :=
  if b then match ts with
    | .int i :: r => some (some i, r)
    | _ => none
  else some (none, ts)
def shI (i : Int) : Option R := some (.sh (.int i))
def shB (b : Bool) : Option R := some (.sh (.bl b))
def shT (ts : List T) : Option R := some (.sh (.tup ts))
def small (ts : List T) : Bool := Nat.ble ts.length line
/-- a set can be made of them -/
def setOk (ts : List T) : Bool := Nat.ble ts.length 4000 && (ts.all isStr || ts.all isInt)
def o_add : List T → Option R
  | [.int i, .int j] => shI (i + j)
  | [.str x, .str y] => if x.length + y.length ≤ line then some (.sh (.str (x ++ y))) else none
  | [.tup x, .tup y] => if x.length + y.length ≤ line then shT (x ++ y) else none
  | [.lst x, .lst y] => if x.length + y.length ≤ line then some (.own (x ++ y)) else none
  | _ => none
def o_sub : List T → Option R
  | [.int i, .int j] => shI (i - j)
  | _ => none
def o_mul : List T → Option R
  | [.int i, .int j] => if i.natAbs < 2 ^ 64 ∨ j.natAbs < 2 ^ 64 ∨ i.natAbs.log2 + j.natAbs.log2 < 1000000 then shI (i * j) else none
  | [.lst x, .int j] => if j < 1000000 ∧ -1000000 < j ∧ x.length * j.toNat ≤ line then some (.own (List.replicate j.toNat x).flatten) else none
  | [.tup x, .int j] => if j ≤ 1000 ∧ 2 ≤ j ∧ x.length ≤ 1000 ∧ 0 < x.length then shT (List.replicate j.toNat x).flatten else none
  | _ => none
def o_fdiv : List T → Option R
  | [.int i, .int j] => if 0 < j ∧ j.natAbs.log2 < 9000 then shI (i / j) else none
  | _ => none
def o_mod : List T → Option R
  | [.int i, .int j] => if 0 < j then shI (i % j) else none
  | _ => none
def o_pow : List T → Option R
  | [.int i, .int j] => if 0 ≤ j ∧ j ≤ 1000000 ∧ i.natAbs < 2 ^ 64 then shI (i ^ j.toNat) else none
  | _ => none
def o_neg : List T → Option R
  | [.int i] => shI (-i)
  | _ => none
def o_not_ : List T → Option R
  | [t] => (truth t).bind fun b => shB (!b)
  | _ => none
def o_lt : List T → Option R
  | [.int i, .int j] => shB (decide (i < j))
  | [.str i, .str j] => shB (tlt (.str i) (.str j))
  | [.tup x, .tup y] => if fit 60 (.tup x) && fit 60 (.tup y) && alikeT (.tup x) (.tup y) then shB (tlt (.tup x) (.tup y)) else none
  | _ => none
def o_gt : List T → Option R
  | [.int i, .int j] => shB (decide (j < i))
  | [.str i, .str j] => shB (tlt (.str j) (.str i))
  | _ => none
def o_le : List T → Option R
  | [.int i, .int j] => shB (decide (i ≤ j))
  | [.str i, .str j] => shB (!tlt (.str j) (.str i))
  | _ => none
def o_ge : List T → Option R
  | [.int i, .int j] => shB (decide (j ≤ i))
  | _ => none
def o_eq : List T → Option R
  | [a, b] => if fit 60 a && fit 60 b then shB (teq a b) else none
  | _ => none
def o_ne : List T → Option R
  | [a, b] => if fit 60 a && fit 60 b then shB (!teq a b) else none
  | _ => none
def o_in_ : List T → Option R
  | [.str [c], .str y] => shB (y.any (Nat.beq c))
  | [a, .tup ts] => if fit 60 a && fits 60 ts then shB (tmem a ts) else none
  | [a, .lst ts] => if fit 60 a && fits 60 ts then shB (tmem a ts) else none
  | [a, .dct ks _] => if isKey a then shB (tmem a ks) else none
  | _ => none
def o_nin : List T → Option R
  | [.str [c], .str y] => shB (!y.any (Nat.beq c))
  | [a, .tup ts] => if fit 60 a && fits 60 ts then shB (!tmem a ts) else none
  | [a, .lst ts] => if fit 60 a && fits 60 ts then shB (!tmem a ts) else none
  | [a, .dct ks _] => if isKey a then shB (!tmem a ks) else none
  | _ => none
def o_isN : List T → Option R
  | [t] => shB (isNon t)
  | _ => none
def o_notN : List T → Option R
  | [t] => shB (!isNon t)
  | _ => none
def o_idx : List T → Option R
  | [.tup ts, .int i] => (atI ts i).map .sh
  | [.lst ts, .int i] => (atI ts i).map .sh
  | [.str s, .int i] => if s.length ≤ line then (atI s i).map fun c => .sh (.str [c]) else none
  | [.fz ns, .int i] => (atI ns i).map fun n => .sh (.int n)
  | [.dct ks vs, k] => if isKey k then (look k ks vs).map .sh else none
  | _ => none
def o_sl (a b : Bool) : List T → Option R
  | t :: r => (opt a r).bind fun (lo, r1) => (opt b r1).bind fun (hi, r2) => match r2, t with
    | [], .tup ts => shT (cut ts lo hi)
    | [], .lst ts => some (.own (cut ts lo hi))
    | [], .fz ns => some (.own ((cut ns lo hi).map .int))
    | [], .str s => if s.length ≤ line then some (.sh (.str (cut s lo hi))) else none
    | _, _ => none
  | _ => none
def o_slr : List T → Option R
  | [.tup ts] => shT ts.reverse
  | [.lst ts] => some (.own ts.reverse)
  | _ => none
def o_sl2 (a : Option Nat) : List T → Option R
  | [.tup ts] => shT (two (ts.drop (sIx ts.length 0 (a.map fun n => (n : Int)))))
  | [.lst ts] => some (.own (two (ts.drop (sIx ts.length 0 (a.map fun n => (n : Int))))))
  | _ => none
def o_tup : List T → Option R
  | ts => if small ts then shT ts else none
def o_lst : List T → Option R
  | ts => if small ts then some (.own ts) else none
def o_len : List T → Option R
  | [.tup ts] => shI ts.length
  | [.lst ts] => shI ts.length
  | [.str s] => if s.length ≤ line then shI s.length else none
  | [.fz ns] => shI ns.length
  | [.dct ks _] => shI ks.length
  | _ => none
def o_abs : List T → Option R
  | [.int i] => shI (if i < 0 then -i else i)
  | _ => none
def o_min2 : List T → Option R
  | [.int i, .int j] => shI (if j < i then j else i)
  | _ => none
def o_max2 : List T → Option R
  | [.int i, .int j] => shI (if j > i then j else i)
  | _ => none
def o_minL : List T → Option R
  | [.lst (.int i :: r)] => (intsT r).bind fun ns => shI (minI i ns)
  | _ => none
def o_maxL : List T → Option R
  | [.lst (.int i :: r)] => (intsT r).bind fun ns => shI (maxI i ns)
  | _ => none
def o_sum : List T → Option R
  | [.lst ts] => (intsT ts).bind fun ns => shI ns.sum
  | _ => none
def o_sumL : List T → Option R
  | [.lst (t :: ts), .lst a] => (lsts (t :: ts)).bind fun r => if (a ++ r).length ≤ line then some (.own (a ++ r)) else none
  | _ => none
def o_sorted : List T → Option R
  | [.lst ts] => if sortOk ts then some (.own (tsort ts)) else none
  | [.tup ts] => if sortOk ts then some (.own (tsort ts)) else none
  | [.dct ks _] => if ks.all isStr && Nat.blt ks.length 64 then some (.own (tsort ks)) else none
  | _ => none
def o_toTup : List T → Option R
  | [.str s] => if s.length ≤ line then shT (s.map fun c => .str [c]) else none
  | [t] => (seqL t).bind shT
  | _ => none
def o_toLst : List T → Option R
  | [t] => (seqL t).map .own
  | _ => none
def o_sset : List T → Option R
  | [t] => (seqL t).bind fun ts => if setOk ts then some (.own (tsort (dedup ts))) else none
  | _ => none
def o_lset : List T → Option R
  | [t] => (seqL t).bind fun ts => if setOk ts then shI (dedup ts).length else none
  | _ => none
def o_all : List T → Option R
  | [.lst ts] => (boolsT ts).bind fun bs => shB (bs.all id)
  | _ => none
def o_any : List T → Option R
  | [.lst ts] => (boolsT ts).bind fun bs => shB (bs.any id)
  | _ => none
def o_isi (tys : List Ty) : List T → Option R
  | [.fz _] => none
  | [.err c _] => (match tys with
    | [.lookE] => shB (Nat.ble c 2)
    | [.valE] => shB (Nat.ble 3 c)
    | _ => none)
  | [t] => shB (tys.any (isTy t))
  | _ => none
def o_toInt : List T → Option R
  | [.int i] => shI i
  | [.bl b] => shI (b2z b)
  | _ => none
def o_toBool : List T → Option R
  | [t] => (truth t).bind shB
  | _ => none
def o_index : List T → Option R
  | [.tup ts, x] => if fit 60 x && fits 60 ts then (firstAt x ts).bind fun n => shI n else none
  | [.lst ts, x] => if fit 60 x && fits 60 ts then (firstAt x ts).bind fun n => shI n else none
  | _ => none
def o_dget : List T → Option R
  | [.dct ks vs, k, d] => if isKey k then some (.sh ((look k ks vs).getD d)) else none
  | _ => none
def o_dget1 : List T → Option R
  | [.dct ks vs, k] => if isKey k then some (.sh ((look k ks vs).getD .non)) else none
  | _ => none
/-- the field of an error of the class c: k: number, else name -/
def xKind (c : Nat) : Option Bool := if Nat.beq c 0 then some false else if Nat.beq c 1 || Nat.beq c 7 then some true else none
def o_attr (k : Bool) : List T → Option R
  | [.err c [t]] => if xKind c = some k then some (.sh t) else none
  | _ => none
def evOp : Op → List T → Option R
  | .add, ts => o_add ts
  | .sub, ts => o_sub ts
  | .mul, ts => o_mul ts
  | .fdiv, ts => o_fdiv ts
  | .mod, ts => o_mod ts
  | .pow, ts => o_pow ts
  | .neg, ts => o_neg ts
  | .not_, ts => o_not_ ts
  | .lt, ts => o_lt ts
  | .gt, ts => o_gt ts
  | .le, ts => o_le ts
  | .ge, ts => o_ge ts
  | .eq, ts => o_eq ts
  | .ne, ts => o_ne ts
  | .in_, ts => o_in_ ts
  | .nin, ts => o_nin ts
  | .isN, ts => o_isN ts
  | .notN, ts => o_notN ts
  | .idx, ts => o_idx ts
  | .sl a b, ts => o_sl a b ts
  | .slr, ts => o_slr ts
  | .sl2 a, ts => o_sl2 a ts
  | .tup, ts => o_tup ts
  | .lst, ts => o_lst ts
  | .len, ts => o_len ts
  | .abs, ts => o_abs ts
  | .min2, ts => o_min2 ts
  | .max2, ts => o_max2 ts
  | .minL, ts => o_minL ts
  | .maxL, ts => o_maxL ts
  | .sum, ts => o_sum ts
  | .sumL, ts => o_sumL ts
  | .sorted, ts => o_sorted ts
  | .toTup, ts => o_toTup ts
  | .toLst, ts => o_toLst ts
  | .sset, ts => o_sset ts
  | .lset, ts => o_lset ts
  | .all, ts => o_all ts
  | .any, ts => o_any ts
  | .isi tys, ts => o_isi tys ts
  | .attr k, ts => o_attr k ts
  | .toInt, ts => o_toInt ts
  | .toBool, ts => o_toBool ts
  | .index, ts => o_index ts
  | .dget, ts => o_dget ts
  | .dget1, ts => o_dget1 ts
  | _, _ => none
inductive ItK where
  | seq | range | enum | zip | rev | keys | vals | items
  deriving DecidableEq, Inhabited
/-- targets -/
inductive Pat where
  | v (i : Nat) | o (i : Nat) | t (ps : List Pat)
  deriving Inhabited
inductive E where
  | var (i : Nat) | brw (i : Nat) | cst (t : T) | glb (k : Nat) (t : T)
  | op (o : Op) (es : List E) | star (e : E) | lenV (i : Nat)
  | ifx (c a b : E) | and_ (a b : E) | or_ (a b : E) | chain (o1 o2 : Op) (a b c : E)
  | call (f : Nat) (es : List E) | callk (f : Nat) (es : List E) (ks : List Nat)
  | lc (own : List Nat) (p : Pat) (k : ItK) (es cs : List E) (e : E)
  | lc2 (own : List Nat) (p : Pat) (k : ItK) (es : List E) (own1 : List Nat) (p1 : Pat) (k1 : ItK) (es1 cs : List E) (e : E)
  | dc (own : List Nat) (p : Pat) (k : ItK) (es cs : List E) (ek ev : E)
  | dc2 (own : List Nat) (p : Pat) (k : ItK) (es : List E) (own1 : List Nat) (p1 : Pat) (k1 : ItK) (es1 cs : List E) (ek ev : E)
  | bad
  deriving Inhabited
inductive S where
  | asg (own : Bool) (i : Nat) (e : E) | asgP (ps : List Pat) (e : E) | asgT (ps : List Pat) (es : List E)
  | aug (i : Nat) (o : Op) (e : E)
  | app (i : Nat) (e : E) | app2 (i : Nat) (e : E) | popApp (i j : Nat) (e : E) | appAt (i k e : Nat) | ext (i : Nat) (e : E) | setI (i : Nat) (k e : E)
  | expr (e : E) | ret (e : E) | retV (i : Nat) | retN
  | ifs (c : E) (a b : List S)
  | for_ (p : Pat) (k : ItK) (es : List E) (body : List S)
  | while_ (c : E) (body : List S)
  | raise (c : Nat) (es : List E)
  | try1 (body : List S) (c : Nat) (i : Option Nat) (b : List S)
  | try2 (body : List S) (c : Nat) (i : Option Nat) (b : List S) (c2 : Nat) (i2 : Option Nat) (b2 : List S)
  | pass | brk | cont
  | bad
  deriving Inhabited
structure Fn where
  np : Nat
  ns : Nat
  ms : List Bool
  body : List S
  deriving Inhabited
def getR (ρ : Env) (i : Nat) : Option R := match ρ[i]? with
  | some (some r) => some r
  | _ => none
def setR (ρ : Env) (i : Nat) (r : R) : Env := ρ.set i (some r)
/-- a result kept in a container or handed on -/
def R.isBox : R → Bool
  | .box _ => true
  | _ => false
/-- an operand: a value, or the list at a slot as it is when the operator looks -/
inductive Arg where
  | val (r : R) | star (ts : List T) | slot (i : Nat)
def Arg.t (ρ : Env) : Arg → Option (List T)
  | .val r => some [r.t]
  | .star ts => some ts
  | .slot i => (match getR ρ i with
    | some (.own ts) => some [.lst ts]
    | some (.box ts) => some [.lst ts]
    | some (.ownD ks vs) => some [.dct ks vs]
    | some (.sh t) => some [t]
    | _ => none)
def argTs (ρ : Env) : List Arg → Option (List T)
  | [] => some []
  | a :: r => (a.t ρ).bind fun xs => (argTs ρ r).map (xs ++ ·)
/-- the values that an iterable walks -/
def pairs : List T → List T → List T
  | x :: xs, y :: ys => .tup [x, y] :: pairs xs ys
  | _, _ => []
def upTo (lo : Int) : Nat → List T
  | 0 => []
  | n + 1 => .int lo :: upTo (lo + 1) n
def enumF (i : Int) : List T → List T
  | [] => []
  | x :: xs => .tup [.int i, x] :: enumF (i + 1) xs
def inRange (i : Int) : Bool := decide (-(2 ^ 62) ≤ i ∧ i < 2 ^ 62)
def walk : ItK → List T → Option (List T)
  | .seq, [t] => seqOf t
  | .range, [.int n] => if inRange n then some (upTo 0 n.toNat) else none
  | .range, [.int a, .int b] => if inRange a && inRange b then some (upTo a (b - a).toNat) else none
  | .enum, [.lst ts] => some (enumF 0 ts)
  | .enum, [.tup ts] => some (enumF 0 ts)
  | .zip, [.lst a, .lst b] => some (pairs a b)
  | .zip, [.tup a, .tup b] => some (pairs a b)
  | .rev, [.lst ts] => some ts.reverse
  | .rev, [.tup ts] => some ts.reverse
  | .keys, [.dct ks _] => some ks
  | .vals, [.dct _ vs] => some vs
  | .items, [.dct ks vs] => some (pairs ks vs)
  | _, _ => none
/-- a store to a target: not over a box -/
def put1 (ρ : Env) (i : Nat) (r : R) : Option Env := match ρ[i]? with
  | some (some (.box _)) => none
  | some _ => if r.isBox then none else some (ρ.set i (some r))
  | none => none
mutual
def putP : Pat → T → Env → Option Env
  | .v i, t, ρ => put1 ρ i (.sh t)
  | .o i, t, ρ => put1 ρ i (.sh t)
  | .t ps, .tup ts, ρ => putPs ps ts ρ
  | .t ps, .lst ts, ρ => putPs ps ts ρ
  | .t _, _, _ => none
def putPs : List Pat → List T → Env → Option Env
  | [], [], ρ => some ρ
  | p :: ps, t :: ts, ρ => (putP p t ρ).bind fun ρ1 => putPs ps ts ρ1
  | _, _, _ => none
end
def putT : List Pat → List R → Env → Option Env
  | [], [], ρ => some ρ
  | .v i :: ps, r :: rs, ρ => (put1 ρ i (.sh r.t)).bind fun ρ1 => putT ps rs ρ1
  | .o i :: ps, r :: rs, ρ => (put1 ρ i r).bind fun ρ1 => putT ps rs ρ1
  | .t qs :: ps, r :: rs, ρ => (putP (.t qs) r.t ρ).bind fun ρ1 => putT ps rs ρ1
  | _, _, _ => none
/-- a block's own slots are hidden, then as they were -/
def wipe (ρ : Env) : List Nat → Env
  | [] => ρ
  | i :: is => (wipe ρ is).set i none
def calmAt (ρ : Env) (i : Nat) : Bool := match getR ρ i with
  | none => true
  | some (.sh _) => true
  | _ => false
def hide (ρ : Env) (is : List Nat) : Option Env := if is.all (calmAt ρ) then some (wipe ρ is) else none
def unwipe (old ρ : Env) : List Nat → Env
  | [] => ρ
  | i :: is => (unwipe old ρ is).set i (old.getD i none)
/-- the turns of a comprehension -/
def compL (f : T → Env → Out (List T)) : List T → List T → Env → Out (List T)
  | [], acc, ρ => .ok acc ρ
  | x :: xs, acc, ρ => match f x ρ with
    | .ok ys ρ1 => if (acc ++ ys).length ≤ line then compL f xs (acc ++ ys) ρ1 else .bad
    | _ => .bad
/-- a dict's store -/
def dput (k v : T) (ks vs : List T) : List T × List T := if ks.any (fun k' => teq k' k) then (ks, List.zipWith (fun k' v' => if teq k' k then v else v') ks vs) else (ks ++ [k], vs ++ [v])
def compD (f : T → List T → List T → Env → Out (List T × List T)) : List T → List T → List T → Env → Out (List T × List T)
  | [], ks, vs, ρ => .ok (ks, vs) ρ
  | x :: xs, ks, vs, ρ => match f x ks vs ρ with
    | .ok (a, b) ρ1 => compD f xs a b ρ1
    | _ => .bad
/-- a shared int or text -/
def isKeyT : R → Bool
  | .sh t => isKey t
  | _ => false
abbrev CallF := Nat → List R → Out R
def tru (x : Out R) : Out Bool := match x with
  | .ok r ρ => (match truth r.t with
    | some b => .ok b ρ
    | none => .bad)
  | .exc c fs ρ => .exc c fs ρ
  | .bad => .bad
def fin (x : Option R) (ρ : Env) : Out R := match x with
  | some r => .ok r ρ
  | none => .bad
/-- the arguments of a call -/
def argRs (ρ : Env) : List Arg → Option (List R)
  | [] => some []
  | .val r :: as => if r.isBox then none else (argRs ρ as).map (r :: ·)
  | .slot i :: as => (match getR ρ i with
    | some (.own ts) => (argRs ρ as).map (.box ts :: ·)
    | some (.box ts) => (argRs ρ as).map (.box ts :: ·)
    | _ => none)
  | .star _ :: _ => none
/-- the lent slots: which argument, which slot -/
def lentAt : List Arg → Nat → List (Nat × Nat)
  | [], _ => []
  | .slot i :: as, j => (j, i) :: lentAt as (j + 1)
  | _ :: as, j => lentAt as (j + 1)
def callF (cf : CallF) (f : Nat) (as : List Arg) (ρ : Env) : Out R := match argRs ρ as with
  | none => .bad
  | some rs => match lentAt as 0 with
    | [] => (match cf f rs with
      | .ok r _ => if r.isBox then .bad else .ok r ρ
      | .exc c fs _ => .exc c fs ρ
      | .bad => .bad)
    | [(j, i)] => (match cf f rs with
      | .ok r ρ' => if r.isBox then .bad else (match getR ρ' j, getR ρ i with
        | some (.box ts), some (.own _) => .ok r (setR ρ i (.own ts))
        | some (.box ts), some (.box _) => .ok r (setR ρ i (.box ts))
        | _, _ => .bad)
      | _ => .bad)
    | _ => .bad
/-- a slot read for keeps: what it holds is shared from here on -/
def share (ρ : Env) (i : Nat) : Out R := match getR ρ i with
  | some (.sh t) => .ok (.sh t) ρ
  | some (.box _) => .bad
  | some r => .ok (.sh r.t) (setR ρ i (.sh r.t))
  | none => .bad
mutual
def ev (cf : CallF) : E → Env → Out R
  | .var i, ρ => share ρ i
  | .brw _, _ => .bad
  | .cst t, ρ => .ok (.sh t) ρ
  | .glb _ t, ρ => .ok (.sh t) ρ
  | .star _, _ => .bad
  | .lenV i, ρ => (match getR ρ i with
    | some (.own ts) => .ok (.sh (.int ts.length)) ρ
    | some (.own2 tss) => .ok (.sh (.int tss.length)) ρ
    | some (.box ts) => .ok (.sh (.int ts.length)) ρ
    | _ => .bad)
  | .op o es, ρ => (evs cf es ρ).bind fun as ρ1 => match argTs ρ1 as with
    | some ts => fin (evOp o ts) ρ1
    | none => .bad
  | .ifx c a b, ρ => (tru (ev cf c ρ)).bind fun t ρ1 => if t then ev cf a ρ1 else ev cf b ρ1
  | .and_ a b, ρ => (ev cf a ρ).bind fun r ρ1 => match truth r.t with
    | some true => ev cf b ρ1
    | some false => .ok r ρ1
    | none => .bad
  | .or_ a b, ρ => (ev cf a ρ).bind fun r ρ1 => match truth r.t with
    | some true => .ok r ρ1
    | some false => ev cf b ρ1
    | none => .bad
  | .chain o1 o2 a b c, ρ => (ev cf a ρ).bind fun ra ρ1 => (ev cf b ρ1).bind fun rb ρ2 => match evOp o1 [ra.t, rb.t] with
    | some (.sh (.bl true)) => (ev cf c ρ2).bind fun rc ρ3 => fin (evOp o2 [rb.t, rc.t]) ρ3
    | some (.sh (.bl false)) => .ok (.sh (.bl false)) ρ2
    | _ => .bad
  | .call f es, ρ => (evs cf es ρ).bind fun as ρ1 => callF cf f as ρ1
  | .callk f es ks, ρ => (evs cf es ρ).bind fun as ρ1 => if as.length = ks.length then callF cf f (ks.map fun k => as.getD k (.val (.sh .non))) ρ1 else .bad
  | .lc own p k es cs e, ρ => (evs cf es ρ).bind fun as ρ1 => match argTs ρ1 as with
    | none => .bad
    | some ts => match walk k ts with
      | none => .bad
      | some xs => match compL (fun x ρ2 => match (hide ρ2 own).bind (putP p x) with
          | none => .bad
          | some ρ3 => (evc cf cs ρ3).bind fun b ρ4 => if b then (ev cf e ρ4).bind fun r ρ5 => if r.isBox then .bad else .ok [r.t] (unwipe ρ2 ρ5 own) else .ok [] (unwipe ρ2 ρ4 own)) xs [] ρ1 with
        | .ok ys ρ2 => .ok (.own ys) ρ2
        | _ => .bad
  | .lc2 own p k es own1 p1 k1 es1 cs e, ρ => (evs cf es ρ).bind fun as ρ1 => match argTs ρ1 as with
    | none => .bad
    | some ts => match walk k ts with
      | none => .bad
      | some xs => match compL (fun x ρ2 => match (hide ρ2 own).bind (putP p x) with
          | none => .bad
          | some ρ3 => (evs cf es1 ρ3).bind fun bs ρ4 => match argTs ρ4 bs with
            | none => .bad
            | some us => match walk k1 us with
              | none => .bad
              | some ys => match compL (fun y ρ5 => match (hide ρ5 own1).bind (putP p1 y) with
                  | none => .bad
                  | some ρ6 => (evc cf cs ρ6).bind fun b ρ7 => if b then (ev cf e ρ7).bind fun r ρ8 => if r.isBox then .bad else .ok [r.t] (unwipe ρ5 ρ8 own1) else .ok [] (unwipe ρ5 ρ7 own1)) ys [] ρ4 with
                | .ok zs ρ9 => .ok zs (unwipe ρ2 ρ9 own)
                | _ => .bad) xs [] ρ1 with
        | .ok ys ρ2 => .ok (.own ys) ρ2
        | _ => .bad
  | .dc own p k es cs ek ev1, ρ => (evs cf es ρ).bind fun as ρ1 => match argTs ρ1 as with
    | none => .bad
    | some ts => match walk k ts with
      | none => .bad
      | some xs => match compD (fun x ks vs ρ2 => match (hide ρ2 own).bind (putP p x) with
          | none => .bad
          | some ρ3 => (evc cf cs ρ3).bind fun b ρ4 => if b then (ev cf ek ρ4).bind fun rk ρ5 => (ev cf ev1 ρ5).bind fun rv ρ6 => if isKeyT rk && !rv.isBox && Nat.blt ks.length line then .ok (dput rk.t rv.t ks vs) (unwipe ρ2 ρ6 own) else .bad else .ok (ks, vs) (unwipe ρ2 ρ4 own)) xs [] [] ρ1 with
        | .ok (ks, vs) ρ2 => .ok (.ownD ks vs) ρ2
        | _ => .bad
  | .dc2 own p k es own1 p1 k1 es1 cs ek ev1, ρ => (evs cf es ρ).bind fun as ρ1 => match argTs ρ1 as with
    | none => .bad
    | some ts => match walk k ts with
      | none => .bad
      | some xs => match compD (fun x ks0 vs0 ρ2 => match (hide ρ2 own).bind (putP p x) with
          | none => .bad
          | some ρ3 => (evs cf es1 ρ3).bind fun bs ρ4 => match argTs ρ4 bs with
            | none => .bad
            | some us => match walk k1 us with
              | none => .bad
              | some ys => match compD (fun y ks vs ρ5 => match (hide ρ5 own1).bind (putP p1 y) with
                  | none => .bad
                  | some ρ6 => (evc cf cs ρ6).bind fun b ρ7 => if b then (ev cf ek ρ7).bind fun rk ρ8 => (ev cf ev1 ρ8).bind fun rv ρ9 => if isKeyT rk && !rv.isBox && Nat.blt ks.length line then .ok (dput rk.t rv.t ks vs) (unwipe ρ5 ρ9 own1) else .bad else .ok (ks, vs) (unwipe ρ5 ρ7 own1)) ys ks0 vs0 ρ4 with
                | .ok zs ρ9 => .ok zs (unwipe ρ2 ρ9 own)
                | _ => .bad) xs [] [] ρ1 with
        | .ok (ks, vs) ρ2 => .ok (.ownD ks vs) ρ2
        | _ => .bad
  | .bad, _ => .bad
def evs (cf : CallF) : List E → Env → Out (List Arg)
  | [], ρ => .ok [] ρ
  | .brw i :: es, ρ => (match getR ρ i with
    | some _ => (evs cf es ρ).bind fun as ρ1 => .ok (.slot i :: as) ρ1
    | none => .bad)
  | .star e :: es, ρ => (ev cf e ρ).bind fun r ρ1 => (match seqL r.t with
    | some ts => (evs cf es ρ1).bind fun as ρ2 => .ok (.star ts :: as) ρ2
    | none => .bad)
  | e :: es, ρ => (ev cf e ρ).bind fun r ρ1 => (evs cf es ρ1).bind fun as ρ2 => .ok (.val r :: as) ρ2
/-- tests, all of them -/
def evc (cf : CallF) : List E → Env → Out Bool
  | [], ρ => .ok true ρ
  | e :: es, ρ => (tru (ev cf e ρ)).bind fun b ρ1 => if b then evc cf es ρ1 else .ok false ρ1
end
inductive Fl where
  | nx (ρ : Env) | rt (r : R) (ρ : Env) | bk (ρ : Env) | ct (ρ : Env) | exc (c : Nat) (fs : List T) (ρ : Env) | bad
  deriving Inhabited
def Out.fl {α : Type} (x : Out α) (f : α → Env → Fl) : Fl := match x with
  | .ok a ρ => f a ρ
  | .exc c fs ρ => .exc c fs ρ
  | .bad => .bad
def opt' (x : Option Env) : Fl := match x with
  | some ρ => .nx ρ
  | none => .bad
/-- a for over given values -/
def forL (put : T → Env → Option Env) (body : Env → Fl) : List T → Env → Fl
  | [], ρ => .nx ρ
  | x :: xs, ρ => match put x ρ with
    | none => .bad
    | some ρ1 => match body ρ1 with
      | .nx ρ2 => forL put body xs ρ2
      | .ct ρ2 => forL put body xs ρ2
      | .bk ρ2 => .nx ρ2
      | f => f
def whileL (c : Env → Out Bool) (body : Env → Fl) : Nat → Env → Fl
  | 0, _ => .bad
  | n + 1, ρ => (c ρ).fl fun b ρ1 => if b then (match body ρ1 with
      | .nx ρ2 => whileL c body n ρ2
      | .ct ρ2 => whileL c body n ρ2
      | .bk ρ2 => .nx ρ2
      | f => f) else .nx ρ1
def argVs : List Arg → Option (List R)
  | [] => some []
  | .val r :: as => if r.isBox then none else (argVs as).map (r :: ·)
  | _ => none
def isOwn (ρ : Env) (i : Nat) : Bool := match getR ρ i with
  | some (.own _) => true
  | some (.own2 _) => true
  | some (.box _) => true
  | _ => false
/-- an exception of the body goes on here -/
def Fl.catch (x : Fl) (h : Nat → List T → Env → Fl) : Fl := match x with
  | .exc c fs ρ => h c fs ρ
  | f => f
/-- the name of a clause goes -/
def offR (i : Option Nat) (ρ : Env) : Option Env := match i with
  | none => some ρ
  | some i => hide ρ [i]
def endF (i : Option Nat) : Fl → Fl
  | .nx ρ => opt' (offR i ρ)
  | .rt r ρ => .rt r ρ
  | .bk ρ => (match offR i ρ with
    | some ρ1 => .bk ρ1
    | none => .bad)
  | .ct ρ => (match offR i ρ with
    | some ρ1 => .ct ρ1
    | none => .bad)
  | _ => .bad
/-- a clause's suite -/
def suiteF (go : Env → Fl) (i : Option Nat) (c : Nat) (fs : List T) (ρ : Env) : Fl := match i with
  | none => endF none (go ρ)
  | some j => (match put1 ρ j (.sh (.err c fs)) with
    | some ρ1 => endF (some j) (go ρ1)
    | none => .bad)
/-- so many turns at the most -/
def turns : Nat := 1000000
mutual
def ex (cf : CallF) : S → Env → Fl
  | .asg o i e, ρ => (ev cf e ρ).fl fun r ρ1 => opt' (put1 ρ1 i (if o then r else .sh r.t))
  | .asgP ps e, ρ => (ev cf e ρ).fl fun r ρ1 => (match r.t with
    | .tup ts => opt' (putPs ps ts ρ1)
    | .lst ts => opt' (putPs ps ts ρ1)
    | _ => .bad)
  | .asgT ps es, ρ => (evs cf es ρ).fl fun as ρ1 => (match argVs as with
    | some rs => if rs.length ≤ line then opt' (putT ps rs ρ1) else .bad
    | none => .bad)
  | .aug i o e, ρ => (match getR ρ i with
    | some (.sh (.int a)) => (ev cf e ρ).fl fun r ρ1 => (match r, o with
      | .sh (.int b), .add => opt' (put1 ρ1 i (.sh (.int (a + b))))
      | .sh (.int b), .sub => opt' (put1 ρ1 i (.sh (.int (a - b))))
      | _, _ => .bad)
    | _ => .bad)
  | .app i e, ρ => if !isOwn ρ i then .bad else (ev cf e ρ).fl fun r ρ1 => if r.isBox then .bad else (match getR ρ1 i with
    | some (.own ts) => if ts.length < line then .nx (setR ρ1 i (.own (ts ++ [r.t]))) else .bad
    | some (.box ts) => if ts.length < line then .nx (setR ρ1 i (.box (ts ++ [r.t]))) else .bad
    | _ => .bad)
  | .app2 i e, ρ => if !isOwn ρ i then .bad else (ev cf e ρ).fl fun r ρ1 => (match r, getR ρ1 i with
    | .own xs, some (.own []) => .nx (setR ρ1 i (.own2 [xs]))
    | .own xs, some (.own2 tss) => if tss.length < line then .nx (setR ρ1 i (.own2 (tss ++ [xs]))) else .bad
    | _, _ => .bad)
  | .popApp i j e, ρ => if !isOwn ρ i || !isOwn ρ j then .bad else (ev cf e ρ).fl fun r ρ1 => (match r, getR ρ1 i, getR ρ1 j with
    | .sh (.int n), some (.own xs), some (.own ys) => if 0 ≤ n ∧ n < line ∧ xs.length < line ∧ i ≠ j then (match ys[n.toNat]? with
      | some t => .nx (setR (setR ρ1 j (.own (ys.eraseIdx n.toNat))) i (.own (xs ++ [t])))
      | none => .bad) else .bad
    | _, _, _ => .bad)
  | .appAt i k e, ρ => (match getR ρ i, getR ρ k, getR ρ e with
    | some (.own2 tss), some (.sh (.int n)), some (.sh t) => (match ixN tss.length n with
      | some j => (match tss[j]? with
        | some xs => if xs.length < line then .nx (setR ρ i (.own2 (tss.set j (xs ++ [t])))) else .bad
        | none => .bad)
      | none => .bad)
    | _, _, _ => .bad)
  | .ext i e, ρ => (ev cf e ρ).fl fun r ρ1 => (match r.t, getR ρ1 i with
    | .lst xs, some (.own ts) => if ts.length + xs.length ≤ line then .nx (setR ρ1 i (.own (ts ++ xs))) else .bad
    | _, _ => .bad)
  | .setI i k e, ρ => if !isOwn ρ i then .bad else (ev cf e ρ).fl fun r ρ1 => (ev cf k ρ1).fl fun rk ρ2 => if r.isBox then .bad else (match getR ρ2 i, rk with
    | some (.own ts), .sh (.int n) => (match ixN ts.length n with
      | some j => .nx (setR ρ2 i (.own (ts.set j r.t)))
      | none => .bad)
    | some (.box ts), .sh (.int n) => (match ixN ts.length n with
      | some j => .nx (setR ρ2 i (.box (ts.set j r.t)))
      | none => .bad)
    | _, _ => .bad)
  | .expr e, ρ => (ev cf e ρ).fl fun _ ρ1 => .nx ρ1
  | .ret e, ρ => (ev cf e ρ).fl fun r ρ1 => if r.isBox then .bad else .rt r ρ1
  | .retV i, ρ => (match getR ρ i with
    | some (.box _) => .bad
    | some r => .rt r (ρ.set i none)
    | none => .bad)
  | .retN, ρ => .rt (.sh .non) ρ
  | .ifs c a b, ρ => (tru (ev cf c ρ)).fl fun t ρ1 => if t then exs cf a ρ1 else exs cf b ρ1
  | .for_ p k es body, ρ => (evs cf es ρ).fl fun as ρ1 => (match argTs ρ1 as with
    | none => .bad
    | some ts => match walk k ts with
      | none => .bad
      | some xs => forL (putP p) (exs cf body) xs ρ1)
  | .while_ c body, ρ => whileL (fun ρ1 => tru (ev cf c ρ1)) (exs cf body) turns ρ
  | .raise c es, ρ => (evs cf es ρ).fl fun as ρ1 => (match argTs ρ1 as with
    | some ts => if ts.all flat && (Nat.beq ts.length (if (xKind c).isSome then 1 else 0) && Nat.blt c 8) then .exc c ts ρ1 else .bad
    | none => .bad)
  | .try1 body c i b, ρ => (exs cf body ρ).catch fun c' fs ρ1 => if Nat.beq c' c then suiteF (exs cf b) i c' fs ρ1 else .exc c' fs ρ1
  | .try2 body c i b c2 i2 b2, ρ => (exs cf body ρ).catch fun c' fs ρ1 => if Nat.beq c' c then suiteF (exs cf b) i c' fs ρ1 else if Nat.beq c' c2 then suiteF (exs cf b2) i2 c' fs ρ1 else .exc c' fs ρ1
  | .pass, ρ => .nx ρ
  | .brk, ρ => .bk ρ
  | .cont, ρ => .ct ρ
  | .bad, _ => .bad
def exs (cf : CallF) : List S → Env → Fl
  | [], ρ => .nx ρ
  | s :: ss, ρ => match ex cf s ρ with
    | .nx ρ1 => exs cf ss ρ1
    | f => f
end
/-- a parameter that the def changes is taken as it comes, another one is shared -/
def entry : List Bool → List R → Option Env
  | [], [] => some []
  | true :: ms, r :: rs => (entry ms rs).map (some r :: ·)
  | false :: ms, r :: rs => if r.isBox then none else (entry ms rs).map (some (.sh r.t) :: ·)
  | _, _ => none
def obox : Option R → Option R
  | some (.box ts) => some (.box ts)
  | _ => none
def outF (np : Nat) : Fl → Out R
  | .rt r ρ => .ok r ((ρ.take np).map obox)
  | .nx ρ => .ok (.sh .non) ((ρ.take np).map obox)
  | .exc c fs ρ => .exc c fs ρ
  | _ => .bad
/-- a def called: its parameters, then its other names -/
def run (fns : List Fn) : Nat → CallF
  | 0, _, _ => .bad
  | n + 1, f, rs => match fns[f]? with
    | none => .bad
    | some d => match entry d.ms rs with
      | none => .bad
      | some ρ => outF d.np (exs (run fns n) d.body (ρ ++ List.replicate (d.ns - d.np) none))
end Ev
end
section
set_option Elab.async false
set_option linter.all false
set_option maxRecDepth 100000
set_option maxHeartbeats 2000000
namespace Ev
open PySem PySem.Spec L2
abbrev Zn := Addr → Prop
def toS (s : List Nat) : Str := ⟨s.toArray⟩
theorem toS_len (s : List Nat) : (toS s).length = s.length := by simp [toS, Str.length]
theorem toS_cps (s : List Nat) : (toS s).cps.toList = s := by simp [toS]
theorem toS_inj {a b : List Nat} (h : toS a = toS b) : a = b := by
  have := congrArg (fun z : Str => z.cps.toList) h
  simpa [toS] using this
/-- codes of signs -/
def okS (s : List Nat) : Bool := s.all fun c => Nat.blt c 1114112
def okK : Key → Bool
  | .inl _ => true
  | .inr z => okS z.cps.toList
def keyT : Key → T
  | .inl i => .int i
  | .inr z => .str z.cps.toList
/-- a list of the module's own -/
def KLs (K : PySem.W.Frag) (a : Addr) (xs : List V) : Prop := ∃ (o : Obj) (its : Array Value) (n : Nat), K.lookup a = some o ∧ o.cls = .type "list" ∧ o.dict = none ∧ o.data = .seq its n ∧ its.size ≤ sizeLine ∧ Vals xs its.toList
/-- a dict's object: its keys, its values -/
def DcAt (H : Hp) (a : Addr) (ks : List T) (vs : List V) : Prop := ∃ kvs : List (Key × V), H a = some (.dK kvs) ∧ (ks = kvs.map (fun p => keyT p.1) ∧ ∀ p ∈ kvs, okK p.1 = true) ∧ vs = kvs.map (·.2)
def xNm (c : Nat) : Str := (["NoName", "NoNumber", "NothingDone", "Unlike", "NoPaper", "TooFew", "BadText", "BadLine"] : List Str).getD c "NoName"
def xF (c : Nat) : Str := if xKind c = some true then "number" else "name"
def cvA (K : PySem.W.Frag) (c : Nat) : Addr := He.ga K (xNm c)
def cvK (K : PySem.W.Frag) (c : Nat) : Value := .ref (cvA K c)
/-- the class of this number is the module's -/
def xIn (K : PySem.W.Frag) (c : Nat) : Bool := He.eqO (PySem.W.nsIn K mainGlobals (xNm c)) (some (some (cvK K c)))
/-- an exception at a: its class, its dict -/
def EXO (a : Addr) (cls : Value) (d : Option Addr) : HO := .ext fun h => ∃ (oe : Obj) (vs : Array Value), h.get? a = some oe ∧ Zc cls d oe ∧ oe.data = .fields vs
/-- what the written part says of the class -/
structure ExK (K : PySem.W.Frag) (c : Nat) : Prop where
  isI : ExcC K (cvA K c)
  fld : XfC K (cvA K c)
  noF : PySem.W.findIn K (cvK K c) (xF c) = some none
  kl : PySem.W.kitOne K (cvK K c) (.type "LookupError") = some (Nat.ble c 2)
  kv : PySem.W.kitOne K (cvK K c) (.type "ValueError") = some (Nat.ble 3 c)
  ex : ∀ j, j < 8 → xIn K j = true → PySem.W.exmOne K (cvK K c) (cvK K j) = some (Nat.beq c j)
/-- where its field stands -/
def XDt (Z : Zn) (H : Hp) (c : Nat) (d : Option Addr) (ws : List V) : Prop := (d = none ∧ ws = [] ∧ xKind c = none) ∨ ∃ a w, d = some a ∧ ws = [w] ∧ (H a = some (.xd [(xF c, w)]) ∧ ¬ Z a) ∧ (xKind c).isSome = true
theorem XDt.keep {Z : Zn} {H H' : Hp} {c : Nat} {d : Option Addr} {ws : List V} (h : XDt Z H c d ws) (o : ∀ b u, H b = some u → ¬ Z b → H' b = some u) : XDt Z H' c d ws :=
  h.imp id fun ⟨a, w, e1, e2, e3, e4⟩ => ⟨a, w, e1, e2, ⟨o _ _ e3.1 e3.2, e3.2⟩, e4⟩
theorem XDt.zn {Z Z' : Zn} {H : Hp} {c : Nat} {d : Option Addr} {ws : List V} (h : XDt Z H c d ws) (z : ∀ b, H b ≠ none → Z' b → Z b) : XDt Z' H c d ws :=
  h.imp id fun ⟨a, w, e1, e2, e3, e4⟩ => ⟨a, w, e1, e2, ⟨e3.1, fun q => e3.2 (z _ (by rw [e3.1]; simp) q)⟩, e4⟩
mutual
/-- v stands for t in H, none of its objects in Z -/
def Rp (K : PySem.W.Frag) (Z : Zn) (H : Hp) : V → T → Prop
  | v, .non => v = .non
  | v, .bl b => v = .bl b
  | v, .int i => v = .int i
  | v, .str s => v = .str (toS s) ∧ okS s = true
  | v, .tup ts => ∃ a vs, v = .ref a ∧ (H a = some (.tup vs) ∧ ¬ Z a) ∧ Rps K Z H vs ts
  | v, .lst ts => ∃ a vs, v = .ref a ∧ (H a = some (.lst vs) ∧ ¬ Z a) ∧ Rps K Z H vs ts
  | v, .fz ns => ∃ a, v = .ref a ∧ ((∃ o, H a = some (.frz o (.lst (ns.map V.int))) ∧ ¬ Z a) ∨ KLs K a (ns.map V.int))
  | v, .dct ks us => ∃ a vs, v = .ref a ∧ ¬ Z a ∧ DcAt H a ks vs ∧ Rps K Z H vs us
  | v, .err c fs => ∃ a d ws, v = .ref a ∧ (H a = some (EXO a (cvK K c) d) ∧ ¬ Z a) ∧ ExK K c ∧ XDt Z H c d ws ∧ Rps K Z H ws fs
def Rps (K : PySem.W.Frag) (Z : Zn) (H : Hp) : List V → List T → Prop
  | vs, [] => vs = []
  | vs, t :: ts => ∃ v r, vs = v :: r ∧ Rp K Z H v t ∧ Rps K Z H r ts
end
theorem Rps.len {K : PySem.W.Frag} {Z : Zn} {H : Hp} : ∀ {ts : List T} {vs : List V}, Rps K Z H vs ts → vs.length = ts.length
  | [], _, h => by
    unfold Rps at h
    rw [h]; rfl
  | t :: ts, _, h => by
    unfold Rps at h
    obtain ⟨v, r, e, _, h2⟩ := h
    rw [e, List.length_cons, List.length_cons, Rps.len h2]
/-- the heap changes in Z alone -/
def Out' (Z : Zn) (H H' : Hp) : Prop := ∀ b o, H b = some o → ¬ Z b → H' b = some o
section
variable {K : PySem.W.Frag} {Z Z' : Zn} {H H' : Hp}
mutual
theorem Rp.keep (o : Out' Z H H') : ∀ {t : T} {v : V}, Rp K Z H v t → Rp K Z H' v t
  | .non, _, h => by unfold Rp at h ⊢; exact h
  | .bl _, _, h => by unfold Rp at h ⊢; exact h
  | .int _, _, h => by unfold Rp at h ⊢; exact h
  | .str _, _, h => by unfold Rp at h ⊢; exact h
  | .tup ts, _, h => by
    unfold Rp at h ⊢
    obtain ⟨a, vs, e, h1, h2⟩ := h
    exact ⟨a, vs, e, ⟨o _ _ h1.1 h1.2, h1.2⟩, Rps.keep o h2⟩
  | .lst ts, _, h => by
    unfold Rp at h ⊢
    obtain ⟨a, vs, e, h1, h2⟩ := h
    exact ⟨a, vs, e, ⟨o _ _ h1.1 h1.2, h1.2⟩, Rps.keep o h2⟩
  | .dct ks us, _, h => by
    unfold Rp at h ⊢
    obtain ⟨a, vs, e, n, ⟨kvs, h1, h3, h4⟩, h2⟩ := h
    exact ⟨a, vs, e, n, ⟨kvs, o _ _ h1 n, h3, h4⟩, Rps.keep o h2⟩
  | .fz _, _, h => by
    unfold Rp at h ⊢
    obtain ⟨a, e, h⟩ := h
    exact ⟨a, e, h.imp (fun ⟨ob, h1, n⟩ => ⟨ob, o _ _ h1 n, n⟩) id⟩
  | .err _ _, _, h => by
    unfold Rp at h ⊢
    obtain ⟨a, d, ws, e, h1, x, h2, h3⟩ := h
    exact ⟨a, d, ws, e, ⟨o _ _ h1.1 h1.2, h1.2⟩, x, h2.keep o, Rps.keep o h3⟩
theorem Rps.keep (o : Out' Z H H') : ∀ {ts : List T} {vs : List V}, Rps K Z H vs ts → Rps K Z H' vs ts
  | [], _, h => by unfold Rps at h ⊢; exact h
  | t :: ts, _, h => by
    unfold Rps at h ⊢
    obtain ⟨v, r, e, h1, h2⟩ := h
    exact ⟨v, r, e, Rp.keep o h1, Rps.keep o h2⟩
end
mutual
theorem Rp.zn (z : ∀ b, H b ≠ none → Z' b → Z b) : ∀ {t : T} {v : V}, Rp K Z H v t → Rp K Z' H v t
  | .non, _, h => by unfold Rp at h ⊢; exact h
  | .bl _, _, h => by unfold Rp at h ⊢; exact h
  | .int _, _, h => by unfold Rp at h ⊢; exact h
  | .str _, _, h => by unfold Rp at h ⊢; exact h
  | .tup ts, _, h => by
    unfold Rp at h ⊢
    obtain ⟨a, vs, e, h1, h2⟩ := h
    exact ⟨a, vs, e, ⟨h1.1, fun q => h1.2 (z _ (by rw [h1.1]; simp) q)⟩, Rps.zn z h2⟩
  | .lst ts, _, h => by
    unfold Rp at h ⊢
    obtain ⟨a, vs, e, h1, h2⟩ := h
    exact ⟨a, vs, e, ⟨h1.1, fun q => h1.2 (z _ (by rw [h1.1]; simp) q)⟩, Rps.zn z h2⟩
  | .dct ks us, _, h => by
    unfold Rp at h ⊢
    obtain ⟨a, vs, e, n, ⟨kvs, h1, h3, h4⟩, h2⟩ := h
    exact ⟨a, vs, e, fun q => n (z _ (by rw [h1]; simp) q), ⟨kvs, h1, h3, h4⟩, Rps.zn z h2⟩
  | .fz _, _, h => by
    unfold Rp at h ⊢
    obtain ⟨a, e, h⟩ := h
    exact ⟨a, e, h.imp (fun ⟨ob, h1, n⟩ => ⟨ob, h1, fun q => n (z _ (by rw [h1]; simp) q)⟩) id⟩
  | .err _ _, _, h => by
    unfold Rp at h ⊢
    obtain ⟨a, d, ws, e, h1, x, h2, h3⟩ := h
    exact ⟨a, d, ws, e, ⟨h1.1, fun q => h1.2 (z _ (by rw [h1.1]; simp) q)⟩, x, h2.zn z, Rps.zn z h3⟩
theorem Rps.zn (z : ∀ b, H b ≠ none → Z' b → Z b) : ∀ {ts : List T} {vs : List V}, Rps K Z H vs ts → Rps K Z' H vs ts
  | [], _, h => by unfold Rps at h ⊢; exact h
  | t :: ts, _, h => by
    unfold Rps at h ⊢
    obtain ⟨v, r, e, h1, h2⟩ := h
    exact ⟨v, r, e, Rp.zn z h1, Rps.zn z h2⟩
end
theorem Rps.nil : Rps K Z H [] [] := by unfold Rps; rfl
theorem Rps.cons {v : V} {t : T} {vs : List V} {ts : List T} (h : Rp K Z H v t) (r : Rps K Z H vs ts) : Rps K Z H (v :: vs) (t :: ts) := by
  unfold Rps; exact ⟨v, vs, rfl, h, r⟩
theorem Rps.uncons {vs : List V} {t : T} {ts : List T} (h : Rps K Z H vs (t :: ts)) : ∃ v r, vs = v :: r ∧ Rp K Z H v t ∧ Rps K Z H r ts := by
  unfold Rps at h; exact h
theorem Rps.nil' {vs : List V} (h : Rps K Z H vs []) : vs = [] := by unfold Rps at h; exact h
theorem Rps.app : ∀ {ts us : List T} {vs ws : List V}, Rps K Z H vs ts → Rps K Z H ws us → Rps K Z H (vs ++ ws) (ts ++ us)
  | [], _, _, _, h, h2 => by rw [h.nil']; exact h2
  | _ :: _, _, _, _, h, h2 => by
    obtain ⟨v, r, rfl, h1, h3⟩ := h.uncons
    exact .cons h1 (Rps.app h3 h2)
theorem Rps.get : ∀ {ts : List T} {vs : List V} {i : Nat} {t : T}, Rps K Z H vs ts → ts[i]? = some t → ∃ v, vs[i]? = some v ∧ Rp K Z H v t
  | [], _, i, _, _, e => by simp at e
  | t :: ts, _, 0, _, h, e => by
    obtain ⟨v, r, rfl, h1, _⟩ := h.uncons
    simp at e
    subst e
    exact ⟨v, by simp, h1⟩
  | t :: ts, _, i + 1, _, h, e => by
    obtain ⟨v, r, rfl, _, h2⟩ := h.uncons
    obtain ⟨w, e1, e2⟩ := Rps.get (i := i) h2 (by simpa using e)
    exact ⟨w, by simpa using e1, e2⟩
theorem Rps.get' {ts : List T} {vs : List V} {i : Nat} {v : V} (h : Rps K Z H vs ts) (e : vs[i]? = some v) : ∃ t, ts[i]? = some t ∧ Rp K Z H v t := by
  have hl : i < vs.length := (List.getElem?_eq_some_iff.mp e).1
  rw [h.len] at hl
  obtain ⟨w, e1, e2⟩ := h.get (List.getElem?_eq_getElem hl)
  rw [e] at e1
  cases e1
  exact ⟨_, List.getElem?_eq_getElem hl, e2⟩
theorem Rps.take : ∀ {ts : List T} {vs : List V} (n : Nat), Rps K Z H vs ts → Rps K Z H (vs.take n) (ts.take n)
  | [], _, n, h => by rw [h.nil']; simp; exact .nil
  | t :: ts, _, 0, h => by simp; exact .nil
  | t :: ts, _, n + 1, h => by
    obtain ⟨v, r, rfl, h1, h2⟩ := h.uncons
    exact .cons h1 (h2.take n)
theorem Rps.drop : ∀ {ts : List T} {vs : List V} (n : Nat), Rps K Z H vs ts → Rps K Z H (vs.drop n) (ts.drop n)
  | [], _, n, h => by rw [h.nil']; simp; exact .nil
  | t :: ts, _, 0, h => by simpa using h
  | t :: ts, _, n + 1, h => by
    obtain ⟨v, r, rfl, h1, h2⟩ := h.uncons
    exact h2.drop n
theorem Rps.set {t : T} {v : V} (hv : Rp K Z H v t) : ∀ {ts : List T} {vs : List V} (n : Nat), Rps K Z H vs ts → Rps K Z H (vs.set n v) (ts.set n t)
  | [], _, n, h => by rw [h.nil']; simp; exact .nil
  | t :: ts, _, 0, h => by
    obtain ⟨w, r, rfl, h1, h2⟩ := h.uncons
    exact .cons hv h2
  | t :: ts, _, n + 1, h => by
    obtain ⟨w, r, rfl, h1, h2⟩ := h.uncons
    exact .cons h1 (h2.set hv n)
theorem Rps.rev : ∀ {ts : List T} {vs : List V}, Rps K Z H vs ts → Rps K Z H vs.reverse ts.reverse
  | [], _, h => by rw [h.nil']; simp; exact .nil
  | t :: ts, _, h => by
    obtain ⟨w, r, rfl, h1, h2⟩ := h.uncons
    rw [List.reverse_cons, List.reverse_cons]
    exact h2.rev.app (.cons h1 .nil)
theorem Rps.one {v : V} {t : T} (h : Rp K Z H v t) : Rps K Z H [v] [t] := .cons h .nil
/-- new objects aside -/
def Fresh (H H' : Hp) : Prop := ∀ b o, H b = some o → H' b = some o
theorem Fresh.out (f : Fresh H H') : Out' Z H H' := fun b o e _ => f b o e
theorem Fresh.upd {p : Addr} {o : HO} (n : H p = none) : Fresh H (upd H p o) := fun b u e => by
  rw [upd_ne (ne_of_none e n)]; exact e
theorem Fresh.refl : Fresh H H := fun _ _ e => e
theorem Fresh.trans {H2 : Hp} (a : Fresh H H') (b : Fresh H' H2) : Fresh H H2 := fun c o e => b c o (a c o e)
theorem Fresh.none (f : Fresh H H') {p : Addr} (n : H' p = none) : H p = none := by
  cases e : H p with
  | none => rfl
  | some o => rw [f _ _ e] at n; cases n
end
def Rows (K : PySem.W.Frag) (Z : Zn) (H : Hp) : List Addr → List (List T) → Prop
  | [], [] => True
  | b :: bs, ts :: tss => (∃ vs, H b = some (.lst vs) ∧ Rps K Z H vs ts) ∧ Rows K Z H bs tss
  | _, _ => False
def Rr (K : PySem.W.Frag) (Z : Zn) (H : Hp) (v : V) : R → List Addr → Prop
  | .sh t, fp => fp = [] ∧ Rp K Z H v t
  | .own ts, fp => ∃ a vs, v = .ref a ∧ fp = [a] ∧ H a = some (.lst vs) ∧ Rps K Z H vs ts
  | .box ts, fp => ∃ a vs, v = .ref a ∧ fp = [a] ∧ H a = some (.lst vs) ∧ Rps K Z H vs ts
  | .own2 tss, fp => ∃ a bs, v = .ref a ∧ fp = a :: bs ∧ H a = some (.lst (bs.map .ref)) ∧ Rows K Z H bs tss
  | .ownD ks us, fp => ∃ a vs, v = .ref a ∧ fp = [a] ∧ DcAt H a ks vs ∧ Rps K Z H vs us
section
variable {K : PySem.W.Frag} {Z Z' : Zn} {H H' : Hp}
theorem Rows.keep (o : Out' Z H H') : ∀ {bs : List Addr} {tss : List (List T)}, (∀ b ∈ bs, ∀ u, H b = some u → H' b = some u) → Rows K Z H bs tss → Rows K Z H' bs tss
  | [], [], _, _ => trivial
  | b :: bs, ts :: tss, k, ⟨⟨vs, h1, h2⟩, h3⟩ => ⟨⟨vs, k b List.mem_cons_self _ h1, h2.keep o⟩, h3.keep o fun c hc => k c (List.mem_cons_of_mem _ hc)⟩
  | [], _ :: _, _, h => h.elim
  | _ :: _, [], _, h => h.elim
theorem Rows.zn (z : ∀ b, H b ≠ none → Z' b → Z b) : ∀ {bs : List Addr} {tss : List (List T)}, Rows K Z H bs tss → Rows K Z' H bs tss
  | [], [], _ => trivial
  | b :: bs, ts :: tss, ⟨⟨vs, h1, h2⟩, h3⟩ => ⟨⟨vs, h1, h2.zn z⟩, h3.zn z⟩
  | [], _ :: _, h => h.elim
  | _ :: _, [], h => h.elim
theorem Rows.there : ∀ {bs : List Addr} {tss : List (List T)}, Rows K Z H bs tss → ∀ b ∈ bs, H b ≠ none
  | [], [], _, b, hb => by simp at hb
  | c :: bs, ts :: tss, ⟨⟨vs, h1, h2⟩, h3⟩, b, hb => by
    rcases List.mem_cons.mp hb with rfl | hb
    · rw [h1]; simp
    · exact h3.there b hb
  | [], _ :: _, h, _, _ => h.elim
  | _ :: _, [], h, _, _ => h.elim
/-- its own objects as they were, the others' away from Z -/
theorem Rr.keep {v : V} {r : R} {fp : List Addr} (h : Rr K Z H v r fp) (o : Out' Z H H') (k : ∀ b ∈ fp, ∀ u, H b = some u → H' b = some u) : Rr K Z H' v r fp := by
  cases r with
  | sh t => exact ⟨h.1, h.2.keep o⟩
  | own ts => obtain ⟨a, vs, e, f, h1, h2⟩ := h; exact ⟨a, vs, e, f, k a (by simp [f]) _ h1, h2.keep o⟩
  | box ts => obtain ⟨a, vs, e, f, h1, h2⟩ := h; exact ⟨a, vs, e, f, k a (by simp [f]) _ h1, h2.keep o⟩
  | own2 tss => obtain ⟨a, bs, e, f, h1, h2⟩ := h; exact ⟨a, bs, e, f, k a (by simp [f]) _ h1, h2.keep o fun b hb => k b (by simp [f, hb])⟩
  | ownD ks us => obtain ⟨a, vs, e, f, ⟨kvs, h1, h3, h4⟩, h2⟩ := h; exact ⟨a, vs, e, f, ⟨kvs, k a (by simp [f]) _ h1, h3, h4⟩, h2.keep o⟩
theorem Rr.zn {v : V} {r : R} {fp : List Addr} (h : Rr K Z H v r fp) (z : ∀ b, H b ≠ none → Z' b → Z b) : Rr K Z' H v r fp := by
  cases r with
  | sh t => exact ⟨h.1, h.2.zn z⟩
  | own ts => obtain ⟨a, vs, e, f, h1, h2⟩ := h; exact ⟨a, vs, e, f, h1, h2.zn z⟩
  | box ts => obtain ⟨a, vs, e, f, h1, h2⟩ := h; exact ⟨a, vs, e, f, h1, h2.zn z⟩
  | own2 tss => obtain ⟨a, bs, e, f, h1, h2⟩ := h; exact ⟨a, bs, e, f, h1, h2.zn z⟩
  | ownD ks us => obtain ⟨a, vs, e, f, h1, h2⟩ := h; exact ⟨a, vs, e, f, h1, h2.zn z⟩
theorem Rr.there {v : V} {r : R} {fp : List Addr} (h : Rr K Z H v r fp) : ∀ b ∈ fp, H b ≠ none := fun b hb => by
  cases r with
  | sh t => rw [h.1] at hb; simp at hb
  | own ts => obtain ⟨a, vs, e, f, h1, h2⟩ := h; rw [f] at hb; have : b = a := by simpa using hb
              rw [this, h1]; simp
  | box ts => obtain ⟨a, vs, e, f, h1, h2⟩ := h; rw [f] at hb; have : b = a := by simpa using hb
              rw [this, h1]; simp
  | own2 tss =>
    obtain ⟨a, bs, e, f, h1, h2⟩ := h
    rw [f] at hb
    rcases List.mem_cons.mp hb with rfl | hb
    · rw [h1]; simp
    · exact h2.there b hb
  | ownD ks us => obtain ⟨a, vs, e, f, ⟨kvs, h1, _⟩, h2⟩ := h; rw [f] at hb; have : b = a := by simpa using hb
                  rw [this, h1]; simp
/-- given to all: Z no longer bars its own objects -/
theorem Rows.rps : ∀ {bs : List Addr} {tss : List (List T)}, Rows K Z H bs tss → (∀ b ∈ bs, ¬ Z b) → Rps K Z H (bs.map .ref) (tss.map .lst)
  | [], [], _, _ => .nil
  | b :: bs, ts :: tss, ⟨⟨vs, h1, h2⟩, h3⟩, n => by
    refine .cons ?_ (h3.rps fun c hc => n c (List.mem_cons_of_mem _ hc))
    unfold Rp
    exact ⟨b, vs, rfl, ⟨h1, n b List.mem_cons_self⟩, h2⟩
  | [], _ :: _, h, _ => h.elim
  | _ :: _, [], h, _ => h.elim
theorem Rr.share {v : V} {r : R} {fp : List Addr} (h : Rr K Z H v r fp) (n : ∀ b ∈ fp, ¬ Z b) : Rp K Z H v r.t := by
  cases r with
  | sh t => exact h.2
  | own ts => obtain ⟨a, vs, e, f, h1, h2⟩ := h; unfold R.t Rp; exact ⟨a, vs, e, ⟨h1, n a (by simp [f])⟩, h2⟩
  | box ts => obtain ⟨a, vs, e, f, h1, h2⟩ := h; unfold R.t Rp; exact ⟨a, vs, e, ⟨h1, n a (by simp [f])⟩, h2⟩
  | own2 tss => obtain ⟨a, bs, e, f, h1, h2⟩ := h; unfold R.t Rp; exact ⟨a, _, e, ⟨h1, n a (by simp [f])⟩, h2.rps fun b hb => n b (by simp [f, hb])⟩
  | ownD ks us => obtain ⟨a, vs, e, f, h1, h2⟩ := h; unfold R.t Rp; exact ⟨a, vs, e, n a (by simp [f]), h1, h2⟩
end
/-- Z and what the slots own -/
def Zs (Z : Zn) (F : Nat → List Addr) : Zn := fun a => Z a ∨ ∃ i, a ∈ F i
/-- the slots: each holds what ρ says, apart from Z and from what the others own -/
structure SI (K : PySem.W.Frag) (Z : Zn) (F : Nat → List Addr) (σ : St) (ρ : Env) (H : Hp) : Prop where
  len : ρ.length = σ.length
  tr : ∀ a, Z a → H a ≠ none
  at_ : ∀ i r, ρ[i]? = some (some r) → ∃ v, σ[i]? = some (some v) ∧ Rr K (Zs Z F) H v r (F i)
  no : ∀ i, (∀ r, ρ[i]? ≠ some (some r)) → F i = []
  nd : ∀ i, (F i).Nodup
  dj : ∀ i j a, a ∈ F i → a ∈ F j → i = j
  zf : ∀ i a, a ∈ F i → ¬ Z a
section
variable {K : PySem.W.Frag} {Z Z' : Zn} {F : Nat → List Addr} {σ : St} {ρ : Env} {H H' : Hp}
theorem SI.ft (S : SI K Z F σ ρ H) {i : Nat} {a : Addr} (h : a ∈ F i) : H a ≠ none := by
  by_cases e : ∃ r, ρ[i]? = some (some r)
  · obtain ⟨r, e⟩ := e
    obtain ⟨v, _, h2⟩ := S.at_ i r e
    exact h2.there a h
  · rw [S.no i fun r q => e ⟨r, q⟩] at h
    simp at h
theorem SI.tz (S : SI K Z F σ ρ H) {a : Addr} (h : Zs Z F a) : H a ≠ none := by
  rcases h with h | ⟨i, h⟩
  · exact S.tr a h
  · exact S.ft h
/-- Z bars less -/
theorem SI.zn (S : SI K Z F σ ρ H) (z : ∀ b, Z' b → Z b) : SI K Z' F σ ρ H :=
  ⟨S.len, fun a h => S.tr a (z a h), fun i r e => let ⟨v, e1, e2⟩ := S.at_ i r e; ⟨v, e1, e2.zn fun b _ q => q.elim (fun x => .inl (z b x)) .inr⟩, S.no, S.nd, S.dj, fun i a h q => S.zf i a h (z a q)⟩
/-- nothing of what is owned or barred is changed -/
theorem SI.keep (S : SI K Z F σ ρ H) (f : Fresh H H') : SI K Z F σ ρ H' :=
  ⟨S.len, fun a h q => S.tr a h (f.none q), fun i r e => let ⟨v, e1, e2⟩ := S.at_ i r e; ⟨v, e1, e2.keep f.out fun b _ u q => f b u q⟩, S.no, S.nd, S.dj, S.zf⟩
/-- new objects are barred too -/
theorem SI.bar (S : SI K Z F σ ρ H) {fp : List Addr} (f : Fresh H H') (n : ∀ a ∈ fp, H a = none) (t : ∀ a ∈ fp, H' a ≠ none) : SI K (fun a => Z a ∨ a ∈ fp) F σ ρ H' := by
  refine ⟨S.len, fun a h => ?_, fun i r e => ?_, S.no, S.nd, S.dj, fun i a h q => ?_⟩
  · rcases h with h | h
    · exact fun q => S.tr a h (f.none q)
    · exact t a h
  · obtain ⟨v, e1, e2⟩ := S.at_ i r e
    refine ⟨v, e1, Rr.keep (Z := Zs (fun a => Z a ∨ a ∈ fp) F) (H := H) (e2.zn fun b hb q => ?_) f.out fun b _ u q => f b u q⟩
    rcases q with (q | q) | q
    · exact .inl q
    · exact absurd (n b q) hb
    · exact .inr q
  · rcases q with q | q
    · exact S.zf i a h q
    · exact S.ft h (n a q)
end
/-- behind an expression -/
structure EPo (K : PySem.W.Frag) (Z : Zn) (F : Nat → List Addr) (σ : St) (ρ : Env) (H : Hp) (F' : Nat → List Addr) (ρ' : Env) (H' : Hp) (v : V) (r : R) (fp : List Addr) : Prop where
  si : SI K (fun a => Z a ∨ a ∈ fp) F' σ ρ' H'
  rr : Rr K (Zs (fun a => Z a ∨ a ∈ fp) F') H' v r fp
  nd : fp.Nodup
  sub : ∀ i a, a ∈ F' i → a ∈ F i
  fr : ∀ b o, H b = some o → (∀ i, b ∉ F i) → H' b = some o
  nw : ∀ a ∈ fp, H a = none
  mo : ∀ b, H b ≠ none → H' b ≠ none
  z0 : ∀ a, Z a → H a ≠ none
  bx : ∀ (i : Nat) (ts : List T), ρ[i]? = some (some (R.box ts)) → F' i = F i ∧ ∃ ts', ρ'[i]? = some (some (R.box ts'))
  nb : ∀ (i : Nat) (ts : List T), ρ'[i]? = some (some (R.box ts)) → ∃ ts', ρ[i]? = some (some (R.box ts'))
/-- behind an expression's effects alone -/
structure SPo (K : PySem.W.Frag) (Z : Zn) (F : Nat → List Addr) (σ : St) (ρ : Env) (H : Hp) (F' : Nat → List Addr) (ρ' : Env) (H' : Hp) : Prop where
  si : SI K Z F' σ ρ' H'
  sub : ∀ i a, a ∈ F' i → a ∈ F i
  fr : ∀ b o, H b = some o → (∀ i, b ∉ F i) → H' b = some o
  mo : ∀ b, H b ≠ none → H' b ≠ none
  z0 : ∀ a, Z a → H a ≠ none
  bx : ∀ (i : Nat) (ts : List T), ρ[i]? = some (some (R.box ts)) → F' i = F i ∧ ∃ ts', ρ'[i]? = some (some (R.box ts'))
  nb : ∀ (i : Nat) (ts : List T), ρ'[i]? = some (some (R.box ts)) → ∃ ts', ρ[i]? = some (some (R.box ts'))
section
variable {K : PySem.W.Frag} {Z : Zn} {F F' F2 : Nat → List Addr} {σ : St} {ρ ρ' ρ2 : Env} {H H' H2 : Hp} {v : V} {r : R} {fp : List Addr}
theorem EPo.spo (e : EPo K Z F σ ρ H F' ρ' H' v r fp) : SPo K Z F σ ρ H F' ρ' H' := ⟨e.si.zn fun _ h => .inl h, e.sub, e.fr, e.mo, e.z0, e.bx, e.nb⟩
theorem SPo.refl (S : SI K Z F σ ρ H) : SPo K Z F σ ρ H F ρ H := ⟨S, fun _ _ h => h, fun _ _ e _ => e, fun _ h => h, S.tr, fun _ ts e => ⟨rfl, ts, e⟩, fun _ ts e => ⟨ts, e⟩⟩
theorem SPo.trans (a : SPo K Z F σ ρ H F' ρ' H') (b : SPo K Z F' σ ρ' H' F2 ρ2 H2) : SPo K Z F σ ρ H F2 ρ2 H2 :=
  ⟨b.si, fun i x h => a.sub i x (b.sub i x h), fun c o e n => b.fr c o (a.fr c o e n) fun i q => n i (a.sub i c q), fun c h => b.mo c (a.mo c h), a.z0, fun i ts e => by
    obtain ⟨e1, ts', e2⟩ := a.bx i ts e
    obtain ⟨e3, e4⟩ := b.bx i ts' e2
    exact ⟨e3.trans e1, e4⟩, fun i ts e => by
    obtain ⟨ts', e2⟩ := b.nb i ts e
    exact a.nb i ts' e2⟩
/-- first effects alone, then an expression -/
theorem SPo.epo (a : SPo K Z F σ ρ H F' ρ' H') (b : EPo K Z F' σ ρ' H' F2 ρ2 H2 v r fp) : EPo K Z F σ ρ H F2 ρ2 H2 v r fp := by
  have t := a.trans b.spo
  refine ⟨b.si, b.rr, b.nd, t.sub, t.fr, fun x hx => ?_, t.mo, t.z0, t.bx, t.nb⟩
  cases e : H x with
  | none => rfl
  | some o => exact absurd (b.nw x hx) (a.mo x (by rw [e]; simp))
end
end Ev
end
section
set_option Elab.async false
set_option linter.all false
set_option maxRecDepth 100000
set_option maxHeartbeats 2000000
namespace Ev
open PySem PySem.Spec L2 StX
/-- an operand looked at: at the top it may be a list that is owned -/
def Vw (K : PySem.W.Frag) (Z : Zn) (H : Hp) (v : V) : T → Prop
  | .lst ts => ∃ a vs, v = .ref a ∧ H a = some (.lst vs) ∧ Rps K Z H vs ts
  | .dct ks us => ∃ a vs, v = .ref a ∧ DcAt H a ks vs ∧ Rps K Z H vs us
  | t => Rp K Z H v t
def Vws (K : PySem.W.Frag) (Z : Zn) (H : Hp) : List V → List T → Prop
  | vs, [] => vs = []
  | vs, t :: ts => ∃ v r, vs = v :: r ∧ Vw K Z H v t ∧ Vws K Z H r ts
theorem Rp.vw {K : PySem.W.Frag} {Z : Zn} {H : Hp} {v : V} {t : T} (h : Rp K Z H v t) : Vw K Z H v t := by
  cases t <;> try exact h
  · unfold Rp at h
    obtain ⟨a, vs, e, h1, h2⟩ := h
    exact ⟨a, vs, e, h1.1, h2⟩
  · unfold Rp at h
    obtain ⟨a, vs, e, n, h1, h2⟩ := h
    exact ⟨a, vs, e, h1, h2⟩
theorem Rps.vws {K : PySem.W.Frag} {Z : Zn} {H : Hp} : ∀ {ts : List T} {vs : List V}, Rps K Z H vs ts → Vws K Z H vs ts
  | [], _, h => h.nil'
  | _ :: _, _, h => by
    obtain ⟨v, r, e, h1, h2⟩ := h.uncons
    exact ⟨v, r, e, h1.vw, h2.vws⟩
theorem Vws.app {K : PySem.W.Frag} {Z : Zn} {H : Hp} : ∀ {ts us : List T} {vs ws : List V}, Vws K Z H vs ts → Vws K Z H ws us → Vws K Z H (vs ++ ws) (ts ++ us)
  | [], _, _, _, h, h2 => by
    have e : _ = [] := h
    rw [e]; exact h2
  | _ :: _, _, _, _, h, h2 => by
    obtain ⟨v, r, rfl, h1, h3⟩ := h
    exact ⟨v, _, rfl, h1, Vws.app h3 h2⟩
/-- where an exception's own field stands -/
def XFl (K : PySem.W.Frag) (Z : Zn) (H : Hp) (c : Nat) (d : Option Addr) (fs : List T) : Prop := ExK K c ∧ c < 8 ∧ ∃ ws, XDt Z H c d ws ∧ Rps K Z H ws fs
theorem XFl.zn {K : PySem.W.Frag} {Z Z' : Zn} {H : Hp} {c : Nat} {d : Option Addr} {fs : List T} (h : XFl K Z H c d fs) (z : ∀ b, H b ≠ none → Z' b → Z b) : XFl K Z' H c d fs :=
  let ⟨x, l, ws, h1, h2⟩ := h; ⟨x, l, ws, h1.zn z, h2.zn z⟩
/-- what a reading hangs on: the written part, the calls' answers, the classes by number, what is wished of an exception -/
structure Wd where
  K : PySem.W.Frag
  cf : CallF
  cv : Nat → Value
  W : WX
/-- behind a raise -/
def XPo (D : Wd) (Z : Zn) (F : Nat → List Addr) (σ : L2.St) (ρ : Env) (H : Hp) (c : Nat) (fs : List T) (ρ' : Env) : Prop :=
  ∀ F' H' d, SPo D.K Z F σ ρ H F' ρ' H' → XFl D.K (Zs Z F') H' c d fs → D.W (D.cv c) d σ H'
def wE (D : Wd) (x : Out R) (Z : Zn) (F : Nat → List Addr) (σ : L2.St) (ρ : Env) (H : Hp) (Q : VK) : Prop := match x with
  | .ok r ρ' => ∀ F' H' v fp, EPo D.K Z F σ ρ H F' ρ' H' v r fp → Q v H'
  | .exc c fs ρ' => XPo D Z F σ ρ H c fs ρ'
  | .bad => False
/-- an expression's reading -/
def tE (D : Wd) (e : E) : TE := fun σ H Q => ∃ Z F ρ, SI D.K Z F σ ρ H ∧ wE D (ev D.cf e ρ) Z F σ ρ H Q
def wT (D : Wd) (x : Out Bool) (Z : Zn) (F : Nat → List Addr) (σ : L2.St) (ρ : Env) (H : Hp) (Q : Bool → Hp → Prop) : Prop := match x with
  | .ok b ρ' => ∀ F' H', SPo D.K Z F σ ρ H F' ρ' H' → Q b H'
  | .exc c fs ρ' => XPo D Z F σ ρ H c fs ρ'
  | .bad => False
/-- a test's -/
def tT (D : Wd) (e : E) : TT := fun σ H Q => ∃ Z F ρ, SI D.K Z F σ ρ H ∧ wT D (tru (ev D.cf e ρ)) Z F σ ρ H Q
def AsAt (K : PySem.W.Frag) (Z : Zn) (σ : L2.St) (H : Hp) : List V → List Arg → List (List Addr) → Prop
  | vs, [], fps => vs = [] ∧ fps = []
  | vs, .val r :: as, fps => ∃ v ws fp gs, vs = v :: ws ∧ fps = fp :: gs ∧ Rr K Z H v r fp ∧ AsAt K Z σ H ws as gs
  | vs, .slot i :: as, fps => ∃ v ws gs, vs = v :: ws ∧ fps = [] :: gs ∧ σ[i]? = some (some v) ∧ AsAt K Z σ H ws as gs
  | vs, .star ts :: as, fps => ∃ us ws gs, vs = us ++ ws ∧ fps = [] :: gs ∧ Rps K Z H us ts ∧ AsAt K Z σ H ws as gs
structure APo (K : PySem.W.Frag) (Z : Zn) (F : Nat → List Addr) (σ : L2.St) (ρ : Env) (H : Hp) (F' : Nat → List Addr) (ρ' : Env) (H' : Hp) (vs : List V) (as : List Arg) (fps : List (List Addr)) : Prop where
  si : SI K (fun a => Z a ∨ a ∈ fps.flatten) F' σ ρ' H'
  as_ : AsAt K (Zs (fun a => Z a ∨ a ∈ fps.flatten) F') σ H' vs as fps
  nd : fps.flatten.Nodup
  sub : ∀ i a, a ∈ F' i → a ∈ F i
  fr : ∀ b o, H b = some o → (∀ i, b ∉ F i) → H' b = some o
  nw : ∀ a ∈ fps.flatten, H a = none
  mo : ∀ b, H b ≠ none → H' b ≠ none
  z0 : ∀ a, Z a → H a ≠ none
  bx : ∀ (i : Nat) (ts : List T), ρ[i]? = some (some (R.box ts)) → F' i = F i ∧ ∃ ts', ρ'[i]? = some (some (R.box ts'))
  nb : ∀ (i : Nat) (ts : List T), ρ'[i]? = some (some (R.box ts)) → ∃ ts', ρ[i]? = some (some (R.box ts'))
def wA (D : Wd) (x : Out (List Arg)) (Z : Zn) (F : Nat → List Addr) (σ : L2.St) (ρ : Env) (H : Hp) (Q : List V → Hp → Prop) : Prop := match x with
  | .ok as ρ' => ∀ F' H' vs fps, APo D.K Z F σ ρ H F' ρ' H' vs as fps → Q vs H'
  | .exc c fs ρ' => XPo D Z F σ ρ H c fs ρ'
  | .bad => False
def tAs (D : Wd) (es : List E) : TA := fun σ H Q => ∃ Z F ρ, SI D.K Z F σ ρ H ∧ wA D (evs D.cf es ρ) Z F σ ρ H Q
section
variable {D : Wd} {Z : Zn} {F F' : Nat → List Addr} {σ : L2.St} {ρ ρ' : Env} {H H' : Hp} {Q Q' : VK}
theorem wE.mono {x : Out R} (h : wE D x Z F σ ρ H Q) (m : ∀ v H', Q v H' → Q' v H') : wE D x Z F σ ρ H Q' := by
  cases x with
  | ok r ρ' => exact fun F' H' v fp e => m _ _ (h F' H' v fp e)
  | exc c fs ρ' => exact h
  | bad => exact h
theorem tE.mono {e : E} (h : tE D e σ H Q) (m : ∀ v H', Q v H' → Q' v H') : tE D e σ H Q' := by
  obtain ⟨Z, F, ρ, S, h⟩ := h
  exact ⟨Z, F, ρ, S, h.mono m⟩
theorem wT.mono {x : Out Bool} {Q Q' : Bool → Hp → Prop} (h : wT D x Z F σ ρ H Q) (m : ∀ v H', Q v H' → Q' v H') : wT D x Z F σ ρ H Q' := by
  cases x with
  | ok r ρ' => exact fun F' H' e => m _ _ (h F' H' e)
  | exc c fs ρ' => exact h
  | bad => exact h
theorem tT.mono {e : E} {Q Q' : Bool → Hp → Prop} (h : tT D e σ H Q) (m : ∀ v H', Q v H' → Q' v H') : tT D e σ H Q' := by
  obtain ⟨Z, F, ρ, S, h⟩ := h
  exact ⟨Z, F, ρ, S, h.mono m⟩
theorem wA.mono {x : Out (List Arg)} {Q Q' : List V → Hp → Prop} (h : wA D x Z F σ ρ H Q) (m : ∀ v H', Q v H' → Q' v H') : wA D x Z F σ ρ H Q' := by
  cases x with
  | ok r ρ' => exact fun F' H' v fp e => m _ _ (h F' H' v fp e)
  | exc c fs ρ' => exact h
  | bad => exact h
theorem XPo.after {F2 : Nat → List Addr} {ρ2 : Env} {H2 : Hp} {c : Nat} {fs : List T} (s : SPo D.K Z F σ ρ H F2 ρ2 H2) (h : XPo D Z F σ ρ H c fs ρ') : XPo D Z F2 σ ρ2 H2 c fs ρ' :=
  fun F' H' d e x => h F' H' d (s.trans e) x
/-- an exception behind values that are held -/
theorem XPo.held {F2 : Nat → List Addr} {ρ2 : Env} {H2 : Hp} {c : Nat} {fs : List T} {fp : List Addr} (s : SPo D.K Z F σ ρ H F2 ρ2 H2) (h : XPo D Z F σ ρ H c fs ρ') : XPo D (fun a => Z a ∨ a ∈ fp) F2 σ ρ2 H2 c fs ρ' :=
  fun F' H' d e x => h F' H' d (s.trans ⟨e.si.zn fun _ q => .inl q, e.sub, e.fr, e.mo, fun a h => e.z0 a (.inl h), e.bx, e.nb⟩) (x.zn fun b _ q => q.elim (fun y => .inl (.inl y)) .inr)
theorem AsAt.keep {K : PySem.W.Frag} {Z : Zn} (o : Out' Z H H') : ∀ {as : List Arg} {vs : List V} {fps : List (List Addr)}, (∀ b ∈ fps.flatten, ∀ u, H b = some u → H' b = some u) → AsAt K Z σ H vs as fps → AsAt K Z σ H' vs as fps
  | [], _, _, _, h => h
  | .val r :: as, _, _, k, h => by
    obtain ⟨v, ws, fp, gs, e1, e2, h1, h2⟩ := h
    subst e1 e2
    exact ⟨v, ws, fp, gs, rfl, rfl, h1.keep o fun b hb => k b (by simp [hb]), h2.keep o fun b hb => k b (by
      rw [List.flatten_cons]; exact List.mem_append_right _ hb)⟩
  | .slot i :: as, _, _, k, h => by
    obtain ⟨v, ws, gs, e1, e2, h1, h2⟩ := h
    subst e1 e2
    exact ⟨v, ws, gs, rfl, rfl, h1, h2.keep o fun b hb => k b (by
      rw [List.flatten_cons]; exact List.mem_append_right _ hb)⟩
  | .star t :: as, _, _, k, h => by
    obtain ⟨us, ws, gs, e1, e2, h1, h2⟩ := h
    subst e1 e2
    exact ⟨us, ws, gs, rfl, rfl, h1.keep o, h2.keep o fun b hb => k b (by
      rw [List.flatten_cons]; exact List.mem_append_right _ hb)⟩
theorem AsAt.zn {K : PySem.W.Frag} {Z Z' : Zn} (z : ∀ b, H b ≠ none → Z' b → Z b) : ∀ {as : List Arg} {vs : List V} {fps : List (List Addr)}, AsAt K Z σ H vs as fps → AsAt K Z' σ H vs as fps
  | [], _, _, h => h
  | .val r :: as, _, _, h => by
    obtain ⟨v, ws, fp, gs, e1, e2, h1, h2⟩ := h
    exact ⟨v, ws, fp, gs, e1, e2, h1.zn z, h2.zn z⟩
  | .slot i :: as, _, _, h => by
    obtain ⟨v, ws, gs, e1, e2, h1, h2⟩ := h
    exact ⟨v, ws, gs, e1, e2, h1, h2.zn z⟩
  | .star t :: as, _, _, h => by
    obtain ⟨us, ws, gs, e1, e2, h1, h2⟩ := h
    exact ⟨us, ws, gs, e1, e2, h1.zn z, h2.zn z⟩
theorem APo.spo {K : PySem.W.Frag} {vs : List V} {as : List Arg} {fps : List (List Addr)} (e : APo K Z F σ ρ H F' ρ' H' vs as fps) : SPo K Z F σ ρ H F' ρ' H' :=
  ⟨e.si.zn fun _ h => .inl h, e.sub, e.fr, e.mo, e.z0, e.bx, e.nb⟩
theorem apo_nil (S : SI D.K Z F σ ρ H) : APo D.K Z F σ ρ H F ρ H [] [] [] :=
  ⟨S.zn fun _ h => h.elim id (fun h => by simp at h), ⟨rfl, rfl⟩, by simp, fun _ _ h => h, fun _ _ e _ => e, fun a h => by simp at h, fun _ h => h, S.tr, fun _ ts e => ⟨rfl, ts, e⟩, fun _ ts e => ⟨ts, e⟩⟩
/-- a value, then the others -/
theorem apo_cons {K : PySem.W.Frag} {F2 : Nat → List Addr} {ρ2 : Env} {H2 : Hp} {v : V} {r : R} {fp : List Addr} {vs : List V} {as : List Arg} {fps : List (List Addr)} (a : EPo K Z F σ ρ H F' ρ' H' v r fp)
    (b : APo K (fun x => Z x ∨ x ∈ fp) F' σ ρ' H' F2 ρ2 H2 vs as fps) : APo K Z F σ ρ H F2 ρ2 H2 (v :: vs) (.val r :: as) (fp :: fps) := by
  have eq : ∀ x, ((Z x ∨ x ∈ fp) ∨ x ∈ fps.flatten) ↔ (Z x ∨ x ∈ (fp :: fps).flatten) := fun x => by
    rw [List.flatten_cons, List.mem_append, or_assoc]
  have si := b.si.zn (Z' := fun x => Z x ∨ x ∈ (fp :: fps).flatten) fun x h => (eq x).mpr h
  have z2 : ∀ x, Zs (fun x => Z x ∨ x ∈ (fp :: fps).flatten) F2 x → Zs (fun x => (Z x ∨ x ∈ fp) ∨ x ∈ fps.flatten) F2 x := fun x h => h.imp (eq x).mpr id
  have dis : ∀ x, x ∈ fp → ∀ i, x ∉ F' i := fun x hx i hi => a.si.zf i x hi (.inr hx)
  have hk : ∀ x ∈ fp, ∀ u, H' x = some u → H2 x = some u := fun x hx u e => b.fr x u e (dis x hx)
  refine ⟨si, ⟨v, vs, fp, fps, rfl, rfl, ?_, b.as_.zn fun x _ => z2 x⟩, ?_, fun i x h => a.sub i x (b.sub i x h), fun c o e n => b.fr c o (a.fr c o e n) fun i q => n i (a.sub i c q), fun x hx => ?_, fun c h => b.mo c (a.mo c h), a.z0, fun i ts e => ?_, fun i ts e => ?_⟩
  · -- what was held stays
    have h0 : Rr K (Zs (fun x => Z x ∨ x ∈ (fp :: fps).flatten) F') H' v r fp := a.rr.zn fun x hx q => by
      rcases q with (q | q) | q
      · exact .inl (.inl q)
      · rw [List.flatten_cons] at q
        rcases List.mem_append.mp q with q | q
        · exact .inl (.inr q)
        · exact absurd (b.nw x q) hx
      · exact .inr q
    have h1 := h0.keep (H' := H2) (fun x u e n => b.fr x u e fun i hi => n (.inr ⟨i, hi⟩)) hk
    exact h1.zn fun x _ q => q.imp id fun ⟨i, hi⟩ => ⟨i, b.sub i x hi⟩
  · rw [List.flatten_cons, List.nodup_append]
    refine ⟨a.nd, b.nd, fun x hx y hy e => ?_⟩
    subst e
    have n := b.nw x hy
    exact a.rr.there x hx n
  · rw [List.flatten_cons] at hx
    rcases List.mem_append.mp hx with h | h
    · exact a.nw x h
    · cases e : H x with
      | none => rfl
      | some o => exact absurd (b.nw x h) (a.mo x (by rw [e]; simp))
  · obtain ⟨e1, ts', e2⟩ := a.bx i ts e
    obtain ⟨e3, e4⟩ := b.bx i ts' e2
    exact ⟨e3.trans e1, e4⟩
  · obtain ⟨ts', e2⟩ := b.nb i ts e
    exact a.nb i ts' e2
/-- a slot that is looked at, then the others -/
theorem apo_slot {K : PySem.W.Frag} {i : Nat} {v : V} {vs : List V} {as : List Arg} {fps : List (List Addr)} (e : σ[i]? = some (some v))
    (b : APo K Z F σ ρ H F' ρ' H' vs as fps) : APo K Z F σ ρ H F' ρ' H' (v :: vs) (.slot i :: as) ([] :: fps) := by
  have eq : ([] :: fps).flatten = fps.flatten := rfl
  refine ⟨b.si, ⟨v, vs, fps, rfl, rfl, e, b.as_⟩, b.nd, b.sub, b.fr, b.nw, b.mo, b.z0, b.bx, b.nb⟩
/-- a star, then the others -/
theorem apo_star {K : PySem.W.Frag} {F2 : Nat → List Addr} {ρ2 : Env} {H2 : Hp} {us : List V} {ts : List T} {vs : List V} {as : List Arg} {fps : List (List Addr)} (a : SPo K Z F σ ρ H F' ρ' H') (hr : Rps K (Zs Z F') H' us ts)
    (b : APo K Z F' σ ρ' H' F2 ρ2 H2 vs as fps) : APo K Z F σ ρ H F2 ρ2 H2 (us ++ vs) (.star ts :: as) ([] :: fps) := by
  have eq : ([] :: fps).flatten = fps.flatten := rfl
  refine ⟨b.si, ⟨us, vs, fps, rfl, rfl, ?_, b.as_⟩, b.nd, fun i x h => a.sub i x (b.sub i x h), fun c o e n => b.fr c o (a.fr c o e n) fun i q => n i (a.sub i c q), fun x hx => ?_, fun c h => b.mo c (a.mo c h), a.z0, fun i ts e => ?_, fun i ts e => ?_⟩
  · have h0 : Rps K (Zs (fun x => Z x ∨ x ∈ ([] :: fps).flatten) F') H' us ts := hr.zn fun x hx q => by
      rcases q with (q | q) | q
      · exact .inl q
      · exact absurd (b.nw x q) hx
      · exact .inr q
    have h1 := h0.keep (H' := H2) (fun x u e n => b.fr x u e fun i hi => n (.inr ⟨i, hi⟩))
    exact h1.zn fun x _ q => q.imp id fun ⟨i, hi⟩ => ⟨i, b.sub i x hi⟩
  · cases e : H x with
    | none => rfl
    | some o => exact absurd (b.nw x hx) (a.mo x (by rw [e]; simp))
  · obtain ⟨e1, ts', e2⟩ := a.bx i ts e
    obtain ⟨e3, e4⟩ := b.bx i ts' e2
    exact ⟨e3.trans e1, e4⟩
  · obtain ⟨ts', e2⟩ := b.nb i ts e
    exact a.nb i ts' e2
end
/-- an operand: a name that is looked at, or an expression -/
def tO (D : Wd) : E → TE
  | .brw i => tVar i
  | e => tE D e
theorem tO.mono {D : Wd} {e : E} {σ : L2.St} {H : Hp} {Q Q' : VK} (h : tO D e σ H Q) (m : ∀ v H', Q v H' → Q' v H') : tO D e σ H Q' := by
  cases e <;> first
    | exact tE.mono h m
    | (obtain ⟨v, e, q⟩ := h; exact ⟨v, e, m _ _ q⟩)
/-- no star, not a bare look -/
def plainE : E → Bool
  | .brw _ => false
  | .star _ => false
  | _ => true
section
variable {D : Wd} {σ : L2.St} {H : Hp} {e : E} {es : List E} {Q : List V → Hp → Prop}
theorem evs_plain {cf : CallF} {ρ : Env} (h : plainE e = true) : evs cf (e :: es) ρ = (ev cf e ρ).bind fun r ρ1 => (evs cf es ρ1).bind fun as ρ2 => .ok (.val r :: as) ρ2 := by
  cases e <;> first | (simp [plainE] at h; done) | (rw [evs] <;> (intros; simp_all))
theorem tAs_nil (h : tAs D [] σ H Q) : Q [] H := by
  obtain ⟨Z, F, ρ, S, h⟩ := h
  unfold evs at h
  exact h _ _ _ _ (apo_nil S)
theorem tAs_cons (hp : plainE e = true) (h : tAs D (e :: es) σ H Q) : tE D e σ H fun x H1 => tAs D es σ H1 fun vs H2 => Q (x :: vs) H2 := by
  obtain ⟨Z, F, ρ, S, h⟩ := h
  refine ⟨Z, F, ρ, S, ?_⟩
  rw [evs_plain hp] at h
  cases e1 : ev D.cf e ρ with
  | bad => rw [e1] at h; exact h
  | exc c fs ρ' => rw [e1] at h; exact h
  | ok r ρ1 =>
    rw [e1] at h
    intro F1 H1 v fp a
    refine ⟨_, F1, ρ1, a.si, ?_⟩
    simp only [Out.bind] at h
    cases e2 : evs D.cf es ρ1 with
    | bad => rw [e2] at h; exact h
    | exc c fs ρ' => rw [e2] at h; exact XPo.held a.spo h
    | ok as ρ2 =>
      rw [e2] at h
      intro F2 H2 vs fps b
      exact h F2 H2 (v :: vs) (fp :: fps) (apo_cons a b)
theorem getR_some {ρ : Env} {i : Nat} {r : R} (h : getR ρ i = some r) : ρ[i]? = some (some r) := by
  unfold getR at h
  split at h
  · rename_i e
    rw [e]; exact congrArg some h
  · cases h
theorem getR_of {ρ : Env} {i : Nat} {r : R} (h : ρ[i]? = some (some r)) : getR ρ i = some r := by
  unfold getR
  rw [h]
theorem tAs_brw {i : Nat} (h : tAs D (.brw i :: es) σ H Q) : tVar i σ H fun x H1 => tAs D es σ H1 fun vs H2 => Q (x :: vs) H2 := by
  obtain ⟨Z, F, ρ, S, h⟩ := h
  rw [evs] at h
  cases e0 : getR ρ i with
  | none => rw [e0] at h; exact h.elim
  | some r =>
    rw [e0] at h
    obtain ⟨v, e1, _⟩ := S.at_ i r (getR_some e0)
    refine ⟨v, e1, Z, F, ρ, S, ?_⟩
    simp only [Out.bind] at h
    cases e2 : evs D.cf es ρ with
    | bad => rw [e2] at h; exact h
    | exc c fs ρ' => rw [e2] at h; exact h
    | ok as ρ2 =>
      rw [e2] at h
      intro F2 H2 vs fps b
      exact h F2 H2 (v :: vs) ([] :: fps) (apo_slot e1 b)
/-- shared, the temporary's own objects are barred no longer -/
theorem EPo.shr {K : PySem.W.Frag} {Z : Zn} {F F' : Nat → List Addr} {σ : L2.St} {ρ ρ' : Env} {H H' : Hp} {v : V} {r : R} {fp : List Addr} (a : EPo K Z F σ ρ H F' ρ' H' v r fp) : Rp K (Zs Z F') H' v r.t :=
  (a.rr.zn fun _ _ q => q.imp .inl id).share fun b hb q => by
    rcases q with q | ⟨i, q⟩
    · exact a.z0 b q (a.nw b hb)
    · exact a.si.zf i b q (.inr hb)
theorem seqL_sq {K : PySem.W.Frag} {Z : Zn} {H : Hp} {v : V} {t : T} {ts : List T} (h : Rp K Z H v t) (e : seqL t = some ts) : ∃ a vs, v = .ref a ∧ (SqT K H a vs ∨ SqL K H a vs) ∧ Rps K Z H vs ts := by
  cases t <;> simp only [seqL] at e <;> try cases e
  · unfold Rp at h
    obtain ⟨a, vs, e1, h1, h2⟩ := h
    exact ⟨a, vs, e1, .inl (.of h1.1), h2⟩
  · unfold Rp at h
    obtain ⟨a, vs, e1, h1, h2⟩ := h
    exact ⟨a, vs, e1, .inr (.of h1.1), h2⟩
theorem tAs_star (h : tAs D (.star e :: es) σ H Q) : tStar D.K (tE D e) (tAs D es) σ H Q := by
  obtain ⟨Z, F, ρ, S, h⟩ := h
  refine ⟨Z, F, ρ, S, ?_⟩
  rw [evs] at h
  cases e1 : ev D.cf e ρ with
  | bad => rw [e1] at h; exact h
  | exc c fs ρ' => rw [e1] at h; exact h
  | ok r ρ1 =>
    rw [e1] at h
    intro F1 H1 v fp a
    simp only [Out.bind] at h
    cases e3 : seqL r.t with
    | none => rw [e3] at h; exact h.elim
    | some ts =>
      rw [e3] at h
      obtain ⟨p, xs, rfl, hq, hr⟩ := seqL_sq a.shr e3
      refine ⟨p, xs, rfl, hq, Z, F1, ρ1, a.spo.si, ?_⟩
      dsimp only at h
      cases e2 : evs D.cf es ρ1 with
      | bad => rw [e2] at h; exact h
      | exc c fs ρ' => rw [e2] at h; exact XPo.after a.spo h
      | ok as ρ2 =>
        rw [e2] at h
        intro F2 H2 vs fps b
        exact h F2 H2 (xs ++ vs) ([] :: fps) (apo_star a.spo hr b)
end
end Ev
end
section
set_option Elab.async false
set_option linter.all false
set_option maxRecDepth 100000
set_option maxHeartbeats 2000000
namespace Ev
open PySem PySem.Spec L2 StX
theorem AsAt.view {K : PySem.W.Frag} {Z Zb : Zn} {F : Nat → List Addr} {σ : L2.St} {ρ : Env} {H : Hp} (S : SI K Zb F σ ρ H) (hz : ∀ b, Z b → Zb b) :
    ∀ {as : List Arg} {vs : List V} {fps : List (List Addr)} {ts : List T}, (∀ b ∈ fps.flatten, ¬ Zs Z F b) → AsAt K (Zs Zb F) σ H vs as fps → argTs ρ as = some ts → Vws K (Zs Z F) H vs ts
  | [], _, _, _, _, h, e => by
    simp only [argTs, Option.some.injEq] at e
    subst e
    exact h.1
  | a :: as, vs, fps, ts, n, h, e => by
    simp only [argTs] at e
    cases e1 : a.t ρ with
    | none => rw [e1] at e; cases e
    | some xs =>
      rw [e1] at e
      cases e2 : argTs ρ as with
      | none => rw [e2] at e; cases e
      | some ys =>
        rw [e2] at e
        simp only [Option.bind_some, Option.map_some, Option.some.injEq] at e
        subst e
        have zz : ∀ b, H b ≠ none → Zs Z F b → Zs Zb F b := fun b _ q => q.imp (hz b) id
        cases a with
        | val r =>
          obtain ⟨v, ws, fp, gs, rfl, rfl, h1, h2⟩ := h
          simp only [Arg.t, Option.some.injEq] at e1
          subst e1
          refine ⟨v, ws, rfl, ?_, AsAt.view S hz (fun b hb => n b (by rw [List.flatten_cons]; exact List.mem_append_right _ hb)) h2 e2⟩
          exact ((h1.zn zz).share fun b hb => n b (by simp [hb])).vw
        | star us =>
          obtain ⟨us', ws, gs, rfl, rfl, h1, h2⟩ := h
          simp only [Arg.t, Option.some.injEq] at e1
          subst e1
          exact (h1.zn zz).vws.app (AsAt.view (fps := gs) S hz n h2 e2)
        | slot i =>
          obtain ⟨v, ws, gs, rfl, rfl, h1, h2⟩ := h
          have rest := AsAt.view (fps := gs) S hz n h2 e2
          simp only [Arg.t] at e1
          cases e3 : getR ρ i with
          | none => rw [e3] at e1; cases e1
          | some r =>
            rw [e3] at e1
            obtain ⟨v', g1, g2⟩ := S.at_ i r (getR_some e3)
            rw [h1] at g1
            cases g1
            have g3 := g2.zn zz
            cases r with
            | sh t => simp only [Option.some.injEq] at e1; subst e1; exact ⟨v, ws, rfl, g3.2.vw, rest⟩
            | own us => simp only [Option.some.injEq] at e1; subst e1; obtain ⟨a, xs, r1, _, r3, r4⟩ := g3; exact ⟨v, ws, rfl, ⟨a, xs, r1, r3, r4⟩, rest⟩
            | box us => simp only [Option.some.injEq] at e1; subst e1; obtain ⟨a, xs, r1, _, r3, r4⟩ := g3; exact ⟨v, ws, rfl, ⟨a, xs, r1, r3, r4⟩, rest⟩
            | own2 uss => cases e1
            | ownD ks us => simp only [Option.some.injEq] at e1; subst e1; obtain ⟨a, xs, r1, _, r3, r4⟩ := g3; exact ⟨v, ws, rfl, ⟨a, xs, r1, r3, r4⟩, rest⟩
/-- behind an operator: new objects, no more -/
structure OPo (K : PySem.W.Frag) (Z : Zn) (H H' : Hp) (v : V) (r : R) (fp : List Addr) : Prop where
  f : Fresh H H'
  rr : Rr K (fun a => Z a ∨ a ∈ fp) H' v r fp
  nd : fp.Nodup
  nw : ∀ a ∈ fp, H a = none
theorem OPo.sh {K : PySem.W.Frag} {Z : Zn} {H : Hp} {v : V} {t : T} (h : Rp K Z H v t) : OPo K Z H H v (.sh t) [] :=
  ⟨.refl, ⟨rfl, h.zn fun _ _ q => q.elim id fun h => by simp at h⟩, by simp, fun _ h => by simp at h⟩
theorem OPo.sh' {K : PySem.W.Frag} {Z : Zn} {H H' : Hp} {v : V} {t : T} (f : Fresh H H') (h : Rp K Z H' v t) : OPo K Z H H' v (.sh t) [] :=
  ⟨f, ⟨rfl, h.zn fun _ _ q => q.elim id fun h => by simp at h⟩, by simp, fun _ h => by simp at h⟩
/-- a new list of old things -/
theorem OPo.lst {K : PySem.W.Frag} {Z : Zn} {H : Hp} {p : Addr} {vs : List V} {ts : List T} (n : H p = none) (h : Rps K Z H vs ts) : OPo K Z H (upd H p (.lst vs)) (.ref p) (.own ts) [p] :=
  ⟨.upd n, ⟨p, vs, rfl, rfl, upd_same, Rps.zn (H := upd H p (.lst vs)) (Z := fun a => Z a ∨ a ∈ [p]) (fun _ _ q => q) (Rps.keep (Fresh.out (.upd n)) (h.zn fun b hb q => q.elim id fun q => by
    have : b = p := by simpa using q
    rw [this] at hb
    exact absurd n hb))⟩, by simp, fun a h => by
    have : a = p := by simpa using h
    rw [this]; exact n⟩
/-- a new tuple of old things -/
theorem OPo.tup {K : PySem.W.Frag} {Z : Zn} {H : Hp} {p : Addr} {vs : List V} {ts : List T} (n : H p = none) (hz : ∀ a, Z a → H a ≠ none) (h : Rps K Z H vs ts) : OPo K Z H (upd H p (.tup vs)) (.ref p) (.sh (.tup ts)) [] := by
  refine .sh' (.upd n) ?_
  unfold Rp
  exact ⟨p, vs, rfl, ⟨upd_same, fun q => hz p q n⟩, h.keep (Fresh.out (.upd n))⟩
theorem EPo.of_op {K : PySem.W.Frag} {Z : Zn} {F F' : Nat → List Addr} {σ : L2.St} {ρ ρ' : Env} {H H' H2 : Hp} {v : V} {r : R} {fp : List Addr} (a : SPo K Z F σ ρ H F' ρ' H') (b : OPo K (Zs Z F') H' H2 v r fp) :
    EPo K Z F σ ρ H F' ρ' H2 v r fp := by
  refine ⟨a.si.bar b.f b.nw fun x hx => b.rr.there x hx, b.rr.zn fun x _ q => ?_, b.nd, a.sub, fun c o e n => b.f c o (a.fr c o e n), fun x hx => ?_, fun c h q => a.mo c h (b.f.none q), a.z0, a.bx, a.nb⟩
  · rcases q with (q | q) | q
    · exact .inl (.inl q)
    · exact .inr q
    · exact .inl (.inr q)
  · cases e : H x with
    | none => rfl
    | some o => exact absurd (b.nw x hx) (a.mo x (by rw [e]; simp))
/-- what an operator is to do -/
def OpG (K : PySem.W.Frag) (o : Op) (vs : List V) (H : Hp) (Q : VK) : Prop :=
  ∃ Z ts r, (∀ a, Z a → H a ≠ none) ∧ Vws K Z H vs ts ∧ evOp o ts = some r ∧ ∀ v H' fp, OPo K Z H H' v r fp → Q v H'
section
variable {D : Wd} {σ : L2.St} {H : Hp} {Q : VK}
theorem op_in {o : Op} {es : List E} (h : tE D (.op o es) σ H Q) : tAs D es σ H fun vs H' => OpG D.K o vs H' Q := by
  obtain ⟨Z, F, ρ, S, h⟩ := h
  refine ⟨Z, F, ρ, S, ?_⟩
  rw [ev] at h
  cases e1 : evs D.cf es ρ with
  | bad => rw [e1] at h; exact h
  | exc c fs ρ' => rw [e1] at h; exact h
  | ok as ρ1 =>
    rw [e1] at h
    simp only [Out.bind] at h
    intro F1 H1 vs fps a
    cases e2 : argTs ρ1 as with
    | none => rw [e2] at h; exact h.elim
    | some ts =>
      rw [e2] at h
      dsimp only at h
      cases e3 : evOp o ts with
      | none => rw [e3] at h; exact h.elim
      | some r =>
        rw [e3] at h
        refine ⟨Zs Z F1, ts, r, fun b hb => a.spo.si.tz hb, AsAt.view a.si (fun b q => .inl q) (fun b hb q => ?_) a.as_ e2, e3, fun v H' fp b => h F1 H' v fp (EPo.of_op a.spo b)⟩
        rcases q with q | ⟨i, q⟩
        · exact a.z0 b q (a.nw b hb)
        · exact a.si.zf i b q (.inr hb)
/-- two operands in a row -/
theorem tO_one {e : E} {es : List E} {σ : L2.St} {H : Hp} {Q : List V → Hp → Prop} (hn : ∀ x, e ≠ .star x) (h : tAs D (e :: es) σ H Q) : tO D e σ H fun x H1 => tAs D es σ H1 fun vs H2 => Q (x :: vs) H2 := by
  cases e <;> first
    | exact tAs_cons rfl h
    | exact tAs_brw h
    | exact absurd rfl (hn _)
/-- two operands in a row -/
theorem op_in2 {o : Op} {a b : E} (ha : ∀ e, a ≠ .star e) (hb : ∀ e, b ≠ .star e) (h : tE D (.op o [a, b]) σ H Q) : tO D a σ H fun x H1 => tO D b σ H1 fun y H2 => OpG D.K o [x, y] H2 Q :=
  (tO_one ha (op_in h)).mono fun x H1 h1 => (tO_one hb h1).mono fun y H2 h2 => tAs_nil h2
theorem op_in1 {o : Op} {a : E} (ha : ∀ e, a ≠ .star e) (h : tE D (.op o [a]) σ H Q) : tO D a σ H fun x H1 => OpG D.K o [x] H1 Q :=
  (tO_one ha (op_in h)).mono fun x H1 h1 => tAs_nil h1
end
section
variable {K : PySem.W.Frag} {Z : Zn} {H : Hp} {v w : V}
theorem Vws.one {vs : List V} {t : T} (h : Vws K Z H vs [t]) : ∃ v, vs = [v] ∧ Vw K Z H v t := by
  obtain ⟨v, r, e, h1, h2⟩ := h
  have h2 : r = [] := h2
  rw [h2] at e
  exact ⟨v, e, h1⟩
theorem Vws.two {vs : List V} {t u : T} (h : Vws K Z H vs [t, u]) : ∃ v w, vs = [v, w] ∧ Vw K Z H v t ∧ Vw K Z H w u := by
  obtain ⟨v, r, e, h1, h2⟩ := h
  obtain ⟨w, e2, h3⟩ := Vws.one h2
  rw [e2] at e
  exact ⟨v, w, e, h1, h3⟩
theorem Vw.int {i : Int} (h : Vw K Z H v (.int i)) : v = .int i := by
  have h : Rp K Z H v (.int i) := h
  unfold Rp at h; exact h
theorem Vw.bl {i : Bool} (h : Vw K Z H v (.bl i)) : v = .bl i := by
  have h : Rp K Z H v (.bl i) := h
  unfold Rp at h; exact h
theorem Vw.str {i : List Nat} (h : Vw K Z H v (.str i)) : v = .str (toS i) ∧ okS i = true := by
  have h : Rp K Z H v (.str i) := h
  unfold Rp at h; exact h
theorem Vw.non (h : Vw K Z H v .non) : v = .non := by
  have h : Rp K Z H v .non := h
  unfold Rp at h; exact h
theorem Vw.tup {ts : List T} (h : Vw K Z H v (.tup ts)) : ∃ a vs, v = .ref a ∧ (H a = some (.tup vs) ∧ ¬ Z a) ∧ Rps K Z H vs ts := by
  have h : Rp K Z H v (.tup ts) := h
  unfold Rp at h; exact h
theorem Vw.lst {ts : List T} (h : Vw K Z H v (.lst ts)) : ∃ a vs, v = .ref a ∧ H a = some (.lst vs) ∧ Rps K Z H vs ts := h
theorem Rp.int (i : Int) : Rp K Z H (.int i) (.int i) := by unfold Rp; rfl
theorem Rp.bl (i : Bool) : Rp K Z H (.bl i) (.bl i) := by unfold Rp; rfl
theorem Rp.str {i : List Nat} (h : okS i = true) : Rp K Z H (.str (toS i)) (.str i) := by unfold Rp; exact ⟨rfl, h⟩
theorem Rp.non : Rp K Z H .non .non := by unfold Rp; rfl
end
end Ev
end
section
set_option Elab.async false
set_option linter.all false
set_option maxRecDepth 100000
set_option maxHeartbeats 1000000
namespace Ev
open PySem PySem.Spec L2
/-- a def's promise: what the language answers -/
def spF (K : PySem.W.Frag) (cf : CallF) (cv : Nat → Value) (f np : Nat) : Sp := fun vs H Q E => vs.length = np ∧ ∃ Z F rs, SI K Z F (vs.map some) (rs.map some) H ∧ (match cf f rs with
  | .ok r ρ' => r.isBox = false ∧ ∀ F' H' v fp, EPo K Z F (vs.map some) (rs.map some) H F' ρ' H' v r fp → Q v H'
  | .exc c fs _ => ∀ H' d, (∀ b o, H b = some o → (∀ i, b ∉ F i) → H' b = some o) → (∀ b, H b ≠ none → H' b ≠ none) → XFl K Z H' c d fs → E (cv c) d H'
  | .bad => False)
/-- what the arguments own -/
def argF (F : Nat → List Addr) : List Arg → List (List Addr) → Nat → List Addr
  | .val _ :: _, fp :: _, 0 => fp
  | .slot i :: _, _ :: _, 0 => F i
  | _ :: as, _ :: fps, j + 1 => argF F as fps j
  | _, _, _ => []
section
variable {K : PySem.W.Frag} {Z Zb : Zn} {F : Nat → List Addr} {σ : L2.St} {ρ : Env} {H : Hp}
theorem mem_lent : ∀ {as : List Arg} {k j i : Nat}, as[j]? = some (.slot i) → (k + j, i) ∈ lentAt as k
  | [], _, _, _, h => by simp at h
  | .slot i' :: as, k, 0, i, h => by
    simp at h
    subst h
    simp [lentAt]
  | .val r :: as, k, 0, i, h => by simp at h
  | .star r :: as, k, 0, i, h => by simp at h
  | a :: as, k, j + 1, i, h => by
    have := mem_lent (as := as) (k := k + 1) (j := j) (i := i) (by simpa using h)
    rw [show k + 1 + j = k + (j + 1) by omega] at this
    cases a <;> simp only [lentAt] <;> first | exact this | exact List.mem_cons_of_mem _ this
theorem of_lent : ∀ {as : List Arg} {k j i : Nat}, (j, i) ∈ lentAt as k → ∃ j', j = k + j' ∧ as[j']? = some (Arg.slot i)
  | [], _, _, _, h => by simp [lentAt] at h
  | .slot i' :: as, k, j, i, h => by
    rcases List.mem_cons.mp h with h | h
    · cases h
      exact ⟨0, rfl, rfl⟩
    · obtain ⟨j', e, q⟩ := of_lent h
      exact ⟨j' + 1, by omega, by simpa using q⟩
  | .val r :: as, k, j, i, h => by
    obtain ⟨j', e, q⟩ := of_lent (as := as) (k := k + 1) h
    exact ⟨j' + 1, by omega, by simpa using q⟩
  | .star r :: as, k, j, i, h => by
    obtain ⟨j', e, q⟩ := of_lent (as := as) (k := k + 1) h
    exact ⟨j' + 1, by omega, by simpa using q⟩
/-- each argument, with what it owns -/
theorem args_at (S : SI K Zb F σ ρ H) : ∀ {as : List Arg} {vs : List V} {fps : List (List Addr)} {rs : List R}, AsAt K (Zs Zb F) σ H vs as fps → argRs ρ as = some rs →
    vs.length = as.length ∧ rs.length = as.length ∧ fps.length = as.length ∧ ∀ j r, rs[j]? = some r → ∃ v, vs[j]? = some v ∧ Rr K (Zs Zb F) H v r (argF F as fps j)
  | [], _, _, _, h, e => by
    simp only [argRs, Option.some.injEq] at e
    subst e
    obtain ⟨rfl, rfl⟩ := h
    exact ⟨rfl, rfl, rfl, fun j r h => by simp at h⟩
  | .val r :: as, _, _, _, h, e => by
    obtain ⟨v, ws, fp, gs, rfl, rfl, h1, h2⟩ := h
    simp only [argRs] at e
    split at e
    · cases e
    · cases q : argRs ρ as with
      | none => rw [q] at e; cases e
      | some rs =>
        rw [q] at e
        simp only [Option.map_some, Option.some.injEq] at e
        subst e
        obtain ⟨l1, l2, l3, l4⟩ := args_at S h2 q
        refine ⟨by simp [l1], by simp [l2], by simp [l3], fun j r' hj => ?_⟩
        cases j with
        | zero =>
          simp at hj
          subst hj
          exact ⟨v, rfl, h1⟩
        | succ j =>
          obtain ⟨v', k1, k2⟩ := l4 j r' (by simpa using hj)
          exact ⟨v', by simpa using k1, k2⟩
  | .slot i :: as, _, _, _, h, e => by
    obtain ⟨v, ws, gs, rfl, rfl, h1, h2⟩ := h
    simp only [argRs] at e
    cases q : argRs ρ as with
    | none => rw [q] at e; split at e <;> cases e
    | some rs =>
      rw [q] at e
      obtain ⟨l1, l2, l3, l4⟩ := args_at S h2 q
      have go : ∀ ts, (∀ Z', Rr K Z' H v (.box ts) (F i) → Rr K Z' H v (.box ts) (F i)) → Rr K (Zs Zb F) H v (.box ts) (F i) → ∀ j r', (R.box ts :: rs)[j]? = some r' → ∃ v', (v :: ws)[j]? = some v' ∧ Rr K (Zs Zb F) H v' r' (argF F (.slot i :: as) ([] :: gs) j) := fun ts _ hb j r' hj => by
        cases j with
        | zero =>
          simp at hj
          subst hj
          exact ⟨v, rfl, hb⟩
        | succ j =>
          obtain ⟨v', k1, k2⟩ := l4 j r' (by simpa using hj)
          exact ⟨v', by simpa using k1, k2⟩
      split at e
      · rename_i ts e0
        simp only [Option.map_some, Option.some.injEq] at e
        subst e
        obtain ⟨v', g1, g2⟩ := S.at_ i _ (getR_some e0)
        rw [h1] at g1
        cases g1
        exact ⟨by simp [l1], by simp [l2], by simp [l3], go ts (fun _ h => h) g2⟩
      · rename_i ts e0
        simp only [Option.map_some, Option.some.injEq] at e
        subst e
        obtain ⟨v', g1, g2⟩ := S.at_ i _ (getR_some e0)
        rw [h1] at g1
        cases g1
        exact ⟨by simp [l1], by simp [l2], by simp [l3], go ts (fun _ h => h) g2⟩
      · cases e
  | .star t :: as, _, _, _, _, e => by simp only [argRs] at e; cases e
theorem argF_val {F : Nat → List Addr} : ∀ {as : List Arg} {fps : List (List Addr)} {j : Nat} {a : Addr}, a ∈ argF F as fps j → (∃ i, as[j]? = some (.slot i) ∧ a ∈ F i) ∨ (∃ fp, fps[j]? = some fp ∧ a ∈ fp)
  | [], fps, j, a, h => by cases j <;> simp [argF] at h
  | x :: as, [], j, a, h => by cases x <;> cases j <;> simp [argF] at h
  | .val r :: as, fp :: fps, 0, a, h => .inr ⟨fp, rfl, h⟩
  | .slot i :: as, fp :: fps, 0, a, h => .inl ⟨i, rfl, h⟩
  | .star t :: as, fp :: fps, 0, a, h => by simp [argF] at h
  | x :: as, fp :: fps, j + 1, a, h => by
    have h : a ∈ argF F as fps j := by cases x <;> exact h
    simpa using argF_val h
theorem flat_at {fps : List (List Addr)} : ∀ {j : Nat} {fp : List Addr} {a : Addr}, fps[j]? = some fp → a ∈ fp → a ∈ fps.flatten := fun {j fp a} e h =>
  List.mem_flatten.mpr ⟨fp, List.mem_of_getElem? e, h⟩
theorem flat_nd : ∀ {fps : List (List Addr)} {i j : Nat} {fp gp : List Addr} {a : Addr}, fps.flatten.Nodup → fps[i]? = some fp → fps[j]? = some gp → a ∈ fp → a ∈ gp → i = j
  | [], i, j, _, _, _, _, e, _, _, _ => by simp at e
  | x :: fps, 0, 0, _, _, _, _, _, _, _, _ => rfl
  | x :: fps, 0, j + 1, fp, gp, a, nd, e1, e2, h1, h2 => by
    simp at e1
    subst e1
    rw [List.flatten_cons, List.nodup_append] at nd
    exact absurd rfl (nd.2.2 a h1 a (flat_at (by simpa using e2) h2))
  | x :: fps, i + 1, 0, fp, gp, a, nd, e1, e2, h1, h2 => by
    simp at e2
    subst e2
    rw [List.flatten_cons, List.nodup_append] at nd
    exact absurd rfl (nd.2.2 a h2 a (flat_at (by simpa using e1) h1))
  | x :: fps, i + 1, j + 1, fp, gp, a, nd, e1, e2, h1, h2 => by
    rw [List.flatten_cons, List.nodup_append] at nd
    exact congrArg (· + 1) (flat_nd (fps := fps) nd.2.1 (by simpa using e1) (by simpa using e2) h1 h2)
theorem argF_nd {F : Nat → List Addr} (hF : ∀ i, (F i).Nodup) : ∀ {as : List Arg} {fps : List (List Addr)} {j : Nat}, fps.flatten.Nodup → (argF F as fps j).Nodup
  | [], fps, j, _ => by cases j <;> simp [argF]
  | x :: as, [], j, _ => by cases x <;> cases j <;> simp [argF]
  | .val r :: as, fp :: fps, 0, h => by
    rw [List.flatten_cons, List.nodup_append] at h
    exact h.1
  | .slot i :: as, fp :: fps, 0, h => hF i
  | .star t :: as, fp :: fps, 0, h => by simp [argF]
  | x :: as, fp :: fps, j + 1, h => by
    rw [List.flatten_cons, List.nodup_append] at h
    have := argF_nd hF (as := as) (fps := fps) (j := j) h.2.1
    cases x <;> exact this
/-- not lent -/
def Kept (Z : Zn) (F : Nat → List Addr) (as : List Arg) : Zn := fun a => Z a ∨ ∃ i, (∀ j : Nat, as[j]? ≠ some (Arg.slot i)) ∧ a ∈ F i
theorem lent_one {as : List Arg} {l : List (Nat × Nat)} (e : lentAt as 0 = l) {j i : Nat} (h : as[j]? = some (Arg.slot i)) : (j, i) ∈ l := by
  have := mem_lent (k := 0) h
  rw [e, Nat.zero_add] at this
  exact this
/-- what a callee finds at its parameters -/
theorem si_args {Z : Zn} {fps : List (List Addr)} {as : List Arg} {vs : List V} {rs : List R} (S : SI K (fun a => Z a ∨ a ∈ fps.flatten) F σ ρ H) (A : AsAt K (Zs (fun a => Z a ∨ a ∈ fps.flatten) F) σ H vs as fps) (nd : fps.flatten.Nodup)
    (zn : ∀ a ∈ fps.flatten, ¬ Z a) (e : argRs ρ as = some rs) (l1 : ∀ (j j' i : Nat), as[j]? = some (Arg.slot i) → as[j']? = some (Arg.slot i) → j = j') :
    SI K (Kept Z F as) (argF F as fps) (vs.map some) (rs.map some) H := by
  obtain ⟨n1, n2, n3, at1⟩ := args_at S A e
  have inb : ∀ {j a}, a ∈ argF F as fps j → Zs (fun a => Z a ∨ a ∈ fps.flatten) F a := fun {j a} h => by
    rcases argF_val h with ⟨i, _, h⟩ | ⟨fp, e, h⟩
    · exact .inr ⟨i, h⟩
    · exact .inl (.inr (flat_at e h))
  have kb : ∀ {a}, Kept Z F as a → Zs (fun a => Z a ∨ a ∈ fps.flatten) F a := fun {a} h => by
    rcases h with h | ⟨i, _, h⟩
    · exact .inl (.inl h)
    · exact .inr ⟨i, h⟩
  refine ⟨by simp [n1, n2], fun a h => S.tz (kb h), fun j r hj => ?_, fun j hj => ?_, fun j => argF_nd S.nd nd, fun j j' a h h' => ?_, fun j a h h' => ?_⟩
  · have hj' : rs[j]? = some r := by
      rw [List.getElem?_map] at hj
      cases q : rs[j]? with
      | none => rw [q] at hj; cases hj
      | some x => rw [q] at hj; cases hj; rfl
    obtain ⟨v, h1, h2⟩ := at1 j r hj'
    refine ⟨v, by rw [List.getElem?_map, h1]; rfl, h2.zn fun b _ q => ?_⟩
    rcases q with q | ⟨j', q⟩
    · exact kb q
    · exact inb q
  · have hl : as.length ≤ j := by
      rcases Nat.lt_or_ge j as.length with h | h
      · have : j < rs.length := by omega
        exact absurd (by rw [List.getElem?_map, List.getElem?_eq_getElem this]; rfl) (hj rs[j])
      · exact h
    cases h : argF F as fps j with
    | nil => rfl
    | cons a l =>
      have ha : a ∈ argF F as fps j := by rw [h]; simp
      rcases argF_val ha with ⟨i, q, _⟩ | ⟨fp, q, _⟩
      · have := (List.getElem?_eq_some_iff.mp q).1
        omega
      · have := (List.getElem?_eq_some_iff.mp q).1
        omega
  · rcases argF_val h with ⟨i, q, h⟩ | ⟨fp, q, h⟩
    · rcases argF_val h' with ⟨i', q', h'⟩ | ⟨fp', q', h'⟩
      · have := S.dj i i' a h h'
        subst this
        exact l1 j j' i q q'
      · exact absurd (.inr (flat_at q' h')) (S.zf i a h)
    · rcases argF_val h' with ⟨i', q', h'⟩ | ⟨fp', q', h'⟩
      · exact absurd (.inr (flat_at q h)) (S.zf i' a h')
      · exact flat_nd nd q q' h h'
  · rcases argF_val h with ⟨i, q, h⟩ | ⟨fp, q, h⟩
    · rcases h' with h' | ⟨i', k, h'⟩
      · exact S.zf i a h (.inl h')
      · have := S.dj i i' a h h'
        subst this
        exact k j q
    · rcases h' with h' | ⟨i', k, h'⟩
      · exact zn a (flat_at q h) h'
      · exact S.zf i' a h' (.inr (flat_at q h))
theorem evs_len {cf : CallF} : ∀ {es : List E} {ρ ρ' : Env} {as : List Arg}, evs cf es ρ = .ok as ρ' → as.length = es.length
  | [], ρ, ρ', as, h => by
    rw [evs] at h
    cases h
    rfl
  | .brw i :: es, ρ, ρ', as, h => by
    rw [evs] at h
    split at h
    · cases q : evs cf es ρ with
      | ok bs ρ2 =>
        rw [q] at h
        cases h
        simp [evs_len q]
      | exc c fs ρ2 => rw [q] at h; cases h
      | bad => rw [q] at h; cases h
    · cases h
  | .star e :: es, ρ, ρ', as, h => by
    rw [evs] at h
    cases q0 : ev cf e ρ with
    | ok r ρ1 =>
      rw [q0] at h
      simp only [Out.bind] at h
      split at h
      · cases q : evs cf es ρ1 with
        | ok bs ρ2 =>
          rw [q] at h
          cases h
          simp [evs_len q]
        | exc c fs ρ2 => rw [q] at h; cases h
        | bad => rw [q] at h; cases h
      · cases h
    | exc c fs ρ2 => rw [q0] at h; cases h
    | bad => rw [q0] at h; cases h
  | e :: es, ρ, ρ', as, h => by
    by_cases hp : plainE e = true
    · rw [evs_plain hp] at h
      cases q0 : ev cf e ρ with
      | ok r ρ1 =>
        rw [q0] at h
        simp only [Out.bind] at h
        cases q : evs cf es ρ1 with
        | ok bs ρ2 =>
          rw [q] at h
          cases h
          simp [evs_len q]
        | exc c fs ρ2 => rw [q] at h; cases h
        | bad => rw [q] at h; cases h
      | exc c fs ρ2 => rw [q0] at h; cases h
      | bad => rw [q0] at h; cases h
    · cases e <;> first | exact absurd rfl hp | skip
      · rw [evs] at h
        split at h
        · cases q : evs cf es ρ with
          | ok bs ρ2 => rw [q] at h; cases h; simp [evs_len q]
          | exc c fs ρ2 => rw [q] at h; cases h
          | bad => rw [q] at h; cases h
        · cases h
      · rename_i e
        rw [evs] at h
        cases q0 : ev cf e ρ with
        | ok r ρ1 =>
          rw [q0] at h
          simp only [Out.bind] at h
          split at h
          · cases q : evs cf es ρ1 with
            | ok bs ρ2 => rw [q] at h; cases h; simp [evs_len q]
            | exc c fs ρ2 => rw [q] at h; cases h
            | bad => rw [q] at h; cases h
          · cases h
        | exc c fs ρ2 => rw [q0] at h; cases h
        | bad => rw [q0] at h; cases h
theorem as_slot : ∀ {as : List Arg} {vs : List V} {fps : List (List Addr)} {j i : Nat} {ts : List R}, argRs ρ as = some ts → AsAt K Z σ H vs as fps → as[j]? = some (Arg.slot i) → ∃ v, vs[j]? = some v ∧ σ[i]? = some (some v)
  | [], _, _, j, _, _, _, _, h => by simp at h
  | .val r :: as, _, _, j, i, _, e, h, hj => by
    obtain ⟨v, ws, fp, gs, rfl, rfl, h1, h2⟩ := h
    cases j with
    | zero => simp at hj
    | succ j =>
      simp only [argRs] at e
      split at e
      · cases e
      · cases q : argRs ρ as with
        | none => rw [q] at e; cases e
        | some rs => simpa using as_slot q h2 (by simpa using hj)
  | .slot i' :: as, _, _, j, i, _, e, h, hj => by
    obtain ⟨v, ws, gs, rfl, rfl, h1, h2⟩ := h
    cases j with
    | zero =>
      simp at hj
      subst hj
      exact ⟨v, rfl, h1⟩
    | succ j =>
      simp only [argRs] at e
      cases q : argRs ρ as with
      | none => rw [q] at e; split at e <;> cases e
      | some rs => simpa using as_slot q h2 (by simpa using hj)
  | .star t :: as, _, _, _, _, _, e, _, _ => by simp only [argRs] at e; cases e
theorem argF_slot {F : Nat → List Addr} : ∀ {as : List Arg} {fps : List (List Addr)} {j i : Nat}, fps.length = as.length → as[j]? = some (Arg.slot i) → argF F as fps j = F i
  | [], _, _, _, _, h => by simp at h
  | a :: as, [], _, _, h, _ => by simp at h
  | .slot i' :: as, fp :: fps, 0, i, _, h => by
    simp at h
    subst h
    rfl
  | .val r :: as, fp :: fps, 0, i, _, h => by simp at h
  | .star r :: as, fp :: fps, 0, i, _, h => by simp at h
  | a :: as, fp :: fps, j + 1, i, hl, h => by
    have := argF_slot (F := F) (as := as) (fps := fps) (j := j) (i := i) (by simpa using hl) (by simpa using h)
    cases a <;> exact this
section
variable {D : Wd} {F1 F2 : Nat → List Addr} {ρ1 ρ' : Env} {H1 H2 : Hp} {vs : List V} {as : List Arg} {fps : List (List Addr)} {rs : List R} {v : V} {r : R} {fp : List Addr}
/-- behind a call: the caller's slots. ρ2: as ρ1, but for the lent list -/
theorem epo_back (a : APo K Z F σ ρ H F1 ρ1 H1 vs as fps) (e : EPo K (Kept Z F1 as) (argF F1 as fps) (vs.map some) (rs.map some) H1 F2 ρ' H2 v r fp) {ρ2 : Env} (hl : ρ2.length = ρ1.length)
    (hk : ∀ i, (∀ j : Nat, as[j]? ≠ some (Arg.slot i)) → ρ2[i]? = ρ1[i]?)
    (hn : ∀ i, (∃ j : Nat, as[j]? = some (Arg.slot i)) → (∃ r, ρ2[i]? = some (some r)) ∧ ((∃ ts, ρ1[i]? = some (some (R.box ts))) ↔ ∃ ts, ρ2[i]? = some (some (R.box ts))) ∧
      ∀ r', ρ2[i]? = some (some r') → ∃ v', σ[i]? = some (some v') ∧ Rr K (Zs (fun a => Kept Z F1 as a ∨ a ∈ fp) F2) H2 v' r' (F1 i))
    (hf : ∀ j i : Nat, as[j]? = some (Arg.slot i) → F2 j = F1 i) : EPo K Z F σ ρ H F1 ρ2 H2 v r fp := by
  have down : ∀ b, Zs (fun a => Z a ∨ a ∈ fp) F1 b → Zs (fun a => Kept Z F1 as a ∨ a ∈ fp) F2 b := fun b q => by
    rcases q with (q | q) | ⟨i, q⟩
    · exact .inl (.inl (.inl q))
    · exact .inl (.inr q)
    · by_cases hi : ∃ j : Nat, as[j]? = some (Arg.slot i)
      · obtain ⟨j, hj⟩ := hi
        exact .inr ⟨j, by rw [hf j i hj]; exact q⟩
      · exact .inl (.inl (.inr ⟨i, fun j hj => hi ⟨j, hj⟩, q⟩))
  have nf : ∀ i b, b ∈ F1 i → b ∉ fp := fun i b hb hf' => a.si.ft hb (e.nw b hf')
  have si : SI K (fun a => Z a ∨ a ∈ fp) F1 σ ρ2 H2 := by
    refine ⟨hl.trans a.si.len, fun b hb => ?_, fun i r' hi => ?_, fun i hi => ?_, a.si.nd, a.si.dj, fun i b hb q => ?_⟩
    · rcases hb with hb | hb
      · exact e.mo b (a.mo b (a.z0 b hb))
      · exact e.rr.there b hb
    · by_cases hs : ∃ j : Nat, as[j]? = some (Arg.slot i)
      · obtain ⟨v', k1, k2⟩ := (hn i hs).2.2 r' hi
        exact ⟨v', k1, k2.zn fun b _ q => down b q⟩
      · have hs : ∀ j : Nat, as[j]? ≠ some (Arg.slot i) := fun j hj => hs ⟨j, hj⟩
        rw [hk i hs] at hi
        obtain ⟨v', k1, k2⟩ := a.si.at_ i r' hi
        refine ⟨v', k1, ?_⟩
        have k3 : Rr K (fun b => Zs (fun a => Z a ∨ a ∈ fps.flatten) F1 b ∨ b ∈ fp) H1 v' r' (F1 i) := k2.zn fun b hb q => q.elim id fun q => absurd (e.nw b q) hb
        have out : ∀ b, ¬ Zs (fun a => Z a ∨ a ∈ fps.flatten) F1 b → ∀ j, b ∉ argF F1 as fps j := fun b nb j hj => by
          rcases argF_val hj with ⟨i', _, h⟩ | ⟨g, q, h⟩
          · exact nb (.inr ⟨i', h⟩)
          · exact nb (.inl (.inr (flat_at q h)))
        have k4 := k3.keep (H' := H2) (fun b u eb nb => e.fr b u eb (out b fun q => nb (.inl q))) (fun b hb u eb => e.fr b u eb fun j hj => by
          rcases argF_val hj with ⟨i', q, h⟩ | ⟨g, q, h⟩
          · have := a.si.dj i i' b hb h
            subst this
            exact hs j q
          · exact a.si.zf i b hb (.inr (flat_at q h)))
        refine k4.zn fun b _ q => ?_
        rcases q with (q | q) | q
        · exact .inl (.inl (.inl q))
        · exact .inr q
        · exact .inl (.inr q)
    · by_cases hs : ∃ j : Nat, as[j]? = some (Arg.slot i)
      · obtain ⟨⟨r0, h0⟩, _⟩ := hn i hs
        exact absurd h0 (hi r0)
      · have hs : ∀ j : Nat, as[j]? ≠ some (Arg.slot i) := fun j hj => hs ⟨j, hj⟩
        exact a.si.no i fun r' hr => hi r' (by rw [hk i hs]; exact hr)
    · rcases q with q | q
      · exact a.si.zf i b hb (.inl q)
      · exact nf i b hb q
  refine ⟨si, e.rr.zn fun b _ q => down b q, e.nd, a.sub, fun c o ec n => e.fr c o (a.fr c o ec n) fun j hj => ?_, fun x hx => ?_, fun c h => e.mo c (a.mo c h), a.z0, fun i ts ei => ?_, fun i ts ei => ?_⟩
  · rcases argF_val hj with ⟨i', _, h⟩ | ⟨g, q, h⟩
    · exact n i' (a.sub i' c h)
    · have := a.nw c (flat_at q h)
      rw [this] at ec
      cases ec
  · cases q : H x with
    | none => rfl
    | some o => exact absurd (e.nw x hx) (a.mo x (by rw [q]; simp))
  · obtain ⟨e1, ts', e2⟩ := a.bx i ts ei
    refine ⟨e1, ?_⟩
    by_cases hs : ∃ j : Nat, as[j]? = some (Arg.slot i)
    · exact (hn i hs).2.1.mp ⟨ts', e2⟩
    · exact ⟨ts', by rw [hk i fun j hj => hs ⟨j, hj⟩]; exact e2⟩
  · by_cases hs : ∃ j : Nat, as[j]? = some (Arg.slot i)
    · obtain ⟨ts', h⟩ := (hn i hs).2.1.mpr ⟨ts, ei⟩
      exact a.nb i ts' h
    · exact a.nb i ts (by rw [← hk i fun j hj => hs ⟨j, hj⟩]; exact ei)
/-- a call's reading -/
theorem call_apo {f np : Nat} {Z : Zn} {F F1 : Nat → List Addr} {ρ ρ1 : Env} {as : List Arg} {H1 : Hp} {vs : List V} {fps : List (List Addr)} {Q : VK} (a : APo D.K Z F σ ρ H F1 ρ1 H1 vs as fps) (hl : as.length = np) (h : wE D (callF D.cf f as ρ1) Z F σ ρ H Q) : spF D.K D.cf D.cv f np vs H1 Q (fun cls d H' => D.W cls d σ H') := by
  unfold callF at h
  cases e2 : argRs ρ1 as with
  | none => rw [e2] at h; exact h.elim
  | some rs =>
    rw [e2] at h
    dsimp only at h
    obtain ⟨n1, n2, n3, at1⟩ := args_at a.si a.as_ e2
    have zn : ∀ b ∈ fps.flatten, ¬ Z b := fun b hb q => a.z0 b q (a.nw b hb)
    refine ⟨by omega, Kept Z F1 as, argF F1 as fps, rs, ?_, ?_⟩
    · refine si_args a.si a.as_ a.nd zn e2 fun j j' i hj hj' => ?_
      split at h
      · rename_i el
        have := lent_one el hj
        simp at this
      · rename_i j0 i0 el
        have h1 := lent_one el hj
        have h2 := lent_one el hj'
        simp at h1 h2
        omega
      · exact h.elim
    · split at h
      · rename_i el
        have no : ∀ i (j : Nat), as[j]? ≠ some (Arg.slot i) := fun i j hj => by
          have := lent_one el hj
          simp at this
        cases e3 : D.cf f rs with
        | bad => rw [e3] at h; exact h
        | exc c fs ρ' =>
          rw [e3] at h
          intro H2 d fr mo xf
          refine h F1 H2 d ⟨?_, a.sub, fun c o ec n => fr c o (a.fr c o ec n) fun j hj => ?_, fun c q => mo c (a.mo c q), a.z0, a.bx, a.nb⟩ ?_
          · refine ⟨a.si.len, fun b hb => mo b (a.mo b (a.z0 b hb)), fun i r' hi => ?_, a.si.no, a.si.nd, a.si.dj, fun i b hb q => a.si.zf i b hb (.inl q)⟩
            obtain ⟨v', k1, k2⟩ := a.si.at_ i r' hi
            have out : ∀ b, ¬ Zs (fun a => Z a ∨ a ∈ fps.flatten) F1 b → ∀ j, b ∉ argF F1 as fps j := fun b nb j hj => by
              rcases argF_val hj with ⟨i', _, h⟩ | ⟨g, q, h⟩
              · exact nb (.inr ⟨i', h⟩)
              · exact nb (.inl (.inr (flat_at q h)))
            have k4 := k2.keep (H' := H2) (fun b u eb nb => fr b u eb (out b nb)) (fun b hb u eb => fr b u eb fun j hj => by
              rcases argF_val hj with ⟨i', q, h⟩ | ⟨g, q, h⟩
              · exact no i' j q
              · exact a.si.zf i b hb (.inr (flat_at q h)))
            exact ⟨v', k1, k4.zn fun b _ q => q.imp .inl id⟩
          · rcases argF_val hj with ⟨i', q, h⟩ | ⟨g, q, h⟩
            · exact no i' j q
            · have := a.nw c (flat_at q h)
              rw [this] at ec
              cases ec
          · refine xf.zn fun b _ q => ?_
            rcases q with q | ⟨i, q⟩
            · exact .inl q
            · exact .inr ⟨i, no i, q⟩
        | ok r ρ' =>
          rw [e3] at h
          dsimp only at h
          cases eb : r.isBox with
          | true => rw [eb] at h; exact h.elim
          | false =>
            rw [eb] at h
            refine ⟨eb, fun F2 H2 v fp e => h F1 H2 v fp (epo_back a e rfl (fun _ _ => rfl) (fun i hi => ?_) fun j i hj => absurd hj (no i j))⟩
            obtain ⟨j, hj⟩ := hi
            exact absurd hj (no i j)
      · rename_i j0 i0 el
        cases e3 : D.cf f rs with
        | bad => rw [e3] at h; exact h
        | exc c fs ρ' => rw [e3] at h; exact h.elim
        | ok r ρ' =>
          rw [e3] at h
          dsimp only at h
          cases eb : r.isBox with
          | true => rw [eb] at h; exact h.elim
          | false =>
            rw [eb] at h
            simp only [Bool.false_eq_true, if_false] at h
            refine ⟨eb, fun F2 H2 v fp e => ?_⟩
            have one : ∀ {j i : Nat}, as[j]? = some (Arg.slot i) → j = j0 ∧ i = i0 := fun {j i} hj => by
              have := lent_one el hj
              simpa using this
            have back : ∀ {ts : List T} {r1 r2 : R}, getR ρ' j0 = some (.box ts) → ρ1[i0]? = some (some r1) → ((∃ t, r1 = R.box t) ↔ ∃ t, r2 = R.box t) → (∀ Z' H v fp, Rr D.K Z' H v (.box ts) fp → Rr D.K Z' H v r2 fp) → EPo D.K Z F σ ρ H F1 (setR ρ1 i0 r2) H2 v r fp := fun {ts r1 r2} g1 g2 g3 g4 => by
              have lt : i0 < ρ1.length := (List.getElem?_eq_some_iff.mp g2).1
              obtain ⟨ts0, g5⟩ := e.nb j0 ts (getR_some g1)
              have fe : F2 j0 = argF F1 as fps j0 := (e.bx j0 ts0 g5).1
              refine epo_back a e (by simp [setR]) (fun i hi => ?_) (fun i hi => ?_) (fun j i hj => ?_)
              · unfold setR
                by_cases q : i0 = i
                · subst q
                  obtain ⟨j', _, q'⟩ := of_lent (as := as) (k := 0) (j := j0) (i := i0) (by rw [el]; simp)
                  exact absurd q' (hi j')
                · rw [List.getElem?_set_ne q]
              · obtain ⟨j, hj⟩ := hi
                obtain ⟨rfl, rfl⟩ := one hj
                have ge : (setR ρ1 i r2)[i]? = some (some r2) := by
                  unfold setR
                  rw [List.getElem?_set_self lt]
                refine ⟨⟨r2, ge⟩, ⟨fun ⟨t, q⟩ => ?_, fun ⟨t, q⟩ => ?_⟩, fun r' q => ?_⟩
                · rw [g2] at q
                  cases q
                  obtain ⟨t', q⟩ := g3.mp ⟨t, rfl⟩
                  exact ⟨t', by rw [ge, q]⟩
                · rw [ge] at q
                  cases q
                  obtain ⟨t', q⟩ := g3.mpr ⟨t, rfl⟩
                  exact ⟨t', by rw [g2, q]⟩
                · rw [ge] at q
                  cases q
                  obtain ⟨v', k1, k2⟩ := e.si.at_ j _ (getR_some g1)
                  obtain ⟨v2, k3, k4⟩ := as_slot e2 a.as_ hj
                  rw [List.getElem?_map, k3] at k1
                  have ev2 : v' = v2 := by simpa using k1.symm
                  refine ⟨v2, k4, ?_⟩
                  rw [fe, argF_slot n3 hj, ev2] at k2
                  exact g4 _ _ _ _ k2
              · obtain ⟨rfl, rfl⟩ := one hj
                rw [fe, argF_slot n3 hj]
            split at h
            · rename_i ts us g1 g2
              exact h F1 H2 v fp (back g1 (getR_some g2) ⟨fun ⟨_, q⟩ => (nomatch q), fun ⟨_, q⟩ => (nomatch q)⟩ fun _ _ _ _ k => k)
            · rename_i ts us g1 g2
              exact h F1 H2 v fp (back g1 (getR_some g2) ⟨fun _ => ⟨_, rfl⟩, fun _ => ⟨_, rfl⟩⟩ fun _ _ _ _ k => k)
            · exact h.elim
      · exact h.elim
theorem call_in {f np : Nat} {es : List E} {Q : VK} (hl : es.length = np) (h : tE D (.call f es) σ H Q) : tAs D es σ H fun vs H1 => spF D.K D.cf D.cv f np vs H1 Q (fun cls d H' => D.W cls d σ H') := by
  obtain ⟨Z, F, ρ, S, h⟩ := h
  refine ⟨Z, F, ρ, S, ?_⟩
  rw [ev] at h
  cases e1 : evs D.cf es ρ with
  | bad => rw [e1] at h; exact h
  | exc c fs ρ' => rw [e1] at h; exact h
  | ok as ρ1 =>
    rw [e1] at h
    simp only [Out.bind] at h
    intro F1 H1 vs fps a
    exact call_apo a ((evs_len e1).trans hl) h
/-- the same operands in another order -/
def pick {α : Type} (d : α) (vs : List α) (is : List Nat) : List α := is.map fun i => vs.getD i d
theorem pick_map {α β : Type} (f : α → β) (d : α) (l : List α) (is : List Nat) : pick (f d) (l.map f) is = (pick d l is).map f := by
  unfold pick
  rw [List.map_map]
  refine List.map_congr_left fun i _ => ?_
  simp only [Function.comp, List.getD_eq_getElem?_getD, List.getElem?_map]
  cases l[i]? <;> rfl
theorem pick_perm {α : Type} (d : α) {l : List α} {is : List Nat} (h : is.Perm (List.range l.length)) : (pick d l is).Perm l := by
  have e : pick d l (List.range l.length) = l := by
    unfold pick
    apply List.ext_getElem
    · simp
    · intro i h1 h2
      simp [h2]
  have := h.map fun i => l.getD i d
  unfold pick at e ⊢
  rw [e] at this
  exact this
/-- plain operands: the value, its result, what it owns -/
theorem as_trip {K : PySem.W.Frag} {Z : Zn} {σ : L2.St} {H : Hp} : ∀ {as : List Arg} {vs : List V} {fps : List (List Addr)}, (∀ a ∈ as, ∃ r, a = .val r) → AsAt K Z σ H vs as fps →
    ∃ ps : List (V × R × List Addr), vs = ps.map (·.1) ∧ as = ps.map (fun p => .val p.2.1) ∧ fps = ps.map (·.2.2) ∧ ∀ p ∈ ps, Rr K Z H p.1 p.2.1 p.2.2
  | [], vs, fps, _, h => ⟨[], h.1, rfl, h.2, fun p hp => by simp at hp⟩
  | a :: as, vs, fps, hv, h => by
    obtain ⟨r, rfl⟩ := hv a List.mem_cons_self
    obtain ⟨v, ws, fp, gs, rfl, rfl, h1, h2⟩ := h
    obtain ⟨ps, rfl, e, rfl, h3⟩ := as_trip (fun x hx => hv x (List.mem_cons_of_mem _ hx)) h2
    refine ⟨(v, r, fp) :: ps, rfl, by rw [e]; rfl, rfl, fun p hp => ?_⟩
    rcases List.mem_cons.mp hp with rfl | hp
    · exact h1
    · exact h3 p hp
theorem trip_as {K : PySem.W.Frag} {Z : Zn} {σ : L2.St} {H : Hp} : ∀ {ps : List (V × R × List Addr)}, (∀ p ∈ ps, Rr K Z H p.1 p.2.1 p.2.2) → AsAt K Z σ H (ps.map (·.1)) (ps.map (fun p => .val p.2.1)) (ps.map (·.2.2))
  | [], _ => ⟨rfl, rfl⟩
  | p :: ps, h => ⟨p.1, _, p.2.2, _, rfl, rfl, h p List.mem_cons_self, trip_as fun q hq => h q (List.mem_cons_of_mem _ hq)⟩
theorem apo_pick {K : PySem.W.Frag} {Z : Zn} {F F1 : Nat → List Addr} {ρ ρ1 : Env} {as : List Arg} {H H1 : Hp} {vs : List V} {fps : List (List Addr)} {is : List Nat} (a : APo K Z F σ ρ H F1 ρ1 H1 vs as fps) (hv : ∀ x ∈ as, ∃ r, x = Arg.val r) (hp : is.Perm (List.range as.length)) :
    ∃ gs, APo K Z F σ ρ H F1 ρ1 H1 (pick .non vs is) (pick (.val (.sh .non)) as is) gs := by
  obtain ⟨ps, rfl, e2, rfl, h⟩ := as_trip hv a.as_
  subst e2
  rw [List.length_map] at hp
  have pm := pick_perm (V.non, R.sh .non, ([] : List Addr)) (l := ps) hp
  have pf : ((pick (V.non, R.sh .non, ([] : List Addr)) ps is).map (·.2.2)).flatten.Perm ((ps.map (·.2.2)).flatten) := (pm.map _).flatten
  have eq1 : pick V.non (ps.map (·.1)) is = (pick (V.non, R.sh .non, ([] : List Addr)) ps is).map (·.1) := pick_map (fun p : V × R × List Addr => p.1) (V.non, R.sh .non, []) ps is
  have eq2 : pick (Arg.val (.sh .non)) (ps.map fun p => Arg.val p.2.1) is = (pick (V.non, R.sh .non, ([] : List Addr)) ps is).map (fun p => .val p.2.1) := pick_map (fun p : V × R × List Addr => Arg.val p.2.1) (V.non, R.sh .non, []) ps is
  have bar : (fun x => Z x ∨ x ∈ ((pick (V.non, R.sh .non, ([] : List Addr)) ps is).map (·.2.2)).flatten) = fun x => Z x ∨ x ∈ (ps.map (·.2.2)).flatten := by
    funext x
    rw [pf.mem_iff]
  refine ⟨(pick (V.non, R.sh .non, ([] : List Addr)) ps is).map (·.2.2), ?_, ?_, pf.nodup_iff.mpr a.nd, a.sub, a.fr, fun x hx => a.nw x (pf.mem_iff.mp hx), a.mo, a.z0, a.bx, a.nb⟩
  · rw [bar]; exact a.si
  · rw [bar, eq1, eq2]
    exact trip_as fun p hp => h p (pm.mem_iff.mp hp)
theorem evs_plainV {cf : CallF} : ∀ {es : List E} {ρ ρ' : Env} {as : List Arg}, (∀ e ∈ es, plainE e = true) → evs cf es ρ = .ok as ρ' → ∀ x ∈ as, ∃ r, x = Arg.val r
  | [], ρ, ρ', as, _, h => by
    rw [evs] at h
    cases h
    intro x hx
    simp at hx
  | e :: es, ρ, ρ', as, hp, h => by
    rw [evs_plain (hp e List.mem_cons_self)] at h
    cases e1 : ev cf e ρ with
    | bad => rw [e1] at h; cases h
    | exc _ _ _ => rw [e1] at h; cases h
    | ok r ρ1 =>
      rw [e1] at h
      simp only [Out.bind] at h
      cases e2 : evs cf es ρ1 with
      | bad => rw [e2] at h; cases h
      | exc _ _ _ => rw [e2] at h; cases h
      | ok bs ρ2 =>
        rw [e2] at h
        cases h
        intro x hx
        rcases List.mem_cons.mp hx with rfl | hx
        · exact ⟨r, rfl⟩
        · exact evs_plainV (fun y hy => hp y (List.mem_cons_of_mem _ hy)) e2 x hx
/-- a call by names -/
theorem callk_in {f np : Nat} {es : List E} {is : List Nat} {Q : VK} (hl : is.length = np) (hp : ∀ e ∈ es, plainE e = true) (pm : is.Perm (List.range es.length)) (h : tE D (.callk f es is) σ H Q) :
    tAs D es σ H fun vs H1 => spF D.K D.cf D.cv f np (pick .non vs is) H1 Q (fun cls d H' => D.W cls d σ H') := by
  obtain ⟨Z, F, ρ, S, h⟩ := h
  refine ⟨Z, F, ρ, S, ?_⟩
  rw [ev] at h
  cases e1 : evs D.cf es ρ with
  | bad => rw [e1] at h; exact h
  | exc c fs ρ' => rw [e1] at h; exact h
  | ok as ρ1 =>
    rw [e1] at h
    simp only [Out.bind] at h
    intro F1 H1 vs fps a
    split at h
    · have ln := evs_len e1
      obtain ⟨gs, a2⟩ := apo_pick (is := is) a (evs_plainV hp e1) (ln.symm ▸ pm)
      exact call_apo a2 (by simp only [pick, List.length_map]; exact hl) h
    · exact h.elim
end
end
end Ev
end
section
set_option Elab.async false
set_option linter.all false
set_option maxRecDepth 100000
set_option maxHeartbeats 2000000
namespace Ev
open PySem PySem.Spec PyProof.Rows L2
theorem enum_new {v : Value} {ob : Obj} {Hh : Heap → Prop} (B : Begins v ob Hh) :
    Meets (Builtin.«enumerate.__new__» ⟨[.type "enumerate", v], []⟩) (fun _ R u => Hh u.heap ∧ R (.ok (.ret (.ref (u.heap.push ob).objs.size))) { u with heap := (u.heap.push ob).push { cls := .type "enumerate", data := .fields #[.none, .bool false, .ref u.heap.objs.size, rawInt 0, .none, .none] } }) :=
  .of_wp fun prg wo Ar R u h => by
    obtain ⟨hp, g, d, tk, os⟩ := u
    obtain ⟨k1, k2⟩ := h
    have sb := sub_enumerate
    have q1 : ∀ {A' : Around} {E' : Value → Shared → Prop} {Q' : Value → Shared → Prop}, Q' (.ref hp.objs.size) ⟨hp.push ob, g, d, tk, os⟩ → wpAny (model prg wo) A' (pyIter v) Q' E' ⟨hp, g, d, tk, os⟩ := fun q => B.iter prg wo _ _ ⟨hp, g, d, tk, os⟩ _ k1 q
    wp_walk using q1
    refine wpAny_stack_any fun stk => wpAny_pure ?_
    split
    · rename_i c _ _ _ _ _
      cases (c == Value.type "enumerate") <;> (wp_walk using q1; exact ⟨_, rfl, k2⟩)
    · wp_walk using q1
      exact ⟨_, rfl, k2⟩
theorem enum_call {prg : Program} {wo : World} {Ar : Around} {Ex : Value → Shared → Prop} {u : Shared} {v : Value} {ob : Obj} {Hh : Heap → Prop} {Q : Value → Shared → Prop} (B : Begins v ob Hh) (h1 : Hh u.heap)
    (h : ∀ hn, IsEnum hn (u.heap.objs.size + 1) u.heap.objs.size 0 .none → hn.get? u.heap.objs.size = some ob → (∀ b o, u.heap.get? b = some o → hn.get? b = some o) → Q (.ref (u.heap.objs.size + 1)) { u with heap := hn }) :
    wpAny (model prg wo) Ar (call (.type "enumerate") [v]) Q Ex u := by
  refine callType_new F.called_enumerate (by decide) (F.typeCall_enumerate_1 _) (F.newCall_enumerate_1 _) (fun o => F.args_object_init_2 o _) F.entry_enumerate_new (enum_new B) ⟨h1, ?_⟩
  have hz : (u.heap.push ob).objs.size = u.heap.objs.size + 1 := Heap.size_push ..
  show _ ∧ _
  rw [hz]
  have he : IsEnum ((u.heap.push ob).push { cls := .type "enumerate", data := .fields #[.none, .bool false, .ref u.heap.objs.size, rawInt 0, .none, .none] }) (u.heap.objs.size + 1) u.heap.objs.size 0 .none := by
    have := Heap.get?_push_size (u.heap.push ob) (o := { cls := .type "enumerate", data := .fields #[.none, .bool false, .ref u.heap.objs.size, rawInt 0, .none, .none] }) rfl
    rw [hz] at this
    exact this
  exact ⟨⟨_, he, rfl⟩, h _ he (Heap.get?_push_of_some _ (Heap.get?_push_size _ B.free)) fun b o x => Heap.get?_push_of_some _ (Heap.get?_push_of_some _ x)⟩
/-- the tuple at a, each item in a new pair -/
def IteT (K : PySem.W.Frag) (a : Addr) : It :=
  ⟨fun i H => ∃ (xs : List V) (x : V), SqT K H a xs ∧ xs[i]? = some x, fun i H v H' => ∃ T x, v = .ref T ∧ H T = none ∧ H' = upd H T (.tup [.int (i : Nat), x]) ∧ ∀ xs, SqT K H a xs → xs[i]? = some x, fun i H => ∃ xs : List V, SqT K H a xs ∧ xs.length = i⟩
theorem tup_ne {h : Heap} {a it : Addr} {its : Array Value} {i : Nat} (p : h.IsTuple a its) (q : h.IsTupleIter it a i) : a ≠ it := by
  rintro rfl
  obtain ⟨o, e, c, _⟩ := p
  obtain ⟨o', e', c', _⟩ := q
  rw [e] at e'
  cases e'
  rw [c] at c'
  exact absurd c' (by simp)
theorem tup_ne2 {h : Heap} {a e it : Addr} {its : Array Value} {i : Int} {old : Value} (p : h.IsTuple a its) (q : IsEnum h e it i old) : e ≠ a := by
  rintro rfl
  obtain ⟨o, e, c, _⟩ := p
  have q' : h.get? _ = some _ := q
  rw [e] at q'
  cases q'
  exact absurd c (by simp)
theorem turn_enumT {P : Program} {w : World} {K : PySem.W.Frag} {elts : List Expr} {kk : Nat} {tpos : Pos} (a e it : Addr) :
    Turn P w K (.Tuple elts kk tpos) (IteT K a) [e, it] e (fun i h => (∃ old, IsEnum h e it ((i : Nat) : Int) old) ∧ h.IsTupleIter it a i ∧ e ≠ it) where
  mem := List.mem_cons_self
  obj := fun i h st b hb => by
    obtain ⟨⟨old, he⟩, ⟨o, ho, hc, hd⟩, _⟩ := st
    rcases (by simpa using hb : b = e ∨ b = it) with rfl | rfl
    · exact ⟨_, he, fun v q => nomatch q⟩
    · exact ⟨o, ho, fun v q => by rw [hd] at q; cases q⟩
  keep := fun i h h' st k => let ⟨⟨old, he⟩, hi, hne⟩ := st; ⟨⟨old, k e List.mem_cons_self _ he⟩, hi.at fun o q => k it (List.mem_cons_of_mem _ List.mem_cons_self) o q, hne⟩
  item := by
    intro X hP hw hK hc i pins s σ H Ex I hf st hg
    subst hP hw hK
    obtain ⟨⟨old, he⟩, hit, hne⟩ := st
    obtain ⟨xs, x, hq, hx⟩ := hg
    obtain ⟨its, rv, p, hz⟩ := I.tuple hq
    obtain ⟨u, hu, ru⟩ := rv.get hx
    have pt : s.heap.IsTuple a its.toArray := p
    have hel : e < s.heap.objs.size := Heap.lt_size he
    have hil : it < s.heap.objs.size := let ⟨_, q, _⟩ := hit; Heap.lt_size q
    have ilt : i < its.toArray.size := by
      have := (List.getElem?_eq_some_iff.mp hu).1
      simpa using this
    have D := Draws.tuple (prog := X.prog) (w := X.w) (A := X.A.in1) (show X.A.handled = none from I.ok.hd hc) it a (tup_ne pt hit) its.toArray
    refine wpAny_pyNext_enum_itemC D he ⟨hit, pt⟩ ilt hne (by simp only [List.mem_cons, List.not_mem_nil, or_false, not_or]; exact ⟨hne, tup_ne2 pt he⟩) fun y hn tk hP ho hst hT hsz hk => ?_
    have ey : y = u := by
      have h1 : its.toArray[i]? = some y := hP
      rw [List.getElem?_toArray, hu] at h1
      exact (Option.some.inj h1).symm
    subst ey
    refine ⟨_, rfl, wpAny_letOwnedTupleGo_enum (s := { s with heap := hn, toks := tk + 1 }) ho fun h2 he2 sb => ?_⟩
    have hT2 : h2.get? s.heap.objs.size = some { cls := .type "tuple", data := .seq #[.int i tk, y] } := (sb.2 _ (Nat.ne_of_gt hel)).trans hT
    have new : ObjOk X.prog X.w (upd H s.heap.objs.size (.tup [.int (i : Nat), x])) h2 s.heap.objs.size (.tup [.int (i : Nat), x]) := ⟨show 2 ≤ sizeLine by decide, [.int i tk, y], .cons ⟨_, rfl⟩ (.cons ru .nil), ⟨_, hT2, rfl, _, rfl⟩⟩
    have I1 : Inv X pins σ (upd H s.heap.objs.size (.tup [.int (i : Nat), x])) { s with heap := h2, toks := tk + 1 } := I.turnedNew (ch := [e, it]) (fun b ob hb q => (sb.2 b fun z => hb (by simp [z])).trans (hk b ob (fun z => hb (by simp [z])) (fun z => hb (by simp [z])) q)) hf (Nat.le_refl _) new
    refine ⟨.ref s.heap.objs.size, _, I1, rfl, ⟨_, x, rfl, I.hok.fresh (Nat.le_refl _), rfl, fun ys hy => by rw [I.tuple_inj hy hq]; exact hx⟩, ⟨⟨y, ?_⟩, hst.1.at fun o q => (sb.2 it (Ne.symm hne)).trans q, hne⟩, fun b hb => ?_⟩
    · rw [show ((i + 1 : Nat) : Int) = (i : Int) + 1 by omega]
      exact he2
    · have hb' : b < s.heap.objs.size := by
        rcases (by simpa using hb : b = e ∨ b = it) with rfl | rfl
        · exact hel
        · exact hil
      rw [upd_ne (Nat.ne_of_lt hb')]
      exact (hf b hb).1
  done := by
    intro X hP hw hK hc i pins s σ H Ex I hf st hg
    subst hP hw hK
    obtain ⟨⟨old, he⟩, hit, hne⟩ := st
    obtain ⟨xs, hq, hx⟩ := hg
    obtain ⟨its, rv, p, hz⟩ := I.tuple hq
    have pt : s.heap.IsTuple a its.toArray := p
    obtain ⟨f0, f1, f2, f3, f4, f5⟩ := hf it (List.mem_cons_of_mem _ List.mem_cons_self)
    have hl : its.toArray.size = i := by
      have := rv.length
      simp only [List.size_toArray]
      omega
    have D := Draws.tuple (prog := X.prog) (w := X.w) (A := X.A.in1) (show X.A.handled = none from I.ok.hd hc) it a (tup_ne pt hit) its.toArray
    exact wpAny_pyNext_enum_endD D he ⟨hl ▸ hit, pt⟩ fun hn eb => ⟨rfl, I.turned (t' := s.toks) (fun b o hb q => eb b o hb q) f0 f1 f3 f4 f5⟩
  self := fun Ar i s Q Ex st h => let ⟨⟨_, he⟩, _⟩ := st; wpAny_pyIter_enum he h
def iEnumT (K : PySem.W.Frag) (ta : TA) : TI := fun σ H R => ta σ H fun vs H1 => ∃ a xs, vs = [.ref a] ∧ SqT K H1 a xs ∧ R (IteT K a) H1
theorem pi_enumT {X : Cx} {e : Expr} {ta : TA} {p pos tpos : Pos} {elts : List Expr} {kk : Nat} (hg : Gl X "enumerate") (hm : X.mg "enumerate" = none) (ha : PA X [e] ta) (hs : starEach [e] X.env = [(false, eval e X.env)]) :
    PI X (.Tuple elts kk tpos) (.Call (.Name "enumerate" p) [e] [] pos) (iEnumT X.K ta) := by
  refine ⟨fun pins s σ H R I h => Call_ (ld_blt I hg hm boot_enumerate (PyProof.Rows.callWith_type1 (thn (ha.run pos pins s σ H _ I h) fun us s1 ⟨vs, H1, I1, r1, q1⟩ => ?_) hs rfl))⟩
  obtain ⟨a, xs, ex, hq, q⟩ := q1
  subst ex
  cases r1 with
  | cons r rr =>
    cases rr
    cases r
    obtain ⟨its, rv, pt, hz⟩ := I1.tuple hq
    refine enum_call (begins_tuple a its.toArray) (show s1.heap.IsTuple a its.toArray from pt) fun hn he hit hk => wpAny_pyIter_enum he ?_
    refine ⟨s1.heap.objs.size + 1, [s1.heap.objs.size + 1, s1.heap.objs.size], _, _, H1, rfl, I1.kept (t' := s1.toks) hk, turn_enumT a (s1.heap.objs.size + 1) s1.heap.objs.size, ⟨⟨.none, he⟩, ⟨_, hit, rfl, rfl⟩, Nat.succ_ne_self _⟩, fun b hb => ?_, q⟩
    rcases (by simpa using hb : b = s1.heap.objs.size + 1 ∨ b = s1.heap.objs.size) with rfl | rfl
    · exact I1.fpOk (Nat.le_succ _) (I1.hok.fresh (Nat.le_succ _))
    · exact I1.fpOk (Nat.le_refl _) (I1.hok.fresh (Nat.le_refl _))
theorem walk_enumT {K : PySem.W.Frag} {a : Addr} {xs : List V} : Walk (IteT K a) xs.length (fun H => SqT K H a xs) (YPair (fun i => some (.int (i : Nat))) (fun i => xs[i]?)) := by
  refine ⟨fun i _ hi q => ⟨xs, xs[i], q, List.getElem?_eq_getElem hi⟩, fun _ q => ⟨xs, q, rfl⟩, fun i H v H' _ q y => ?_⟩
  obtain ⟨T, x, y1, y2, y3, y4⟩ := y
  exact ⟨T, .int (i : Nat), x, y1, y2, y3, rfl, y4 xs q⟩
end Ev
end
section
set_option Elab.async false
set_option linter.all false
set_option maxRecDepth 100000
set_option maxHeartbeats 1000000
namespace Ev
open PySem PySem.Spec L2
/-- a walk over plain values, wherever the heap goes outside of Zc -/
def WkOk (K : PySem.W.Frag) (Zc : Zn) (H : Hp) (J : It) (xs : List T) : Prop :=
  ∃ G Y, Walk J xs.length G Y ∧ ∀ (Zu : Zn) (Hc : Hp), (∀ b, H b ≠ none → Zu b → Zc b) → (∀ b, Zu b → Hc b ≠ none) → Out' Zu H Hc →
    G Hc ∧ ∀ i x H', Y i Hc x H' → Fresh Hc H' ∧ ∃ t, xs[i]? = some t ∧ Rp K Zu H' x t
theorem Walk.len {J : It} {n m : Nat} {G : Hp → Prop} {Y : Nat → Hp → V → Hp → Prop} (w : L2.Walk J n G Y) (e : n = m) : L2.Walk J m G Y := e ▸ w
section
variable {K : PySem.W.Frag} {Zc : Zn} {H : Hp}
theorem wk_lst {a : Addr} {vs : List V} {ts : List T} (h1 : H a = some (.lst vs)) (n : ¬ Zc a) (hr : Rps K Zc H vs ts) : WkOk K Zc H (Itl K a) ts := by
  refine ⟨_, _, hr.len ▸ walk_list (xs := vs), fun Zu Hc z tz o => ⟨.of (o a _ h1 fun q => n (z a (by rw [h1]; simp) q)), fun i x H' y => ?_⟩⟩
  obtain ⟨rfl, e⟩ := y
  obtain ⟨t, e1, e2⟩ := hr.get' e
  exact ⟨.refl, t, e1, (e2.zn z).keep o⟩
theorem wk_tup {a : Addr} {vs : List V} {ts : List T} (h1 : H a = some (.tup vs)) (n : ¬ Zc a) (hr : Rps K Zc H vs ts) : WkOk K Zc H (Itt K a) ts := by
  refine ⟨_, _, hr.len ▸ walk_tup (xs := vs), fun Zu Hc z tz o => ⟨.of (o a _ h1 fun q => n (z a (by rw [h1]; simp) q)), fun i x H' y => ?_⟩⟩
  obtain ⟨rfl, e⟩ := y
  obtain ⟨t, e1, e2⟩ := hr.get' e
  exact ⟨.refl, t, e1, (e2.zn z).keep o⟩
theorem wk_str {s : List Nat} (hs : okS s = true) : WkOk K Zc H (Its (toS s)) (s.map fun c => .str [c]) := by
  have hl : (s.map fun c => T.str [c]).length = (toS s).cps.size := by simp [toS]
  refine ⟨_, _, hl ▸ walk_str, fun Zu Hc z tz o => ⟨trivial, fun i x H' y => ?_⟩⟩
  obtain ⟨rfl, c, e1, e2⟩ := y
  have e1 : s[i]? = some c := by simpa [toS] using e1
  refine ⟨.refl, .str [c], by simp [e1], ?_⟩
  subst e2
  unfold Rp
  refine ⟨rfl, ?_⟩
  have : c ∈ s := List.mem_of_getElem? e1
  unfold okS at hs ⊢
  simpa using List.all_eq_true.mp hs c this
theorem upTo_get : ∀ {n : Nat} {lo : Int} {i : Nat}, i < n → (upTo lo n)[i]? = some (.int (lo + i))
  | 0, _, _, h => by omega
  | n + 1, lo, 0, _ => by simp [upTo]
  | n + 1, lo, i + 1, h => by
    have := upTo_get (n := n) (lo := lo + 1) (i := i) (by omega)
    simp only [upTo, List.getElem?_cons_succ, this]
    congr 2
    omega
theorem upTo_len : ∀ {n : Nat} {lo : Int}, (upTo lo n).length = n
  | 0, _ => rfl
  | n + 1, lo => by simp [upTo, upTo_len (n := n)]
theorem wk_range {lo : Int} {n : Nat} : WkOk K Zc H (Itr lo n) (upTo lo n) := by
  have w : Walk (Itr lo n) n (fun _ => True) (fun i H x H' => i < n ∧ H' = H ∧ x = .int (lo + i)) :=
    ⟨fun i H h _ => walk_range.goes i H h trivial, fun H _ => walk_range.stops H trivial, fun i H x H' h _ y => ⟨h, walk_range.yields i H x H' h trivial y⟩⟩
  refine ⟨_, _, Walk.len w (upTo_len (n := n) (lo := lo)).symm, fun Zu Hc z tz o => ⟨trivial, fun i x H' y => ?_⟩⟩
  obtain ⟨h, rfl, rfl⟩ := y
  exact ⟨.refl, _, upTo_get h, Rp.int _⟩
theorem enumF_get : ∀ {ts : List T} {k : Int} {i : Nat} {t : T}, ts[i]? = some t → (enumF k ts)[i]? = some (.tup [.int (k + i), t])
  | [], _, _, _, h => by simp at h
  | x :: xs, k, 0, t, h => by
    simp at h
    subst h
    simp [enumF]
  | x :: xs, k, i + 1, t, h => by
    have := enumF_get (ts := xs) (k := k + 1) (i := i) (by simpa using h)
    simp only [enumF, List.getElem?_cons_succ, this]
    congr 3
    congr 1
    omega
theorem enumF_len : ∀ {ts : List T} {k : Int}, (enumF k ts).length = ts.length
  | [], _ => rfl
  | x :: xs, k => by simp [enumF, enumF_len (ts := xs)]
theorem rp_pair {Zu : Zn} {Hc : Hp} {p : Addr} {x y : V} {t u : T} (n : Hc p = none) (tz : ∀ b, Zu b → Hc b ≠ none) (h1 : Rp K Zu Hc x t) (h2 : Rp K Zu Hc y u) : Rp K Zu (upd Hc p (.tup [x, y])) (.ref p) (.tup [t, u]) := by
  unfold Rp
  exact ⟨p, _, rfl, ⟨upd_same, fun q => tz p q n⟩, Rps.keep (Fresh.out (.upd n)) (.cons h1 (.one h2))⟩
theorem wk_enum {a : Addr} {vs : List V} {ts : List T} (h1 : H a = some (.lst vs)) (n : ¬ Zc a) (hr : Rps K Zc H vs ts) : WkOk K Zc H (Ite K a) (enumF 0 ts) := by
  refine ⟨_, _, (show vs.length = (enumF 0 ts).length by rw [enumF_len, hr.len]) ▸ walk_enum (xs := vs), fun Zu Hc z tz o => ⟨.of (o a _ h1 fun q => n (z a (by rw [h1]; simp) q)), fun i x H' y => ?_⟩⟩
  obtain ⟨p, x1, y1, rfl, np, rfl, e1, e2⟩ := y
  cases e1
  obtain ⟨t, g1, g2⟩ := hr.get' e2
  refine ⟨.upd np, _, enumF_get g1, rp_pair np tz ?_ ((g2.zn z).keep o)⟩
  have := Rp.int (K := K) (Z := Zu) (H := Hc) (0 + (i : Int))
  rw [Int.zero_add] at this ⊢
  exact this
theorem wk_enumT {a : Addr} {vs : List V} {ts : List T} (h1 : H a = some (.tup vs)) (n : ¬ Zc a) (hr : Rps K Zc H vs ts) : WkOk K Zc H (IteT K a) (enumF 0 ts) := by
  refine ⟨_, _, (show vs.length = (enumF 0 ts).length by rw [enumF_len, hr.len]) ▸ walk_enumT (xs := vs), fun Zu Hc z tz o => ⟨.of (o a _ h1 fun q => n (z a (by rw [h1]; simp) q)), fun i x H' y => ?_⟩⟩
  obtain ⟨p, x1, y1, rfl, np, rfl, e1, e2⟩ := y
  cases e1
  obtain ⟨t, g1, g2⟩ := hr.get' e2
  refine ⟨.upd np, _, enumF_get g1, rp_pair np tz ?_ ((g2.zn z).keep o)⟩
  have := Rp.int (K := K) (Z := Zu) (H := Hc) (0 + (i : Int))
  rw [Int.zero_add] at this ⊢
  exact this
theorem pairs_get : ∀ {ts us : List T} {i : Nat} {t u : T}, ts[i]? = some t → us[i]? = some u → (pairs ts us)[i]? = some (.tup [t, u])
  | [], _, _, _, _, h, _ => by simp at h
  | _ :: _, [], _, _, _, _, h => by simp at h
  | x :: xs, y :: ys, 0, t, u, h, h2 => by
    simp at h h2
    subst h h2
    simp [pairs]
  | x :: xs, y :: ys, i + 1, t, u, h, h2 => by
    simpa [pairs] using pairs_get (ts := xs) (us := ys) (i := i) (by simpa using h) (by simpa using h2)
theorem pairs_len : ∀ {ts us : List T}, (pairs ts us).length = min ts.length us.length
  | [], _ => by simp [pairs]
  | _ :: _, [] => by simp [pairs]
  | x :: xs, y :: ys => by simp [pairs, pairs_len (ts := xs)]
theorem wk_zip {a b : Addr} {vs ws : List V} {ts us : List T} (h1 : H a = some (.lst vs)) (n1 : ¬ Zc a) (hr : Rps K Zc H vs ts) (h2 : H b = some (.lst ws)) (n2 : ¬ Zc b) (hr2 : Rps K Zc H ws us) : WkOk K Zc H (Itz K a b) (pairs ts us) := by
  refine ⟨_, _, walk_zip (xs := vs) (ys := ws) (show (pairs ts us).length = _ by rw [pairs_len, hr.len, hr2.len]), fun Zu Hc z tz o => ⟨⟨.of (o a _ h1 fun q => n1 (z a (by rw [h1]; simp) q)), .of (o b _ h2 fun q => n2 (z b (by rw [h2]; simp) q))⟩, fun i x H' y => ?_⟩⟩
  obtain ⟨p, x1, y1, rfl, np, rfl, e1, e2⟩ := y
  obtain ⟨t, g1, g2⟩ := hr.get' e1
  obtain ⟨t', g3, g4⟩ := hr2.get' e2
  exact ⟨.upd np, _, pairs_get g1 g3, rp_pair np tz ((g2.zn z).keep o) ((g4.zn z).keep o)⟩
theorem walk_zipT {a b : Addr} {xs ys : List V} {n : Nat} (hn : n = min xs.length ys.length) : Walk (RZ.ItzT K a b) n (fun H => SqT K H a xs ∧ SqT K H b ys) (YPair (fun i => xs[i]?) fun i => ys[i]?) := by
  refine ⟨fun i H h g => ?_, fun H g => ⟨xs, ys, g.1, g.2, by omega⟩, fun i H x H' h g y => ?_⟩
  · exact ⟨xs, ys, xs[i], ys[i], g.1, g.2, by simp, by simp⟩
  · obtain ⟨p, x1, y1, e1, e2, e3, e4, e5⟩ := y
    exact ⟨p, x1, y1, e1, e2, e3, e4 _ g.1, e5 _ g.2⟩
theorem wk_zipT {a b : Addr} {vs ws : List V} {ts us : List T} (h1 : H a = some (.tup vs)) (n1 : ¬ Zc a) (hr : Rps K Zc H vs ts) (h2 : H b = some (.tup ws)) (n2 : ¬ Zc b) (hr2 : Rps K Zc H ws us) : WkOk K Zc H (RZ.ItzT K a b) (pairs ts us) := by
  refine ⟨_, _, walk_zipT (xs := vs) (ys := ws) (show (pairs ts us).length = _ by rw [pairs_len, hr.len, hr2.len]), fun Zu Hc z tz o => ⟨⟨.of (o a _ h1 fun q => n1 (z a (by rw [h1]; simp) q)), .of (o b _ h2 fun q => n2 (z b (by rw [h2]; simp) q))⟩, fun i x H' y => ?_⟩⟩
  obtain ⟨p, x1, y1, rfl, np, rfl, e1, e2⟩ := y
  obtain ⟨t, g1, g2⟩ := hr.get' e1
  obtain ⟨t', g3, g4⟩ := hr2.get' e2
  exact ⟨.upd np, _, pairs_get g1 g3, rp_pair np tz ((g2.zn z).keep o) ((g4.zn z).keep o)⟩
theorem walk_revT {a : Addr} {xs : List V} : Walk (RT.ItvT K a xs.length) xs.length (fun H => SqT K H a xs) (fun i H x H' => H' = H ∧ xs[xs.length - 1 - i]? = some x) := by
  refine ⟨fun i H h g => ⟨h, xs, xs[xs.length - 1 - i], g, by simp⟩, fun H g => Nat.le_refl _, fun i H x H' h g y => ⟨y.1, y.2 _ g⟩⟩
theorem rev_get {α : Type} {ts : List α} {i : Nat} {t : α} (h : i < ts.length) (e : ts[ts.length - 1 - i]? = some t) : ts.reverse[i]? = some t := by
  rw [List.getElem?_reverse h]; exact e
theorem wk_rev {a : Addr} {vs : List V} {ts : List T} (h1 : H a = some (.lst vs)) (n : ¬ Zc a) (hr : Rps K Zc H vs ts) : WkOk K Zc H (Itv K a vs.length) ts.reverse := by
  have w : Walk (Itv K a vs.length) vs.length (fun H => SqL K H a vs) (fun i H x H' => i < vs.length ∧ H' = H ∧ vs[vs.length - 1 - i]? = some x) :=
    ⟨walk_rev.goes, walk_rev.stops, fun i H x H' h g y => ⟨h, walk_rev.yields i H x H' h g y⟩⟩
  refine ⟨_, _, Walk.len w (by rw [List.length_reverse, hr.len]), fun Zu Hc z tz o => ⟨.of (o a _ h1 fun q => n (z a (by rw [h1]; simp) q)), fun i x H' y => ?_⟩⟩
  obtain ⟨h, rfl, e⟩ := y
  obtain ⟨t, e1, e2⟩ := hr.get' e
  rw [hr.len] at h e1
  exact ⟨.refl, t, rev_get h e1, (e2.zn z).keep o⟩
theorem wk_revT {a : Addr} {vs : List V} {ts : List T} (h1 : H a = some (.tup vs)) (n : ¬ Zc a) (hr : Rps K Zc H vs ts) : WkOk K Zc H (RT.ItvT K a vs.length) ts.reverse := by
  have w : Walk (RT.ItvT K a vs.length) vs.length (fun H => SqT K H a vs) (fun i H x H' => i < vs.length ∧ H' = H ∧ vs[vs.length - 1 - i]? = some x) :=
    ⟨walk_revT.goes, walk_revT.stops, fun i H x H' h g y => ⟨h, walk_revT.yields i H x H' h g y⟩⟩
  refine ⟨_, _, Walk.len w (by rw [List.length_reverse, hr.len]), fun Zu Hc z tz o => ⟨.of (o a _ h1 fun q => n (z a (by rw [h1]; simp) q)), fun i x H' y => ?_⟩⟩
  obtain ⟨h, rfl, e⟩ := y
  obtain ⟨t, e1, e2⟩ := hr.get' e
  rw [hr.len] at h e1
  exact ⟨.refl, t, rev_get h e1, (e2.zn z).keep o⟩
end
def wI (D : Wd) (k : ItK) (x : Out (List Arg)) (Z : Zn) (F : Nat → List Addr) (σ : L2.St) (ρ : Env) (H : Hp) (R : It → Hp → Prop) : Prop := match x with
  | .ok as ρ1 => (match argTs ρ1 as with
    | some ts => (match walk k ts with
      | some xs => ∀ F1 H1 J, SPo D.K Z F σ ρ H F1 ρ1 H1 → WkOk D.K (Zs Z F1) H1 J xs → R J H1
      | none => False)
    | none => False)
  | .exc c fs ρ' => XPo D Z F σ ρ H c fs ρ'
  | .bad => False
def tI (D : Wd) (k : ItK) (es : List E) : TI := fun σ H R => ∃ Z F ρ, SI D.K Z F σ ρ H ∧ wI D k (evs D.cf es ρ) Z F σ ρ H R
/-- no bare look among them -/
def plains : List E → Bool
  | [] => true
  | e :: es => plainE e && plains es
/-- values alone -/
def valsA : List Arg → Option (List R)
  | [] => some []
  | .val r :: as => (valsA as).map (r :: ·)
  | _ => none
section
variable {D : Wd} {Z : Zn} {F F' : Nat → List Addr} {σ : L2.St} {ρ ρ' : Env} {H H' : Hp}
theorem evs_vals {cf : CallF} : ∀ {es : List E} {ρ ρ' : Env} {as : List Arg}, plains es = true → evs cf es ρ = .ok as ρ' → ∃ rs, valsA as = some rs
  | [], _, _, _, _, h => by
    rw [evs] at h
    cases h
    exact ⟨[], rfl⟩
  | e :: es, ρ, ρ', as, hp, h => by
    simp only [plains, Bool.and_eq_true] at hp
    rw [evs_plain hp.1] at h
    cases q0 : ev cf e ρ with
    | ok r ρ1 =>
      rw [q0] at h
      simp only [Out.bind] at h
      cases q : evs cf es ρ1 with
      | ok bs ρ2 =>
        rw [q] at h
        cases h
        obtain ⟨rs, h1⟩ := evs_vals hp.2 q
        exact ⟨r :: rs, by simp [valsA, h1]⟩
      | exc c fs ρ2 => rw [q] at h; cases h
      | bad => rw [q] at h; cases h
    | exc c fs ρ2 => rw [q0] at h; cases h
    | bad => rw [q0] at h; cases h
theorem valsA_len : ∀ {as : List Arg} {rs : List R}, valsA as = some rs → rs.length = as.length
  | [], _, e => by
    simp only [valsA, Option.some.injEq] at e
    subst e
    rfl
  | .val r :: as, _, e => by
    simp only [valsA] at e
    cases q : valsA as with
    | none => rw [q] at e; cases e
    | some rs =>
      rw [q] at e
      simp only [Option.map_some, Option.some.injEq] at e
      subst e
      simp [valsA_len q]
  | .slot i :: as, _, e => by simp only [valsA] at e; cases e
  | .star i :: as, _, e => by simp only [valsA] at e; cases e
theorem AsAt.rps {K : PySem.W.Frag} {Z Zb : Zn} {F : Nat → List Addr} {σ : L2.St} {ρ : Env} {H : Hp} (hz : ∀ b, Z b → Zb b) :
    ∀ {as : List Arg} {vs : List V} {fps : List (List Addr)} {rs : List R}, (∀ b ∈ fps.flatten, ¬ Zs Z F b) → AsAt K (Zs Zb F) σ H vs as fps → valsA as = some rs → argTs ρ as = some (rs.map R.t) ∧ Rps K (Zs Z F) H vs (rs.map R.t)
  | [], _, _, _, _, h, e => by
    simp only [valsA, Option.some.injEq] at e
    subst e
    rw [h.1]
    exact ⟨rfl, .nil⟩
  | .val r :: as, _, _, _, n, h, e => by
    obtain ⟨v, ws, fp, gs, rfl, rfl, h1, h2⟩ := h
    simp only [valsA] at e
    cases q : valsA as with
    | none => rw [q] at e; cases e
    | some rs =>
      rw [q] at e
      simp only [Option.map_some, Option.some.injEq] at e
      subst e
      obtain ⟨k1, k2⟩ := AsAt.rps (ρ := ρ) hz (fun b hb => n b (by rw [List.flatten_cons]; exact List.mem_append_right _ hb)) h2 q
      refine ⟨by simp [argTs, Arg.t, k1], .cons ?_ k2⟩
      exact (h1.zn fun b _ q => q.imp (hz b) id).share fun b hb => n b (by simp [hb])
  | .slot i :: as, _, _, _, _, _, e => by simp only [valsA] at e; cases e
  | .star i :: as, _, _, _, _, _, e => by simp only [valsA] at e; cases e
theorem APo.rps {K : PySem.W.Frag} {vs : List V} {as : List Arg} {fps : List (List Addr)} {ts : List T} {rs : List R} (a : APo K Z F σ ρ H F' ρ' H' vs as fps) (hv : valsA as = some rs) (e : argTs ρ' as = some ts) : Rps K (Zs Z F') H' vs ts := by
  obtain ⟨k1, k2⟩ := AsAt.rps (ρ := ρ') (Z := Z) (fun b q => .inl q) (fun b hb q => by
    rcases q with q | ⟨i, q⟩
    · exact a.z0 b q (a.nw b hb)
    · exact a.si.zf i b q (.inr hb)) a.as_ hv
  rw [e] at k1
  cases k1
  exact k2
theorem APo.vws {K : PySem.W.Frag} {vs : List V} {as : List Arg} {fps : List (List Addr)} {ts : List T} (a : APo K Z F σ ρ H F' ρ' H' vs as fps) (e : argTs ρ' as = some ts) : Vws K (Zs Z F') H' vs ts :=
  AsAt.view a.si (fun b q => .inl q) (fun b hb q => by
    rcases q with q | ⟨i, q⟩
    · exact a.z0 b q (a.nw b hb)
    · exact a.si.zf i b q (.inr hb)) a.as_ e
theorem Rps.uno {K : PySem.W.Frag} {Z : Zn} {H : Hp} {vs : List V} {t : T} (h : Rps K Z H vs [t]) : ∃ v, vs = [v] ∧ Rp K Z H v t := by
  obtain ⟨v, r, rfl, h1, h2⟩ := h.uncons
  rw [h2.nil']
  exact ⟨v, rfl, h1⟩
theorem Rps.duo {K : PySem.W.Frag} {Z : Zn} {H : Hp} {vs : List V} {t u : T} (h : Rps K Z H vs [t, u]) : ∃ v w, vs = [v, w] ∧ Rp K Z H v t ∧ Rp K Z H w u := by
  obtain ⟨v, r, rfl, h1, h2⟩ := h.uncons
  obtain ⟨w, rfl, h3⟩ := h2.uno
  exact ⟨v, w, rfl, h1, h3⟩
theorem Rp.tup' {K : PySem.W.Frag} {Z : Zn} {H : Hp} {v : V} {ts : List T} (h : Rp K Z H v (.tup ts)) : ∃ a vs, v = .ref a ∧ (H a = some (.tup vs) ∧ ¬ Z a) ∧ Rps K Z H vs ts := by
  unfold Rp at h; exact h
theorem Rp.lst' {K : PySem.W.Frag} {Z : Zn} {H : Hp} {v : V} {ts : List T} (h : Rp K Z H v (.lst ts)) : ∃ a vs, v = .ref a ∧ (H a = some (.lst vs) ∧ ¬ Z a) ∧ Rps K Z H vs ts := by
  unfold Rp at h; exact h
theorem Rp.str' {K : PySem.W.Frag} {Z : Zn} {H : Hp} {v : V} {s : List Nat} (h : Rp K Z H v (.str s)) : v = .str (toS s) ∧ okS s = true := by
  unfold Rp at h; exact h
/-- what the operands are, when the iterable is read -/
theorem tI_open {k : ItK} {es : List E} {R : It → Hp → Prop} (h : tI D k es σ H R) :
    (∃ ts xs, walk k ts = some xs ∧ tAs D es σ H fun vs H1 => ∃ Z1, Vws D.K Z1 H1 vs ts ∧ (plains es = true → Rps D.K Z1 H1 vs ts ∧ ts.length = es.length) ∧ ∀ J, WkOk D.K Z1 H1 J xs → R J H1) ∨ ∀ Q, tAs D es σ H Q := by
  obtain ⟨Z, F, ρ, S, h⟩ := h
  cases e1 : evs D.cf es ρ with
  | bad => rw [e1] at h; exact h.elim
  | exc c fs ρ' => rw [e1] at h; exact .inr fun Q => ⟨Z, F, ρ, S, by rw [e1]; exact h⟩
  | ok as ρ1 =>
    rw [e1] at h
    simp only [wI] at h
    cases e2 : argTs ρ1 as with
    | none => rw [e2] at h; exact h.elim
    | some ts =>
      rw [e2] at h
      dsimp only at h
      cases e3 : walk k ts with
      | none => rw [e3] at h; exact h.elim
      | some xs =>
        rw [e3] at h
        refine .inl ⟨ts, xs, e3, Z, F, ρ, S, ?_⟩
        rw [e1]
        intro F1 H1 vs fps a
        refine ⟨Zs Z F1, a.vws e2, fun hp => ?_, fun J w => h F1 H1 J a.spo w⟩
        obtain ⟨rs, hv⟩ := evs_vals hp e1
        refine ⟨a.rps hv e2, ?_⟩
        have h1 := (AsAt.rps (ρ := ρ1) (Z := Z) (fun b q => .inl q) (fun b hb q => by
          rcases q with q | ⟨i, q⟩
          · exact a.z0 b q (a.nw b hb)
          · exact a.si.zf i b q (.inr hb)) a.as_ hv).1
        rw [e2] at h1
        cases h1
        rw [List.length_map, ← evs_len e1]
        exact valsA_len hv
end
section
variable {X : Cx} {D : Wd} {tg iter : Expr}
theorem tI_one {k : ItK} {e : E} (hp : plainE e = true) {σ : L2.St} {H : Hp} {R : It → Hp → Prop} (h : tI D k [e] σ H R) :
    (∃ t xs, walk k [t] = some xs ∧ tE D e σ H fun v H1 => ∃ Z1, Rp D.K Z1 H1 v t ∧ ∀ J, WkOk D.K Z1 H1 J xs → R J H1) ∨ ∀ Q, tE D e σ H Q := by
  obtain ⟨Z, F, ρ, S, h⟩ := h
  rw [evs_plain hp] at h
  cases e1 : ev D.cf e ρ with
  | bad => rw [e1] at h; exact h.elim
  | exc c fs ρ' => rw [e1] at h; exact .inr fun Q => ⟨Z, F, ρ, S, by rw [e1]; exact h⟩
  | ok r ρ1 =>
    rw [e1] at h
    simp only [Out.bind, evs] at h
    have ha : argTs ρ1 [.val r] = some [r.t] := by simp [argTs, Arg.t]
    simp only [wI, ha] at h
    cases e3 : walk k [r.t] with
    | none => rw [e3] at h; exact h.elim
    | some xs =>
      rw [e3] at h
      refine .inl ⟨r.t, xs, e3, Z, F, ρ, S, ?_⟩
      rw [e1]
      intro F1 H1 v fp a
      exact ⟨Zs Z F1, a.shr, fun J w => h F1 H1 J a.spo w⟩
theorem PI.cases {w : TI} (h : ∀ σ H R, w σ H R → ∃ w', PI X tg iter w' ∧ w' σ H R) : PI X tg iter w :=
  ⟨fun pins s σ H R i q => let ⟨_, p, q⟩ := h σ H R q; p.run pins s σ H R i q⟩
theorem pi_seq {e : E} (hk : X.K = D.K) (hp : plainE e = true) (h : PE X iter (tE D e)) : PI X tg iter (tI D .seq [e]) := by
  refine PI.cases fun σ H R q => ?_
  rcases tI_one hp q with ⟨t, xs, e3, q⟩ | q
  · simp only [walk] at e3
    cases t with
    | tup ts =>
      cases e3
      refine ⟨_, pi_tup h, q.mono fun v H1 ⟨Z1, r, w⟩ => ?_⟩
      obtain ⟨a, vs, e, ⟨h1, n1⟩, h2⟩ := r.tup'
      exact ⟨a, e, ⟨vs, .of h1⟩, hk ▸ w _ (wk_tup h1 n1 h2)⟩
    | lst ts =>
      cases e3
      refine ⟨_, pi_list h, q.mono fun v H1 ⟨Z1, r, w⟩ => ?_⟩
      obtain ⟨a, vs, e, ⟨h1, n1⟩, h2⟩ := r.lst'
      exact ⟨a, e, ⟨vs, .of h1⟩, hk ▸ w _ (wk_lst h1 n1 h2)⟩
    | str s =>
      cases e3
      refine ⟨_, pi_str h, q.mono fun v H1 ⟨Z1, r, w⟩ => ?_⟩
      obtain ⟨e, hs⟩ := r.str'
      exact ⟨_, e, w _ (wk_str hs)⟩
    | non => cases e3
    | bl b => cases e3
    | int i => cases e3
    | dct ks us => cases e3
    | fz ns => cases e3
    | err c fs => cases e3
  · exact ⟨_, pi_tup h, q _⟩
theorem tA_mono {es : List E} {σ : L2.St} {H : Hp} {Q Q' : List V → Hp → Prop} (h : tAs D es σ H Q) (m : ∀ v H', Q v H' → Q' v H') : tAs D es σ H Q' := by
  obtain ⟨Z, F, ρ, S, h⟩ := h
  exact ⟨Z, F, ρ, S, h.mono m⟩
theorem inRange_iff {i : Int} (h : inRange i = true) : -(2 ^ 62) ≤ i ∧ i < 2 ^ 62 := by
  unfold inRange at h
  exact of_decide_eq_true h
theorem Rps.ints1 {K : PySem.W.Frag} {Z : Zn} {H : Hp} {vs : List V} {i : Int} (h : Rps K Z H vs [.int i]) : vs = [.int i] := by
  obtain ⟨v, e, r⟩ := h.uno
  unfold Rp at r
  rw [e, r]
theorem Rps.ints2 {K : PySem.W.Frag} {Z : Zn} {H : Hp} {vs : List V} {i j : Int} (h : Rps K Z H vs [.int i, .int j]) : vs = [.int i, .int j] := by
  obtain ⟨v, w, e, r, r2⟩ := h.duo
  unfold Rp at r r2
  rw [e, r, r2]
theorem pi_rng1 {a : Expr} {e : E} {p pos : Pos} (hg : Gl X "range") (hm : X.mg "range" = none) (hp : plainE e = true) (hs : starEach [a] X.env = [(false, eval a X.env)]) (h : PA X [a] (tAs D [e])) : PI X tg (.Call (.Name "range" p) [a] [] pos) (tI D .range [e]) := by
  refine PI.cases fun σ H R q => ⟨_, pi_range1 hg hm h hs, ?_⟩
  rcases tI_open q with ⟨ts, xs, e3, q⟩ | q
  · refine tA_mono q fun vs H1 ⟨Z1, _, k1, w⟩ => ?_
    obtain ⟨k1, k2⟩ := k1 (by simp [plains, hp])
    match ts, k2, k1, e3 with
    | [.int n], _, k1, e3 =>
      simp only [walk] at e3
      split at e3
      · rename_i hr
        cases e3
        exact ⟨n, k1.ints1, (inRange_iff hr).1, (inRange_iff hr).2, w _ wk_range⟩
      · cases e3
    | [.non], _, _, e3 => simp [walk] at e3
    | [.bl _], _, _, e3 => simp [walk] at e3
    | [.str _], _, _, e3 => simp [walk] at e3
    | [.tup _], _, _, e3 => simp [walk] at e3
    | [.lst _], _, _, e3 => simp [walk] at e3
    | [.dct _ _], _, _, e3 => simp [walk] at e3
    | [.fz _], _, _, e3 => simp [walk] at e3
  · exact q _
theorem walk_range2 {t u : T} {xs : List T} (e : walk .range [t, u] = some xs) : ∃ a b, t = .int a ∧ u = .int b ∧ inRange a = true ∧ inRange b = true ∧ xs = upTo a (b - a).toNat := by
  cases t <;> cases u <;> simp [walk] at e
  exact ⟨_, _, rfl, rfl, e.1.1, e.1.2, e.2.symm⟩
theorem pi_rng2 {a b : Expr} {e f : E} {p pos : Pos} (hg : Gl X "range") (hm : X.mg "range" = none) (hp : plains [e, f] = true) (hs : starEach [a, b] X.env = [(false, eval a X.env), (false, eval b X.env)]) (hs2 : starEach [b] X.env = [(false, eval b X.env)]) (h : PA X [a, b] (tAs D [e, f])) : PI X tg (.Call (.Name "range" p) [a, b] [] pos) (tI D .range [e, f]) := by
  refine PI.cases fun σ H R q => ⟨_, pi_range2 hg hm h hs hs2, ?_⟩
  rcases tI_open q with ⟨ts, xs, e3, q⟩ | q
  · refine tA_mono q fun vs H1 ⟨Z1, _, k1, w⟩ => ?_
    obtain ⟨k1, k2⟩ := k1 hp
    match ts, k2, k1, e3 with
    | [t, u], _, k1, e3 =>
      obtain ⟨i, j, rfl, rfl, r1, r2, rfl⟩ := walk_range2 e3
      exact ⟨i, j, k1.ints2, ⟨(inRange_iff r1).1, (inRange_iff r1).2, (inRange_iff r2).1, (inRange_iff r2).2⟩, w _ wk_range⟩
  · exact q _
theorem walk_enum1 {t : T} {xs : List T} (e : walk .enum [t] = some xs) : ∃ ts, (t = .lst ts ∨ t = .tup ts) ∧ xs = enumF 0 ts := by
  cases t <;> simp [walk] at e
  · exact ⟨_, .inr rfl, e.symm⟩
  · exact ⟨_, .inl rfl, e.symm⟩
theorem pi_enu {a : Expr} {e : E} {p pos tpos : Pos} {elts : List Expr} {kk : Nat} (hk : X.K = D.K) (hg : Gl X "enumerate") (hm : X.mg "enumerate" = none) (hp : plains [e] = true) (hs : starEach [a] X.env = [(false, eval a X.env)]) (h : PA X [a] (tAs D [e])) : PI X (.Tuple elts kk tpos) (.Call (.Name "enumerate" p) [a] [] pos) (tI D .enum [e]) := by
  refine PI.cases fun σ H R q => ?_
  rcases tI_open q with ⟨ts, xs, e3, q⟩ | q
  · match ts, e3 with
    | [], e3 => simp [walk] at e3
    | _ :: _ :: _, e3 =>
      refine ⟨_, pi_enum hg hm h hs, ?_⟩
      refine tA_mono q fun vs H1 ⟨Z1, _, k1, w⟩ => ?_
      obtain ⟨_, k2⟩ := k1 hp
      simp at k2
    | [t], e3 =>
      obtain ⟨us, ht, rfl⟩ := walk_enum1 e3
      rcases ht with rfl | rfl
      · refine ⟨_, pi_enum hg hm h hs, ?_⟩
        refine tA_mono q fun vs H1 ⟨Z1, _, k1, w⟩ => ?_
        obtain ⟨k1, k2⟩ := k1 hp
        obtain ⟨v, rfl, r⟩ := k1.uno
        obtain ⟨b, ws, rfl, ⟨h1, n1⟩, h2⟩ := r.lst'
        exact ⟨b, ws, rfl, .of h1, hk ▸ w _ (wk_enum h1 n1 h2)⟩
      · refine ⟨_, pi_enumT hg hm h hs, ?_⟩
        refine tA_mono q fun vs H1 ⟨Z1, _, k1, w⟩ => ?_
        obtain ⟨k1, k2⟩ := k1 hp
        obtain ⟨v, rfl, r⟩ := k1.uno
        obtain ⟨b, ws, rfl, ⟨h1, n1⟩, h2⟩ := r.tup'
        exact ⟨b, ws, rfl, .of h1, hk ▸ w _ (wk_enumT h1 n1 h2)⟩
  · exact ⟨_, pi_enum hg hm h hs, q _⟩
theorem walk_zip2 {t u : T} {xs : List T} (e : walk .zip [t, u] = some xs) : ∃ ts us, ((t = .lst ts ∧ u = .lst us) ∨ (t = .tup ts ∧ u = .tup us)) ∧ xs = pairs ts us := by
  cases t <;> cases u <;> simp [walk] at e
  · exact ⟨_, _, .inr ⟨rfl, rfl⟩, e.symm⟩
  · exact ⟨_, _, .inl ⟨rfl, rfl⟩, e.symm⟩
theorem pi_zi {a b : Expr} {e f : E} {p pos tpos : Pos} {elts : List Expr} {kk : Nat} (hk : X.K = D.K) (hg : Gl X "zip") (hm : X.mg "zip" = none) (hp : plains [e, f] = true) (hs : starEach [a, b] X.env = (false, eval a X.env) :: starEach [b] X.env)
    (hs2 : ((backTo pos (starEach [b] X.env)).any fun x => x.1) = false) (h : PA X [a, b] (tAs D [e, f])) : PI X (.Tuple elts kk tpos) (.Call (.Name "zip" p) [a, b] [] pos) (tI D .zip [e, f]) := by
  refine PI.cases fun σ H R q => ⟨_, RZ.pi_zipA hg hm h hs hs2, ?_⟩
  rcases tI_open q with ⟨ts, xs, e3, q⟩ | q
  · refine tA_mono q fun vs H1 ⟨Z1, _, k1, w⟩ => ?_
    obtain ⟨k1, k2⟩ := k1 hp
    match ts, k2, k1, e3 with
    | [t, u], _, k1, e3 =>
      obtain ⟨us, vs', h, rfl⟩ := walk_zip2 e3
      obtain ⟨v, v2, rfl, r, r2⟩ := k1.duo
      rcases h with ⟨rfl, rfl⟩ | ⟨rfl, rfl⟩
      · obtain ⟨b, ws, rfl, ⟨h1, n1⟩, h2⟩ := r.lst'
        obtain ⟨b', ws', rfl, ⟨h1', n1'⟩, h2'⟩ := r2.lst'
        exact ⟨b, b', ws, ws', rfl, .inl ⟨.of h1, .of h1', hk ▸ w _ (wk_zip h1 n1 h2 h1' n1' h2')⟩⟩
      · obtain ⟨b, ws, rfl, ⟨h1, n1⟩, h2⟩ := r.tup'
        obtain ⟨b', ws', rfl, ⟨h1', n1'⟩, h2'⟩ := r2.tup'
        exact ⟨b, b', ws, ws', rfl, .inr ⟨.of h1, .of h1', hk ▸ w _ (wk_zipT h1 n1 h2 h1' n1' h2')⟩⟩
  · exact q _
theorem pi_re {a : Expr} {e : E} {p pos : Pos} (hk : X.K = D.K) (hg : Gl X "reversed") (hm : X.mg "reversed" = none) (hp : plainE e = true) (hs : starEach [a] X.env = (false, eval a X.env) :: starEach [] X.env) (h : PE X a (tE D e)) : PI X tg (.Call (.Name "reversed" p) [a] [] pos) (tI D .rev [e]) := by
  refine PI.cases fun σ H R q => ⟨_, RT.pi_revA hg hm h hs, ?_⟩
  rcases tI_one hp q with ⟨t, xs, e3, q⟩ | q
  · refine q.mono fun v H1 ⟨Z1, r, w⟩ => ?_
    cases t <;> simp [walk] at e3
    · obtain ⟨b, ws, rfl, ⟨h1, n1⟩, h2⟩ := r.tup'
      exact ⟨b, ws, rfl, .inr ⟨.of h1, hk ▸ w _ (e3 ▸ wk_revT h1 n1 h2)⟩⟩
    · obtain ⟨b, ws, rfl, ⟨h1, n1⟩, h2⟩ := r.lst'
      exact ⟨b, ws, rfl, .inl ⟨.of h1, hk ▸ w _ (e3 ▸ wk_rev h1 n1 h2)⟩⟩
  · exact q _
end
end Ev
end
section
set_option Elab.async false
set_option linter.all false
set_option maxRecDepth 100000
set_option maxHeartbeats 1000000
namespace Ev
open PySem PySem.Spec L2
mutual
def gP (K : PySem.W.Frag) : Pat → TG
  | .v i => gName i
  | .o i => gName i
  | .t ps => fun v σ H Q => gTup K ps.length (gPs K ps) v σ H Q ∨ gLst K ps.length (gPs K ps) v σ H Q
def gPs (K : PySem.W.Frag) : List Pat → TGs
  | [] => gNil
  | p :: ps => gCons (gP K p) (gPs K ps)
end
mutual
def patIn (own : List Nat) : Pat → Bool
  | .v i => own.any (Nat.beq i)
  | .o i => own.any (Nat.beq i)
  | .t ps => patsIn own ps
def patsIn (own : List Nat) : List Pat → Bool
  | [] => true
  | p :: ps => patIn own p && patsIn own ps
end
/-- slots that a def lends stay -/
structure BX (F : Nat → List Addr) (ρ : Env) (F' : Nat → List Addr) (ρ' : Env) : Prop where
  bx : ∀ (i : Nat) (ts : List T), ρ[i]? = some (some (R.box ts)) → F' i = F i ∧ ∃ ts', ρ'[i]? = some (some (R.box ts'))
  nb : ∀ (i : Nat) (ts : List T), ρ'[i]? = some (some (R.box ts)) → ∃ ts', ρ[i]? = some (some (R.box ts'))
theorem BX.refl {F : Nat → List Addr} {ρ : Env} : BX F ρ F ρ := ⟨fun _ ts e => ⟨rfl, ts, e⟩, fun _ ts e => ⟨ts, e⟩⟩
theorem BX.trans {F F' F2 : Nat → List Addr} {ρ ρ' ρ2 : Env} (a : BX F ρ F' ρ') (b : BX F' ρ' F2 ρ2) : BX F ρ F2 ρ2 :=
  ⟨fun i ts e => by
    obtain ⟨e1, ts', e2⟩ := a.bx i ts e
    obtain ⟨e3, e4⟩ := b.bx i ts' e2
    exact ⟨e3.trans e1, e4⟩, fun i ts e => by
    obtain ⟨ts', e2⟩ := b.nb i ts e
    exact a.nb i ts' e2⟩
section
variable {K : PySem.W.Frag} {Z Z1 : Zn} {F F' F0 : Nat → List Addr} {σ σ' : L2.St} {ρ ρ' ρ0 : Env} {H H' H0 : Hp} {v : V} {r : R} {fp : List Addr}
def fset (F : Nat → List Addr) (i : Nat) (fp : List Addr) : Nat → List Addr := fun j => if j = i then fp else F j
theorem fset_self {i : Nat} : fset F i fp i = fp := by simp [fset]
theorem fset_ne {i j : Nat} (h : j ≠ i) : fset F i fp j = F j := by simp [fset, h]
/-- a value goes to a slot, with what it owns -/
theorem si_set (S : SI K (fun a => Z a ∨ a ∈ fp) F σ ρ H) (hr : Rr K (Zs (fun a => Z a ∨ a ∈ fp) F) H v r fp) (nd : fp.Nodup) (zf : ∀ a ∈ fp, ¬ Z a) {i : Nat} (hi : i < ρ.length) : SI K Z (fset F i fp) (σ.set i (some v)) (ρ.set i (some r)) H := by
  have zz : ∀ b, Zs Z (fset F i fp) b → Zs (fun a => Z a ∨ a ∈ fp) F b := fun b q => by
    rcases q with q | ⟨j, q⟩
    · exact .inl (.inl q)
    · by_cases e : j = i
      · subst e
        rw [fset_self] at q
        exact .inl (.inr q)
      · rw [fset_ne e] at q
        exact .inr ⟨j, q⟩
  refine ⟨by simp [S.len], fun a h => S.tr a (.inl h), fun j r' hj => ?_, fun j hj => ?_, fun j => ?_, fun j k a h1 h2 => ?_, fun j a h q => ?_⟩
  · by_cases e : j = i
    · subst e
      rw [List.getElem?_set_self hi] at hj
      cases hj
      exact ⟨v, by rw [List.getElem?_set_self (S.len ▸ hi)], by rw [fset_self]; exact hr.zn fun b _ q => zz b q⟩
    · rw [List.getElem?_set_ne (Ne.symm e)] at hj
      obtain ⟨w, e1, e2⟩ := S.at_ j r' hj
      exact ⟨w, by rw [List.getElem?_set_ne (Ne.symm e)]; exact e1, by rw [fset_ne e]; exact e2.zn fun b _ q => zz b q⟩
  · by_cases e : j = i
    · subst e
      exact absurd (List.getElem?_set_self hi) (hj r)
    · rw [fset_ne e]
      exact S.no j fun r' q => hj r' (by rw [List.getElem?_set_ne (Ne.symm e)]; exact q)
  · by_cases e : j = i
    · subst e; rw [fset_self]; exact nd
    · rw [fset_ne e]; exact S.nd j
  · by_cases e1 : j = i <;> by_cases e2 : k = i
    · rw [e1, e2]
    · subst e1
      rw [fset_self] at h1
      rw [fset_ne e2] at h2
      exact absurd (.inr h1) (S.zf k a h2)
    · subst e2
      rw [fset_self] at h2
      rw [fset_ne e1] at h1
      exact absurd (.inr h2) (S.zf j a h1)
    · rw [fset_ne e1] at h1
      rw [fset_ne e2] at h2
      exact S.dj j k a h1 h2
  · by_cases e : j = i
    · subst e
      rw [fset_self] at h
      exact zf a h q
    · rw [fset_ne e] at h
      exact S.zf j a h (.inl q)
theorem put1_some {i : Nat} (h : put1 ρ i r = some ρ') : i < ρ.length ∧ ρ' = ρ.set i (some r) ∧ r.isBox = false ∧ ∀ ts, ρ[i]? ≠ some (some (R.box ts)) := by
  unfold put1 at h
  split at h
  · cases h
  · rename_i x n e
    split at h
    · cases h
    · rename_i hb
      cases h
      refine ⟨(List.getElem?_eq_some_iff.mp e).1, rfl, by simpa using hb, fun ts q => ?_⟩
      rw [e] at q
      cases q
      exact n ts rfl
  · cases h
theorem BX.put {i : Nat} (hn : ∀ ts, ρ[i]? ≠ some (some (R.box ts))) (hb : r.isBox = false) : BX F ρ (fset F i fp) (ρ.set i (some r)) := by
  refine ⟨fun j ts e => ?_, fun j ts e => ?_⟩
  · have : j ≠ i := fun q => by subst q; exact hn ts e
    exact ⟨fset_ne this, ts, by rw [List.getElem?_set_ne (Ne.symm this)]; exact e⟩
  · by_cases q : j = i
    · subst q
      have hl : j < ρ.length := by
        have := (List.getElem?_eq_some_iff.mp e).1
        simpa using this
      rw [List.getElem?_set_self hl] at e
      cases e
      cases hb
    · exact ⟨ts, by rw [List.getElem?_set_ne (Ne.symm q)] at e; exact e⟩
/-- behind a store of shared things -/
structure PutPo (K : PySem.W.Frag) (Z : Zn) (own : Nat → Prop) (F : Nat → List Addr) (σ : L2.St) (ρ : Env) (H : Hp) (F' : Nat → List Addr) (σ' : L2.St) (ρ' : Env) : Prop where
  si : SI K Z F' σ' ρ' H
  sub : ∀ i a, a ∈ F' i → a ∈ F i
  bx : BX F ρ F' ρ'
  len : σ'.length = σ.length
  ot : ∀ j, ¬ own j → σ'[j]? = σ[j]?
  bs : ∀ (i : Nat) (ts : List T), ρ[i]? = some (some (R.box ts)) → σ'[i]? = σ[i]?
theorem PutPo.refl {own : Nat → Prop} (S : SI K Z F σ ρ H) : PutPo K Z own F σ ρ H F σ ρ := ⟨S, fun _ _ h => h, .refl, rfl, fun _ _ => rfl, fun _ _ _ => rfl⟩
theorem PutPo.trans {own : Nat → Prop} {F2 : Nat → List Addr} {σ2 : L2.St} {ρ2 : Env} (a : PutPo K Z own F σ ρ H F' σ' ρ') (b : PutPo K Z own F' σ' ρ' H F2 σ2 ρ2) : PutPo K Z own F σ ρ H F2 σ2 ρ2 :=
  ⟨b.si, fun i x h => a.sub i x (b.sub i x h), a.bx.trans b.bx, b.len.trans a.len, fun j n => (b.ot j n).trans (a.ot j n), fun i ts e => let ⟨_, ts', e2⟩ := a.bx.bx i ts e; (b.bs i ts' e2).trans (a.bs i ts e)⟩
theorem put1_po {own : Nat → Prop} {t : T} {i : Nat} (ho : own i) (S : SI K Z F σ ρ H) (hr : Rp K (Zs Z F) H v t) (h : put1 ρ i (.sh t) = some ρ') : PutPo K Z own F σ ρ H (fset F i []) (σ.set i (some v)) ρ' := by
  obtain ⟨h1, rfl, h3, h4⟩ := put1_some h
  refine ⟨si_set (fp := []) (r := .sh t) (v := v) (S.zn fun b q => q.elim id fun q => by simp at q) ⟨rfl, hr.zn fun b _ q => q.imp (fun q => q.elim id fun q => by simp at q) id⟩ (by simp) (fun a h => by simp at h) h1, fun j a h => ?_, BX.put h4 h3, by simp, fun j n => ?_, fun j ts e => ?_⟩
  · by_cases e : j = i
    · subst e; rw [fset_self] at h; simp at h
    · rw [fset_ne e] at h; exact h
  · rw [List.getElem?_set_ne fun q => n (by rw [← q]; exact ho)]
  · rw [List.getElem?_set_ne fun q => h4 ts (by rw [q]; exact e)]
mutual
theorem putP_g {own : Nat → Prop} : ∀ {p : Pat} {t : T} {v : V} {F : Nat → List Addr} {σ : L2.St} {ρ ρ' : Env} {Q : L2.St → Hp → Prop}, (∀ ow : List Nat, (∀ i ∈ ow, own i) → patIn ow p = true →
    SI K Z F σ ρ H → Rp K (Zs Z F) H v t → putP p t ρ = some ρ' → (∀ F' σ', PutPo K Z own F σ ρ H F' σ' ρ' → Q σ' H) → gP K p v σ H Q)
  | .v i, t, v, F, σ, ρ, ρ', Q => fun ow ho hp S hr h k => by
    unfold gP gName
    simp only [patIn, List.any_eq_true] at hp
    obtain ⟨j, hj, ej⟩ := hp
    have ej := Nat.eq_of_beq_eq_true ej
    subst ej
    exact k _ _ (put1_po (ho _ hj) S hr (by unfold putP at h; exact h))
  | .o i, t, v, F, σ, ρ, ρ', Q => fun ow ho hp S hr h k => by
    unfold gP gName
    simp only [patIn, List.any_eq_true] at hp
    obtain ⟨j, hj, ej⟩ := hp
    have ej := Nat.eq_of_beq_eq_true ej
    subst ej
    exact k _ _ (put1_po (ho _ hj) S hr (by unfold putP at h; exact h))
  | .t ps, t, v, F, σ, ρ, ρ', Q => fun ow ho hp S hr h k => by
    unfold gP
    cases t with
    | tup ts =>
      unfold putP at h
      obtain ⟨a, vs, e, ⟨h1, _⟩, h2⟩ := hr.tup'
      obtain ⟨l, q⟩ := putPs_g (ps := ps) (ts := ts) (vs := vs) ow ho (by unfold patIn at hp; exact hp) S h2 h k
      exact .inl ⟨a, vs, e, .of h1, by rw [h2.len, l], q⟩
    | lst ts =>
      unfold putP at h
      obtain ⟨a, vs, e, ⟨h1, _⟩, h2⟩ := hr.lst'
      obtain ⟨l, q⟩ := putPs_g (ps := ps) (ts := ts) (vs := vs) ow ho (by unfold patIn at hp; exact hp) S h2 h k
      exact .inr ⟨a, vs, e, .of h1, by rw [h2.len, l], q⟩
    | _ => unfold putP at h; cases h
theorem putPs_g {own : Nat → Prop} : ∀ {ps : List Pat} {ts : List T} {vs : List V} {F : Nat → List Addr} {σ : L2.St} {ρ ρ' : Env} {Q : L2.St → Hp → Prop}, (∀ ow : List Nat, (∀ i ∈ ow, own i) → patsIn ow ps = true →
    SI K Z F σ ρ H → Rps K (Zs Z F) H vs ts → putPs ps ts ρ = some ρ' → (∀ F' σ', PutPo K Z own F σ ρ H F' σ' ρ' → Q σ' H) → ts.length = ps.length ∧ gPs K ps vs σ H Q)
  | [], ts, vs, F, σ, ρ, ρ', Q => fun ow ho hp S hr h k => by
    cases ts with
    | nil =>
      unfold putPs at h
      cases h
      unfold gPs gNil
      exact ⟨rfl, hr.nil', k _ _ (.refl S)⟩
    | cons t ts => unfold putPs at h; cases h
  | p :: ps, ts, vs, F, σ, ρ, ρ', Q => fun ow ho hp S hr h k => by
    cases ts with
    | nil => unfold putPs at h; cases h
    | cons t ts =>
      unfold putPs at h
      obtain ⟨v, ws, rfl, h1, h2⟩ := hr.uncons
      cases e : putP p t ρ with
      | none => rw [e] at h; cases h
      | some ρ1 =>
        rw [e] at h
        simp only [Option.bind_some] at h
        simp only [patsIn, Bool.and_eq_true] at hp
        unfold gPs gCons
        have lenx : ts.length = ps.length := putPs_len h
        refine ⟨by simp [lenx], v, ws, rfl, putP_g ow ho hp.1 S h1 e fun F1 σ1 a => ?_⟩
        exact (putPs_g (ps := ps) ow ho hp.2 a.si (h2.zn fun b _ q => q.imp id fun ⟨i, q⟩ => ⟨i, a.sub i b q⟩) h fun F2 σ2 b => k _ _ (a.trans b)).2
theorem putPs_len : ∀ {ps : List Pat} {ts : List T} {ρ ρ' : Env}, putPs ps ts ρ = some ρ' → ts.length = ps.length
  | [], [], _, _, _ => rfl
  | [], _ :: _, _, _, h => by unfold putPs at h; cases h
  | _ :: _, [], _, _, h => by unfold putPs at h; cases h
  | p :: ps, t :: ts, ρ, ρ', h => by
    unfold putPs at h
    cases e : putP p t ρ with
    | none => rw [e] at h; cases h
    | some ρ1 =>
      rw [e] at h
      simp [putPs_len (ps := ps) (ts := ts) h]
end
theorem wipe_len : ∀ {is : List Nat}, (wipe ρ is).length = ρ.length
  | [] => rfl
  | i :: is => by simp [wipe, wipe_len (is := is)]
theorem wipeS_len : ∀ {is : List Nat}, (L2.wipe σ is).length = σ.length
  | [] => rfl
  | i :: is => by simp [L2.wipe, wipeS_len (is := is)]
theorem wipe_out {j : Nat} : ∀ {is : List Nat}, j ∉ is → (wipe ρ is)[j]? = ρ[j]?
  | [], _ => rfl
  | i :: is, h => by
    unfold wipe
    rw [List.getElem?_set_ne fun q => h (by rw [q]; exact List.mem_cons_self), wipe_out fun q => h (List.mem_cons_of_mem _ q)]
theorem wipeS_out {j : Nat} : ∀ {is : List Nat}, j ∉ is → (L2.wipe σ is)[j]? = σ[j]?
  | [], _ => rfl
  | i :: is, h => by
    unfold L2.wipe
    rw [List.getElem?_set_ne fun q => h (by rw [q]; exact List.mem_cons_self), wipeS_out fun q => h (List.mem_cons_of_mem _ q)]
theorem wipe_in {j : Nat} : ∀ {is : List Nat}, j ∈ is → ∀ r, (wipe ρ is)[j]? ≠ some (some r)
  | [], h, _, _ => by simp at h
  | i :: is, h, r, q => by
    unfold wipe at q
    by_cases e : i = j
    · subst e
      have hl : i < (wipe ρ is).length := by simpa using (List.getElem?_eq_some_iff.mp q).1
      rw [List.getElem?_set_self hl] at q
      cases q
    · rw [List.getElem?_set_ne e] at q
      exact wipe_in ((List.mem_cons.mp h).resolve_left fun x => e x.symm) r q
theorem wipeS_in {j : Nat} : ∀ {is : List Nat}, j ∈ is → (L2.wipe σ is)[j]? = if j < σ.length then some none else none
  | [], h => by simp at h
  | i :: is, h => by
    unfold L2.wipe
    by_cases e : i = j
    · subst e
      by_cases hl : i < σ.length
      · rw [List.getElem?_set_self (by rw [wipeS_len]; exact hl), if_pos hl]
      · rw [if_neg hl, List.getElem?_eq_none_iff]
        simp [wipeS_len]
        omega
    · rw [List.getElem?_set_ne e]
      exact wipeS_in ((List.mem_cons.mp h).resolve_left fun x => e x.symm)
theorem wipeS_eq {is : List Nat} (hl : σ'.length = σ.length) (h : ∀ j, j ∉ is → σ'[j]? = σ[j]?) : L2.wipe σ' is = L2.wipe σ is := by
  refine List.ext_getElem? fun j => ?_
  by_cases q : j ∈ is
  · rw [wipeS_in q, wipeS_in q, hl]
  · rw [wipeS_out q, wipeS_out q]; exact h j q
theorem unwipe_len : ∀ {is : List Nat}, (unwipe ρ0 ρ is).length = ρ.length
  | [] => rfl
  | i :: is => by simp [unwipe, unwipe_len (is := is)]
theorem unwipe_out {j : Nat} : ∀ {is : List Nat}, j ∉ is → (unwipe ρ0 ρ is)[j]? = ρ[j]?
  | [], _ => rfl
  | i :: is, h => by
    unfold unwipe
    rw [List.getElem?_set_ne fun q => h (by rw [q]; exact List.mem_cons_self), unwipe_out fun q => h (List.mem_cons_of_mem _ q)]
theorem unwipe_in {j : Nat} (hl : ρ.length = ρ0.length) : ∀ {is : List Nat}, j ∈ is → (unwipe ρ0 ρ is)[j]? = ρ0[j]?
  | [], h => by simp at h
  | i :: is, h => by
    unfold unwipe
    by_cases e : i = j
    · subst e
      by_cases hi : i < ρ.length
      · rw [List.getElem?_set_self (by rw [unwipe_len]; exact hi)]
        have : i < ρ0.length := hl ▸ hi
        rw [List.getElem?_eq_getElem this]
        congr 1
        simp [List.getD, List.getElem?_eq_getElem this]
      · have h1 : ρ0.length ≤ i := by omega
        rw [List.getElem?_eq_none_iff.mpr h1, List.getElem?_eq_none_iff]
        simp [unwipe_len]
        omega
    · rw [List.getElem?_set_ne e]
      exact unwipe_in hl ((List.mem_cons.mp h).resolve_left fun x => e x.symm)
theorem hide_some {is : List Nat} (h : hide ρ is = some ρ') : ρ' = wipe ρ is ∧ ∀ i ∈ is, calmAt ρ i = true := by
  unfold hide at h
  split at h
  · rename_i hc
    cases h
    exact ⟨rfl, fun i hi => List.all_eq_true.mp hc i hi⟩
  · cases h
theorem calm_at {i : Nat} (h : calmAt ρ i = true) (e : ρ[i]? = some (some r)) : ∃ t, r = .sh t := by
  unfold calmAt at h
  rw [getR_of e] at h
  cases r with
  | sh t => exact ⟨t, rfl⟩
  | _ => simp at h
theorem SI.calm (S : SI K Z F σ ρ H) {i : Nat} (h : calmAt ρ i = true) : F i = [] := by
  by_cases e : ∃ r, ρ[i]? = some (some r)
  · obtain ⟨r, e⟩ := e
    obtain ⟨t, rfl⟩ := calm_at h e
    obtain ⟨v, _, h2⟩ := S.at_ i _ e
    exact h2.1
  · exact S.no i fun r q => e ⟨r, q⟩
theorem SI.hide {is : List Nat} (S : SI K Z F σ ρ H) (h : hide ρ is = some ρ') : SI K Z F (L2.wipe σ is) ρ' H := by
  obtain ⟨rfl, hc⟩ := hide_some h
  refine ⟨by rw [wipe_len, wipeS_len, S.len], S.tr, fun i r e => ?_, fun i n => ?_, S.nd, S.dj, S.zf⟩
  · have hi : i ∉ is := fun q => wipe_in q r e
    rw [wipe_out hi] at e
    rw [wipeS_out hi]
    exact S.at_ i r e
  · by_cases hi : i ∈ is
    · exact S.calm (hc i hi)
    · exact S.no i fun r q => n r (by rw [wipe_out hi]; exact q)
theorem SI.unhide {is : List Nat} {F3 : Nat → List Addr} {ρ3 : Env} {H3 : Hp} (S : SI K Z F σ ρ H) (hc : ∀ i ∈ is, calmAt ρ i = true) (hw : L2.wipe σ' is = L2.wipe σ is) (S3 : SI K Z F3 σ' ρ3 H3) (sub : ∀ i a, a ∈ F3 i → a ∈ F i)
    (out : ∀ b o, H b = some o → ¬ Zs Z F b → H3 b = some o) : SI K Z F3 σ (unwipe ρ ρ3 is) H3 := by
  have hl : σ'.length = σ.length := by
    have := congrArg List.length hw
    rwa [wipeS_len, wipeS_len] at this
  have hl3 : ρ3.length = ρ.length := by rw [S3.len, hl, S.len]
  refine ⟨by rw [unwipe_len, hl3, S.len], S3.tr, fun i r e => ?_, fun i n => ?_, S3.nd, S3.dj, S3.zf⟩
  · by_cases hi : i ∈ is
    · rw [unwipe_in hl3 hi] at e
      obtain ⟨t, rfl⟩ := calm_at (hc i hi) e
      obtain ⟨v, e1, e2⟩ := S.at_ i _ e
      have f3 : F3 i = [] := by
        have f0 := S.calm (hc i hi)
        cases q : F3 i with
        | nil => rfl
        | cons a as =>
          have := sub i a (by rw [q]; exact List.mem_cons_self)
          rw [f0] at this
          simp at this
      exact ⟨v, e1, f3, (e2.2.keep out).zn fun b _ q => q.imp id fun ⟨j, q⟩ => ⟨j, sub j b q⟩⟩
    · rw [unwipe_out hi] at e
      obtain ⟨v, e1, e2⟩ := S3.at_ i r e
      refine ⟨v, ?_, e2⟩
      rw [← e1, ← wipeS_out (σ := σ) hi, ← hw, wipeS_out hi]
  · by_cases hi : i ∈ is
    · have f0 := S.calm (hc i hi)
      cases q : F3 i with
      | nil => rfl
      | cons a as =>
        have := sub i a (by rw [q]; exact List.mem_cons_self)
        rw [f0] at this
        simp at this
    · exact S3.no i fun r q => n r (by rw [unwipe_out hi]; exact q)
theorem BX.hide {is : List Nat} (h : Ev.hide ρ is = some ρ') : BX F ρ F ρ' := by
  obtain ⟨rfl, hc⟩ := hide_some h
  refine ⟨fun i ts e => ?_, fun i ts e => ?_⟩
  · have hi : i ∉ is := fun q => by
      obtain ⟨t, q⟩ := calm_at (hc i q) e
      cases q
    exact ⟨rfl, ts, by rw [wipe_out hi]; exact e⟩
  · have hi : i ∉ is := fun q => wipe_in q _ e
    exact ⟨ts, by rw [wipe_out hi] at e; exact e⟩
theorem BX.unhide {is : List Nat} {F3 : Nat → List Addr} {ρ3 : Env} (hc : ∀ i ∈ is, calmAt ρ i = true) (hl : ρ3.length = ρ.length) (b : BX F (wipe ρ is) F3 ρ3) : BX F ρ F3 (unwipe ρ ρ3 is) := by
  refine ⟨fun i ts e => ?_, fun i ts e => ?_⟩
  · have hi : i ∉ is := fun q => by
      obtain ⟨t, q⟩ := calm_at (hc i q) e
      cases q
    obtain ⟨h1, h2⟩ := b.bx i ts (by rw [wipe_out hi]; exact e)
    exact ⟨h1, by rw [unwipe_out hi]; exact h2⟩
  · by_cases hi : i ∈ is
    · rw [unwipe_in hl hi] at e
      exact ⟨ts, e⟩
    · rw [unwipe_out hi] at e
      obtain ⟨ts', h⟩ := b.nb i ts e
      exact ⟨ts', by rw [wipe_out hi] at h; exact h⟩
end
end Ev
end
section
set_option Elab.async false
set_option linter.all false
set_option maxRecDepth 100000
set_option maxHeartbeats 1000000
namespace Ev
open PySem PySem.Spec L2
/-- tests in a row -/
def tTs (D : Wd) (cs : List E) : TT := fun σ H Q => ∃ Z F ρ, SI D.K Z F σ ρ H ∧ wT D (evc D.cf cs ρ) Z F σ ρ H Q
/-- within a block nothing is raised -/
def Wd.c (D : Wd) : Wd := { D with W := fun _ _ _ _ => False }
/-- within a comprehension: D0 holds acc -/
structure CS (K : PySem.W.Frag) (Z : Zn) (D0 : Addr) (σ : L2.St) (F0 : Nat → List Addr) (ρ0 : Env) (H0 : Hp) (acc : List T) (F : Nat → List Addr) (ρ : Env) (H : Hp) : Prop where
  si : SI K Z F σ ρ H
  own : ∃ vs, H D0 = some (.lst vs) ∧ Rps K (Zs Z F) H vs acc
  sub : ∀ i a, a ∈ F i → a ∈ F0 i
  fr : ∀ b o, H0 b = some o → (∀ i, b ∉ F0 i) → b ≠ D0 → H b = some o
  mo : ∀ b, H0 b ≠ none → H b ≠ none
  bx : BX F0 ρ0 F ρ
section
variable {K : PySem.W.Frag} {Z : Zn} {D0 : Addr} {F F' F0 F3 F5 : Nat → List Addr} {σ σ2 : L2.St} {ρ ρ' ρ0 ρ3 ρ5 : Env} {H H' H0 H5 : Hp} {v : V} {r : R} {fp : List Addr} {acc acc5 : List T}
theorem SPo.bx' (s : SPo K Z F σ ρ H F' ρ' H') : BX F ρ F' ρ' := ⟨s.bx, s.nb⟩
theorem SPo.lft (h : ∀ i, D0 ∉ F i) (s : SPo K Z F σ ρ H F' ρ' H') {o : HO} (e : H D0 = some o) : H' D0 = some o := s.fr D0 o e h
theorem Zs.sub (h : ∀ i a, a ∈ F' i → a ∈ F i) : ∀ b, H b ≠ none → Zs Z F' b → Zs Z F b := fun b _ q => q.imp id fun ⟨i, q⟩ => ⟨i, h i b q⟩
theorem CS.spo (hz : Z D0) (c : CS K Z D0 σ F0 ρ0 H0 acc F ρ H) (s : SPo K Z F σ ρ H F' ρ' H') : CS K Z D0 σ F0 ρ0 H0 acc F' ρ' H' := by
  obtain ⟨vs, h1, h2⟩ := c.own
  have nd : ∀ i, D0 ∉ F i := fun i q => c.si.zf i D0 q hz
  refine ⟨s.si, ⟨vs, s.lft nd h1, ?_⟩, fun i a h => c.sub i a (s.sub i a h), fun b o e n n2 => s.fr b o (c.fr b o e n n2) fun i q => n i (c.sub i b q), fun b h => s.mo b (c.mo b h), c.bx.trans s.bx'⟩
  exact (h2.keep (H' := H') (fun b o e n => s.fr b o e fun i q => n (.inr ⟨i, q⟩))).zn (Zs.sub s.sub)
theorem CS.fresh (hz : Z D0) (c : CS K Z D0 σ F0 ρ0 H0 acc F ρ H) (f : Fresh H H') : CS K Z D0 σ F0 ρ0 H0 acc F ρ H' :=
  c.spo hz ⟨c.si.keep f, fun _ _ h => h, fun b o e _ => f b o e, fun b h q => h (f.none q), c.si.tr, (BX.refl (F := F) (ρ := ρ)).bx, (BX.refl (F := F) (ρ := ρ)).nb⟩
/-- a barred object is changed -/
theorem SI.updZ (S : SI K Z F σ ρ H) (hz : Z D0) {o : HO} : SI K Z F σ ρ (upd H D0 o) := by
  have out : ∀ b u, H b = some u → ¬ Zs Z F b → upd H D0 o b = some u := fun b u e n => by
    rw [upd_ne fun q => n (.inl (by rw [q]; exact hz))]; exact e
  refine ⟨S.len, fun a h => ?_, fun i r e => ?_, S.no, S.nd, S.dj, S.zf⟩
  · by_cases q : a = D0
    · rw [q, upd_same]; simp
    · rw [upd_ne q]; exact S.tr a h
  · obtain ⟨v, e1, e2⟩ := S.at_ i r e
    exact ⟨v, e1, e2.keep out fun b hb u eb => by rw [upd_ne fun q => S.zf i b hb (by rw [q]; exact hz)]; exact eb⟩
theorem CS.add (hz : Z D0) (c : CS K Z D0 σ F0 ρ0 H0 acc F ρ H) (e : EPo K Z F σ ρ H F' ρ' H' v r fp) : ∃ vs, H' D0 = some (.lst vs) ∧ vs.length = acc.length ∧ CS K Z D0 σ F0 ρ0 H0 (acc ++ [r.t]) F' ρ' (upd H' D0 (.lst (vs ++ [v]))) := by
  have c1 := c.spo hz e.spo
  obtain ⟨vs, h1, h2⟩ := c1.own
  have out : ∀ b u, H' b = some u → ¬ Zs Z F' b → upd H' D0 (.lst (vs ++ [v])) b = some u := fun b u e n => by
    rw [upd_ne fun q => n (.inl (by rw [q]; exact hz))]; exact e
  refine ⟨vs, h1, h2.len, c1.si.updZ hz, ⟨_, upd_same, ?_⟩, c1.sub, fun b o e n n2 => ?_, fun b h => ?_, c1.bx⟩
  · exact (h2.keep out).app (.one (e.shr.keep out))
  · rw [upd_ne n2]; exact c1.fr b o e n n2
  · by_cases q : b = D0
    · rw [q, upd_same]; simp
    · rw [upd_ne q]; exact c1.mo b h
/-- a turn's store, and back behind the turn -/
theorem CS.turn (hz : Z D0) (c : CS K Z D0 σ F0 ρ0 H0 acc F ρ H) {own : List Nat} {p : Pat} {t : T} (hp : patIn own p = true) (hr : Rp K (Zs Z F) H v t) (h : (hide ρ own).bind (putP p t) = some ρ3) {Q : L2.St → Hp → Prop}
    (k : ∀ σ2 F3, L2.wipe σ2 own = L2.wipe σ own → CS K Z D0 σ2 F3 ρ3 H acc F3 ρ3 H → (∀ acc5 F5 ρ5 H5, CS K Z D0 σ2 F3 ρ3 H acc5 F5 ρ5 H5 → CS K Z D0 σ F0 ρ0 H0 acc5 F5 (unwipe ρ ρ5 own) H5) → Q σ2 H) :
    gP K p v (L2.wipe σ own) H Q := by
  cases e : hide ρ own with
  | none => rw [e] at h; cases h
  | some ρ2 =>
    rw [e] at h
    simp only [Option.bind_some] at h
    obtain ⟨rfl, hc⟩ := hide_some e
    refine putP_g (own := fun i => i ∈ own) own (fun _ h => h) hp (c.si.hide e) hr h fun F3 σ2 a => ?_
    have hw : L2.wipe σ2 own = L2.wipe σ own := wipeS_eq (a.len.trans wipeS_len) fun j hj => (a.ot j hj).trans (wipeS_out hj)
    obtain ⟨vs, h1, h2⟩ := c.own
    refine k σ2 F3 hw ⟨a.si, ⟨vs, h1, h2.zn (Zs.sub a.sub)⟩, fun _ _ h => h, fun _ _ e _ _ => e, fun _ h => h, .refl⟩ fun acc5 F5 ρ5 H5 d => ?_
    have sub : ∀ i a, a ∈ F5 i → a ∈ F i := fun i x h => a.sub i x (d.sub i x h)
    obtain ⟨ws, h3, h4⟩ := d.own
    have si := c.si.unhide hc hw d.si sub fun b o eb n => d.fr b o eb (fun i q => n (.inr ⟨i, a.sub i b q⟩)) fun q => n (.inl (by rw [q]; exact hz))
    have hl : ρ5.length = ρ.length := by
      have h1 := d.si.len
      have h2 := a.len
      rw [wipeS_len] at h2
      rw [h1, h2, c.si.len]
    exact ⟨si, ⟨ws, h3, h4⟩, fun i x h => c.sub i x (sub i x h), fun b o eb n n2 => d.fr b o (c.fr b o eb n n2) (fun i q => n i (c.sub i b (a.sub i b q))) n2, fun b h => d.mo b (c.mo b h), c.bx.trans (BX.unhide hc hl (a.bx.trans d.bx))⟩
end
/-- turns told by a state -/
theorem w_it {J : It} {n : Nat} {G : Hp → Prop} {Y : Nat → Hp → V → Hp → Prop} (w : L2.Walk J n G Y) {body : (Hp → Prop) → V → Hp → Prop} {H1 : Hp} {Qd : Hp → Prop} (Pv : Nat → Hp → Prop) (h0 : Pv 0 H1) (hG : ∀ i H, i ≤ n → Pv i H → G H)
    (hs : ∀ i x H H', i < n → Pv i H → Y i H x H' → body (Pv (i + 1)) x H') (hd : ∀ H, Pv n H → Qd H) :
    ∃ W : Nat → Nat → Hp → Prop, (∃ m, W 0 m H1) ∧ ∀ i m H, W i m H → (J.stop i H ∧ Qd H) ∨ (J.go i H ∧ ∃ Nx : Hp → Prop, (∀ H', Nx H' → ∃ m', m' < m ∧ W (i + 1) m' H') ∧ ∀ x H', J.yld i H x H' → body Nx x H') := by
  refine ⟨fun i m H => i + m = n ∧ Pv i H, ⟨n, by omega, h0⟩, fun i m H ⟨e, p⟩ => ?_⟩
  by_cases hi : i < n
  · refine .inr ⟨w.goes i H hi (hG i H (by omega) p), Pv (i + 1), fun H' q => ⟨m - 1, by omega, by omega, q⟩, fun x H' y => hs i x H H' hi p (w.yields i H x H' hi (hG i H (by omega) p) y)⟩
  · have : i = n := by omega
    subst this
    exact .inl ⟨w.stops H (hG i H (Nat.le_refl _) p), hd H p⟩
theorem compL_len {f : T → Env → Out (List T)} : ∀ {xs acc : List T} {ρ ρ' : Env} {ys : List T}, compL f xs acc ρ = .ok ys ρ' → acc.length ≤ ys.length
  | [], acc, ρ, ρ', ys, h => by
    unfold compL at h
    cases h
    exact Nat.le_refl _
  | x :: xs, acc, ρ, ρ', ys, h => by
    unfold compL at h
    split at h
    · split at h
      · have := compL_len h
        simp at this
        omega
      · cases h
    · cases h
/-- one turn of what is computed -/
theorem compL_turn {f : T → Env → Out (List T)} {xs acc : List T} {ρ ρ' : Env} {ys : List T} {i : Nat} {t : T} (h : compL f (xs.drop i) acc ρ = .ok ys ρ') (e : xs[i]? = some t) :
    ∃ zs ρ1, f t ρ = .ok zs ρ1 ∧ (acc ++ zs).length ≤ line ∧ compL f (xs.drop (i + 1)) (acc ++ zs) ρ1 = .ok ys ρ' := by
  have hi := (List.getElem?_eq_some_iff.mp e).1
  have : xs.drop i = t :: xs.drop (i + 1) := by
    rw [List.drop_eq_getElem_cons hi]
    rw [List.getElem?_eq_getElem hi] at e
    cases e
    rfl
  rw [this] at h
  unfold compL at h
  split at h
  · rename_i zs ρ1 e1
    split at h
    · rename_i hl
      exact ⟨zs, ρ1, e1, hl, h⟩
    · cases h
  · cases h
theorem compL_done {f : T → Env → Out (List T)} {xs acc : List T} {ρ ρ' : Env} {ys : List T} (h : compL f (xs.drop xs.length) acc ρ = .ok ys ρ') : ys = acc ∧ ρ' = ρ := by
  rw [List.drop_length] at h
  unfold compL at h
  cases h
  exact ⟨rfl, rfl⟩
theorem line_size : line = sizeLine := by decide
section
variable {D : Wd} {Z : Zn} {D0 : Addr} {F F' F0 F3 F5 : Nat → List Addr} {σ σ2 : L2.St} {ρ ρ' ρ0 ρ3 ρ5 : Env} {H H' H0 H5 : Hp} {v : V} {r : R} {fp : List Addr} {acc acc5 : List T}
/-- the tests and the part that is kept -/
theorem cs_body (hz : Z D0) {cs : List E} {e : E} {zs : List T} {own : List Nat} {ρu : Env} (c : CS D.K Z D0 σ F0 ρ0 H0 acc F ρ H)
    (h : ((evc D.cf cs ρ).bind fun b ρ4 => if b then (ev D.cf e ρ4).bind fun r ρ5 => if r.isBox then .bad else .ok [r.t] (unwipe ρu ρ5 own) else .ok [] (unwipe ρu ρ4 own)) = .ok zs ρ') (hl : acc.length + zs.length ≤ line) {Nx : Hp → Prop}
    (k : ∀ F5 ρ5 H5, ρ' = unwipe ρu ρ5 own → CS D.K Z D0 σ F0 ρ0 H0 (acc ++ zs) F5 ρ5 H5 → Nx H5) :
    tTs D.c cs σ H fun b H3 => if b = true then tE D.c e σ H3 fun y H4 => ∃ acc, H4 D0 = some (.lst acc) ∧ acc.length < sizeLine ∧ Nx (upd H4 D0 (.lst (acc ++ [y]))) else Nx H3 := by
  refine ⟨Z, F, ρ, c.si, ?_⟩
  show wT D.c (evc D.cf cs ρ) Z F σ ρ H _
  cases e1 : evc D.cf cs ρ with
  | bad => rw [e1] at h; cases h
  | exc c fs ρ' => rw [e1] at h; cases h
  | ok b ρ4 =>
    rw [e1] at h
    simp only [Out.bind] at h
    intro F4 H4 s
    have c1 := c.spo hz s
    cases b with
    | false =>
      simp only [Bool.false_eq_true, if_false] at h ⊢
      cases h
      exact k F4 ρ4 H4 rfl (by simpa using c1)
    | true =>
      simp only [if_true] at h ⊢
      refine ⟨Z, F4, ρ4, s.si, ?_⟩
      show wE D.c (ev D.cf e ρ4) Z F4 σ ρ4 H4 _
      cases e2 : ev D.cf e ρ4 with
      | bad => rw [e2] at h; cases h
      | exc c fs ρ' => rw [e2] at h; cases h
      | ok r ρ5 =>
        rw [e2] at h
        dsimp only at h
        cases eb : r.isBox with
        | true => rw [eb] at h; cases h
        | false =>
          rw [eb] at h
          simp only [Bool.false_eq_true, if_false] at h
          cases h
          intro F5 H5 v fp ep
          obtain ⟨vs, h1, h2, h3⟩ := c1.add hz ep
          exact ⟨vs, h1, by rw [h2, ← line_size]; simp at hl; omega, k F5 ρ5 _ rfl h3⟩
/-- the start -/
theorem CS.start (S : SI D.K Z F σ ρ H) (n : H D0 = none) : CS D.K (fun a => Z a ∨ a = D0) D0 σ F ρ (upd H D0 (.lst [])) [] F ρ (upd H D0 (.lst [])) := by
  have s0 := S.bar (fp := [D0]) (Fresh.upd (o := .lst []) n) (fun a h => by simp at h; rw [h]; exact n) (fun a h => by simp at h; rw [h, upd_same]; simp)
  exact ⟨s0.zn fun b q => q.imp id fun q => by simp [q], ⟨[], upd_same, .nil⟩, fun _ _ h => h, fun _ _ e _ _ => e, fun _ h => h, .refl⟩
theorem CS.fin (a : SPo D.K Z F σ ρ H F0 ρ0 H0) (n : H0 D0 = none) (c : CS D.K (fun a => Z a ∨ a = D0) D0 σ F0 ρ0 (upd H0 D0 (.lst [])) acc F' ρ' H') : EPo D.K Z F σ ρ H F' ρ' H' (.ref D0) (.own acc) [D0] := by
  obtain ⟨vs, h1, h2⟩ := c.own
  have zz : ∀ b, (Z b ∨ b ∈ [D0]) → (Z b ∨ b = D0) := fun b q => q.imp id fun q => by simpa using q
  have up : ∀ b o, H0 b = some o → upd H0 D0 (.lst []) b = some o := fun b o e => Fresh.upd n b o e
  refine ⟨c.si.zn zz, ⟨D0, vs, rfl, rfl, h1, h2.zn fun b _ q => q.imp (zz b) id⟩, by simp, fun i x h => a.sub i x (c.sub i x h), fun b o e n' => ?_, fun x hx => ?_, fun b h => c.mo b ?_, a.z0, (a.bx'.trans c.bx).bx, (a.bx'.trans c.bx).nb⟩
  · have e0 := a.fr b o e n'
    exact c.fr b o (up b o e0) (fun i q => n' i (a.sub i b q)) (ne_of_none e0 n)
  · have : x = D0 := by simpa using hx
    subst this
    cases q : H x with
    | none => rfl
    | some o => exact absurd n (a.mo x (by rw [q]; simp))
  · cases q : H0 b with
    | none => exact absurd q (a.mo b h)
    | some o => rw [up b o q]; simp
/-- the walk's items, wherever the comprehension stands -/
theorem wk_cs {xs : List T} {G : Hp → Prop} {Y : Nat → Hp → V → Hp → Prop} {Z1 : Zn} (n : H0 D0 = none) (z0 : ∀ b, Z b → Z1 b ∨ b = D0)
    (hw : ∀ (Zu : Zn) (Hc : Hp), (∀ b, H0 b ≠ none → Zu b → Zs Z1 F0 b) → (∀ b, Zu b → Hc b ≠ none) → Out' Zu H0 Hc → G Hc ∧ ∀ i x H', Y i Hc x H' → Fresh Hc H' ∧ ∃ t, xs[i]? = some t ∧ Rp D.K Zu H' x t)
    (hft : ∀ i b, b ∈ F0 i → H0 b ≠ none) (c : CS D.K Z D0 σ F0 ρ0 (upd H0 D0 (.lst [])) acc F ρ H) : G H ∧ ∀ i x H', Y i H x H' → Fresh H H' ∧ ∃ t, xs[i]? = some t ∧ Rp D.K (Zs Z F) H' x t := by
  have tz0 : ∀ b, Zs Z F0 b → H b ≠ none := fun b q => by
    rcases q with q | ⟨i, q⟩
    · exact c.si.tr b q
    · exact c.mo b (fun e => by
        cases q2 : H0 b with
        | none => exact hft i b q q2
        | some o => rw [Fresh.upd n b o q2] at e; cases e)
  have za : ∀ b, H0 b ≠ none → Zs Z F0 b → Zs Z1 F0 b := fun b hb q => by
    rcases q with q | q
    · rcases z0 b q with q | q
      · exact .inl q
      · rw [q] at hb; exact absurd n hb
    · exact .inr q
  have zb : Out' (Zs Z F0) H0 H := fun b o e nb => c.fr b o (Fresh.upd n b o e) (fun i q => nb (.inr ⟨i, q⟩)) (ne_of_none e n)
  obtain ⟨g, y⟩ := hw (Zs Z F0) H za tz0 zb
  refine ⟨g, fun i x H' q => ?_⟩
  obtain ⟨f, t, e1, e2⟩ := y i x H' q
  exact ⟨f, t, e1, e2.zn (Zs.sub c.sub)⟩
theorem lc_in {own : List Nat} {p : Pat} {k : ItK} {es cs : List E} {e : E} {Q : VK} (hp : patIn own p = true) (h : tE D (.lc own p k es cs e) σ H Q) : tLc (tI D k es) (gP D.K p) (tTs D.c cs) (tE D.c e) own σ H Q := by
  obtain ⟨Z, F, ρ, S, h⟩ := h
  refine ⟨Z, F, ρ, S, ?_⟩
  rw [ev] at h
  cases e1 : evs D.cf es ρ with
  | bad => rw [e1] at h; exact h
  | exc c fs ρ' => rw [e1] at h; exact h
  | ok as ρ1 =>
    rw [e1] at h
    simp only [Out.bind] at h
    simp only [wI]
    cases e2 : argTs ρ1 as with
    | none => rw [e2] at h; exact h.elim
    | some ts =>
      rw [e2] at h
      dsimp only at h ⊢
      cases e3 : walk k ts with
      | none => rw [e3] at h; exact h.elim
      | some xs =>
        rw [e3] at h
        dsimp only at h ⊢
        intro F1 H1 J a w D0 hD
        split at h
        · rename_i ys ρ2 e4
          obtain ⟨G, Y, wk, hw⟩ := w
          have hft : ∀ i b, b ∈ F1 i → H1 b ≠ none := fun i b hb => a.si.ft hb
          refine w_it wk (fun i Hc => ∃ acc F' ρ', compL _ (xs.drop i) acc ρ' = .ok ys ρ2 ∧ CS D.K (fun a => Z a ∨ a = D0) D0 σ F1 ρ1 (upd H1 D0 (.lst [])) acc F' ρ' Hc) ⟨[], F1, ρ1, e4, .start a.si hD⟩ (fun i Hc _ ⟨acc, F', ρ', _, c⟩ => (wk_cs hD (fun b q => q) hw hft c).1) (fun i x Hc H' hi ⟨acc, F', ρ', e5, c⟩ y => ?_) (fun Hc ⟨acc, F', ρ', e5, c⟩ => ?_)
          · obtain ⟨f, t, e6, r⟩ := (wk_cs hD (fun b q => q) hw hft c).2 i x H' y
            obtain ⟨zs, ρ5, e7, l7, e8⟩ := compL_turn e5 e6
            split at e7
            · cases e7
            · rename_i ρ3 e9
              refine (c.fresh (.inr rfl) f).turn (.inr rfl) hp r e9 fun σ2 F3 hw2 c3 back => ⟨hw2, cs_body (.inr rfl) c3 e7 (by simpa using l7) fun F5 ρ6 H5 e10 c5 => ⟨_, F5, _, e8, ?_⟩⟩
              rw [e10]
              exact back _ _ _ _ c5
          · obtain ⟨rfl, rfl⟩ := compL_done e5
            exact h F' Hc _ _ (c.fin a hD)
        · exact h.elim
theorem CS.trans {σ : L2.St} {F1 : Nat → List Addr} {ρ1 : Env} {H1 : Hp} (a : CS D.K Z D0 σ F0 ρ0 H0 acc F1 ρ1 H1) (b : CS D.K Z D0 σ F1 ρ1 H1 acc5 F ρ H) : CS D.K Z D0 σ F0 ρ0 H0 acc5 F ρ H :=
  ⟨b.si, b.own, fun i x h => a.sub i x (b.sub i x h), fun x o e n n2 => b.fr x o (a.fr x o e n n2) (fun i q => n i (a.sub i x q)) n2, fun x h => b.mo x (a.mo x h), a.bx.trans b.bx⟩
theorem CS.again (c : CS D.K Z D0 σ F0 ρ0 H0 acc F ρ H) : CS D.K Z D0 σ F ρ H acc F ρ H := ⟨c.si, c.own, fun _ _ h => h, fun _ _ e _ _ => e, fun _ h => h, .refl⟩
theorem wk_cs2 {xs : List T} {G : Hp → Prop} {Y : Nat → Hp → V → Hp → Prop}
    (hw : ∀ (Zu : Zn) (Hc : Hp), (∀ b, H0 b ≠ none → Zu b → Zs Z F0 b) → (∀ b, Zu b → Hc b ≠ none) → Out' Zu H0 Hc → G Hc ∧ ∀ i x H', Y i Hc x H' → Fresh Hc H' ∧ ∃ t, xs[i]? = some t ∧ Rp D.K Zu H' x t)
    (hz : Z D0) (hft : ∀ i b, b ∈ F0 i → H0 b ≠ none) (c : CS D.K Z D0 σ F0 ρ0 H0 acc F ρ H) : G H ∧ ∀ i x H', Y i H x H' → Fresh H H' ∧ ∃ t, xs[i]? = some t ∧ Rp D.K (Zs Z F) H' x t := by
  obtain ⟨g, y⟩ := hw (Zs Z F0) H (fun _ _ q => q) (fun b q => q.elim (fun q => c.si.tr b q) fun ⟨i, q⟩ => c.mo b (hft i b q)) fun b o e nb => c.fr b o e (fun i q => nb (.inr ⟨i, q⟩)) fun q => nb (.inl (by rw [q]; exact hz))
  refine ⟨g, fun i x H' q => ?_⟩
  obtain ⟨f, t, e1, e2⟩ := y i x H' q
  exact ⟨f, t, e1, e2.zn (Zs.sub c.sub)⟩
theorem lc2_in {own own1 : List Nat} {p p1 : Pat} {k k1 : ItK} {es es1 cs : List E} {e : E} {Q : VK} (hp : patIn own p = true) (hp1 : patIn own1 p1 = true) (h : tE D (.lc2 own p k es own1 p1 k1 es1 cs e) σ H Q) :
    tLc2 (tI D k es) (gP D.K p) tYes (tI D.c k1 es1) (gP D.K p1) (tTs D.c cs) (tE D.c e) own own1 σ H Q := by
  obtain ⟨Z, F, ρ, S, h⟩ := h
  refine ⟨Z, F, ρ, S, ?_⟩
  rw [ev] at h
  cases e1 : evs D.cf es ρ with
  | bad => rw [e1] at h; exact h
  | exc c fs ρ' => rw [e1] at h; exact h
  | ok as ρ1 =>
    rw [e1] at h
    simp only [Out.bind] at h
    simp only [wI]
    cases e2 : argTs ρ1 as with
    | none => rw [e2] at h; exact h.elim
    | some ts =>
      rw [e2] at h
      dsimp only at h ⊢
      cases e3 : walk k ts with
      | none => rw [e3] at h; exact h.elim
      | some xs =>
        rw [e3] at h
        dsimp only at h ⊢
        intro F1 H1 J a w D0 hD
        split at h
        · rename_i ys ρ2 e4
          obtain ⟨G, Y, wk, hw⟩ := w
          have hft : ∀ i b, b ∈ F1 i → H1 b ≠ none := fun i b hb => a.si.ft hb
          refine w_it wk (fun i Hc => ∃ acc F' ρ', compL _ (xs.drop i) acc ρ' = .ok ys ρ2 ∧ CS D.K (fun a => Z a ∨ a = D0) D0 σ F1 ρ1 (upd H1 D0 (.lst [])) acc F' ρ' Hc) ⟨[], F1, ρ1, e4, .start a.si hD⟩ (fun i Hc _ ⟨acc, F', ρ', _, c⟩ => (wk_cs hD (fun b q => q) hw hft c).1) (fun i x Hc H' hi ⟨acc, F', ρ', e5, c⟩ y => ?_) (fun Hc ⟨acc, F', ρ', e5, c⟩ => ?_)
          · obtain ⟨f, t, e6, r⟩ := (wk_cs hD (fun b q => q) hw hft c).2 i x H' y
            obtain ⟨zs, ρ5, e7, l7, e8⟩ := compL_turn e5 e6
            split at e7
            · cases e7
            · rename_i ρ3 e9
              refine (c.fresh (.inr rfl) f).turn (.inr rfl) hp r e9 fun σ2 F3 hw2 c3 back => ⟨hw2, ?_⟩
              unfold tYes
              simp only [if_true]
              refine ⟨fun a => Z a ∨ a = D0, F3, ρ3, c3.si, ?_⟩
              show wI D.c k1 (evs D.cf es1 ρ3) _ _ _ _ _ _
              cases f1 : evs D.cf es1 ρ3 with
              | bad => rw [f1] at e7; cases e7
              | exc c fs ρ' => rw [f1] at e7; cases e7
              | ok bs ρ4 =>
                rw [f1] at e7
                simp only [wI] at e7 ⊢
                cases f2 : argTs ρ4 bs with
                | none => rw [f2] at e7; cases e7
                | some us =>
                  rw [f2] at e7
                  dsimp only at e7 ⊢
                  cases f3 : walk k1 us with
                  | none => rw [f3] at e7; cases e7
                  | some ys1 =>
                    rw [f3] at e7
                    dsimp only at e7 ⊢
                    intro F4 H4 J1 s4 w1
                    split at e7
                    · rename_i zs1 ρ9 f4
                      cases e7
                      obtain ⟨G1, Y1, wk1, hw1⟩ := w1
                      have c4 := c3.spo (.inr rfl) s4
                      have hft1 : ∀ i b, b ∈ F4 i → H4 b ≠ none := fun i b hb => s4.si.ft hb
                      refine w_it wk1 (fun j Hc => ∃ accI F' ρ', compL _ (ys1.drop j) accI ρ' = .ok zs ρ9 ∧ CS D.K (fun a => Z a ∨ a = D0) D0 σ2 F4 ρ4 H4 (acc ++ accI) F' ρ' Hc) ⟨[], F4, ρ4, f4, by simpa using c4.again⟩ (fun j Hc _ ⟨accI, F', ρ', _, c⟩ => (wk_cs2 hw1 (.inr rfl) hft1 c).1) (fun j x1 Hc H5 hj ⟨accI, F5, ρ5, g5, c5⟩ y1 => ?_) (fun Hc ⟨accI, F5, ρ5, g5, c5⟩ => ?_)
                      · obtain ⟨fj, t1, g6, r1⟩ := (wk_cs2 hw1 (.inr rfl) hft1 c5).2 j x1 H5 y1
                        obtain ⟨zs2, ρ6, g7, l8, g8⟩ := compL_turn g5 g6
                        split at g7
                        · cases g7
                        · rename_i ρ7 g9
                          have l9 := compL_len g8
                          refine (c5.fresh (.inr rfl) fj).turn (.inr rfl) hp1 r1 g9 fun σ3 F7 hw3 c7 back1 => ⟨hw3, cs_body (.inr rfl) c7 g7 (by simp at l7 l9 ⊢; omega) fun F8 ρ8 H8 g10 c8 => ⟨accI ++ zs2, F8, _, g8, ?_⟩⟩
                          rw [g10, ← List.append_assoc]
                          exact back1 _ _ _ _ c8
                      · obtain ⟨rfl, rfl⟩ := compL_done g5
                        exact ⟨_, F5, _, e8, back _ _ _ _ (c4.trans c5)⟩
                    · cases e7
          · obtain ⟨rfl, rfl⟩ := compL_done e5
            exact h F' Hc _ _ (c.fin a hD)
        · exact h.elim
end
end Ev
end
section
set_option Elab.async false
set_option linter.all false
set_option maxRecDepth 100000
set_option maxHeartbeats 2000000
namespace Ev
open PySem PySem.Spec L2
theorem ncmp_eq {a b : Nat} : ncmp a b = .eq ↔ a = b := by
  unfold ncmp
  by_cases h : a < b
  · rw [Nat.blt_eq.mpr h]
    simp; omega
  · have : Nat.blt a b = false := by
      cases e : Nat.blt a b with
      | false => rfl
      | true => exact absurd (Nat.blt_eq.mp e) h
    rw [this]
    by_cases e : a = b
    · subst e; simp
    · have : Nat.beq a b = false := by
        cases q : Nat.beq a b with
        | false => rfl
        | true => exact absurd (Nat.eq_of_beq_eq_true q) e
      rw [this]; simp [e]
theorem icmp_eq {a b : Int} : icmp a b = .eq ↔ a = b := by
  unfold icmp
  split
  · simp; omega
  · split <;> simp_all
theorem scmp_eq : ∀ {a b : List Nat}, scmp a b = .eq ↔ a = b
  | [], [] => by simp [scmp]
  | [], _ :: _ => by simp [scmp]
  | _ :: _, [] => by simp [scmp]
  | x :: xs, y :: ys => by
    unfold scmp
    cases e : ncmp x y with
    | eq =>
      have := ncmp_eq.mp e
      subst this
      simp [scmp_eq (a := xs) (b := ys)]
    | lt =>
      have : x ≠ y := fun q => by rw [ncmp_eq.mpr q] at e; cases e
      simp [this]
    | gt =>
      have : x ≠ y := fun q => by rw [ncmp_eq.mpr q] at e; cases e
      simp [this]
mutual
def toD : T → PyData
  | .non => .none
  | .bl b => .bool b
  | .int i => .int i
  | .str s => .str (toS s)
  | .tup ts => .tuple (toDs ts)
  | .lst ts => .list (toDs ts)
  | .dct _ _ => .none
  | .fz _ => .none
  | .err _ _ => .none
def toDs : List T → List PyData
  | [] => []
  | t :: ts => toD t :: toDs ts
end
theorem beq_eqo (x : Bool) (o : Ordering) (h : x = true ↔ o = .eq) : x = oEq o := by
  cases o <;> cases x <;> simp_all [oEq]
mutual
theorem eqv_iff : ∀ (a b : T) (n m : Nat), fit n a = true → fit m b = true → (PyData.eqv (toD a) (toD b) = true ↔ tcmp a b = .eq)
  | .non, b, n, m, ha, hb => by
    cases b <;> cases m <;> simp_all [fit, toD, PyData.eqv, tcmp, T.rank, ncmp_eq]
  | .bl x, b, n, m, ha, hb => by
    cases b <;> cases m <;> simp_all [fit, toD, PyData.eqv, tcmp, T.rank, ncmp_eq, icmp_eq, b2z]
    all_goals (cases x <;> rename_i y <;> cases y <;> simp)
  | .int x, b, n, m, ha, hb => by
    cases b <;> cases m <;> simp_all [fit, toD, PyData.eqv, tcmp, T.rank, ncmp_eq, icmp_eq, b2z]
  | .str x, b, n, m, ha, hb => by
    have key : ∀ y : List Nat, (toS x == toS y) = true ↔ scmp x y = .eq := fun y => by
      rw [scmp_eq, beq_iff_eq]
      exact ⟨toS_inj, fun e => by rw [e]⟩
    cases b <;> cases m <;> simp_all [fit, toD, PyData.eqv, tcmp, T.rank, ncmp_eq]
  | .tup xs, b, n, m, ha, hb => by
    cases n with
    | zero => simp [fit] at ha
    | succ n =>
      simp only [fit] at ha
      cases b with
      | tup ys =>
        cases m with
        | zero => simp [fit] at hb
        | succ m =>
          simp only [fit] at hb
          simp only [toD, PyData.eqv, tcmp]
          exact eqv_iffs xs ys n m ha hb
      | _ => cases m <;> simp_all [fit, toD, PyData.eqv, tcmp, T.rank, ncmp_eq]
  | .lst xs, b, n, m, ha, hb => by
    cases n with
    | zero => simp [fit] at ha
    | succ n =>
      simp only [fit] at ha
      cases b with
      | lst ys =>
        cases m with
        | zero => simp [fit] at hb
        | succ m =>
          simp only [fit] at hb
          simp only [toD, PyData.eqv, tcmp]
          exact eqv_iffs xs ys n m ha hb
      | _ => cases m <;> simp_all [fit, toD, PyData.eqv, tcmp, T.rank, ncmp_eq]
  | .dct _ _, _, n, _, ha, _ => by cases n <;> simp [fit] at ha
  | .fz _, _, n, _, ha, _ => by cases n <;> simp [fit] at ha
theorem eqv_iffs : ∀ (as bs : List T) (n m : Nat), fits n as = true → fits m bs = true → (PyData.eqvAll (toDs as) (toDs bs) = true ↔ tcmps as bs = .eq)
  | [], [], _, _, _, _ => by simp [toDs, PyData.eqvAll, tcmps]
  | [], _ :: _, _, _, _, _ => by simp [toDs, PyData.eqvAll, tcmps]
  | _ :: _, [], _, _, _, _ => by simp [toDs, PyData.eqvAll, tcmps]
  | a :: as, b :: bs, n, m, ha, hb => by
    simp only [fits, Bool.and_eq_true] at ha hb
    have h1 := eqv_iff a b n m ha.1 hb.1
    have h2 := eqv_iffs as bs n m ha.2 hb.2
    simp only [toDs, PyData.eqvAll, tcmps, Bool.and_eq_true, h1, h2]
    cases tcmp a b <;> simp
end
theorem eqv_teq {a b : T} {n m : Nat} (ha : fit n a = true) (hb : fit m b = true) : PyData.eqv (toD a) (toD b) = teq a b := by
  unfold teq
  exact beq_eqo _ _ (eqv_iff a b n m ha hb)
theorem okS_ok {s : List Nat} (h : okS s = true) : PyData.strOk (toS s) = true := by
  unfold PyData.strOk toS
  unfold okS at h
  rw [List.all_eq_true] at h
  rw [Array.all_eq_true]
  intro i hi
  have hm : s[i]'(by simpa using hi) ∈ s := List.getElem_mem _
  have := h _ hm
  simpa using Nat.blt_eq.mp this
mutual
theorem Rp.dp {K : PySem.W.Frag} {Z : Zn} {H : Hp} : ∀ {t : T} {v : V} {n : Nat}, fit n t = true → Rp K Z H v t → Dp K H v (toD t) ∧ (toD t).canLay0 = true ∧ (toD t).depth ≤ n
  | .non, _, _, _, h => by unfold Rp at h; subst h; exact ⟨.non, by simp [toD, PyData.canLay0], by simp [toD, PyData.depth]⟩
  | .bl b, _, _, _, h => by unfold Rp at h; subst h; exact ⟨.bl b, by simp [toD, PyData.canLay0], by simp [toD, PyData.depth]⟩
  | .int i, _, _, _, h => by unfold Rp at h; subst h; exact ⟨.int i, by simp [toD, PyData.canLay0], by simp [toD, PyData.depth]⟩
  | .str s, _, _, _, h => by
    unfold Rp at h
    obtain ⟨rfl, ok⟩ := h
    exact ⟨.str _, by simp [toD, PyData.canLay0, okS_ok ok], by simp [toD, PyData.depth]⟩
  | .tup ts, _, 0, f, _ => by simp [fit] at f
  | .lst ts, _, 0, f, _ => by simp [fit] at f
  | .tup ts, _, n + 1, f, h => by
    unfold Rp at h
    obtain ⟨a, vs, rfl, h1, h2⟩ := h
    simp only [fit] at f
    obtain ⟨d1, d2, d3⟩ := Rps.dp f h2
    exact ⟨.tup (.of h1.1) d1, by simpa [toD, PyData.canLay0] using d2, by simp only [toD, PyData.depth]; omega⟩
  | .lst ts, _, n + 1, f, h => by
    unfold Rp at h
    obtain ⟨a, vs, rfl, h1, h2⟩ := h
    simp only [fit] at f
    obtain ⟨d1, d2, d3⟩ := Rps.dp f h2
    exact ⟨.lst (.of h1.1) d1, by simpa [toD, PyData.canLay0] using d2, by simp only [toD, PyData.depth]; omega⟩
  | .dct _ _, _, n, f, _ => by cases n <;> simp [fit] at f
  | .fz _, _, n, f, _ => by cases n <;> simp [fit] at f
theorem Rps.dp {K : PySem.W.Frag} {Z : Zn} {H : Hp} : ∀ {ts : List T} {vs : List V} {n : Nat}, fits n ts = true → Rps K Z H vs ts → DpAll K H vs (toDs ts) ∧ PyData.canLayAll0 (toDs ts) = true ∧ PyData.depthAll (toDs ts) ≤ n
  | [], _, n, _, h => by rw [h.nil']; exact ⟨.nil, by simp [toDs, PyData.canLayAll0], by simp [toDs, PyData.depthAll]⟩
  | t :: ts, _, n, f, h => by
    obtain ⟨v, r, rfl, h1, h2⟩ := h.uncons
    simp only [fits, Bool.and_eq_true] at f
    obtain ⟨a1, a2, a3⟩ := Rp.dp f.1 h1
    obtain ⟨b1, b2, b3⟩ := Rps.dp f.2 h2
    exact ⟨.cons a1 b1, by simp [toDs, PyData.canLayAll0, a2, b2], by simp only [toDs, PyData.depthAll]; omega⟩
end
theorem Vw.dp {K : PySem.W.Frag} {Z : Zn} {H : Hp} {t : T} {v : V} {n : Nat} (f : fit n t = true) (h : Vw K Z H v t) : Dp K H v (toD t) ∧ (toD t).canLay0 = true ∧ (toD t).depth ≤ n := by
  cases t with
  | lst ts =>
    obtain ⟨a, vs, rfl, h1, h2⟩ := h
    cases n with
    | zero => simp [fit] at f
    | succ n =>
      simp only [fit] at f
      obtain ⟨d1, d2, d3⟩ := Rps.dp f h2
      exact ⟨.lst (.of h1) d1, by simpa [toD, PyData.canLay0] using d2, by simp only [toD, PyData.depth]; omega⟩
  | dct ks us => cases n <;> simp [fit] at f
  | _ => exact Rp.dp (Z := Z) f h
theorem shaped_of {d : PyData} {n : Nat} (h : d.canLay0 = true) (hd : d.depth ≤ n) (hn : n ≤ 64) : SeqAt.shaped d = true := by
  unfold SeqAt.shaped
  rw [Bool.and_eq_true]
  exact ⟨h, decide_eq_true (Nat.le_trans hd hn)⟩
theorem tmem_any {a : T} : ∀ {ts : List T}, fit 60 a = true → fits 60 ts = true → ((toDs ts).any fun z => PyData.eqv z (toD a)) = tmem a ts
  | [], _, _ => rfl
  | t :: ts, f, g => by
    simp only [fits, Bool.and_eq_true] at g
    have ih := tmem_any (ts := ts) f g.2
    simp only [toDs, List.any_cons, eqv_teq g.1 f, ih]
    rfl
section
variable {X : Cx}
/-- x in a tuple of data -/
def rInDT (K : PySem.W.Frag) (neg : Bool) : R2 := fun x y H Q => ∃ d ds, Dp K H x d ∧ Dp K H y (.tuple ds) ∧ SeqAt.shaped d = true ∧ SeqAt.shaped (.tuple ds) = true ∧ Q (.bl (if neg then !(ds.any fun z => PyData.eqv z d) else ds.any fun z => PyData.eqv z d)) H
theorem op_inDT (hu : X.A.units + 65 < cLine) : OpR X (compareOp .In) (rInDT X.K false) := by
  intro pins s σ H x y v u Q I rx ry h
  obtain ⟨d, ds, hd, he, sd, se, q⟩ := h
  obtain ⟨as, r1⟩ := Dp.reads I d x v hd rx
  obtain ⟨bs, r2⟩ := Dp.reads I (.tuple ds) y u he ry
  exact SeqAt.in_tuple_reads r2 r1 (SeqAt.canLay_of_shaped se) (SeqAt.canLay_of_shaped sd) (by
    have h1 := SeqAt.depth_of_shaped sd
    have h2 : min (PyData.depthAll ds) d.depth ≤ d.depth := Nat.min_le_right _ _
    omega) ⟨.bl _, H, I, rfl, q⟩
theorem op_notInDT (hu : X.A.units + 65 < cLine) : OpR X (compareOp .NotIn) (rInDT X.K true) := by
  intro pins s σ H x y v u Q I rx ry h
  obtain ⟨d, ds, hd, he, sd, se, q⟩ := h
  obtain ⟨as, r1⟩ := Dp.reads I d x v hd rx
  obtain ⟨bs, r2⟩ := Dp.reads I (.tuple ds) y u he ry
  exact SeqAt.notIn_tuple_reads r2 r1 (SeqAt.canLay_of_shaped se) (SeqAt.canLay_of_shaped sd) (by
    have h1 := SeqAt.depth_of_shaped sd
    have h2 : min (PyData.depthAll ds) d.depth ≤ d.depth := Nat.min_le_right _ _
    omega) ⟨.bl _, H, I, rfl, q⟩
end
end Ev
end
section
set_option Elab.async false
set_option linter.all false
set_option maxRecDepth 100000
set_option maxHeartbeats 2000000
namespace Ev
open PySem PySem.Spec PyProof.Rows L2
theorem Vws.ln {K : PySem.W.Frag} {Z : Zn} {H : Hp} : ∀ {ts : List T} {vs : List V}, Vws K Z H vs ts → ts.length = vs.length
  | [], vs, h => by
    have h : vs = [] := h
    rw [h]
    rfl
  | t :: ts, _, h => by
    obtain ⟨v, r, rfl, _, h2⟩ := h
    rw [List.length_cons, List.length_cons, h2.ln]
theorem len2 {α : Type} {l : List α} (h : l.length = 2) : ∃ a b, l = [a, b] := by
  match l, h with
  | [a, b], _ => exact ⟨a, b, rfl⟩
theorem len1 {α : Type} {l : List α} (h : l.length = 1) : ∃ a, l = [a] := by
  match l, h with
  | [a], _ => exact ⟨a, rfl⟩
/-- two operands -/
theorem OpG.two {K : PySem.W.Frag} {o : Op} {x y : V} {H : Hp} {Q : VK} (h : OpG K o [x, y] H Q) :
    ∃ Z t u r, (∀ a, Z a → H a ≠ none) ∧ Vw K Z H x t ∧ Vw K Z H y u ∧ evOp o [t, u] = some r ∧ ∀ v H' fp, OPo K Z H H' v r fp → Q v H' := by
  obtain ⟨Z, ts, r, hz, hv, he, hq⟩ := h
  obtain ⟨t, u, rfl⟩ := len2 hv.ln
  obtain ⟨v, w, e, h1, h2⟩ := hv.two
  cases e
  exact ⟨Z, t, u, r, hz, h1, h2, he, hq⟩
theorem OpG.one {K : PySem.W.Frag} {o : Op} {x : V} {H : Hp} {Q : VK} (h : OpG K o [x] H Q) :
    ∃ Z t r, (∀ a, Z a → H a ≠ none) ∧ Vw K Z H x t ∧ evOp o [t] = some r ∧ ∀ v H' fp, OPo K Z H H' v r fp → Q v H' := by
  obtain ⟨Z, ts, r, hz, hv, he, hq⟩ := h
  obtain ⟨t, rfl⟩ := len1 hv.ln
  obtain ⟨v, e, h1⟩ := hv.one
  cases e
  exact ⟨Z, t, r, hz, h1, he, hq⟩
theorem app_toS (x y : List Nat) : toS x ++ toS y = toS (x ++ y) := by
  show Str.append _ _ = _
  unfold Str.append toS
  simp
theorem okS_app {x y : List Nat} (h1 : okS x = true) (h2 : okS y = true) : okS (x ++ y) = true := by
  unfold okS at *; rw [List.all_append, h1, h2]; rfl
theorem line_sz : line = sizeLine := by decide +kernel
section
variable {X : Cx}
theorem or_add : OpR X (binaryOp .Add) (fun x y H Q => OpG X.K .add [x, y] H Q) := by
  intro pins s σ H x y v u Q I rx ry h
  obtain ⟨Z, t, u', r, hz, h1, h2, he, hq⟩ := h.two
  simp only [evOp, o_add] at he
  split at he
  · rename_i i j e
    cases e
    cases he
    exact op_add pins s σ H x y v u Q I rx ry ⟨i, j, h1.int, h2.int, hq _ _ _ (.sh (Rp.int _))⟩
  · rename_i a b e
    cases e
    split at he
    · rename_i hl
      cases he
      obtain ⟨e1, k1⟩ := h1.str
      obtain ⟨e2, k2⟩ := h2.str
      refine op_add_str pins s σ H x y v u Q I rx ry ⟨_, _, e1, e2, by rw [toS_len, toS_len, ← line_sz]; exact hl, ?_⟩
      rw [app_toS]
      exact hq _ _ _ (.sh (Rp.str (okS_app k1 k2)))
    · cases he
  · rename_i a b e
    cases e
    split at he
    · rename_i hl
      cases he
      obtain ⟨p, vs, e1, t1, r1⟩ := h1.tup
      obtain ⟨q, ws, e2, t2, r2⟩ := h2.tup
      refine op_catA pins s σ H x y v u Q I rx ry ⟨p, q, vs, ws, e1, e2, .of t1.1, .of t2.1, by rw [r1.len, r2.len, ← line_sz]; exact hl, fun e => ?_, fun _ e => ?_, fun _ _ p' np => ?_⟩
      · have : a = [] := by have := r1.len; rw [e] at this; exact List.eq_nil_of_length_eq_zero this.symm
        subst this
        rw [← e2]
        exact hq _ _ _ (.sh (by unfold Rp; exact ⟨q, ws, e2, t2, r2⟩))
      · have : b = [] := by have := r2.len; rw [e] at this; exact List.eq_nil_of_length_eq_zero this.symm
        subst this
        rw [List.append_nil] at hq
        rw [← e1]
        exact hq _ _ _ (.sh (by unfold Rp; exact ⟨p, vs, e1, t1, r1⟩))
      · exact hq _ _ _ (.tup np hz (r1.app r2))
    · cases he
  · rename_i a b e
    cases e
    split at he
    · rename_i hl
      cases he
      obtain ⟨p, vs, e1, t1, r1⟩ := h1.lst
      obtain ⟨q, ws, e2, t2, r2⟩ := h2.lst
      exact op_cat pins s σ H x y v u Q I rx ry ⟨p, q, vs, ws, e1, e2, t1, t2, by rw [r1.len, r2.len, ← line_sz]; exact hl, fun p' np => hq _ _ _ (.lst np (r1.app r2))⟩
    · cases he
  · cases he
theorem or_sub : OpR X (binaryOp .Sub) (fun x y H Q => OpG X.K .sub [x, y] H Q) := by
  intro pins s σ H x y v u Q I rx ry h
  obtain ⟨Z, t, u', r, hz, h1, h2, he, hq⟩ := h.two
  simp only [evOp, o_sub] at he
  split at he
  · rename_i i j e
    cases e
    cases he
    exact op_sub pins s σ H x y v u Q I rx ry ⟨i, j, h1.int, h2.int, hq _ _ _ (.sh (Rp.int _))⟩
  · cases he
theorem rep_rps {K : PySem.W.Frag} {Z : Zn} {H : Hp} {vs : List V} {ts : List T} (h : Rps K Z H vs ts) : ∀ n : Nat, Rps K Z H (List.replicate n vs).flatten (List.replicate n ts).flatten
  | 0 => by simp; exact .nil
  | n + 1 => by
    rw [List.replicate_succ, List.replicate_succ, List.flatten_cons, List.flatten_cons]
    exact h.app (rep_rps h n)
theorem natAbs64 {i : Int} (h : i.natAbs < 2 ^ 64) : -(2 ^ 64) < i ∧ i < 2 ^ 64 := by omega
theorem or_mul : OpR X (binaryOp .Mult) (fun x y H Q => OpG X.K .mul [x, y] H Q) := by
  intro pins s σ H x y v u Q I rx ry h
  obtain ⟨Z, t, u', r, hz, h1, h2, he, hq⟩ := h.two
  simp only [evOp, o_mul] at he
  split at he
  · rename_i i j e
    cases e
    split at he
    · rename_i hc
      cases he
      have g := hq _ _ _ (.sh (Rp.int _))
      by_cases c1 : i.natAbs < 2 ^ 64
      · exact op_mul pins s σ H x y v u Q I rx ry ⟨i, j, h1.int, h2.int, .inl (natAbs64 c1), g⟩
      · by_cases c2 : j.natAbs < 2 ^ 64
        · exact op_mul pins s σ H x y v u Q I rx ry ⟨i, j, h1.int, h2.int, .inr (natAbs64 c2), g⟩
        · exact op_mulW pins s σ H x y v u Q I rx ry ⟨i, j, h1.int, h2.int, (hc.resolve_left c1).resolve_left c2, g⟩
    · cases he
  · rename_i a j e
    cases e
    split at he
    · rename_i hc
      cases he
      obtain ⟨p, vs, e1, t1, r1⟩ := h1.lst
      refine op_rep pins s σ H x y v u Q I rx ry ⟨p, j, vs, e1, h2.int, t1, by omega, by omega, by rw [r1.len, ← line_sz]; exact hc.2.2, fun p' np => hq _ _ _ (.lst np (rep_rps r1 _))⟩
    · cases he
  · rename_i a j e
    cases e
    split at he
    · rename_i hc
      cases he
      obtain ⟨p, vs, e1, t1, r1⟩ := h1.tup
      refine op_repT pins s σ H x y v u Q I rx ry ⟨p, j, vs, e1, h2.int, .of t1.1, fun e => ?_, hc.2.1, hc.1, by rw [r1.len]; exact hc.2.2.1, fun p' np => hq _ _ _ (.tup np hz (rep_rps r1 _))⟩
      have := r1.len
      rw [e] at this
      have h0 := hc.2.2.2
      simp at this
      omega
    · cases he
  · cases he
theorem or_fdiv : OpR X (binaryOp .FloorDiv) (fun x y H Q => OpG X.K .fdiv [x, y] H Q) := by
  intro pins s σ H x y v u Q I rx ry h
  obtain ⟨Z, t, u', r, hz, h1, h2, he, hq⟩ := h.two
  simp only [evOp, o_fdiv] at he
  split at he
  · rename_i i j e
    cases e
    split at he
    · rename_i hc
      cases he
      exact op_fdivW pins s σ H x y v u Q I rx ry ⟨i, j, h1.int, h2.int, hc, hq _ _ _ (.sh (Rp.int _))⟩
    · cases he
  · cases he
theorem or_mod : OpR X (binaryOp .Mod) (fun x y H Q => OpG X.K .mod [x, y] H Q) := by
  intro pins s σ H x y v u Q I rx ry h
  obtain ⟨Z, t, u', r, hz, h1, h2, he, hq⟩ := h.two
  simp only [evOp, o_mod] at he
  split at he
  · rename_i i j e
    cases e
    split at he
    · rename_i hc
      cases he
      exact op_mod pins s σ H x y v u Q I rx ry ⟨i, j, h1.int, h2.int, hc, hq _ _ _ (.sh (Rp.int _))⟩
    · cases he
  · cases he
theorem or_pow : OpR X (binaryOp .Pow) (fun x y H Q => OpG X.K .pow [x, y] H Q) := by
  intro pins s σ H x y v u Q I rx ry h
  obtain ⟨Z, t, u', r, hz, h1, h2, he, hq⟩ := h.two
  simp only [evOp, o_pow] at he
  split at he
  · rename_i i j e
    cases e
    split at he
    · rename_i hc
      cases he
      exact op_pow pins s σ H x y v u Q I rx ry ⟨i, j, h1.int, h2.int, hc, hq _ _ _ (.sh (Rp.int _))⟩
    · cases he
  · cases he
theorem ur_neg : UnR X (unaryOp .USub) (fun x H Q => OpG X.K .neg [x] H Q) := by
  intro pins s σ H x v Q I rx h
  obtain ⟨Z, t, r, hz, h1, he, hq⟩ := h.one
  simp only [evOp, o_neg] at he
  split at he
  · rename_i i e
    cases e
    cases he
    exact un_neg pins s σ H x v Q I rx ⟨i, h1.int, hq _ _ _ (.sh (Rp.int _))⟩
  · cases he
theorem or_eq (hu : X.A.units + 64 < cLine) : OpR X (compareOp .Eq) (fun x y H Q => OpG X.K .eq [x, y] H Q) := by
  intro pins s σ H x y v u Q I rx ry h
  obtain ⟨Z, t, u', r, hz, h1, h2, he, hq⟩ := h.two
  simp only [evOp, o_eq] at he
  split at he
  · rename_i hc
    cases he
    rw [Bool.and_eq_true] at hc
    obtain ⟨d1, d2, d3⟩ := h1.dp hc.1
    obtain ⟨g1, g2, g3⟩ := h2.dp hc.2
    exact op_eqD hu pins s σ H x y v u Q I rx ry ⟨_, _, d1, g1, shaped_of d2 d3 (by decide), shaped_of g2 g3 (by decide), by rw [eqv_teq hc.1 hc.2]; exact hq _ _ _ (.sh (Rp.bl _))⟩
  · cases he
theorem or_ne (hu : X.A.units + 64 < cLine) : OpR X (compareOp .NotEq) (fun x y H Q => OpG X.K .ne [x, y] H Q) := by
  intro pins s σ H x y v u Q I rx ry h
  obtain ⟨Z, t, u', r, hz, h1, h2, he, hq⟩ := h.two
  simp only [evOp, o_ne] at he
  split at he
  · rename_i hc
    cases he
    rw [Bool.and_eq_true] at hc
    obtain ⟨d1, d2, d3⟩ := h1.dp hc.1
    obtain ⟨g1, g2, g3⟩ := h2.dp hc.2
    exact op_neD hu pins s σ H x y v u Q I rx ry ⟨_, _, d1, g1, shaped_of d2 d3 (by decide), shaped_of g2 g3 (by decide), by rw [eqv_teq hc.1 hc.2]; exact hq _ _ _ (.sh (Rp.bl _))⟩
  · cases he
theorem slt_iff : ∀ a b : List Nat, oLt (scmp a b) = decide (a < b)
  | [], [] => by simp [scmp, oLt]
  | [], _ :: _ => by simp [scmp, oLt]
  | _ :: _, [] => by simp [scmp, oLt]
  | x :: xs, y :: ys => by
    unfold scmp
    rw [show decide (x :: xs < y :: ys) = (decide (x < y) || (decide (x = y) && decide (xs < ys))) by
      rw [Bool.eq_iff_iff]
      simp [List.cons_lt_cons_iff]]
    rw [← slt_iff xs ys]
    cases e : ncmp x y with
    | eq =>
      have := ncmp_eq.mp e
      subst this
      simp
    | lt =>
      have : x < y := by
        unfold ncmp at e
        split at e
        · rename_i h; exact Nat.blt_eq.mp h
        · split at e <;> cases e
      simp [oLt, this]
    | gt =>
      have h1 : ¬ x < y := fun h => by
        unfold ncmp at e
        rw [Nat.blt_eq.mpr h] at e
        simp at e
      have h2 : x ≠ y := fun h => by
        rw [ncmp_eq.mpr h] at e
        cases e
      simp [oLt, h1, h2]
end
end Ev
end
section
set_option Elab.async false
set_option linter.all false
set_option maxRecDepth 100000
set_option maxHeartbeats 2000000
namespace Ev
open PySem PySem.Spec PyProof.Rows L2
section
variable {X : Cx}
theorem slt_to (a b : List Nat) : tlt (.str a) (.str b) = decide ((toS a).cps.toList < (toS b).cps.toList) := by
  rw [toS_cps, toS_cps]
  unfold tlt tcmp
  exact slt_iff a b
theorem or_ge : OpR X (compareOp .GtE) (fun x y H Q => OpG X.K .ge [x, y] H Q) := by
  intro pins s σ H x y v u Q I rx ry h
  obtain ⟨Z, t, u', r, hz, h1, h2, he, hq⟩ := h.two
  simp only [evOp, o_ge] at he
  split at he
  · rename_i i j e
    cases e
    cases he
    exact op_ge pins s σ H x y v u Q I rx ry ⟨i, j, h1.int, h2.int, hq _ _ _ (.sh (Rp.bl _))⟩
  · cases he
theorem or_le : OpR X (compareOp .LtE) (fun x y H Q => OpG X.K .le [x, y] H Q) := by
  intro pins s σ H x y v u Q I rx ry h
  obtain ⟨Z, t, u', r, hz, h1, h2, he, hq⟩ := h.two
  simp only [evOp, o_le] at he
  split at he
  · rename_i i j e
    cases e
    cases he
    exact op_le pins s σ H x y v u Q I rx ry ⟨i, j, h1.int, h2.int, hq _ _ _ (.sh (Rp.bl _))⟩
  · rename_i i j e
    cases e
    cases he
    refine op_le_str pins s σ H x y v u Q I rx ry ⟨_, _, h1.str.1, h2.str.1, ?_⟩
    have g := hq _ _ _ (.sh (Rp.bl _))
    rw [slt_to] at g
    exact g
  · cases he
theorem or_gt : OpR X (compareOp .Gt) (fun x y H Q => OpG X.K .gt [x, y] H Q) := by
  intro pins s σ H x y v u Q I rx ry h
  obtain ⟨Z, t, u', r, hz, h1, h2, he, hq⟩ := h.two
  simp only [evOp, o_gt] at he
  split at he
  · rename_i i j e
    cases e
    cases he
    exact op_gt pins s σ H x y v u Q I rx ry ⟨i, j, h1.int, h2.int, hq _ _ _ (.sh (Rp.bl _))⟩
  · rename_i i j e
    cases e
    cases he
    refine op_gt_str pins s σ H x y v u Q I rx ry ⟨_, _, h1.str.1, h2.str.1, ?_⟩
    have g := hq _ _ _ (.sh (Rp.bl _))
    rw [slt_to] at g
    exact g
  · cases he
theorem Vw.isNon {K : PySem.W.Frag} {Z : Zn} {H : Hp} {x : V} {t : T} (h1 : Vw K Z H x t) : decide (x = V.non) = isNon t := by
  cases t with
  | non => rw [h1.non]; rfl
  | bl => rw [h1.bl]; rfl
  | int => rw [h1.int]; rfl
  | str => rw [h1.str.1]; rfl
  | tup => obtain ⟨a, vs, e, _⟩ := h1.tup; rw [e]; rfl
  | lst => obtain ⟨a, vs, e, _⟩ := h1.lst; rw [e]; rfl
  | dct => obtain ⟨a, vs, e, _⟩ := h1; rw [e]; rfl
  | fz =>
    have h1 : Rp K Z H x (.fz _) := h1
    unfold Rp at h1
    obtain ⟨a, e, _⟩ := h1; rw [e]; rfl
  | err =>
    have h1 : Rp K Z H x (.err _ _) := h1
    unfold Rp at h1
    obtain ⟨a, d, ws, e, _⟩ := h1; rw [e]; rfl
theorem or_isN : OpR X (compareOp .Is) (fun x y H Q => y = .non ∧ OpG X.K .isN [x] H Q) := by
  intro pins s σ H x y v u Q I rx ry ⟨hy, h⟩
  obtain ⟨Z, t, r, hz, h1, he, hq⟩ := h.one
  simp only [evOp, o_isN, shB, Option.some.injEq] at he
  subst he
  exact op_isN pins s σ H x y v u Q I rx ry ⟨hy, by rw [h1.isNon]; exact hq _ _ _ (.sh (Rp.bl _))⟩
theorem or_notN : OpR X (compareOp .IsNot) (fun x y H Q => y = .non ∧ OpG X.K .notN [x] H Q) := by
  intro pins s σ H x y v u Q I rx ry ⟨hy, h⟩
  obtain ⟨Z, t, r, hz, h1, he, hq⟩ := h.one
  simp only [evOp, o_notN, shB, Option.some.injEq] at he
  subst he
  exact op_notN pins s σ H x y v u Q I rx ry ⟨hy, by rw [h1.isNon]; exact hq _ _ _ (.sh (Rp.bl _))⟩
theorem vs_empty {K : PySem.W.Frag} {Z : Zn} {H : Hp} {vs : List V} {ts : List T} (h : Rps K Z H vs ts) : (!ts.isEmpty) = !vs.isEmpty := by
  have := h.len
  cases ts <;> cases vs <;> simp_all
theorem Vw.tru {K : PySem.W.Frag} {Z : Zn} {H : Hp} {v : V} {t : T} {b : Bool} (h : Vw K Z H v t) (e : truth t = some b) : TruV K v H b := by
  cases t with
  | non => rw [h.non]; cases e; exact rfl
  | bl => rw [h.bl]; cases e; exact rfl
  | int => rw [h.int]; cases e; exact rfl
  | str s =>
    rw [h.str.1]
    simp only [truth] at e
    split at e
    · rename_i hl
      cases e
      refine ⟨by rw [toS_len, ← line_sz]; exact hl, ?_⟩
      rw [toS_len]
      rw [Bool.eq_iff_iff]
      simp
    · cases e
  | tup ts => obtain ⟨a, vs, e1, h1, h2⟩ := h.tup; rw [e1]; cases e; exact .inr (.inl ⟨vs, .of h1.1, vs_empty h2⟩)
  | lst ts => obtain ⟨a, vs, e1, h1, h2⟩ := h.lst; rw [e1]; cases e; exact .inl ⟨vs, .of h1, vs_empty h2⟩
  | dct ks us =>
    obtain ⟨a, vs, e1, ⟨kvs, g1, g2, g3⟩, h2⟩ := h
    rw [e1]
    cases e
    refine .inr (.inr ⟨kvs, g1, ?_⟩)
    rw [g2.1]
    cases kvs <;> rfl
  | fz => cases e
  | err => cases e
end
end Ev
end
section
set_option Elab.async false
set_option linter.all false
set_option maxRecDepth 100000
set_option maxHeartbeats 1000000
namespace Ev
open PySem PySem.Spec L2
theorem oEq_iff {o : Ordering} : oEq o = true ↔ o = .eq := by cases o <;> simp [oEq]
theorem scmp_self : ∀ x : List Nat, scmp x x = .eq
  | [] => rfl
  | a :: x => by
    have : ncmp a a = .eq := by
      unfold ncmp
      rw [if_neg (by intro h; exact absurd (Nat.blt_eq.mp h) (Nat.lt_irrefl _)), if_pos (by simp)]
    unfold scmp
    rw [this]
    exact scmp_self x
theorem scmp_is : ∀ {x y : List Nat}, scmp x y = .eq → x = y
  | [], [], _ => rfl
  | [], _ :: _, h => by cases h
  | _ :: _, [], h => by cases h
  | a :: x, b :: y, h => by
    unfold scmp at h
    cases q : ncmp a b with
    | eq =>
      rw [q] at h
      unfold ncmp at q
      split at q
      · cases q
      · split at q
        · rename_i e
          rw [Nat.eq_of_beq_eq_true e, scmp_is h]
        · cases q
    | lt => rw [q] at h; cases h
    | gt => rw [q] at h; cases h
theorem icmp_is {a b : Int} : icmp a b = .eq ↔ a = b := by
  unfold icmp
  by_cases h : a < b
  · simp [h]; omega
  · by_cases q : a = b <;> simp [h, q]
theorem teq_key (a b : Key) : teq (keyT a) (keyT b) = decide (a = b) := by
  rw [Bool.eq_iff_iff, decide_eq_true_iff]
  unfold teq
  rw [oEq_iff]
  cases a with
  | inl i =>
    cases b with
    | inl j => unfold keyT tcmp; rw [icmp_is]; simp
    | inr z => simp [keyT, tcmp, T.rank, ncmp]
  | inr y =>
    cases b with
    | inl j => simp [keyT, tcmp, T.rank, ncmp]
    | inr z =>
      unfold keyT tcmp
      constructor
      · intro h
        have e := scmp_is h
        congr 1
        obtain ⟨⟨l⟩⟩ := y
        obtain ⟨⟨m⟩⟩ := z
        simp at e
        rw [e]
      · intro h
        cases h
        exact scmp_self _
theorem key_of {K : PySem.W.Frag} {Z : Zn} {H : Hp} {v : V} {r : R} {fp : List Addr} (hk : isKeyT r = true) (h : Rr K Z H v r fp) : fp = [] ∧ ∃ k : Key, v = kV k ∧ r.t = keyT k ∧ okK k = true := by
  cases r with
  | sh t =>
    obtain ⟨h1, h2⟩ := h
    refine ⟨h1, ?_⟩
    cases t with
    | int i =>
      unfold Rp at h2
      exact ⟨.inl i, h2, rfl, rfl⟩
    | str s =>
      unfold Rp at h2
      exact ⟨.inr (toS s), h2.1, by simp [R.t, keyT, toS_cps], by simp [okK, toS_cps, h2.2]⟩
    | _ => cases hk
  | _ => cases hk
theorem Vw.dct {K : PySem.W.Frag} {Z : Zn} {H : Hp} {v : V} {ks us : List T} (h : Vw K Z H v (.dct ks us)) : ∃ a vs, v = .ref a ∧ DcAt H a ks vs ∧ Rps K Z H vs us := h
theorem Vw.key {K : PySem.W.Frag} {Z : Zn} {H : Hp} {v : V} {t : T} (h : Vw K Z H v t) (hk : isKey t = true) : ∃ k : Key, v = kV k ∧ t = keyT k ∧ okK k = true := by
  cases t with
  | int i => exact ⟨.inl i, h.int, rfl, rfl⟩
  | str s => exact ⟨.inr (toS s), h.str.1, by simp [keyT, toS_cps], by simp [okK, toS_cps, h.str.2]⟩
  | _ => cases hk
theorem look_val {K : PySem.W.Frag} {Z : Zn} {H : Hp} (k : Key) : ∀ {kvs : List (Key × V)} {us : List T}, Rps K Z H (kvs.map (·.2)) us → match look (keyT k) (kvs.map fun p => keyT p.1) us with
    | none => valV kvs k = none
    | some t => ∃ v, valV kvs k = some v ∧ Rp K Z H v t
  | [], us, h => by
    have := h.len
    cases us with
    | nil => rfl
    | cons _ _ => cases this
  | p :: r, us, h => by
    cases us with
    | nil => cases h.nil'
    | cons t ts =>
      obtain ⟨w, ws, e, h1, h2⟩ := h.uncons
      cases e
      have ih := look_val k h2
      simp only [List.map_cons, look, teq_key]
      by_cases q : p.1 = k
      · simp only [q, decide_true, if_true]
        exact ⟨p.2, valV_pos q, h1⟩
      · simp only [q, decide_false]
        rw [valV_neg q]
        exact ih
theorem mem_val (k : Key) : ∀ kvs : List (Key × V), tmem (keyT k) (kvs.map fun p => keyT p.1) = (valV kvs k).isSome
  | [] => rfl
  | p :: r => by
    have ih := mem_val k r
    unfold tmem at ih ⊢
    simp only [List.map_cons, List.any_cons, teq_key, ih]
    by_cases q : p.1 = k
    · rw [valV_pos q]; simp [q]
    · rw [valV_neg q]; simp [q]
end Ev
end
section
set_option Elab.async false
set_option linter.all false
set_option maxRecDepth 100000
set_option maxHeartbeats 1000000
namespace Ev
open PySem PySem.Spec PyProof.Rows L2
section
variable {X : Cx}
theorem any_sign (c : Nat) (y : List Nat) : y.any (Nat.beq c) = decide (c ∈ y) := by
  rw [Bool.eq_iff_iff]
  simp only [List.any_eq_true, decide_eq_true_eq]
  constructor
  · rintro ⟨z, hz, e⟩
    rw [Nat.eq_of_beq_eq_true e]
    exact hz
  · intro h
    exact ⟨c, h, by simp⟩
theorem or_in (hu : X.A.units + 65 < cLine) : OpR X (compareOp .In) (fun x y H Q => OpG X.K .in_ [x, y] H Q) := by
  intro pins s σ H x y v u Q I rx ry h
  obtain ⟨Z, t, u', r, hz, h1, h2, he, hq⟩ := h.two
  simp only [evOp, o_in_] at he
  split at he
  · rename_i c b e
    cases e
    cases he
    refine op_in_sign pins s σ H x y v u Q I rx ry ⟨c, toS b, h1.str.1, h2.str.1, ?_⟩
    have g := hq _ _ _ (.sh (Rp.bl _))
    rw [any_sign] at g
    rw [toS_cps]
    exact g
  · rename_i a ts e
    cases e
    split at he
    · rename_i hc
      cases he
      rw [Bool.and_eq_true] at hc
      obtain ⟨d1, d2, d3⟩ := h1.dp hc.1
      obtain ⟨p, vs, e1, g1, g2⟩ := h2.tup
      obtain ⟨g3, g4, g5⟩ := g2.dp hc.2
      refine op_inDT hu pins s σ H x y v u Q I rx ry ⟨_, _, d1, by rw [e1]; exact .tup (.of g1.1) g3, shaped_of d2 d3 (by decide), shaped_of (n := 61) (by simpa [PyData.canLay0] using g4) (by simp only [PyData.depth]; omega) (by decide), ?_⟩
      have g := hq _ _ _ (.sh (Rp.bl _))
      rw [← tmem_any hc.1 hc.2] at g
      exact g
    · cases he
  · rename_i a ts e
    cases e
    split at he
    · rename_i hc
      cases he
      rw [Bool.and_eq_true] at hc
      obtain ⟨d1, d2, d3⟩ := h1.dp hc.1
      obtain ⟨p, vs, e1, g1, g2⟩ := h2.lst
      obtain ⟨g3, g4, g5⟩ := g2.dp hc.2
      refine op_inD hu pins s σ H x y v u Q I rx ry ⟨_, _, d1, by rw [e1]; exact .lst (.of g1) g3, shaped_of d2 d3 (by decide), shaped_of (n := 61) (by simpa [PyData.canLay0] using g4) (by simp only [PyData.depth]; omega) (by decide), ?_⟩
      have g := hq _ _ _ (.sh (Rp.bl _))
      rw [← tmem_any hc.1 hc.2] at g
      exact g
    · cases he
  · rename_i a ks us e
    cases e
    split at he
    · rename_i hk
      cases he
      obtain ⟨k, rfl, rfl, _⟩ := h1.key hk
      obtain ⟨p, vs, rfl, ⟨kvs, g1, ⟨rfl, _⟩, rfl⟩, g2⟩ := h2.dct
      obtain rfl : u = Value.ref p := ry
      refine d_in (by omega) I (DGet.k g1) rx fun s3 I3 => ⟨.bl (valV kvs k).isSome, H, I3, rfl, ?_⟩
      have g := hq _ _ _ (.sh (Rp.bl _))
      rw [mem_val] at g
      exact g
    · cases he
  · cases he
theorem or_nin (hu : X.A.units + 65 < cLine) : OpR X (compareOp .NotIn) (fun x y H Q => OpG X.K .nin [x, y] H Q) := by
  intro pins s σ H x y v u Q I rx ry h
  obtain ⟨Z, t, u', r, hz, h1, h2, he, hq⟩ := h.two
  simp only [evOp, o_nin] at he
  split at he
  · rename_i c b e
    cases e
    cases he
    refine op_notIn_sign pins s σ H x y v u Q I rx ry ⟨c, toS b, h1.str.1, h2.str.1, ?_⟩
    have g := hq _ _ _ (.sh (Rp.bl _))
    rw [any_sign] at g
    rw [toS_cps]
    exact g
  · rename_i a ts e
    cases e
    split at he
    · rename_i hc
      cases he
      rw [Bool.and_eq_true] at hc
      obtain ⟨d1, d2, d3⟩ := h1.dp hc.1
      obtain ⟨p, vs, e1, g1, g2⟩ := h2.tup
      obtain ⟨g3, g4, g5⟩ := g2.dp hc.2
      refine op_notInDT hu pins s σ H x y v u Q I rx ry ⟨_, _, d1, by rw [e1]; exact .tup (.of g1.1) g3, shaped_of d2 d3 (by decide), shaped_of (n := 61) (by simpa [PyData.canLay0] using g4) (by simp only [PyData.depth]; omega) (by decide), ?_⟩
      have g := hq _ _ _ (.sh (Rp.bl _))
      rw [← tmem_any hc.1 hc.2] at g
      exact g
    · cases he
  · rename_i a ts e
    cases e
    split at he
    · rename_i hc
      cases he
      rw [Bool.and_eq_true] at hc
      obtain ⟨d1, d2, d3⟩ := h1.dp hc.1
      obtain ⟨p, vs, e1, g1, g2⟩ := h2.lst
      obtain ⟨g3, g4, g5⟩ := g2.dp hc.2
      refine op_notInD hu pins s σ H x y v u Q I rx ry ⟨_, _, d1, by rw [e1]; exact .lst (.of g1) g3, shaped_of d2 d3 (by decide), shaped_of (n := 61) (by simpa [PyData.canLay0] using g4) (by simp only [PyData.depth]; omega) (by decide), ?_⟩
      have g := hq _ _ _ (.sh (Rp.bl _))
      rw [← tmem_any hc.1 hc.2] at g
      exact g
    · cases he
  · rename_i a ks us e
    cases e
    split at he
    · rename_i hk
      cases he
      obtain ⟨k, rfl, rfl, _⟩ := h1.key hk
      obtain ⟨p, vs, rfl, ⟨kvs, g1, ⟨rfl, _⟩, rfl⟩, g2⟩ := h2.dct
      obtain rfl : u = Value.ref p := ry
      refine d_notIn (by omega) I (DGet.k g1) rx fun s3 I3 => ⟨.bl (!(valV kvs k).isSome), H, I3, rfl, ?_⟩
      have g := hq _ _ _ (.sh (Rp.bl _))
      rw [mem_val] at g
      exact g
    · cases he
  · cases he
theorem ixN_eq (n : Nat) (i : Int) : ixN n i = L2.ixN n i := rfl
theorem atI_rps {K : PySem.W.Frag} {Z : Zn} {H : Hp} {vs : List V} {ts : List T} {i : Int} {t : T} (h : Rps K Z H vs ts) (e : atI ts i = some t) : ∃ v, L2.atI vs i = some v ∧ Rp K Z H v t := by
  unfold atI at e
  cases q : ixN ts.length i with
  | none => rw [q] at e; cases e
  | some j =>
    rw [q] at e
    obtain ⟨v, e1, e2⟩ := h.get (i := j) e
    refine ⟨v, ?_, e2⟩
    unfold L2.atI
    rw [h.len, ← ixN_eq, q]
    exact e1
theorem ir_idx (hu : X.A.units + 65 < cLine) : IxR X (fun x y H Q => OpG X.K .idx [x, y] H Q) := by
  intro value slice pins s σ H x y v u Q I rx ry h hs
  obtain ⟨Z, t, u', r, hz, h1, h2, he, hq⟩ := h.two
  simp only [evOp, o_idx] at he
  split at he
  · rename_i ts i e
    cases e
    cases q : atI ts i with
    | none => rw [q] at he; cases he
    | some z =>
      rw [q] at he
      cases he
      obtain ⟨p, vs, e1, g1, g2⟩ := h1.tup
      obtain ⟨z', k1, k2⟩ := atI_rps g2 q
      exact ix_tup value slice pins s σ H x y v u Q I rx ry ⟨p, vs, i, z', e1, h2.int, .of g1.1, k1, hq _ _ _ (.sh k2)⟩ hs
  · rename_i ts i e
    cases e
    cases q : atI ts i with
    | none => rw [q] at he; cases he
    | some z =>
      rw [q] at he
      cases he
      obtain ⟨p, vs, e1, g1, g2⟩ := h1.lst
      obtain ⟨z', k1, k2⟩ := atI_rps g2 q
      exact ix_list value slice pins s σ H x y v u Q I rx ry ⟨p, vs, i, z', e1, h2.int, .of g1, k1, hq _ _ _ (.sh k2)⟩ hs
  · rename_i z i e
    cases e
    split at he
    · rename_i hl
      cases q : atI z i with
      | none => rw [q] at he; cases he
      | some c =>
        rw [q] at he
        cases he
        refine ix_str value slice pins s σ H x y v u Q I rx ry ⟨toS z, i, c, h1.str.1, h2.int, by rw [toS_len, ← line_sz]; exact hl, ?_, ?_⟩ hs
        · rw [toS_cps]
          exact q
        · refine hq _ _ _ (.sh (t := .str [c]) (Rp.str ?_))
          have hm : c ∈ z := by
            unfold atI at q
            cases q2 : ixN z.length i with
            | none => rw [q2] at q; cases q
            | some j => rw [q2] at q; exact List.mem_of_getElem? q
          have ok := h1.str.2
          unfold okS at ok ⊢
          rw [List.all_eq_true] at ok
          simp [ok c hm]
    · cases he
  · rename_i ns i e
    cases e
    cases q : atI ns i with
    | none => rw [q] at he; cases he
    | some z =>
      rw [q] at he
      cases he
      have h1 : Rp X.K Z H x (.fz ns) := h1
      unfold Rp at h1
      obtain ⟨p, e1, g1⟩ := h1
      have sq : SqL X.K H p (ns.map V.int) := g1.elim (fun ⟨o, k, _⟩ => .inl (.inr ⟨o, k⟩)) .inr
      refine ix_list value slice pins s σ H x y v u Q I rx ry ⟨p, _, i, .int z, e1, h2.int, sq, ?_, hq _ _ _ (.sh (Rp.int _))⟩ hs
      unfold L2.atI
      unfold atI at q
      rw [List.length_map, ← ixN_eq]
      cases q2 : ixN ns.length i with
      | none => rw [q2] at q; cases q
      | some j =>
        rw [q2] at q
        have q : ns[j]? = some z := q
        show (ns.map V.int)[j]? = _
        rw [List.getElem?_map, q]
        rfl
  · rename_i ks us k e
    cases e
    split at he
    · rename_i hk
      obtain ⟨k, rfl, rfl, _⟩ := h2.key hk
      obtain ⟨p, vs, rfl, ⟨kvs, g1, ⟨rfl, _⟩, rfl⟩, g2⟩ := h1.dct
      have lv := look_val k g2
      cases q : look (keyT k) (kvs.map fun p => keyT p.1) us with
      | none => rw [q] at he; cases he
      | some t =>
        rw [q] at he lv
        cases he
        obtain ⟨z, k1, k2⟩ := lv
        obtain rfl : v = Value.ref p := rx
        have dg := DGet.k (k := k) g1
        rw [k1] at dg
        exact tail_any (dict_typeIs I dg) PySem.F.slot_dict_getitem.lookup (d_getItem (by omega) I dg ry fun w' s3 I3 rw' => ⟨z, H, I3, rw', hq _ _ _ (.sh k2)⟩) hs
    · cases he
  · cases he
theorem cut_map {α β : Type} (f : α → β) (xs : List α) (lo hi : Option Int) : (cut xs lo hi).map f = cut (xs.map f) lo hi := by
  unfold cut
  rw [List.map_take, List.map_drop, List.length_map]
theorem sIx_eq (n d : Nat) (o : Option Int) : sIx n d o = HT.sIx n d o := by cases o <;> rfl
theorem cutV_eq (xs : List V) (lo hi : Option Int) : cutV xs lo hi = cut xs lo hi := by
  unfold cutV cut
  simp only [sIx_eq]
theorem Rps.cut {K : PySem.W.Frag} {Z : Zn} {H : Hp} {vs : List V} {ts : List T} (h : Rps K Z H vs ts) (lo hi : Option Int) : Rps K Z H (cutV vs lo hi) (cut ts lo hi) := by
  rw [cutV_eq]
  unfold Ev.cut
  rw [h.len]
  exact (h.drop _).take _
theorem cut_whole {α : Type} {xs : List α} {lo hi : Option Int} (h : HT.sIx xs.length 0 lo = 0 ∧ HT.sIx xs.length xs.length hi = xs.length) : cut xs lo hi = xs := by
  unfold cut
  rw [sIx_eq, sIx_eq, h.1, h.2]
  simp
theorem okS_sub {a b : List Nat} (h : okS b = true) (m : ∀ c ∈ a, c ∈ b) : okS a = true := by
  unfold okS at h ⊢
  rw [List.all_eq_true] at h ⊢
  exact fun c hc => h c (m c hc)
def SlG (K : PySem.W.Frag) (v : V) (lo hi : Option Int) (H : Hp) (Q : VK) : Prop :=
  ∃ Z t r, (∀ a, Z a → H a ≠ none) ∧ Vw K Z H v t ∧ (match t with
    | .tup ts => shT (cut ts lo hi)
    | .lst ts => some (.own (cut ts lo hi))
    | .fz ns => some (.own ((cut ns lo hi).map .int))
    | .str s => if s.length ≤ line then some (.sh (.str (cut s lo hi))) else none
    | _ => none) = some r ∧ ∀ v H' fp, OPo K Z H H' v r fp → Q v H'
theorem sr_sl : SlR X (fun x lo hi H Q => SlG X.K x lo hi H Q) := by
  intro pins s σ H x v vl vu lo hi sl Q I rx hs pl pu h
  obtain ⟨Z, t, r, hz, h1, he, hq⟩ := h
  cases t with
  | tup ts =>
    cases he
    obtain ⟨p, vs, e1, g1, g2⟩ := h1.tup
    refine sl_tupA pins s σ H x v vl vu lo hi sl Q I rx hs pl pu ⟨p, vs, e1, .of g1.1, fun w => ?_, fun w q nq => hq _ _ _ (.tup nq hz (g2.cut lo hi))⟩
    rw [g2.len] at w
    rw [cut_whole w] at hq
    rw [← e1]
    exact hq _ _ _ (.sh (by unfold Rp; exact ⟨p, vs, e1, g1, g2⟩))
  | lst ts =>
    cases he
    obtain ⟨p, vs, e1, g1, g2⟩ := h1.lst
    exact sl_list pins s σ H x v vl vu lo hi sl Q I rx hs pl pu ⟨p, vs, e1, .of g1, fun q nq => hq _ _ _ (.lst nq (g2.cut lo hi))⟩
  | fz ns =>
    cases he
    have h1 : Rp X.K Z H x (.fz ns) := h1
    unfold Rp at h1
    obtain ⟨p, e1, g1⟩ := h1
    have sq : SqL X.K H p (ns.map V.int) := g1.elim (fun ⟨o, k, _⟩ => .inl (.inr ⟨o, k⟩)) .inr
    refine sl_list pins s σ H x v vl vu lo hi sl Q I rx hs pl pu ⟨p, _, e1, sq, fun q nq => hq _ _ _ (.lst nq ?_)⟩
    rw [cutV_eq, ← cut_map]
    generalize cut ns lo hi = l
    induction l with
    | nil => exact .nil
    | cons n l ih => exact .cons (Rp.int n) ih
  | str z =>
    dsimp only at he
    split at he
    · rename_i hl
      cases he
      refine sl_str pins s σ H x v vl vu lo hi sl Q I rx hs pl pu ⟨toS z, h1.str.1, by rw [toS_len, ← line_sz]; exact hl, ?_⟩
      have e : cutS (toS z) lo hi = toS (cut z lo hi) := by
        unfold cutS cut toS
        simp only [Str.length, List.size_toArray, sIx_eq]
      rw [e]
      refine hq _ _ _ (.sh (Rp.str (okS_sub h1.str.2 fun c hc => ?_)))
      unfold cut at hc
      exact List.mem_of_mem_drop (List.mem_of_mem_take hc)
    · cases he
  | _ => cases he
end
end Ev
end
section
set_option Elab.async false
set_option linter.all false
set_option maxRecDepth 100000
set_option maxHeartbeats 1000000
namespace Ev
open PySem PySem.Spec PyProof.Rows L2
section
variable {X : Cx}
theorem OpG.ln {K : PySem.W.Frag} {o : Op} {xs : List V} {H : Hp} {Q : VK} (h : OpG K o xs H Q) :
    ∃ Z ts r, (∀ a, Z a → H a ≠ none) ∧ ts.length = xs.length ∧ Vws K Z H xs ts ∧ evOp o ts = some r ∧ ∀ v H' fp, OPo K Z H H' v r fp → Q v H' := by
  obtain ⟨Z, ts, r, hz, hv, he, hq⟩ := h
  exact ⟨Z, ts, r, hz, hv.ln, hv, he, hq⟩
theorem cr_len : CallR X (.builtin "len") (fun xs H Q => OpG X.K .len xs H Q) := by
  intro pins s σ H xs us Q I rx h
  obtain ⟨Z, ts, r, hz, hv, he, hq⟩ := h
  simp only [evOp, o_len] at he
  split at he
  · rename_i ts
    cases he
    obtain ⟨v, rfl, h1⟩ := hv.one
    obtain ⟨p, vs, rfl, g1, g2⟩ := h1.tup
    have e := g2.len
    exact call_len_seq pins s σ H _ us Q I rx ⟨p, vs, rfl, .inr (.of g1.1), by rw [e]; exact hq _ _ _ (.sh (Rp.int _))⟩
  · rename_i ts
    cases he
    obtain ⟨v, rfl, h1⟩ := hv.one
    obtain ⟨p, vs, rfl, g1, g2⟩ := h1.lst
    have e := g2.len
    exact call_len_seq pins s σ H _ us Q I rx ⟨p, vs, rfl, .inl (.of g1), by rw [e]; exact hq _ _ _ (.sh (Rp.int _))⟩
  · rename_i z
    split at he
    · rename_i hl
      cases he
      obtain ⟨v, rfl, h1⟩ := hv.one
      rw [h1.str.1] at rx
      exact call_len_str pins s σ H [.str (toS z)] us Q I rx ⟨toS z, rfl, by rw [toS_len, ← line_sz]; exact hl, by rw [toS_len]; exact hq _ _ _ (.sh (Rp.int _))⟩
    · cases he
  · rename_i ns
    cases he
    obtain ⟨v, rfl, h1⟩ := hv.one
    have h1 : Rp X.K Z H v (.fz ns) := h1
    unfold Rp at h1
    obtain ⟨p, rfl, g1⟩ := h1
    have sq : SqL X.K H p (ns.map V.int) := g1.elim (fun ⟨o, k, _⟩ => .inl (.inr ⟨o, k⟩)) .inr
    exact call_len_seq pins s σ H _ us Q I rx ⟨p, _, rfl, .inl sq, by rw [List.length_map]; exact hq _ _ _ (.sh (Rp.int _))⟩
  · rename_i ks us
    cases he
    obtain ⟨v, rfl, h1⟩ := hv.one
    obtain ⟨p, vs, rfl, ⟨kvs, g1, ⟨rfl, _⟩, _⟩, g2⟩ := h1.dct
    rw [Vals.ref1 rx]
    exact d_len I (.inl g1) fun tk s3 I3 => ⟨.int kvs.length, H, I3, ⟨tk, rfl⟩, by
      have g := hq _ _ _ (.sh (Rp.int _))
      rw [List.length_map] at g
      exact g⟩
  · cases he
theorem cr_abs : CallR X (.builtin "abs") (fun xs H Q => OpG X.K .abs xs H Q) := by
  intro pins s σ H xs us Q I rx ⟨Z, ts, r, hz, hv, he, hq⟩
  simp only [evOp, o_abs] at he
  split at he
  · cases he
    obtain ⟨v, rfl, h1⟩ := hv.one
    exact call_abs pins s σ H _ us Q I rx ⟨_, by rw [h1.int], hq _ _ _ (.sh (Rp.int _))⟩
  · cases he
theorem cr_min2 (hc : X.calm = true) : CallR X (.builtin "min") (fun xs H Q => OpG X.K .min2 xs H Q) := by
  intro pins s σ H xs us Q I rx ⟨Z, ts, r, hz, hv, he, hq⟩
  simp only [evOp, o_min2] at he
  split at he
  · cases he
    obtain ⟨v, w, rfl, h1, h2⟩ := hv.two
    exact call_min2 hc pins s σ H _ us Q I rx ⟨_, _, by rw [h1.int, h2.int], hq _ _ _ (.sh (Rp.int _))⟩
  · cases he
theorem cr_max2 (hc : X.calm = true) : CallR X (.builtin "max") (fun xs H Q => OpG X.K .max2 xs H Q) := by
  intro pins s σ H xs us Q I rx ⟨Z, ts, r, hz, hv, he, hq⟩
  simp only [evOp, o_max2] at he
  split at he
  · cases he
    obtain ⟨v, w, rfl, h1, h2⟩ := hv.two
    exact call_max2 hc pins s σ H _ us Q I rx ⟨_, _, by rw [h1.int, h2.int], hq _ _ _ (.sh (Rp.int _))⟩
  · cases he
theorem Rps.intsT {K : PySem.W.Frag} {Z : Zn} {H : Hp} : ∀ {ts : List T} {vs : List V} {ns}, Rps K Z H vs ts → intsT ts = some ns → vs = ns.map V.int
  | [], _, _, h, e => by
    rw [h.nil']
    cases e
    rfl
  | t :: ts, _, ns, h, e => by
    obtain ⟨v, r, rfl, h1, h2⟩ := h.uncons
    cases t with
    | int i =>
      unfold Ev.intsT at e
      cases q : Ev.intsT ts with
      | none => rw [q] at e; cases e
      | some ms =>
        rw [q] at e
        cases e
        unfold Rp at h1
        rw [h1, Rps.intsT h2 q]
        rfl
    | _ => simp [Ev.intsT] at e
theorem Rps.boolsT {K : PySem.W.Frag} {Z : Zn} {H : Hp} : ∀ {ts : List T} {vs : List V} {ns}, Rps K Z H vs ts → boolsT ts = some ns → vs = ns.map V.bl
  | [], _, _, h, e => by
    rw [h.nil']
    cases e
    rfl
  | t :: ts, _, ns, h, e => by
    obtain ⟨v, r, rfl, h1, h2⟩ := h.uncons
    cases t with
    | bl i =>
      unfold Ev.boolsT at e
      cases q : Ev.boolsT ts with
      | none => rw [q] at e; cases e
      | some ms =>
        rw [q] at e
        cases e
        unfold Rp at h1
        rw [h1, Rps.boolsT h2 q]
        rfl
    | _ => simp [Ev.boolsT] at e
theorem cr_sum1 (hc : X.calm = true) : CallR X (.builtin "sum") (fun xs H Q => OpG X.K .sum xs H Q) := by
  intro pins s σ H xs us Q I rx ⟨Z, ts, r, hz, hv, he, hq⟩
  simp only [evOp, o_sum] at he
  split at he
  · rename_i us'
    cases q : intsT us' with
    | none => rw [q] at he; cases he
    | some ns =>
      rw [q] at he
      cases he
      obtain ⟨v, rfl, h1⟩ := hv.one
      obtain ⟨p, vs, rfl, g1, g2⟩ := h1.lst
      rw [g2.intsT q] at g1
      exact cr_sum hc pins s σ H _ us Q I rx ⟨p, ns, rfl, .of g1, hq _ _ _ (.sh (Rp.int _))⟩
  · cases he
theorem cr_all1 (hc : X.calm = true) : CallR X (.builtin "all") (fun xs H Q => OpG X.K .all xs H Q) := by
  intro pins s σ H xs us Q I rx ⟨Z, ts, r, hz, hv, he, hq⟩
  simp only [evOp, o_all] at he
  split at he
  · rename_i us'
    cases q : boolsT us' with
    | none => rw [q] at he; cases he
    | some ns =>
      rw [q] at he
      cases he
      obtain ⟨v, rfl, h1⟩ := hv.one
      obtain ⟨p, vs, rfl, g1, g2⟩ := h1.lst
      rw [g2.boolsT q] at g1
      exact cr_all hc pins s σ H _ us Q I rx ⟨p, ns, rfl, .of g1, hq _ _ _ (.sh (Rp.bl _))⟩
  · cases he
theorem cr_any1 (hc : X.calm = true) : CallR X (.builtin "any") (fun xs H Q => OpG X.K .any xs H Q) := by
  intro pins s σ H xs us Q I rx ⟨Z, ts, r, hz, hv, he, hq⟩
  simp only [evOp, o_any] at he
  split at he
  · rename_i us'
    cases q : boolsT us' with
    | none => rw [q] at he; cases he
    | some ns =>
      rw [q] at he
      cases he
      obtain ⟨v, rfl, h1⟩ := hv.one
      obtain ⟨p, vs, rfl, g1, g2⟩ := h1.lst
      rw [g2.boolsT q] at g1
      exact cr_any hc pins s σ H _ us Q I rx ⟨p, ns, rfl, .of g1, hq _ _ _ (.sh (Rp.bl _))⟩
  · cases he
theorem minI_le : ∀ (r : List Int) (a : Int), minI a r ≤ a ∧ (∀ y ∈ r, minI a r ≤ y) ∧ (minI a r = a ∨ minI a r ∈ r)
  | [], a => ⟨Int.le_refl _, fun _ h => by simp at h, .inl rfl⟩
  | i :: r, a => by
    unfold minI
    obtain ⟨h1, h2, h3⟩ := minI_le r (if i < a then i else a)
    have e1 : (if i < a then i else a) ≤ a := by split <;> omega
    have e2 : (if i < a then i else a) ≤ i := by split <;> omega
    refine ⟨Int.le_trans h1 e1, fun y hy => ?_, ?_⟩
    · rcases List.mem_cons.mp hy with rfl | hy
      · exact Int.le_trans h1 e2
      · exact h2 y hy
    · rcases h3 with h | h
      · rw [h]
        split
        · exact .inr List.mem_cons_self
        · exact .inl rfl
      · exact .inr (List.mem_cons_of_mem _ h)
theorem maxI_le : ∀ (r : List Int) (a : Int), a ≤ maxI a r ∧ (∀ y ∈ r, y ≤ maxI a r) ∧ (maxI a r = a ∨ maxI a r ∈ r)
  | [], a => ⟨Int.le_refl _, fun _ h => by simp at h, .inl rfl⟩
  | i :: r, a => by
    unfold maxI
    obtain ⟨h1, h2, h3⟩ := maxI_le r (if a < i then i else a)
    have e1 : a ≤ (if a < i then i else a) := by split <;> omega
    have e2 : i ≤ (if a < i then i else a) := by split <;> omega
    refine ⟨Int.le_trans e1 h1, fun y hy => ?_, ?_⟩
    · rcases List.mem_cons.mp hy with rfl | hy
      · exact Int.le_trans e2 h1
      · exact h2 y hy
    · rcases h3 with h | h
      · rw [h]
        split
        · exact .inr List.mem_cons_self
        · exact .inl rfl
      · exact .inr (List.mem_cons_of_mem _ h)
theorem cr_minL (hc : X.calm = true) : CallR X (.builtin "min") (fun xs H Q => OpG X.K .minL xs H Q) := by
  intro pins s σ H xs us Q I rx ⟨Z, ts, r, hz, hv, he, hq⟩
  simp only [evOp, o_minL] at he
  split at he
  · rename_i i us'
    cases q : intsT us' with
    | none => rw [q] at he; cases he
    | some ns =>
      rw [q] at he
      cases he
      obtain ⟨v, rfl, h1⟩ := hv.one
      obtain ⟨p, vs, rfl, g1, g2⟩ := h1.lst
      have q' : intsT (.int i :: us') = some (i :: ns) := by unfold intsT; rw [q]; rfl
      rw [g2.intsT q'] at g1
      refine cr_min hc pins s σ H _ us Q I rx ⟨p, i :: ns, rfl, .of g1, by simp, fun m hm hl => ?_⟩
      obtain ⟨k1, k2, k3⟩ := minI_le ns i
      have e : m = minI i ns := by
        have a1 : m ≤ minI i ns := by
          rcases k3 with k | k
          · rw [k]; exact hl _ List.mem_cons_self
          · exact hl _ (List.mem_cons_of_mem _ k)
        have a2 : minI i ns ≤ m := by
          rcases List.mem_cons.mp hm with rfl | hm
          · exact k1
          · exact k2 _ hm
        omega
      rw [e]
      exact hq _ _ _ (.sh (Rp.int _))
  · cases he
theorem cr_maxL (hc : X.calm = true) : CallR X (.builtin "max") (fun xs H Q => OpG X.K .maxL xs H Q) := by
  intro pins s σ H xs us Q I rx ⟨Z, ts, r, hz, hv, he, hq⟩
  simp only [evOp, o_maxL] at he
  split at he
  · rename_i i us'
    cases q : intsT us' with
    | none => rw [q] at he; cases he
    | some ns =>
      rw [q] at he
      cases he
      obtain ⟨v, rfl, h1⟩ := hv.one
      obtain ⟨p, vs, rfl, g1, g2⟩ := h1.lst
      have q' : intsT (.int i :: us') = some (i :: ns) := by unfold intsT; rw [q]; rfl
      rw [g2.intsT q'] at g1
      refine cr_max hc pins s σ H _ us Q I rx ⟨p, i :: ns, rfl, .of g1, by simp, fun m hm hl => ?_⟩
      obtain ⟨k1, k2, k3⟩ := maxI_le ns i
      have e : m = maxI i ns := by
        have a1 : maxI i ns ≤ m := by
          rcases k3 with k | k
          · rw [k]; exact hl _ List.mem_cons_self
          · exact hl _ (List.mem_cons_of_mem _ k)
        have a2 : m ≤ maxI i ns := by
          rcases List.mem_cons.mp hm with rfl | hm
          · exact k1
          · exact k2 _ hm
        omega
      rw [e]
      exact hq _ _ _ (.sh (Rp.int _))
  · cases he
theorem cr_toInt : CallR X (.type "int") (fun xs H Q => OpG X.K .toInt xs H Q) := by
  intro pins s σ H xs us Q I rx ⟨Z, ts, r, hz, hv, he, hq⟩
  simp only [evOp, o_toInt] at he
  split at he
  · cases he
    obtain ⟨v, rfl, h1⟩ := hv.one
    exact call_int1 pins s σ H _ us Q I rx (.inl ⟨_, by rw [h1.int], hq _ _ _ (.sh (Rp.int _))⟩)
  · rename_i b
    cases he
    obtain ⟨v, rfl, h1⟩ := hv.one
    exact call_int1 pins s σ H _ us Q I rx (.inr ⟨_, by rw [h1.bl], hq _ _ _ (.sh (Rp.int _))⟩)
  · cases he
theorem vals_at : ∀ {zs : List V} {us : List Value}, zs.length = us.length → (∀ (j : Nat) (z : V) (u : Value), zs[j]? = some z → us[j]? = some u → RelV z u) → Vals zs us
  | [], [], _, _ => .nil
  | z :: zs, u :: us, hl, h => .cons (h 0 z u rfl rfl) (vals_at (by simpa using hl) fun j a b ha hb => h (j + 1) a b (by simpa using ha) (by simpa using hb))
  | [], _ :: _, hl, _ => by simp at hl
  | _ :: _, [], hl, _ => by simp at hl
theorem rps_signs {K : PySem.W.Frag} {Z : Zn} {H : Hp} : ∀ {s : List Nat}, okS s = true → Rps K Z H (s.map fun c => V.str (toS [c])) (s.map fun c => T.str [c])
  | [], _ => .nil
  | c :: s, h => by
    unfold okS at h
    rw [List.all_cons, Bool.and_eq_true] at h
    exact .cons (Rp.str (by unfold okS; rw [List.all_cons, h.1]; rfl)) (rps_signs (s := s) h.2)
theorem cr_toTup (hca : X.calm = true) : CallR X (.type "tuple") (fun xs H Q => OpG X.K .toTup xs H Q) := by
  intro pins s σ H xs us Q I rx ⟨Z, ts, r, hz, hv, he, hq⟩
  simp only [evOp, o_toTup] at he
  split at he
  · rename_i z
    split at he
    · rename_i hl
      cases he
      obtain ⟨v, rfl, h1⟩ := hv.one
      obtain ⟨ev, oz⟩ := h1.str
      subst ev
      obtain ⟨u, rfl, ru⟩ := rx.one
      obtain ⟨tk0, rfl⟩ := ru
      have hsz : (toS z).cps.size ≤ sizeLine := by
        have : (toS z).cps.size = z.length := by simp [toS]
        rw [this, ← line_sz]
        exact hl
      refine call_tuple_str (I.ok.hd hca) (toS z) tk0 (fun h' tk acc kp hacc => ?_) hsz
      have I1 : Inv X pins σ H { s with heap := h', toks := tk } := I.kept (t' := tk) kp
      have hlen : acc.toList.length = z.length := by
        rw [Array.length_toList, hacc.1]
        simp [toS]
      have hvals : Vals (z.map fun c => V.str (toS [c])) acc.toList := vals_at (by rw [List.length_map, hlen]) fun j a b ha hb => by
        obtain ⟨c, u, hc, rfl⟩ := hacc.2 j b (by simpa using hb)
        have hc' : z[j]? = some c := by simpa [toS] using hc
        rw [List.getElem?_map, hc'] at ha
        cases ha
        exact ⟨u, rfl⟩
      have I2 : Inv X pins σ (upd H h'.objs.size (.tup (z.map fun c => V.str (toS [c])))) { s with heap := h'.push { cls := .type "tuple", data := .seq acc }, toks := tk } :=
        I1.laid (t' := tk) (fun b o e => Heap.get?_push_of_some _ e) (Nat.le_refl _) (show ObjOk X.prog X.w _ _ _ (.tup (z.map fun c => V.str (toS [c]))) from ⟨by rw [List.length_map, ← line_sz]; exact hl, acc.toList, hvals, by simpa using (IsTup.new h' acc)⟩)
      have nl := I1.hok.fresh (Nat.le_refl _)
      exact ⟨.ref h'.objs.size, _, I2, rfl, hq _ _ _ (.tup nl hz (rps_signs oz))⟩
    · cases he
  · rename_i t _
    obtain ⟨v, rfl, h1⟩ := hv.one
    cases t with
    | tup ts =>
      cases he
      obtain ⟨p, vs, rfl, g1, g2⟩ := h1.tup
      exact call_tuple_of pins s σ H _ us Q I rx ⟨p, vs, rfl, .inr ⟨.of g1.1, hq _ _ _ (.sh (by unfold Rp; exact ⟨p, vs, rfl, g1, g2⟩))⟩⟩
    | lst ts =>
      cases he
      obtain ⟨p, vs, rfl, g1, g2⟩ := h1.lst
      exact call_tuple_of pins s σ H _ us Q I rx ⟨p, vs, rfl, .inl ⟨.of g1, fun l nl => hq _ _ _ (.tup nl hz g2)⟩⟩
    | _ => cases he
  · cases he
theorem cr_toLst : CallR X (.type "list") (fun xs H Q => OpG X.K .toLst xs H Q) := by
  intro pins s σ H xs us Q I rx ⟨Z, ts, r, hz, hv, he, hq⟩
  simp only [evOp, o_toLst] at he
  split at he
  · rename_i t
    obtain ⟨v, rfl, h1⟩ := hv.one
    cases t with
    | tup ts =>
      cases he
      obtain ⟨p, vs, rfl, g1, g2⟩ := h1.tup
      exact call_list_of pins s σ H _ us Q I rx ⟨p, vs, rfl, .inr (.of g1.1), fun l nl => hq _ _ _ (.lst nl g2)⟩
    | lst ts =>
      cases he
      obtain ⟨p, vs, rfl, g1, g2⟩ := h1.lst
      exact call_list_of pins s σ H _ us Q I rx ⟨p, vs, rfl, .inl (.of g1), fun l nl => hq _ _ _ (.lst nl g2)⟩
    | _ => cases he
  · cases he
end
end Ev
end
section
set_option Elab.async false
set_option linter.all false
set_option maxRecDepth 100000
set_option maxHeartbeats 1000000
namespace Ev
open PySem PySem.Spec L2 StX
section
variable {K : PySem.W.Frag} {Z : Zn} {F F' : Nat → List Addr} {σ : L2.St} {ρ ρ' : Env} {H H' : Hp} {v : V} {r : R} {fp : List Addr}
/-- a slot is shared -/
theorem epo_share (S : SI K Z F σ ρ H) {i : Nat} (e : ρ[i]? = some (some r)) (hb : r.isBox = false) : ∃ v, σ[i]? = some (some v) ∧ EPo K Z F σ ρ H (fset F i []) (setR ρ i (.sh r.t)) H v (.sh r.t) [] := by
  obtain ⟨v, e1, e2⟩ := S.at_ i r e
  have hi : i < ρ.length := (List.getElem?_eq_some_iff.mp e).1
  have sub : ∀ j a, a ∈ fset F i [] j → a ∈ F j := fun j a h => by
    by_cases q : j = i
    · subst q; rw [fset_self] at h; simp at h
    · rw [fset_ne q] at h; exact h
  have hr : Rp K (Zs Z (fset F i [])) H v r.t := (e2.zn (Zs.sub sub)).share fun b hb q => by
    rcases q with q | ⟨j, q⟩
    · exact S.zf i b hb q
    · have h1 := S.dj i j b hb (sub j b q)
      subst h1
      rw [fset_self] at q
      simp at q
  have si : SI K Z (fset F i []) σ (setR ρ i (.sh r.t)) H := by
    unfold setR
    refine ⟨by simp [S.len], S.tr, fun j r' hj => ?_, fun j n => ?_, fun j => ?_, fun j k a h1 h2 => S.dj j k a (sub j a h1) (sub k a h2), fun j a h => S.zf j a (sub j a h)⟩
    · by_cases q : j = i
      · subst q
        rw [List.getElem?_set_self hi] at hj
        cases hj
        exact ⟨v, e1, fset_self, hr⟩
      · rw [List.getElem?_set_ne (Ne.symm q)] at hj
        obtain ⟨w, k1, k2⟩ := S.at_ j r' hj
        exact ⟨w, k1, by rw [fset_ne q]; exact k2.zn (Zs.sub sub)⟩
    · by_cases q : j = i
      · subst q; exact fset_self
      · rw [fset_ne q]
        exact S.no j fun r' h => n r' (by rw [List.getElem?_set_ne (Ne.symm q)]; exact h)
    · by_cases q : j = i
      · subst q; rw [fset_self]; simp
      · rw [fset_ne q]; exact S.nd j
  have hbx : ∀ ts, ρ[i]? ≠ some (some (R.box ts)) := fun ts q => by
    rw [e] at q
    cases q
    cases hb
  have bx := BX.put (F := F) (fp := []) (r := R.sh r.t) hbx rfl
  exact ⟨v, e1, si.zn fun b q => q.elim id fun q => by simp at q, ⟨rfl, hr.zn fun b _ q => q.imp (fun q => q.elim id fun q => by simp at q) id⟩, by simp, sub, fun b o e _ => e, fun a h => by simp at h, fun _ h => h, S.tr, bx.bx, bx.nb⟩
theorem EPo.plain (S : SI K Z F σ ρ H) {t : T} (h : Rp K (Zs Z F) H v t) : EPo K Z F σ ρ H F ρ H v (.sh t) [] := EPo.of_op (.refl S) (.sh h)
end
section
variable {D : Wd} {σ : L2.St} {H : Hp} {Q : VK}
theorem var_in {i : Nat} (h : tE D (.var i) σ H Q) : tVar i σ H Q := by
  obtain ⟨Z, F, ρ, S, h⟩ := h
  rw [ev] at h
  unfold share at h
  cases e0 : getR ρ i with
  | none => rw [e0] at h; exact h.elim
  | some r =>
    rw [e0] at h
    cases r with
    | box ts => exact h.elim
    | sh t =>
      obtain ⟨v, e1, e2⟩ := S.at_ i _ (getR_some e0)
      exact ⟨v, e1, h F H v _ (EPo.plain S e2.2)⟩
    | own ts =>
      obtain ⟨v, e1, e2⟩ := epo_share S (getR_some e0) rfl
      exact ⟨v, e1, h _ H v _ e2⟩
    | own2 ts =>
      obtain ⟨v, e1, e2⟩ := epo_share S (getR_some e0) rfl
      exact ⟨v, e1, h _ H v _ e2⟩
    | ownD ks vs =>
      obtain ⟨v, e1, e2⟩ := epo_share S (getR_some e0) rfl
      exact ⟨v, e1, h _ H v _ e2⟩
/-- what a written scalar is -/
def cstV : T → Option V
  | .non => some .non
  | .bl b => some (.bl b)
  | .int i => some (.int i)
  | .str s => if okS s then some (.str (toS s)) else none
  | _ => none
theorem cstV_rp {K : PySem.W.Frag} {Z : Zn} {H : Hp} {t : T} {v : V} (e : cstV t = some v) : Rp K Z H v t := by
  cases t <;> simp only [cstV] at e
  · cases e; exact Rp.non
  · cases e; exact Rp.bl _
  · cases e; exact Rp.int _
  · split at e
    · rename_i h; cases e; exact Rp.str h
    · cases e
  all_goals cases e
theorem cst_in {t : T} {v : V} (e : cstV t = some v) (h : tE D (.cst t) σ H Q) : tC v σ H Q := by
  obtain ⟨Z, F, ρ, S, h⟩ := h
  rw [ev] at h
  exact h F H v _ (EPo.plain S (cstV_rp e))
theorem OPo.sc {K : PySem.W.Frag} {Z : Zn} {H H' : Hp} {v : V} {t : T} {fp : List Addr} {w : V} (ht : cstV t = some w) (h : OPo K Z H H' v (.sh t) fp) : v = w ∧ Fresh H H' := by
  have h1 := h.rr.2
  refine ⟨?_, h.f⟩
  cases t <;> simp only [cstV] at ht
  · cases ht; unfold Rp at h1; exact h1
  · cases ht; unfold Rp at h1; exact h1
  · cases ht; unfold Rp at h1; exact h1
  · split at ht
    · cases ht; unfold Rp at h1; exact h1.1
    · cases ht
  all_goals cases ht
theorem Rows.vw {K : PySem.W.Frag} {Z : Zn} {H : Hp} : ∀ {bs : List Addr} {tss : List (List T)}, Rows K Z H bs tss → Rps K (fun _ => False) H (bs.map .ref) (tss.map .lst)
  | bs, tss, h => Rows.rps (h.zn fun _ _ q => q.elim) fun _ _ q => q
theorem lenV_in {i : Nat} (h : tE D (.lenV i) σ H Q) : tVar i σ H fun x H1 => OpG D.K .len [x] H1 Q := by
  obtain ⟨Z, F, ρ, S, h⟩ := h
  rw [ev] at h
  have go : ∀ {n : Nat}, wE D (.ok (.sh (.int n)) ρ) Z F σ ρ H Q → ∀ v H' fp, OPo D.K (fun _ => False) H H' v (.sh (.int n)) fp → Q v H' := fun {n} h v H' fp o => by
    obtain ⟨rfl, f⟩ := o.sc (w := .int n) rfl
    exact h F H' _ _ (EPo.of_op (.refl S) (.sh' f (Rp.int _)))
  cases e0 : getR ρ i with
  | none => rw [e0] at h; exact h.elim
  | some r =>
    rw [e0] at h
    obtain ⟨v, e1, e2⟩ := S.at_ i r (getR_some e0)
    cases r with
    | sh t => exact h.elim
    | ownD ks vs => exact h.elim
    | own ts =>
      obtain ⟨a, vs, rfl, _, k1, k2⟩ := e2
      exact ⟨_, e1, fun _ => False, [.lst ts], _, fun _ q => q.elim, ⟨_, _, rfl, ⟨a, vs, rfl, k1, k2.zn fun _ _ q => q.elim⟩, rfl⟩, rfl, go h⟩
    | box ts =>
      obtain ⟨a, vs, rfl, _, k1, k2⟩ := e2
      exact ⟨_, e1, fun _ => False, [.lst ts], _, fun _ q => q.elim, ⟨_, _, rfl, ⟨a, vs, rfl, k1, k2.zn fun _ _ q => q.elim⟩, rfl⟩, rfl, go h⟩
    | own2 tss =>
      obtain ⟨a, bs, rfl, _, k1, k2⟩ := e2
      refine ⟨_, e1, fun _ => False, [.lst (tss.map .lst)], _, fun _ q => q.elim, ⟨_, _, rfl, ⟨a, _, rfl, k1, k2.vw⟩, rfl⟩, rfl, ?_⟩
      have := go h
      rw [show ((tss.map T.lst).length : Int) = tss.length by simp]
      exact this
theorem tru_in {e : E} {Q : Bool → Hp → Prop} (h : tT D e σ H Q) : tE D e σ H fun x H1 => ∃ k, TruV D.K x H1 k ∧ Q k H1 := by
  obtain ⟨Z, F, ρ, S, h⟩ := h
  refine ⟨Z, F, ρ, S, ?_⟩
  cases e1 : ev D.cf e ρ with
  | bad => rw [e1] at h; exact h
  | exc c fs ρ' => rw [e1] at h; exact h
  | ok r ρ1 =>
    rw [e1] at h
    simp only [tru] at h
    cases e2 : truth r.t with
    | none => rw [e2] at h; exact h.elim
    | some b =>
      rw [e2] at h
      intro F1 H1 v fp a
      exact ⟨b, a.shr.vw.tru e2, h F1 H1 a.spo⟩
theorem ifx_in {c a b : E} (h : tE D (.ifx c a b) σ H Q) : tIf (tT D c) (tE D a) (tE D b) σ H Q := by
  obtain ⟨Z, F, ρ, S, h⟩ := h
  refine ⟨Z, F, ρ, S, ?_⟩
  rw [ev] at h
  cases e1 : tru (ev D.cf c ρ) with
  | bad => rw [e1] at h; exact h
  | exc c fs ρ' => rw [e1] at h; exact h
  | ok t ρ1 =>
    rw [e1] at h
    simp only [Out.bind] at h
    intro F1 H1 s
    have go : ∀ x : Out R, wE D x Z F σ ρ H Q → wE D x Z F1 σ ρ1 H1 Q := fun x h => by
      cases x with
      | bad => exact h
      | exc c fs ρ' => exact XPo.after s h
      | ok r ρ2 => exact fun F2 H2 v fp b => h F2 H2 v fp (s.epo b)
    cases t with
    | true => exact ⟨Z, F1, ρ1, s.si, go _ h⟩
    | false => exact ⟨Z, F1, ρ1, s.si, go _ h⟩
theorem wE.after {x : Out R} {Z : Zn} {F F1 : Nat → List Addr} {ρ ρ1 : Env} {H1 : Hp} (s : SPo D.K Z F σ ρ H F1 ρ1 H1) (h : wE D x Z F σ ρ H Q) : wE D x Z F1 σ ρ1 H1 Q := by
  cases x with
  | bad => exact h
  | exc c fs ρ' => exact XPo.after s h
  | ok r ρ2 => exact fun F2 H2 v fp b => h F2 H2 v fp (s.epo b)
theorem wT.after {x : Out Bool} {Q : Bool → Hp → Prop} {Z : Zn} {F F1 : Nat → List Addr} {ρ ρ1 : Env} {H1 : Hp} (s : SPo D.K Z F σ ρ H F1 ρ1 H1) (h : wT D x Z F σ ρ H Q) : wT D x Z F1 σ ρ1 H1 Q := by
  cases x with
  | bad => exact h
  | exc c fs ρ' => exact XPo.after s h
  | ok r ρ2 => exact fun F2 H2 b => h F2 H2 (s.trans b)
theorem and_in {a b : E} (h : tE D (.and_ a b) σ H Q) : tAndT D.K (tE D a) (tE D b) σ H Q := by
  obtain ⟨Z, F, ρ, S, h⟩ := h
  refine ⟨Z, F, ρ, S, ?_⟩
  rw [ev] at h
  cases e1 : ev D.cf a ρ with
  | bad => rw [e1] at h; exact h
  | exc c fs ρ' => rw [e1] at h; exact h
  | ok r ρ1 =>
    rw [e1] at h
    simp only [Out.bind] at h
    intro F1 H1 v fp ep
    cases e2 : truth r.t with
    | none => rw [e2] at h; exact h.elim
    | some k =>
      rw [e2] at h
      refine ⟨k, ep.shr.vw.tru e2, ?_⟩
      cases k with
      | true => exact ⟨Z, F1, ρ1, ep.spo.si, wE.after ep.spo h⟩
      | false => exact h F1 H1 v fp ep
theorem or_inn {a b : E} (h : tE D (.or_ a b) σ H Q) : tOrT D.K (tE D a) (tE D b) σ H Q := by
  obtain ⟨Z, F, ρ, S, h⟩ := h
  refine ⟨Z, F, ρ, S, ?_⟩
  rw [ev] at h
  cases e1 : ev D.cf a ρ with
  | bad => rw [e1] at h; exact h
  | exc c fs ρ' => rw [e1] at h; exact h
  | ok r ρ1 =>
    rw [e1] at h
    simp only [Out.bind] at h
    intro F1 H1 v fp ep
    cases e2 : truth r.t with
    | none => rw [e2] at h; exact h.elim
    | some k =>
      rw [e2] at h
      refine ⟨k, ep.shr.vw.tru e2, ?_⟩
      cases k with
      | false => exact ⟨Z, F1, ρ1, ep.spo.si, wE.after ep.spo h⟩
      | true => exact h F1 H1 v fp ep
theorem andT_in {a b : E} {Q : Bool → Hp → Prop} (h : tT D (.and_ a b) σ H Q) : tAnd (tT D a) (tT D b) σ H Q := by
  obtain ⟨Z, F, ρ, S, h⟩ := h
  refine ⟨Z, F, ρ, S, ?_⟩
  rw [ev] at h
  cases e1 : ev D.cf a ρ with
  | bad => rw [e1] at h; exact h
  | exc c fs ρ' => rw [e1] at h; exact h
  | ok r ρ1 =>
    rw [e1] at h
    simp only [Out.bind] at h
    simp only [tru]
    cases e2 : truth r.t with
    | none => rw [e2] at h; exact h.elim
    | some k =>
      rw [e2] at h
      intro F1 H1 s
      cases k with
      | true => exact ⟨Z, F1, ρ1, s.si, wT.after s h⟩
      | false =>
        simp only [tru, e2] at h
        exact h F1 H1 s
theorem orT_in {a b : E} {Q : Bool → Hp → Prop} (h : tT D (.or_ a b) σ H Q) : tOr (tT D a) (tT D b) σ H Q := by
  obtain ⟨Z, F, ρ, S, h⟩ := h
  refine ⟨Z, F, ρ, S, ?_⟩
  rw [ev] at h
  cases e1 : ev D.cf a ρ with
  | bad => rw [e1] at h; exact h
  | exc c fs ρ' => rw [e1] at h; exact h
  | ok r ρ1 =>
    rw [e1] at h
    simp only [Out.bind] at h
    simp only [tru]
    cases e2 : truth r.t with
    | none => rw [e2] at h; exact h.elim
    | some k =>
      rw [e2] at h
      intro F1 H1 s
      cases k with
      | false => exact ⟨Z, F1, ρ1, s.si, wT.after s h⟩
      | true =>
        simp only [tru, e2] at h
        exact h F1 H1 s
theorem not_in {a : E} (ha : ∀ e, a ≠ .star e) (h : tE D (.op .not_ [a]) σ H Q) : tNotT D.K (tO D a) σ H Q := by
  refine (op_in1 ha h).mono fun x H1 g => ?_
  obtain ⟨Z, ts, r, hz, hv, he, hq⟩ := g
  obtain ⟨t, rfl⟩ := len1 (Vws.ln hv)
  obtain ⟨v, e, hw⟩ := hv.one
  cases e
  simp only [evOp, o_not_] at he
  cases e2 : truth t with
  | none => rw [e2] at he; cases he
  | some b =>
    rw [e2] at he
    cases he
    exact ⟨b, hw.tru e2, hq _ _ _ (.sh (Rp.bl _))⟩
/-- a test by its value -/
theorem val_in {e : E} {Q : Bool → Hp → Prop} (h : tT D e σ H Q) : tE D e σ H fun x H1 => ∃ k, TruV D.K x H1 k ∧ Q k H1 := tru_in h
/-- where an operator answers with a bool -/
def isB : Op → Bool
  | .lt => true | .le => true | .gt => true | .ge => true | .eq => true | .ne => true | .in_ => true | .nin => true | .isN => true | .notN => true
  | .isi _ => true
  | .not_ => true
  | _ => false
theorem shB_some {b : Bool} {r : R} (h : shB b = some r) : ∃ b, r = .sh (.bl b) := by
  cases h
  exact ⟨b, rfl⟩
theorem isB_bl {o : Op} (h : isB o = true) {ts : List T} {r : R} (e : evOp o ts = some r) : ∃ b, r = .sh (.bl b) := by
  cases o <;> first | (simp [isB] at h; done) | skip
  all_goals simp only [evOp] at e
  · unfold o_not_ at e
    split at e
    · rename_i t
      cases q : truth t with
      | none => rw [q] at e; cases e
      | some b => rw [q] at e; exact shB_some e
    · cases e
  · unfold o_lt at e; split at e <;> (try split at e) <;> first | exact shB_some e | cases e
  · unfold o_le at e; split at e <;> (try split at e) <;> first | exact shB_some e | cases e
  · unfold o_gt at e; split at e <;> (try split at e) <;> first | exact shB_some e | cases e
  · unfold o_ge at e; split at e <;> (try split at e) <;> first | exact shB_some e | cases e
  · unfold o_eq at e; split at e <;> (try split at e) <;> first | exact shB_some e | cases e
  · unfold o_ne at e; split at e <;> (try split at e) <;> first | exact shB_some e | cases e
  · unfold o_in_ at e; split at e <;> (try split at e) <;> first | exact shB_some e | cases e
  · unfold o_nin at e; split at e <;> (try split at e) <;> first | exact shB_some e | cases e
  · unfold o_isN at e; split at e <;> (try split at e) <;> first | exact shB_some e | cases e
  · unfold o_notN at e; split at e <;> (try split at e) <;> first | exact shB_some e | cases e
  · unfold o_isi at e; split at e <;> (try split at e) <;> first | exact shB_some e | cases e
/-- a test by an operator: its answer is a bool -/
theorem opT_in {o : Op} {es : List E} (ho : isB o = true) {Q : Bool → Hp → Prop} (h : tT D (.op o es) σ H Q) : tE D (.op o es) σ H fun x H1 => ∃ k, x = .bl k ∧ Q k H1 := by
  obtain ⟨Z, F, ρ, S, h⟩ := h
  refine ⟨Z, F, ρ, S, ?_⟩
  rw [ev] at h ⊢
  cases e1 : evs D.cf es ρ with
  | bad => rw [e1] at h; exact h
  | exc c fs ρ' => rw [e1] at h; exact h
  | ok as ρ1 =>
    rw [e1] at h
    simp only [Out.bind] at h ⊢
    cases e2 : argTs ρ1 as with
    | none => rw [e2] at h; exact h
    | some ts =>
      rw [e2] at h
      dsimp only at h ⊢
      cases e3 : evOp o ts with
      | none => rw [e3] at h; exact h
      | some r =>
        rw [e3] at h
        obtain ⟨b, rfl⟩ := isB_bl ho e3
        intro F1 H1 v fp a
        have h1 := a.rr.2
        have h1 : v = .bl b := by
          have h2 : Rp D.K _ H1 v (.bl b) := h1
          unfold Rp at h2
          exact h2
        exact ⟨b, h1, h F1 H1 a.spo⟩
end
end Ev
end
section
set_option Elab.async false
set_option linter.all false
set_option maxRecDepth 100000
set_option maxHeartbeats 2000000
namespace Ev
open PySem PySem.Spec PyProof.Rows L2
theorem exo_new {P : Program} {w : World} {H : Hp} {h : Heap} {a : Addr} {cls : Value} {d : Option Addr} {oe : Obj} {vs : Array Value} (e : h.get? a = some oe) (z : Zc cls d oe) (q : oe.data = .fields vs) : ObjOk P w H h a (EXO a cls d) :=
  ⟨⟨oe, vs, e, z, q⟩, ⟨oe, e⟩, fun _ _ ⟨o, v, g, r⟩ k => ⟨o, v, k o g, r⟩⟩
section
variable {X : Cx} {pins : List (Addr × Obj)} {σ : L2.St} {H : Hp}
/-- a flight's end, the exception tracked from here on -/
theorem landedX {B : Heap} {sI s' : Shared} {a : Addr} {o : HO} (I : Inv X pins σ H sI) (nb : ∀ b o, sI.heap.get? b = some o → b ∉ frs X.stack → B.get? b = some o) (st : B.StaysIn s'.heap) (up : sI.heap.UpToSlots s'.heap) (os : s'.os = sI.os) (ag : AllBare s'.gens)
    (na : H a = none) (ng : sI.heap.get? a = none) (new : ObjOk X.prog X.w (upd H a o) s'.heap a o) : Inv X pins σ (upd H a o) s' := by
  have nf : ∀ b ∈ frs X.stack, ∀ o, sI.heap.get? b = some o → ∃ sl, s'.heap.get? b = some { o with slots := sl } := fun b hb o e => by
    obtain ⟨_, o2, e2, hd⟩ := I.stack.mem hb
    obtain rfl : o = o2 := Option.some.inj (e.symm.trans e2)
    exact up b o e hd
  have ne : ∀ b o, sI.heap.get? b = some o → b ≠ a := fun b o e z => by rw [z, ng] at e; cases e
  have J := I.call (ch := []) (h' := s'.heap) (g' := s'.gens) (t' := s'.toks) (d' := s'.drawn) (H' := upd H a o)
    { keep := fun b o e _ hb _ => st b o (nb b o e hb)
      slot := fun b o e _ hb _ => nf b hb o e
      free := fun b o e n _ => (upd_ne (ne b o e)).trans n
      there := fun b o e _ => (Classical.em (b ∈ frs X.stack)).elim (fun hb => let ⟨_, q⟩ := nf b hb o e; ⟨_, q⟩) fun hb => ⟨o, st b o (nb b o e hb)⟩
      tups := fun b xs q => (upd_ne (ne_of_none q na)).trans q
      frzs := fun b u x q => (upd_ne (ne_of_none q na)).trans q
      tbls := fun b ps q => ⟨#[], by rw [upd_ne (ne_of_none q na), q]; simp⟩ }
    (HOk.laidN ((I.inGround nb).kept st) (fun _ _ e => e) na new) ag (fun _ z => nomatch z)
  obtain ⟨a1, a2, a3, a4, a5⟩ := s'
  obtain rfl : a5 = sI.os := os
  exact J
/-- an except suite whose exception is tracked -/
theorem inSuite {s : Shared} (I : Inv X pins σ H s) (a : Addr) : Inv (X.suite a (X.pn ++ pins)) [] σ H s :=
  ⟨I.ok.suite _ _, I.os, I.bare, I.base, I.loc, I.cell, I.free, I.freeC, fun p hp => I.pin p (by rw [List.append_nil] at hp; exact hp), I.hok, I.len⟩
theorem outSuite {s : Shared} {a : Addr} {pn' : List (Addr × Obj)} (I : Inv (X.suite a (X.pn ++ pins)) pn' σ H s) (ok : X.Ok) : Inv X pins σ H s :=
  ⟨ok, I.os, I.bare, I.base, I.loc, I.cell, I.free, I.freeC, fun p hp => I.pin p (List.mem_append_left _ hp), I.hok, I.len⟩
end
/-- a clause: the class, the slot of its name, the suite -/
structure Clz where
  c : Value
  i : Option Nat
  ts : Addr → TS
/-- where the clause's name goes, and goes away -/
def inC (i : Option Nat) (v : V) (σ : L2.St) : L2.St := match i with
  | none => σ
  | some i => σ.set i (some v)
def offC (i : Option Nat) (σ : L2.St) : L2.St := match i with
  | none => σ
  | some i => σ.set i none
def endC (i : Option Nat) (D : Ends) : Ends := { nx := fun σ H => D.nx (offC i σ) H, rt := D.rt, bk := fun σ H => D.bk (offC i σ) H, ct := fun σ H => D.ct (offC i σ) H }
/-- what the clauses wish of an exception of the body -/
def wKeep (K : PySem.W.Frag) (Wout : WX) (D : Ends) : List Clz → WX
  | [] => Wout
  | z :: r => fun cls d σ H => ∃ b, PySem.W.exmOne K cls z.c = some b ∧ (b = true → ∀ a, H a = none → z.ts a (endC z.i D) (inC z.i (.ref a) σ) (upd H a (EXO a cls d))) ∧ (b = false → wKeep K Wout D r cls d σ H)
/-- the name of a clause -/
def SlotOk (X : Cx) (n : Option Str) : Option Nat → Prop
  | none => n = none
  | some i => ∃ x, n = some x ∧ X.N[i]? = some x ∧ X.env.kindOf x = some .local
inductive KeepOk (X : Cx) : List ExceptHandler → List Clz → Prop
  | nil : KeepOk X [] []
  | cons {x : Str} {n : Option Str} {z : Clz} {b0 : Stmt} {suite : List Stmt} {np pos' : Pos} {hds : List ExceptHandler} {l : List Clz} (hc : Names X x z.c) (hn : SlotOk X n z.i)
      (hsu : ∀ (a : Addr) (pn : List (Addr × Obj)), PSs (X.suite a pn) (b0 :: suite) (z.ts a)) (r : KeepOk X hds l) : KeepOk X (.ExceptHandler (some (.Name x np)) n (b0 :: suite) pos' :: hds) (z :: l)
section
variable {X : Cx} {body : List Stmt} {h0 : ExceptHandler} {hds : List ExceptHandler} {l : List Clz} {pos : Pos} {tb : WX → TS} {Wout : WX}
theorem ps_try_keep (hs : X.stack = X.env :: X.outer) (hf : X.env.frame = some X.env.locals) (hN : X.N.Nodup) (tk : Takes X Wout)
    (hb : ∀ (W : WX) (pn : List (Addr × Obj)) (xe : Value → Shared → Prop), Takes (X.tr pn xe) W → PassesOwn (model X.prog X.w) X.A X.env xe → PSs (X.tr pn xe) body (tb W))
    (hh : KeepOk X (h0 :: hds) l) : PS X (.Try body (h0 :: hds) [] [] pos) (fun D σ H => tb (wKeep X.K Wout D l) D σ H) := by
  refine ⟨fun pins s σ H D I h => wpAny_Try_except ?_⟩
  have ok := I.ok
  have hfr : X.A.frames = some (X.env :: X.outer) := by rw [ok.frames, hs]
  refine wpAny_mono ((hb (wKeep X.K Wout D l) (X.pn ++ pins) (fun e s1 => wpAny (model X.prog X.w) X.A (noteFrame e X.env) (fun _ s2 => wpAny (model X.prog X.w) X.A (setFlight e none) (fun _ s3 =>
    wpAny (model X.prog X.w) X.A (handleBy e X.env (h0 :: hds)) (SP X pins D) X.xe s3) X.xe s2) X.xe s1) ?_ PassesOwn.looking).run [] s σ H D (I.toTry _) h) (fun f s1 hsp => ?_) (fun _ _ he => he)
  · rintro _ s' ⟨a, B, sI, _, σ', H', cls, d, rfl, J', nb, up, sky, na, os, ag, w⟩
    have J : Inv X pins σ' H' sI := J'.ofTry ok
    rw [show (X.tr (X.pn ++ pins) _).stack = X.env :: X.outer from hs] at sky
    refine Sky.land Zc.steady hfr hf sky fun h3 fl3 up3 => ?_
    obtain ⟨oe3, vs3, he3, hz3, hd3⟩ := fl3.there
    have nfr : a ∉ frs (X.env :: X.outer) := fun hm => by
      obtain ⟨_, o2, e2, hnf⟩ := fl3.2.2.1.mem hm
      obtain rfl : oe3 = o2 := Option.some.inj (he3.symm.trans e2)
      exact hnf _ hd3
    have ng : sI.heap.get? a = none := by
      cases q : sI.heap.get? a with
      | none => rfl
      | some o =>
        have := nb a o q (by show a ∉ frs X.stack; rw [hs]; exact nfr)
        rw [fl3.2.1] at this
        cases this
    have J3 : Inv X pins σ' H' { s' with heap := h3 } := J.landed nb fl3.1 (up.trans up3) os ag
    have S3 := inSuite J3 a
    have LT : PySem.W.Looks (model X.prog X.w) h3 (typeOf (.ref a)) cls := fun A Q E s k q => wpAny_typeOf_ref (k _ _ he3) (by rw [hz3.1]; exact q)
    suffices go : ∀ {hs2 : List ExceptHandler} {l2 : List Clz}, KeepOk X hs2 l2 → wKeep X.K Wout D l2 cls d σ' H' → wpAny (model X.prog X.w) X.A (handleBy (.ref a) X.env hs2) (SP X pins D) X.xe { s' with heap := h3 } from go hh w
    intro hs2 l2 hk
    induction hk with
    | nil =>
      intro w
      refine wpAny_handleBy_nil ?_
      obtain ⟨k1, k2, k3, oe, vs, T, oT, ts', he, hz, hd, h1, hr⟩ := id fl3
      have fin : wpAny (model X.prog X.w) X.A (setFlight (.ref a) X.env.frame) (fun _ s4 => wpAny (model X.prog X.w) X.A (throw (.ref a) : Sem Flow) (SP X pins D) X.xe s4) X.xe { s' with heap := h3 } := by
        rw [hf]
        exact HandSPX.setFlight_upZ fl3 fun h4 hh4 up4 => wpAny_throw (tk _ _ ⟨a, B, sI, pins, σ', H', cls, d, rfl, J, nb, (up.trans up3).trans up4, .inr (.inr (by rw [hs]; exact hh4)), na, os, ag, w⟩)
      unfold PySem.passOn
      refine wpAny_bind (wpAny_field he hd h1 ?_)
      rw [if_neg (by simp)]
      first
        | exact wpAny_bind (wpAny_pure (wpAny_bind fin))
        | exact wpAny_bind fin
    | @cons x n z b0 suite np pos' hds2 l2 hc hn hsu r ih =>
      rintro ⟨b, hb1, hyes, hno⟩
      refine wpAny_handleBy_cons (codeAny_handlers_test ?_) (by intro q; cases q)
      have test : ∀ {Q : Value → Shared → Prop} {E : Value → Shared → Prop}, Q z.c { s' with heap := h3 } → wpAny (model X.prog X.w) (X.A.mark (some (.ref a))) (eval (.Name x np) X.env) Q E { s' with heap := h3 } := fun {Q E} q => by
        obtain ⟨hg, hdbg, hm⟩ := hc
        rcases hm with hm | ⟨hm, hv, hnn⟩
        · exact ld_glob (X := X.suite a (X.pn ++ pins)) S3 hg hm q hdbg
        · exact ld_blt (X := X.suite a (X.pn ++ pins)) S3 hg hm hv q hnn hdbg
      refine test ((PySem.W.exm_one (M := model X.prog X.w) J3.kIn LT hb1).here ?_)
      cases b with
      | false => exact ih (hno rfl)
      | true =>
        have tr : ∀ {h4 : Heap}, HandSPX.FlyingZ B (X.env :: X.outer) a (Zc cls d) h4 → h3.UpToSlots h4 → Inv (X.suite a (X.pn ++ pins)) [] σ' (upd H' a (EXO a cls d)) { s' with heap := h4 } := fun {h4} fl4 up4 => by
          obtain ⟨oe4, vs4, he4, hz4, hd4⟩ := fl4.there
          exact inSuite (landedX (s' := { s' with heap := h4 }) J nb fl4.1 ((up.trans up3).trans up4) os ag na ng (exo_new he4 hz4 hd4)) a
        cases z with
        | mk c i ts =>
        cases i with
        | none =>
          obtain rfl : n = none := hn
          refine codeAny_handlers_suite (HandSPX.lands_againZ fl3 fun h4 fl4 up4 => ?_)
          refine wpAny_mono ((hsu a (X.pn ++ pins)).run [] _ _ _ _ (tr fl4 up4) (hyes rfl a na)) (fun f s6 hsp => ?_) (fun _ _ z => False.elim z)
          cases f with
          | ret u =>
            obtain ⟨v6, σ6, H6, S6, r6, q6⟩ := hsp
            exact ⟨_, _, _, outSuite S6 ok, r6, q6⟩
          | _ =>
            obtain ⟨σ6, H6, S6, q6⟩ := hsp
            exact ⟨_, _, outSuite S6 ok, q6⟩
        | some i =>
          obtain ⟨y, rfl, hi, hln⟩ := hn
          refine codeAny_handlers_suite_as (HandSPX.lands_againZ fl3 fun h4 fl4 up4 => ?_)
          refine store_ok (X := X.suite a (X.pn ++ pins)) (v := .ref a) (tr fl4 up4) hN hi (.inl hln) rfl (fun s5 S5 => ?_) (.inr hln)
          refine wpAny_mono ((hsu a (X.pn ++ pins)).run [] s5 _ _ _ S5 (hyes rfl a na)) (fun f s6 hsp => ?_) (fun _ _ z => False.elim z)
          have off : ∀ {σ6 : L2.St} {H6 : Hp} {Q : Shared → Prop}, Inv (X.suite a (X.pn ++ pins)) [] σ6 H6 s6 → (∀ s7, Inv X pins (σ6.set i none) H6 s7 → Q s7) → wpAny (model X.prog X.w) X.A (do bindName X.env y .none; unbindBehindTheSuite X.env y pos') (fun _ s7 => Q s7) X.xe s6 := fun S6 hq => gone_ok (outSuite S6 ok) hN hi hln hq
          cases f with
          | ret u =>
            obtain ⟨v6, σ6, H6, S6, r6, q6⟩ := hsp
            exact off S6 fun s7 J7 => ⟨_, _, _, J7, r6, q6⟩
          | _ =>
            obtain ⟨σ6, H6, S6, q6⟩ := hsp
            exact off S6 fun s7 J7 => ⟨_, _, J7, q6⟩
  · cases f with
    | ret u =>
      obtain ⟨v, σ', H', J', r, q⟩ := hsp
      exact ⟨v, σ', H', J'.ofTry ok, r, q⟩
    | next =>
      obtain ⟨σ', H', J', q⟩ := hsp
      exact wpAny_execs_nil ⟨σ', H', J'.ofTry ok, q⟩
    | _ =>
      obtain ⟨σ', H', J', q⟩ := hsp
      exact ⟨σ', H', J'.ofTry ok, q⟩
end
end Ev
end
section
set_option Elab.async false
set_option linter.all false
set_option maxRecDepth 100000
set_option maxHeartbeats 4000000
namespace Ev
open PySem PySem.W PySem.Calls PyProof.Rows
def sPar (f : Str) (p1 p2 : Pos) : Arguments := { posonlyargs := [], args := [{ arg := "self", annotation := none, pos := p1 }, { arg := f, annotation := none, pos := p2 }], vararg := none, kwonlyargs := [], kw_defaults := [], kwarg := none, defaults := [] }
def sBody (f : Str) (q1 q2 q3 q4 q5 q6 q7 q8 q9 q10 : Pos) : List Stmt :=
  [.Expr (.Call (.Attribute (.Call (.Name "super" q1) [] [] q2) "__init__" q3) [.Name f q4] [] q5) q6, .Assign [.Attribute (.Name "self" q7) f q8] (.Name f q9) q10]
def sSc (f : Str) : Scope := { kind := .function, names := [(Str.ofString "self", .local), (f, .local), (Str.ofString "__class__", .free), (Str.ofString "super", .globalImplicit)], isGenerator := false, isCoroutine := false, more := [] }
/-- what the written part says of the class at C and of its __init__ at fI -/
structure SupT (K : Frag) (prog : Program) (f : Str) (C fI : Addr) (B newId initId : String) (bmB : List Value) : Prop where
  fn : f = "name" ∨ f = "number"
  FB : ExcBaseFacts B newId initId bmB
  SF : StoreFacts B bmB "object.__setattr__" "object"
  KF : KxsFacts B initId
  cls : excInitIn K C bmB newId = true
  ov : excOver K C bmB = true
  sa : findIn K (.ref C) "__setattr__" = some (some (.builtin "object.__setattr__"))
  tk : takerIn K C f = some none
  hd : hasDictIn K C = true
  iC : findIn K (.ref C) "__init__" = some (some (.ref fI))
  tI : typeIn K (.ref fI) = some (.type "function")
  sup : ks_superIn K C C "__init__" = some (some (.builtin initId))
  hB : subIn K (.ref C) (.type B) = some true
  hm : mroIn K C (.ref C) = some true
  op : nsIn K cStatics "thirdparty.any" = some none
  top : (prog.main.scope.names.lookup ("super" : Str)).isSome = false
  txt : ∃ (oc : Value) (od : Option Addr) (osl : Array (Option Value)) (qual : Str) (p1 p2 q1 q2 q3 q4 q5 q6 q7 q8 q9 q10 : Pos) (doc pm ct kV : Value) (an : Option Addr) (cda cc : Addr),
    K.lookup fI = some ⟨oc, od, .func (ksFn "__init__" qual (sPar f p1 p2) (sBody f q1 q2 q3 q4 q5 q6 q7 q8 q9 q10) (sSc f) .none kV doc pm an (.ref cda) ct cc), osl⟩ ∧ codeIn K (.ref cda) qual = true ∧ (q3.endLine == q5.line) = true ∧
    (∃ cl cld csl, K.lookup cc = some ⟨cl, cld, .cell (some (.ref C)), csl⟩) ∧ ∃ ccl cdd vs ccs file tf, K.lookup cda = some ⟨ccl, cdd, .fields vs, ccs⟩ ∧ vs[2]? = some (.str file tf) ∧ ((prog.main.file : Str) == file) = true
section
variable {prog : Program} {w : World} {A : Around} {E : Value → Shared → Prop} {h : Heap} {g : Array GenState} {d : Drawn} {t : Nat} {os : OsState}
variable {C N u e t0 : Addr} {nm q : Str} {bs bm : List Value} {hdct : Bool} {sn : List Str} {sub : List Value} {ab : Bool} {col : Option Bool} {dd : Option Addr} {k0 k1 k2 k3 k5 : Option Value} {B newId initId : String} {bmB : List Value}
/-- the bound built-in __init__ called -/
theorem bw_run (FB : ExcBaseFacts B newId initId bmB) {rest : List Value} {Q : Value → Shared → Prop} (hC : h.get? C = some (excClassObj nm q C N bs bm hdct sn sub ab col dd k0 k1 k2 k3 k5 newId)) (he : h.get? e = some (HandSPX.excO C t0)) (hu : h.get? u = some (kxs_mw initId e)) (hrest : rest.length ≤ sizeLine)
    (hq : ∀ h' t1, (∀ b o, b ≠ e → h.get? b = some o → h'.get? b = some o) → h'.get? e = some (HandSPX.excO C t1) → Q .none ⟨h', g, d, t, os⟩) : wpAny (model prog w) A (call (.ref u) rest) Q E ⟨h, g, d, t, os⟩ := by
  refine wpAny_call (codeAny_of_tree ?_)
  show wpAny _ A.in1 (callAny (.ref u) ⟨rest, []⟩) _ _ _
  unfold callAny
  refine wpAny_bind (wpAny_load hu ?_)
  simp only [kxs_mw, show (Value.type "method-wrapper" == Value.type "method" || Value.type "method-wrapper" == Value.type "builtin_function_or_method" || Value.type "method-wrapper" == Value.type "method-wrapper") = true by decide, if_true]
  refine KFB.if_so (by decide) (wpAny_bind (check_bound_init FB.toExcCallFacts hC he rfl (wpAny_bind (wpAny_pure (wpAny_pure ?_)))))
  refine ⟨plainId_quiet FB.init.plain _, codeAny_builtin FB.initEntry ?_⟩
  exact exc_init_tree (cls := .ref C) (t0 := t0) (dv := none) (c2 := .none) (c3 := .none) (b4 := .bool false) he hrest fun h' k e' _ => hq h' _ k e'
/-- self.f = v: a first attribute -/
theorem set_first {K : Frag} {s : Shared} {x : Addr} {f : Str} {v : Value} {fv : Array Value} {Q : Unit → Shared → Prop} (SF : StoreFacts B bmB "object.__setattr__" "object") (X : K.In s.heap) (hx : s.heap.get? x = some { cls := .ref C, data := .fields fv })
    (hs : findIn K (.ref C) "__setattr__" = some (some (.builtin "object.__setattr__"))) (hp : excOver K C bmB = true) (ht : takerIn K C f = some none) (hh : hasDictIn K C = true)
    (hq : ∀ h' tk dx, (∀ b o, b ≠ x → s.heap.get? b = some o → h'.get? b = some o) → s.heap.objs.size ≤ dx → dx ≠ x → h'.get? x = some { cls := .ref C, dict := some dx, data := .fields fv } → h'.Ns1 dx (fun y => if y = f then some v else none) → Q () { s with heap := h', toks := tk }) :
    wpAny (model prog w) A (setAttr (.ref x) f v) Q E s := by
  have I : InstAt s.heap x { cls := .ref C, data := .fields fv } C none := ⟨hx, rfl, rfl, trivial⟩
  obtain ⟨cd, hcl, hh⟩ := any_some hh
  refine set_plain X I hs (osa_openX (s := { s with toks := s.toks + 1 }) SF X I hp ht fun b => ?_)
  have hcls : Looks (model prog w) s.heap (classData C) cd := looks_clsIn X hcl
  obtain ⟨hp', g, d, t, os⟩ := s
  have nx : x ≠ hp'.objs.size := Nat.ne_of_lt (Heap.lt_size hx)
  obtain ⟨nm, bs, mro, ns, qn, hd, sn, sb, ab, col, del⟩ := cd
  dsimp only at hh
  subst hh
  dsimp only
  unfold Builtin.ObjectAttr.storeInOwnDict Builtin.ObjectAttr.ownDictForStores
  repeat (first | with_reducible refine HandSPX.store_in_new ?_ ?_ | with_reducible refine wpAny_loadPart_at hx ?_ | with_reducible refine hcls.at ?_ | wp_step)
  · exact ⟨_, #[], _, (Heap.get?_update_ne _ _ _ _ nx.symm).trans (Heap.get?_push_at rfl rfl), rfl, fun e he => absurd he (by simp), fun _ => rfl⟩
  · intro h' tk' hn' hs'
    have hx1 : (hp'.push { cls := .type "dict", data := .dict #[] }).get? x = some { cls := .ref C, data := .fields fv } := Heap.get?_push_of_some _ hx
    refine hq h' tk' hp'.objs.size (fun b o hb ho => ?_) (Nat.le_refl _) nx.symm ?_ hn'
    · exact (hs'.2 b (Nat.ne_of_lt (Heap.lt_size ho))).trans ((Heap.get?_update_ne _ _ _ _ hb).trans (Heap.get?_push_of_some _ ho))
    · exact (hs'.2 x nx).trans (Heap.get?_update_self _ hx1 rfl)
end
end Ev
end
section
set_option Elab.async false
set_option linter.all false
set_option maxRecDepth 100000
set_option maxHeartbeats 4000000
namespace Ev
open PySem PySem.W PySem.Calls PyProof.Rows
/-- a method's call on one line -/
theorem he_line {env : PySem.Env} {o a : Expr} {m : Str} {apos pos : Pos} (hl : (apos.endLine == pos.line) = true) (hs : starEach [a] env = (false, eval a env) :: starEach [] env) : eval (.Call (.Attribute o m apos) [a] [] pos) env = (do
      let ov ← attributeBase o m env (eval o env)
      standAt apos.atName
      let (f, first) ← holding [ov] (getMethod ov m (L2.plainOf o env))
      callWith pos f first (backTo pos (starEach [a] env)) []) := by
  rw [arm_eval_Call]
  show (do let ov ← attributeBase o m env (eval o env); standAt apos.atName; methodCall o m apos pos env ov _ _ _) = _
  have := fun ov => L2.mcall_line (o := o) (m := m) (apos := apos) (pos := pos) (env := env) (ov := ov) (n := [a].length + ([] : List Keyword).length) (args := backTo pos (starEach [a] env)) (kws := backToKw pos (keywordEach [] env)) (by rw [hs]; rfl) hl
  simp only [this]
  rfl
/-- what is left of a fresh exception at x -/
structure InitTo (h h' : Heap) (f : Str) (x C dx t1 : Addr) (v : Value) : Prop where
  keep : ∀ b o, b ≠ x → h.get? b = some o → h'.get? b = some o
  obj : h'.get? x = some { cls := .ref C, dict := some dx, data := .fields #[.ref t1, .none, .none, .none, .bool false, .none] }
  big : h.objs.size ≤ dx
  ne : dx ≠ x
  ns : h'.Ns1 dx (fun y => if y = f then some v else none)
abbrev bnd (f : Str) (x : Addr) (v : Value) : List (Str × Value) := [(Str.ofString "self", .ref x), (f, v)]
theorem noCell (f : Str) : ∀ y ∈ (sSc f).names, y.2 ≠ .cell := fun y hy => by
  simp only [sSc, List.mem_cons, List.not_mem_nil, or_false] at hy
  rcases hy with rfl | rfl | rfl | rfl <;> (intro z; cases z)
section
variable {prog : Program} {w : World} {A : Around} {R : Result → Shared → Prop} {s : Shared} {K : Frag} {mg mb : Str → Option Value} {f : Str} {C fI : Addr} {B newId initId : String} {bmB : List Value}
theorem at_name {M : Model} {A : Around} {E : Value → Shared → Prop} {s : Shared} {env : PySem.Env} {m : Str → Option Value} {x : Str} {pos : Pos} {v : Value} {Q : Value → Shared → Prop} (hk : env.scope.kind = .function) (hl : env.kindOf x = some .local) (hn : s.heap.Ns env.locals m) (hv : m x = some v) (h : Q v s) (hd : (x == ("__debug__" : Str)) = false) :
    wpAny M A (eval (.Name x pos) env) Q E s := wpAny_Name (wpAny_loadName_local hk hl hn hv h) hd
theorem one_line (v : Value) : [v].length ≤ sizeLine := by rw [sizeLine_eq]; exact (by decide : 1 ≤ 16777216)
theorem init_run (T : SupT K prog f C fI B newId initId bmB) {x t0 : Addr} {v : Value} (X : K.In s.heap) (hlim : s.heap.NoLimit) (hx : s.heap.get? x = some (HandSPX.excO C t0)) (hnx : K.lookup x = none) (hroom : A.depth < recursionLimit)
    (hg : s.heap.Ns mainGlobals mg) (hb : s.heap.Ns builtinsNs mb) (hsu : mg "super" = none) (hbs : mb "super" = some (.type "super"))
    (hq : ∀ h' tk dx t1, InitTo s.heap h' f x C dx t1 v → R (.ok (.ret .none)) { s with heap := h', toks := tk }) :
    codeAny (model prog w) A (.call (.ref fI) ⟨[.ref x, v], []⟩) R s := by
  obtain ⟨oc, od, osl, qual, p1, p2, q1, q2, q3, q4, q5, q6, q7, q8, q9, q10, doc, pm, ct, kV, an, cda, cc, ho, hcd, hln, ⟨cl, cld, csl, hcell⟩, ccl, cdd, vs, ccs, file, tf, hcode, hvs, hfile⟩ := T.txt
  obtain ⟨nm, N', qn, bs, bm, hdct, sn, sub, ab, col, dd, k0, k1, k2, k3, k5, hC, hT⟩ := excInit_of X T.cls
  have hfs : (sSc f).names.lookup f = some .local ∧ (sSc f).names.lookup (Str.ofString "self") = some .local ∧ (f == ("__debug__" : Str)) = false ∧ (f == ("self" : Str)) = false := by
    rcases T.fn with rfl | rfl <;> exact ⟨by decide +kernel, by decide +kernel, by decide +kernel, by decide +kernel⟩
  obtain ⟨hf1, hf2, hf3, hf4⟩ := hfs
  have hself : ("self" : Str) = Str.ofString "self" := rfl
  refine ks_codeAny_call_defAt (fd := ksFn "__init__" qual (sPar f p1 p2) (sBody f q1 q2 q3 q4 q5 q6 q7 q8 q9 q10) (sSc f) .none kV doc pm an (.ref cda) ct cc) (binds := bnd f x v) hroom (X _ _ ho) rfl hlim (codeRec_of X hcd) rfl
    (BindsTo.of_eq (by rcases T.fn with rfl | rfl <;> first | rfl | with_unfolding_all rfl)) (noCell f) (fun y hy => by
      rcases List.mem_cons.mp hy with rfl | hy
      · exact hf2
      · rcases List.mem_cons.mp hy with rfl | hy
        · exact hf1
        · cases hy) (fun h1 hns k1' => ?_)
  obtain ⟨hp, g, dr, tk, os⟩ := s
  have hdC : ∃ oD cdD, h1.get? C = some oD ∧ oD.data = .cls cdD := ⟨_, _, k1' _ _ hC, rfl⟩
  obtain ⟨oD, cdD, hD1, hD2⟩ := hdC
  have hclsn : clsIn K C ≠ none := fun z => by have := T.hm; unfold mroIn at this; rw [z] at this; cases this
  have X1 : K.In h1 := X.keeps k1'
  have hx1 : h1.get? x = some (HandSPX.excO C t0) := k1' _ _ hx
  have vf : (bnd f x v).reverse.lookup f = some v := by simp [List.lookup]
  have vs' : (bnd f x v).reverse.lookup (Str.ofString "self") = some (.ref x) := by
    have q : ((Str.ofString "self") == f) = false := by
      rw [Bool.eq_false_iff] at hf4 ⊢
      exact fun z => hf4 (by rw [beq_iff_eq] at z ⊢; exact z.symm)
    simp [List.lookup, q]
  refine ks_wpAt_execs_cons (ks_wpAt_Expr_any (ks_wpAt_MethodCall (pl := L2.plainOf (.Call (.Name "super" q1) [] [] q2) _) ?_ (he_line hln rfl)) (by rfl) (by rfl))
  have g1 : (callEnv (ksFn "__init__" qual (sPar f p1 p2) (sBody f q1 q2 q3 q4 q5 q6 q7 q8 q9 q10) (sSc f) .none kV doc pm an (.ref cda) ct cc) hp.objs.size fI).kindOf "super" = some .globalImplicit := by rcases T.fn with rfl | rfl <;> rfl
  have g2 : (callEnv (ksFn "__init__" qual (sPar f p1 p2) (sBody f q1 q2 q3 q4 q5 q6 q7 q8 q9 q10) (sSc f) .none kV doc pm an (.ref cda) ct cc) hp.objs.size fI).kindOf "__class__" = some .free := by rcases T.fn with rfl | rfl <;> rfl
  refine ks_wpAt_super_base g1 g2 (by decide +kernel) rfl (X1 _ _ ho) rfl rfl rfl (X1 _ _ hcode) rfl hvs hfile T.top ?_
  refine ks_loadName_global (by rfl) g1 (loadGlobal_builtin (hg.keeps k1') hsu (hb.keeps k1') hbs ⟨rfl, ?_⟩)
  refine wpAny_loadName_free (by rfl) g2 rfl ⟨_, X1 _ _ hcell, rfl⟩ ?_
  refine wpAny_loadName_local (by rfl) hf2 hns vs' ?_
  refine ks_wpAny_isType_cls hD1 hD2 ⟨rfl, ?_⟩
  refine ks_wpAny_call_super hD1 hD2 hx1 rfl (fun c e => by cases e) (looks_mroIn X1 T.hm) (fun h2 hso k2' => ?_)
  -- the method
  have X2 : K.In h2 := X1.keeps k2'
  obtain ⟨cd, hcdd⟩ := Option.ne_none_iff_exists'.mp hclsn
  have hsup := T.sup
  unfold ks_superIn at hsup
  rw [hcdd, Option.bind_some] at hsup
  have I2 : InstAt h2 x (HandSPX.excO C t0) C none := ⟨k2' _ _ hx1, rfl, rfl, trivial⟩
  refine kxs_getMethod T.KF hso (looks_opaque X2 T.op) (l₀ := cd.mro) (fun A Q E s k q => wpAny_bind ((looks_clsIn X2 hcdd) A _ E s k (wpAny_pure q))) rfl X2 hsup (I2.type.andThen (looks_subIn X2 T.hB)) (ks_ne X2 I2 hcdd) (by decide +kernel) ?_
  -- the call
  obtain ⟨h3, eh3⟩ : ∃ h3, h2.push (kxs_mw initId x) = h3 := ⟨_, rfl⟩
  have k3' : ∀ b o, h2.get? b = some o → h3.get? b = some o := fun b o e => by rw [← eh3]; exact Heap.get?_push_of_some _ e
  have hu : h3.get? h2.objs.size = some (kxs_mw initId x) := by rw [← eh3]; exact Heap.get?_push_at rfl rfl
  rw [eh3]
  have hns3 : h3.Ns hp.objs.size (fun y => (bnd f x v).reverse.lookup y) := (hns.keeps k2').keeps k3'
  refine kxs_callWith (i := initId) (x := x) (by rfl) (evalArgs_plain (spliced_cons ?_))
  refine at_name (by rfl) hf1 hns3 vf (spliced_nil ⟨hu, ?_⟩) hf3
  refine bw_run T.FB (t0 := t0) (k3' _ _ (k2' _ _ (k1' _ _ hC))) (k3' _ _ (k2' _ _ hx1)) hu (one_line v) fun h4 t1 k4 hx4 => ?_
  -- the store
  have k14 : ∀ b o, b ≠ x → h1.get? b = some o → h4.get? b = some o := fun b o hb e => k4 b o hb (k3' _ _ (k2' _ _ e))
  have X4 : K.In h4 := fun b o e => k14 b o (fun z => by rw [z, hnx] at e; cases e) (X1 _ _ e)
  have hLx : hp.objs.size ≠ x := Nat.ne_of_gt (Heap.lt_size hx)
  have hns4 : h4.Ns hp.objs.size (fun y => (bnd f x v).reverse.lookup y) := by
    obtain ⟨o, es, ep, e1, e2⟩ := hns3
    exact ⟨o, es, ep, k4 _ _ hLx e1, e2⟩
  refine ks_wpAt_execs_cons (ks_wpAt_Assign_Attr (wpAt_of_wpAny (at_name (by rfl) hf1 hns4 vf (at_name (by rfl) hf2 hns4 vs' ?_ (by decide +kernel)) hf3)) (by rfl))
  refine set_first T.SF X4 hx4 T.sa T.ov T.tk T.hd fun h5 tk5 dx k5' dn dne hx5 hn5 => ?_
  refine wpAt_of_wpAny (wpAny_execs_nil ?_)
  have old : ∀ b o, b ≠ x → hp.get? b = some o → h5.get? b = some o := fun b o hb' e => k5' b o hb' (k14 b o hb' (k1' _ _ e))
  refine hq h5 tk5 dx t1 ⟨old, hx5, ?_, dne, hn5⟩
  obtain ⟨oL, _, _, eL, _⟩ := hns4
  exact Nat.le_trans (Nat.le_of_lt (Heap.lt_size eL)) dn
end
end Ev
end
section
set_option Elab.async false
set_option linter.all false
set_option maxRecDepth 100000
set_option maxHeartbeats 4000000
namespace Ev
open PySem PySem.W PySem.Calls PyProof.Rows
/-- one that was made -/
structure Made (h h' : Heap) (f : Str) (e C d : Addr) (v : Value) : Prop where
  keep : ∀ b o, h.get? b = some o → h'.get? b = some o
  new : h.objs.size ≤ e
  obj : ∃ oe vs, h'.get? e = some oe ∧ oe.cls = .ref C ∧ oe.dict = some d ∧ oe.data = .fields vs ∧ vs[1]? = some .none
  big : h.objs.size ≤ d
  ne : d ≠ e
  ns : h'.Ns1 d (fun y => if y = f then some v else none)
section
variable {prog : Program} {w : World} {A : Around} {R : Result → Shared → Prop} {s : Shared} {K : Frag} {mg mb : Str → Option Value} {f : Str} {C fI : Addr} {B newId initId : String} {bmB : List Value}
theorem sup_made (T : SupT K prog f C fI B newId initId bmB) {v : Value} (X : K.In s.heap) (hlim : s.heap.NoLimit) (hroom : A.depth + 1 < recursionLimit) (hg : s.heap.Ns mainGlobals mg) (hb : s.heap.Ns builtinsNs mb) (hsu : mg "super" = none) (hbs : mb "super" = some (.type "super"))
    (hq : ∀ h' tk e d, Made s.heap h' f e C d v → R (.ok (.ret (.ref e))) { s with heap := h', toks := tk }) : codeAny (model prog w) A (.call (.ref C) ⟨[v], []⟩) R s := by
  obtain ⟨nm, N, q, bs, bm, hdct, sn, sub, ab, col, dd, k0, k1, k2, k3, k5, hC, hT⟩ := excInit_of X T.cls
  obtain ⟨hp, g, dr, tk, os⟩ := s
  have two : ∀ b o, hp.get? b = some o → ((hp.push (kdv_tup [v])).push (HandSPX.excO C hp.objs.size)).get? b = some o := fun b o e => Heap.get?_push_of_some _ (Heap.get?_push_of_some _ e)
  have at1 : ((hp.push (kdv_tup [v])).push (HandSPX.excO C hp.objs.size)).get? (hp.objs.size + 1) = some (HandSPX.excO C hp.objs.size) := by heap_get
  have nK : K.lookup (hp.objs.size + 1) = none := by
    cases e : K.lookup (hp.objs.size + 1) with
    | none => rfl
    | some o => exact absurd (Nat.lt_of_succ_lt (Heap.lt_size (X _ _ e))) (Nat.lt_irrefl _)
  refine HandSPX.call_own T.FB hT hC (looks_findIn X T.iC) (fun self => bind_fn X self T.tI) (one_line v) ?_
  refine init_run (s := ⟨(hp.push (kdv_tup [v])).push (HandSPX.excO C hp.objs.size), g, dr, tk, os⟩) T (X.keeps two) (hlim.keeps two) at1 nK hroom (hg.keeps two) (hb.keeps two) hsu hbs fun h' tk' dx t1 M => ?_
  have z : hp.objs.size + 1 + 1 ≤ dx := by simpa only [Heap.size_push] using M.big
  refine ⟨rfl, hq h' tk' (hp.objs.size + 1) dx ⟨fun b o e => M.keep b o (Nat.ne_of_lt (Nat.lt_succ_of_lt (Heap.lt_size e))) (two b o e), Nat.le_succ _, ⟨_, _, M.obj, rfl, rfl, rfl, rfl⟩, by show hp.objs.size ≤ dx; omega, M.ne, M.ns⟩⟩
end
end Ev
namespace Ev
open PySem PySem.Spec PyProof.Rows L2
theorem relO_one {v : V} {u : Value} (r : RelV v u) (f g : Str) : RelO (List.lookup g [(f, v)]) (if g = f then some u else none) := by
  by_cases h : g = f
  · subst h
    have : List.lookup g [(g, v)] = some v := by simp [List.lookup]
    rw [if_pos rfl, this]
    exact r
  · have : List.lookup g [(f, v)] = none := by
      have q : (g == f) = false := by simpa using h
      simp [List.lookup, q]
    rw [if_neg h, this]
    trivial
/-- C(e) -/
def tMkX (C : Addr) (f : Str) (ta : TA) : L2.St → Hp → XK → Prop := fun σ H Q => ta σ H fun vs H1 => ∃ v, vs = [v] ∧ ∀ d, H1 d = none → Q (.ref C) (some d) (upd H1 d (.xd [(f, v)]))
section
variable {X : Cx} {f : Str} {C fI : Addr} {B newId initId : String} {bmB : List Value}
theorem pmk_sup {a : Expr} {ta : TA} {x : Str} {p pos : Pos} {k : Nat} (T : SupT X.K X.prog f C fI B newId initId bmB) (gC : X.mg x = some (.ref C)) (kC : PySem.W.keepIn X.K (.ref C) = true) (rC : Raises X (.ref C)) (hsu : X.mg "super" = none) (hr : Room k X.A) (ha : PA X [a] ta) (hg : Gl X x) (hdb : (x == ("__debug__" : Str)) = false)
    (he : starEach [a] X.env = (false, eval a X.env) :: starEach [] X.env) : PMk X (.Call (.Name x p) [a] [] pos) (tMkX C f ta) := by
  intro pins s σ H Q I h
  refine wpAny_Call_Name_kw (ld_glob I hg gC ?_ hdb)
  refine PySem.W.callWith_K (h₀ := X.base) I.ok.mod.kin kC (thn (ha.run pos pins s σ H _ I h) ?_) he (by rfl)
  rintro us s1 ⟨vs, H1, I1, r1, v, rfl, q1⟩
  refine ⟨I1.kIn, ?_⟩
  cases r1 with
  | @cons _ v' _ us' rv rn =>
    cases rn
    show wpAny _ _ (call (.ref C) [v']) _ _ _
    obtain ⟨mb, b1, b2⟩ := I1.mod.blt
    have hG : s1.heap.Ns mainGlobals X.mg := I1.mod.glob.keeps I1.bk
    have hB : s1.heap.Ns builtinsNs mb := b1.keeps I1.bk
    have hlim := I1.nolimit
    obtain ⟨hp, g, dr, tk, os⟩ := s1
    refine wpAny_call (sup_made T I1.kIn hlim (by have := hr.dp; omega) hG hB hsu ((b2 _ (by decide)).trans (by rfl)) fun h' tk' e d M => ?_)
    show MkP X pins σ Q (.ref e) ⟨h', g, dr, tk', os⟩
    obtain ⟨oe, fv, hoe, hc, hd, hdat, h1⟩ := M.obj
    obtain ⟨G', g1, g2⟩ := restrict h' fun b => decide (b ≠ e)
    have gk : ∀ b, b ≠ e → G'.get? b = h'.get? b := fun b hb => g1 b (decide_eq_true hb)
    have ge : G'.get? e = none := g2 e (by simp)
    have old : ∀ b o, hp.get? b = some o → G'.get? b = some o := fun b o q => (gk b (Nat.ne_of_lt (Nat.lt_of_lt_of_le (Heap.lt_size q) M.new))).trans (M.keep b o q)
    have ob : ObjOk X.prog X.w (upd H1 d (.xd [(f, v)])) G' d (.xd [(f, v)]) := ⟨_, M.ns.at (fun o q => (gk d M.ne).trans q), fun y => relO_one rv f y⟩
    have J : Inv X pins σ (upd H1 d (.xd [(f, v)])) ⟨G', g, dr, tk', os⟩ := I1.laid (t' := tk') old M.big ob
    refine ⟨e, oe, fv, ⟨G', g, dr, tk', os⟩, _, .ref C, some d, rfl, J, fun b o q => ?_, ge, hoe, ⟨hc, hd⟩, hdat, h1, ?_, rfl, I1.bare, rC, q1 d (I1.hok.fresh M.big)⟩
    · have hb : b ≠ e := fun z => by
        have q' : G'.get? b = some o := q
        rw [z, ge] at q'
        cases q'
      exact (gk b hb).symm.trans q
    · rw [upd_ne M.ne.symm]
      exact I1.hok.fresh M.new
/-- C() -/
theorem pmk_own0 {x : Str} {p pos : Pos} (F : ExcBaseFacts B newId initId bmB) (q : PySem.W.excIn X.K C bmB newId = true) (gC : X.mg x = some (.ref C)) (kC : PySem.W.keepIn X.K (.ref C) = true) (r : Raises X (.ref C)) (hg : Gl X x) (hdb : (x == ("__debug__" : Str)) = false) :
    PMk X (.Call (.Name x p) [] [] pos) (fun _ H Q => Q (.ref C) none H) := by
  intro pins s σ H Q I h
  refine wpAny_Call_Name_kw (ld_glob I hg gC ?_ hdb)
  refine PySem.W.callWith_K0 I.kIn kC ?_
  obtain ⟨bm, N, nm, qn, bs, hdct, sn, sub, ab, col, dd, k0, k1, k2, k3, k5, mN, hC, hN, hni, T⟩ := L2.exc_obj I.kIn q
  refine wpAny_call_exc_subT F T hC hN hni (fun h' e hm => ?_) (by show 0 ≤ sizeLine; exact Nat.zero_le _)
  exact mk_of I hm r h (I.hok.gone hm.new)
end
end Ev
end
section
set_option Elab.async false
set_option linter.all false
set_option maxRecDepth 100000
set_option maxHeartbeats 4000000
namespace Ev
open PySem PySem.Spec PyProof.Rows L2
def tExf (K : PySem.W.Frag) (f : Str) (te : TE) : TE := fun σ H Q => te σ H fun x H1 => ∃ (a C d : Addr) (fs : List (Str × V)) (v : V), x = .ref a ∧ XfC K C ∧ PySem.W.findIn K (.ref C) f = some none ∧ H1 a = some (EXO a (.ref C) (some d)) ∧ H1 d = some (.xd fs) ∧ fs.lookup f = some v ∧ Q v H1
theorem xd_at {X : Cx} {pins : List (Addr × Obj)} {σ : L2.St} {H : Hp} {s : Shared} {d : Addr} {fs : List (Str × V)} (I : Inv X pins σ H s) (h : H d = some (.xd fs)) : ∃ od, s.heap.get? d = some od ∧ ∀ f v, fs.lookup f = some v → ∃ u, PySem.W.lookIn f od = some (some u) ∧ RelV v u := by
  have hx : ObjOk X.prog X.w H s.heap d (.xd fs) := I.hok d _ h
  obtain ⟨mA, hns, hr⟩ := hx
  obtain ⟨od, ho, hl⟩ := lookIn_ns hns
  refine ⟨od, ho, fun f v l => ?_⟩
  obtain ⟨u, hu, ru⟩ := RelO.some_of (v := v) (o := mA f) (by rw [← l]; exact hr f)
  exact ⟨u, by rw [hl, hu], ru⟩
theorem pe_exf {X : Cx} {e : Expr} {te : TE} {pos : Pos} {f : Str} (he : PE X e te) (hb : attributeBase e f X.env (eval e X.env) = eval e X.env) : PE X (.Attribute e f pos) (tExf X.K f te) := by
  refine ⟨fun pins s σ H Q I h => ?_⟩
  refine attr_of hb (thn (he.run pins s σ H _ I h) ?_)
  rintro u s1 ⟨x, H1, I1, rx, a, C, d, fs, v, rfl, T, hno, ea, ed, l, q⟩
  obtain rfl : u = Value.ref a := rx
  have ha : ObjOk X.prog X.w H1 s1.heap a (EXO a (.ref C) (some d)) := I1.hok a _ ea
  obtain ⟨⟨oe, vs, g1, hz, hd⟩, _⟩ := ha
  obtain ⟨od, ho, hl⟩ := xd_at I1 ed
  obtain ⟨u, hu, ru⟩ := hl f v l
  have J : PySem.W.InstAt s1.heap a oe C (some od) := ⟨g1, hz.1, by unfold PySem.W.notCls; rw [hd] <;> rfl, by rw [hz.2]; exact ho⟩
  exact HandSPX.exc_get I1.kIn J T.ga T.gg T.exC (PySem.W.findObj_own T.hdC hno rfl hu) (handed_of ru) ⟨v, H1, I1.tok _, ru, q⟩
def rIsX (K : PySem.W.Frag) : List V → Hp → VK → Prop := fun xs H Q => ∃ (a C : Addr) (d : Option Addr) (c : V) (cv : Value) (b : Bool), xs = [.ref a, c] ∧ H a = some (EXO a (.ref C) d) ∧ (d = none ∨ ∃ dd fs, d = some dd ∧ H dd = some (.xd fs)) ∧ ExcC K C ∧
  (∀ u, RelV c u → u = cv) ∧ PySem.W.kitOne K (.ref C) cv = some b ∧ Q (.bl b) H
theorem call_isX {X : Cx} : CallR X (.builtin "isinstance") (rIsX X.K) := by
  intro pins s σ H xs us Q I r ⟨a, C, d, c, cv, b, ex, ea, ed, T, hcv, e, q⟩
  subst ex
  cases r with
  | cons rx rr =>
    cases rr with
    | cons rt rr =>
      cases rr
      cases rx
      rw [hcv _ rt]
      have ha : ObjOk X.prog X.w H s.heap a (EXO a (.ref C) d) := I.hok a _ ea
      obtain ⟨⟨oe, vs, g1, hz, hd⟩, _⟩ := ha
      obtain ⟨cd, hcl, _⟩ := PySem.W.any_some T.hd
      have hnc : PySem.W.notCls oe = true := by unfold PySem.W.notCls; rw [hd] <;> rfl
      have fin : ∀ od, PySem.W.InstAt s.heap a oe C od → wpAny (model X.prog X.w) X.A (call (.builtin "isinstance") [.ref a, cv]) (EP X pins σ Q) X.xe s := fun od J =>
        PySem.W.kia_one (PySem.W.kitx_exc (by rw [hcl]; rfl) T.hg T.hk T.hs T.ha T.hn T.ht T.hm) I.kIn J e (fun z => nomatch z) fun tk => ⟨.bl b, H, I.kept (t' := tk) fun _ _ z => z, rfl, q⟩
      rcases ed with rfl | ⟨dd, fs, rfl, ed⟩
      · exact fin none ⟨g1, hz.1, hnc, by rw [hz.2]; trivial⟩
      · obtain ⟨od, ho, _⟩ := xd_at I ed
        exact fin (some od) ⟨g1, hz.1, hnc, by rw [hz.2]; exact ho⟩
end Ev
end
section
set_option Elab.async false
set_option linter.all false
set_option maxRecDepth 100000
set_option maxHeartbeats 1000000
namespace Ev
open PySem PySem.Spec L2 StX
def tyN : T → String
  | .non => "NoneType" | .bl _ => "bool" | .int _ => "int" | .str _ => "str" | .tup _ => "tuple" | .lst _ => "list" | .dct _ _ => "dict" | .fz _ => "list" | .err _ _ => "object"
def Ty.nm : Ty → String
  | .int => "int" | .bool => "bool" | .str => "str" | .list => "list" | .tuple => "tuple" | .dict => "dict" | .lookE => "LookupError" | .valE => "ValueError"
def Ty.ok : Ty → Bool
  | _ => true
theorem kit_one {K : PySem.W.Frag} {t : T} {y : Ty} (hy : y.ok = true) (ht : (∀ ns, t ≠ .fz ns) ∧ ∀ c fs, t ≠ .err c fs) : PySem.W.kitOne K (.type (tyN t)) (.type y.nm) = some (isTy t y) := by
  cases y <;> first | (simp [Ty.ok] at hy; done) | skip
  all_goals cases t <;> first | exact absurd rfl (ht.1 _) | exact absurd rfl (ht.2 _ _) | (simp only [tyN, Ty.nm, isTy]; exact kit_ty (by decide +kernel))
theorem kit_any {K : PySem.W.Frag} {t : T} (ht : (∀ ns, t ≠ .fz ns) ∧ ∀ c fs, t ≠ .err c fs) : ∀ {ys : List Ty}, ys.all Ty.ok = true → PySem.W.kitAny K (.type (tyN t)) (ys.map fun y => .type y.nm) = some (ys.any (isTy t))
  | [], _ => rfl
  | y :: ys, h => by
    simp only [List.all_cons, Bool.and_eq_true] at h
    simp only [List.map_cons, PySem.W.kitAny, kit_one h.1 ht, List.any_cons]
    cases isTy t y with
    | true => rfl
    | false => simp [kit_any ht h.2]
theorem Vw.tyx {K : PySem.W.Frag} {Z : Zn} {H H' : Hp} {v : V} {t : T} (h : Vw K Z H v t) (ht : (∀ ns, t ≠ .fz ns) ∧ ∀ c fs, t ≠ .err c fs) (f : Fresh H H') : TyX K H' v (.type (tyN t)) := by
  cases t with
  | non => rw [h.non]; exact .base .non
  | bl b => rw [h.bl]; exact .base (.bl b)
  | int b => rw [h.int]; exact .base (.int b)
  | str b => rw [h.str.1]; exact .base (.str _)
  | tup ts => obtain ⟨a, vs, rfl, h1, _⟩ := h.tup; exact .base (.tup (f _ _ h1.1))
  | lst ts => obtain ⟨a, vs, rfl, h1, _⟩ := h.lst; exact .base (.lst (f _ _ h1))
  | dct ks us => obtain ⟨a, vs, rfl, ⟨kvs, h1, _⟩, _⟩ := h; exact .base (.dK (f _ _ h1))
  | fz ns => exact absurd rfl (ht.1 ns)
  | err c fs => exact absurd rfl (ht.2 c fs)
theorem isi_open {K : PySem.W.Frag} {ys : List Ty} {x : V} {H : Hp} {Q : VK} (h : OpG K (.isi ys) [x] H Q) :
    (∃ Z t, Vw K Z H x t ∧ ((∀ ns, t ≠ .fz ns) ∧ ∀ c fs, t ≠ .err c fs) ∧ ∀ H', Fresh H H' → Q (.bl (ys.any (isTy t))) H') ∨
    ∃ Z c fs y b, Rp K Z H x (.err c fs) ∧ ys = [y] ∧ PySem.W.kitOne K (cvK K c) (.type y.nm) = some b ∧ Q (.bl b) H := by
  obtain ⟨Z, ts, r, hz, hv, he, hq⟩ := h
  obtain ⟨t, rfl⟩ := len1 (Vws.ln hv)
  obtain ⟨v, e, hw⟩ := hv.one
  cases e
  by_cases hx : ∃ c fs, t = .err c fs
  · obtain ⟨c, fs, rfl⟩ := hx
    refine .inr ?_
    have hr : Rp K Z H x (.err c fs) := hw
    have hr2 := hr
    unfold Rp at hr2
    obtain ⟨a, d, ws, _, _, xk, _⟩ := hr2
    simp only [evOp, o_isi] at he
    split at he
    · cases he
      exact ⟨Z, c, fs, _, _, hr, rfl, xk.kl, hq _ _ [] (.sh' .refl (Rp.bl _))⟩
    · cases he
      exact ⟨Z, c, fs, _, _, hr, rfl, xk.kv, hq _ _ [] (.sh' .refl (Rp.bl _))⟩
    · cases he
  · refine .inl ?_
    have h0 : ∀ ns, t ≠ .fz ns := fun ns q => by
      subst q
      simp only [evOp, o_isi] at he
      cases he
    have ht : (∀ ns, t ≠ .fz ns) ∧ ∀ c fs, t ≠ .err c fs := ⟨h0, fun c fs q => hx ⟨c, fs, q⟩⟩
    refine ⟨Z, t, hw, ht, fun H' f => hq _ _ [] ?_⟩
    have : r = .sh (.bl (ys.any (isTy t))) := by
      cases t <;> first | exact absurd rfl (ht.1 _) | exact absurd rfl (ht.2 _ _) | (simp only [evOp, o_isi, shB, Option.some.injEq] at he; exact he.symm)
    rw [this]
    exact .sh' f (Rp.bl _)
/-- either way -/
theorem call_isi2 {X : Cx} : CallR X (.builtin "isinstance") (fun xs H Q => rIsi X.K xs H Q ∨ rIsX X.K xs H Q) := fun pins s σ H xs us Q I r h =>
  h.elim (fun h => call_isi pins s σ H xs us Q I r h) fun h => call_isX pins s σ H xs us Q I r h
section
variable {X : Cx} {D : Wd} {a : Expr}
def NoSt (e : E) : Prop := ∀ x, e ≠ .star x
theorem PE.weak {e : Expr} {t u : TE} (h : PE X e t) (w : ∀ σ H Q, u σ H Q → t σ H Q) : PE X e u := ⟨fun pins s σ H Q I q => h.run pins s σ H Q I (w σ H Q q)⟩
theorem PT.weak {e : Expr} {t u : TT} (h : PT X e t) (w : ∀ σ H Q, u σ H Q → t σ H Q) : PT X e u := ⟨fun pins s σ H Q I q => h.run pins s σ H Q I (w σ H Q q)⟩
theorem pe_isi1 {e : E} {y : Ty} {n : Str} {p p1 pos : Pos} (hk : X.K = D.K) (hg : Gl X "isinstance") (hm : X.mg "isinstance" = none) (he : NoSt e) (hy : y.ok = true) (hn : n = Str.ofString y.nm) (hb : bootBuiltins n = some (.type y.nm)) (hg1 : Gl X n) (hm1 : X.mg n = none)
    (hn1 : n ≠ "__name__") (hn2 : (n == ("__debug__" : Str)) = false) (hs : starEach [a, .Name n p1] X.env = (false, eval a X.env) :: starEach [.Name n p1] X.env)
    (h : PE X a (tO D e)) : PE X (.Call (.Name "isinstance" p) [a, .Name n p1] [] pos) (tE D (.op (.isi [y]) [e])) := by
  refine PE.weak (pe_callB call_isi2 hg hm rfl (pa_cons h (pa_cons (pe_bltn (v := .ty y.nm) hg1 hm1 hb rfl hn1 hn2) pa_nil) hs) (by decide) (by decide) hs) fun σ H Q q => ?_
  refine (op_in1 he q).mono fun x H1 g => ?_
  rcases isi_open g with ⟨Z, t, hw, ht, hq⟩ | ⟨Z, c, fs, z, b, hr, ez, hk2, hq⟩
  · have := kit_one (K := X.K) hy ht
    refine .inl ⟨x, .ty y.nm, .type (tyN t), .type y.nm, isTy t y, rfl, .ty _, hk ▸ hw.tyx ht .refl, this, ?_⟩
    have h2 := hq H1 .refl
    simpa using h2
  · cases ez
    unfold Rp at hr
    obtain ⟨a, d, ws, rfl, ⟨h1, _⟩, xk, xd, _⟩ := hr
    refine .inr ⟨a, cvA D.K c, d, .ty y.nm, .type y.nm, b, rfl, h1, ?_, hk ▸ xk.isI, fun u r => r, hk ▸ hk2, hq⟩
    rcases xd with ⟨e, _⟩ | ⟨dd, w, e, _, e3, _⟩
    · exact .inl e
    · exact .inr ⟨dd, _, e, e3.1⟩
/-- names of types in a row -/
def tyEs (X : Cx) : List Expr → List Ty → Prop
  | [], [] => True
  | .Name n p :: es, y :: ys => (n = Str.ofString y.nm ∧ bootBuiltins n = some (.type y.nm) ∧ Gl X n ∧ X.mg n = none ∧ n ≠ "__name__" ∧ (n == ("__debug__" : Str)) = false ∧ starEach (.Name n p :: es) X.env = (false, eval (.Name n p) X.env) :: starEach es X.env) ∧ tyEs X es ys
  | _, _ => False
def tTys (ys : List Ty) : TA := fun σ H Q => Q (ys.map fun y => .ty y.nm) H
theorem pa_tys : ∀ {es : List Expr} {ys : List Ty}, tyEs X es ys → PA X es (tTys ys)
  | [], [], _ => pa_nil
  | .Name n p :: es, y :: ys, h => by
    obtain ⟨⟨h1, h2, h3, h4, h5, h6, h7⟩, h8⟩ := h
    exact pa_cons (pe_bltn (v := .ty y.nm) h3 h4 h2 rfl h5 h6) (pa_tys h8) h7
  | [], _ :: _, h => h.elim
  | .Name _ _ :: _, [], h => h.elim
theorem paired_tys : ∀ ys : List Ty, Paired ClsV (ys.map fun y => V.ty y.nm) (ys.map fun y => Value.type y.nm)
  | [] => .nil
  | y :: ys => .cons (.ty _) (paired_tys ys)
theorem pe_isiN {e : E} {ys : List Ty} {es : List Expr} {x1 : Nat} {p p1 pos : Pos} (hk : X.K = D.K) (hg : Gl X "isinstance") (hm : X.mg "isinstance" = none) (he : NoSt e) (hy : ys.all Ty.ok = true) (hl : ys.length ≤ 100) (hl2 : 2 ≤ ys.length) (hn : tyEs X es ys)
    (hs : starEach [a, .Tuple es x1 p1] X.env = (false, eval a X.env) :: starEach [.Tuple es x1 p1] X.env)
    (h : PE X a (tO D e)) : PE X (.Call (.Name "isinstance" p) [a, .Tuple es x1 p1] [] pos) (tE D (.op (.isi ys) [e])) := by
  refine PE.weak (pe_callB call_isiT hg hm rfl (pa_cons h (pa_cons (pe_tup (pa_tys hn)) pa_nil) hs) (by decide) (by decide) hs) fun σ H Q q => ?_
  refine (op_in1 he q).mono fun x H1 g => ?_
  rcases isi_open g with ⟨Z, t, hw, ht, hq⟩ | ⟨Z, c, fs, z, b, hr, ez, hk2, hq⟩
  · refine ⟨by rw [List.length_map, ← line_sz]; exact Nat.le_trans hl (by decide), fun tp np => ?_⟩
    exact ⟨x, tp, _, .type (tyN t), _, _, rfl, upd_same, paired_tys ys, hk ▸ hw.tyx ht (.upd np), kit_any ht hy, hq _ (.upd np)⟩
  · rw [ez] at hl2
    simp at hl2
end
def noBrw : List E → Bool
  | [] => true
  | .brw _ :: _ => false
  | _ :: es => noBrw es
def noSlot : List Arg → Bool
  | [] => true
  | .slot _ :: _ => false
  | _ :: as => noSlot as
theorem evs_nos {cf : CallF} : ∀ {es : List E} {ρ ρ' : Env} {as : List Arg}, noBrw es = true → evs cf es ρ = .ok as ρ' → noSlot as = true
  | [], _, _, _, _, h => by
    rw [evs] at h
    cases h
    rfl
  | .star e :: es, ρ, ρ', as, hp, h => by
    rw [evs] at h
    cases q0 : ev cf e ρ with
    | ok r ρ1 =>
      rw [q0] at h
      simp only [Out.bind] at h
      split at h
      · cases q : evs cf es ρ1 with
        | ok bs ρ2 =>
          rw [q] at h
          cases h
          have := evs_nos (es := es) hp q
          simpa [noSlot] using this
        | exc c fs ρ2 => rw [q] at h; cases h
        | bad => rw [q] at h; cases h
      · cases h
    | exc c fs ρ2 => rw [q0] at h; cases h
    | bad => rw [q0] at h; cases h
  | .brw i :: es, ρ, ρ', as, hp, h => by simp [noBrw] at hp
  | e :: es, ρ, ρ', as, hp, h => by
    by_cases hp1 : plainE e = true
    · have hp2 : noBrw es = true := by cases e <;> first | exact hp | (simp [plainE] at hp1; done)
      rw [evs_plain hp1] at h
      cases q0 : ev cf e ρ with
      | ok r ρ1 =>
        rw [q0] at h
        simp only [Out.bind] at h
        cases q : evs cf es ρ1 with
        | ok bs ρ2 =>
          rw [q] at h
          cases h
          have := evs_nos (es := es) hp2 q
          simpa [noSlot] using this
        | exc c fs ρ2 => rw [q] at h; cases h
        | bad => rw [q] at h; cases h
      | exc c fs ρ2 => rw [q0] at h; cases h
      | bad => rw [q0] at h; cases h
    · cases e <;> first | exact absurd rfl hp1 | skip
      · simp [noBrw] at hp
      · rename_i e
        rw [evs] at h
        cases q0 : ev cf e ρ with
        | ok r ρ1 =>
          rw [q0] at h
          simp only [Out.bind] at h
          split at h
          · cases q : evs cf es ρ1 with
            | ok bs ρ2 =>
              rw [q] at h
              cases h
              have := evs_nos (es := es) hp q
              simpa [noSlot] using this
            | exc c fs ρ2 => rw [q] at h; cases h
            | bad => rw [q] at h; cases h
          · cases h
        | exc c fs ρ2 => rw [q0] at h; cases h
        | bad => rw [q0] at h; cases h
theorem AsAt.rpsN {K : PySem.W.Frag} {Z Zb : Zn} {F : Nat → List Addr} {σ : L2.St} {ρ : Env} {H : Hp} (hz : ∀ b, Z b → Zb b) :
    ∀ {as : List Arg} {vs : List V} {fps : List (List Addr)} {ts : List T}, (∀ b ∈ fps.flatten, ¬ Zs Z F b) → noSlot as = true → AsAt K (Zs Zb F) σ H vs as fps → argTs ρ as = some ts → Rps K (Zs Z F) H vs ts
  | [], _, _, _, _, _, h, e => by
    cases e
    rw [h.1]
    exact .nil
  | .val r :: as, _, _, _, n, hn, h, e => by
    obtain ⟨v, ws, fp, gs, rfl, rfl, h1, h2⟩ := h
    simp only [argTs, Arg.t, Option.bind_some] at e
    cases q : argTs ρ as with
    | none => rw [q] at e; cases e
    | some ys =>
      rw [q] at e
      simp only [Option.map_some, Option.some.injEq] at e
      subst e
      refine .cons ?_ (AsAt.rpsN hz (fun b hb => n b (by rw [List.flatten_cons]; exact List.mem_append_right _ hb)) (by simpa [noSlot] using hn) h2 q)
      exact (h1.zn fun b _ q => q.imp (hz b) id).share fun b hb => n b (by simp [hb])
  | .star us :: as, _, _, _, n, hn, h, e => by
    obtain ⟨us', ws, gs, rfl, rfl, h1, h2⟩ := h
    simp only [argTs, Arg.t, Option.bind_some] at e
    cases q : argTs ρ as with
    | none => rw [q] at e; cases e
    | some ys =>
      rw [q] at e
      simp only [Option.map_some, Option.some.injEq] at e
      subst e
      exact (h1.zn fun b _ q => q.imp (hz b) id).app (AsAt.rpsN (fps := gs) hz n (by simpa [noSlot] using hn) h2 q)
  | .slot i :: as, _, _, _, _, hn, _, _ => by simp [noSlot] at hn
section
variable {X : Cx} {D : Wd} {σ : L2.St} {H : Hp} {Q : VK}
/-- an operator over things that are shared, not looked at -/
theorem opN_in {o : Op} {es : List E} (hn : noBrw es = true) (h : tE D (.op o es) σ H Q) :
    tAs D es σ H fun vs H' => ∃ Z ts r, (∀ a, Z a → H' a ≠ none) ∧ Rps D.K Z H' vs ts ∧ evOp o ts = some r ∧ ∀ v H2 fp, OPo D.K Z H' H2 v r fp → Q v H2 := by
  obtain ⟨Z, F, ρ, S, h⟩ := h
  refine ⟨Z, F, ρ, S, ?_⟩
  rw [ev] at h
  cases e1 : evs D.cf es ρ with
  | bad => rw [e1] at h; exact h
  | exc c fs ρ' => rw [e1] at h; exact h
  | ok as ρ1 =>
    rw [e1] at h
    simp only [Out.bind] at h
    intro F1 H1 vs fps a
    cases e2 : argTs ρ1 as with
    | none => rw [e2] at h; exact h.elim
    | some ts =>
      rw [e2] at h
      dsimp only at h
      cases e3 : evOp o ts with
      | none => rw [e3] at h; exact h.elim
      | some r =>
        rw [e3] at h
        refine ⟨Zs Z F1, ts, r, fun b hb => a.spo.si.tz hb, AsAt.rpsN (fun b q => .inl q) (fun b hb q => ?_) (evs_nos hn e1) a.as_ e2, e3, fun v H' fp b => h F1 H' v fp (EPo.of_op a.spo b)⟩
        rcases q with q | ⟨i, q⟩
        · exact a.z0 b q (a.nw b hb)
        · exact a.si.zf i b q (.inr hb)
theorem pe_tupE {es : List Expr} {x1 : Nat} {pos : Pos} {ls : List E} (hn : noBrw ls = true) (h : PA X es (tAs D ls)) : PE X (.Tuple es x1 pos) (tE D (.op .tup ls)) := by
  refine PE.weak (pe_tup h) fun σ H Q q => tA_mono (opN_in hn q) fun vs H1 ⟨Z, ts, r, hz, hr, he, hq⟩ => ?_
  simp only [evOp, o_tup] at he
  split at he
  · rename_i hs
    cases he
    exact ⟨by rw [hr.len, ← line_sz]; exact Nat.le_of_ble_eq_true hs, fun p np => hq _ _ _ (.tup np hz hr)⟩
  · cases he
theorem pe_lstE {es : List Expr} {pos : Pos} {ls : List E} (hn : noBrw ls = true) (h : PA X es (tAs D ls)) : PE X (.List es pos) (tE D (.op .lst ls)) := by
  refine PE.weak (pe_lst h) fun σ H Q q => tA_mono (opN_in hn q) fun vs H1 ⟨Z, ts, r, hz, hr, he, hq⟩ => ?_
  simp only [evOp, o_lst] at he
  split at he
  · rename_i hs
    cases he
    exact ⟨by rw [hr.len, ← line_sz]; exact Nat.le_of_ble_eq_true hs, fun p np => hq _ _ _ (.lst np hr)⟩
  · cases he
theorem chain_in {o1 o2 : Op} {a b c : E} (h : tE D (.chain o1 o2 a b c) σ H Q) : tChain (fun x y H Q => OpG D.K o1 [x, y] H Q) (fun x y H Q => OpG D.K o2 [x, y] H Q) (tE D a) (tE D b) (tE D c) σ H Q := by
  obtain ⟨Z, F, ρ, S, h⟩ := h
  refine ⟨Z, F, ρ, S, ?_⟩
  rw [ev] at h
  cases e1 : ev D.cf a ρ with
  | bad => rw [e1] at h; exact h
  | exc c fs ρ' => rw [e1] at h; exact h
  | ok ra ρ1 =>
    rw [e1] at h
    simp only [Out.bind] at h
    intro F1 H1 x fpa ea
    refine ⟨_, F1, ρ1, ea.si, ?_⟩
    cases e2 : ev D.cf b ρ1 with
    | bad => rw [e2] at h; exact h
    | exc c fs ρ' => rw [e2] at h; exact XPo.held ea.spo h
    | ok rb ρ2 =>
      rw [e2] at h
      simp only [Out.bind] at h
      intro F2 H2 y fpb eb
      have ap := apo_cons ea (apo_cons eb (apo_nil eb.si))
      have rp := ap.rps (rs := [ra, rb]) rfl (ts := [ra.t, rb.t]) rfl
      obtain ⟨x', y', exy, rx, ry⟩ := rp.duo
      cases exy
      split at h
      · rename_i e3
        refine ⟨Zs Z F2, [ra.t, rb.t], _, fun b hb => ap.spo.si.tz hb, rp.vws, e3, fun v H3 fp o => ?_⟩
        obtain ⟨rfl, f⟩ := o.sc (w := .bl true) rfl
        refine ⟨true, rfl, ?_⟩
        have s3 : SPo D.K Z F σ ρ H F2 ρ2 H3 := ap.spo.trans ⟨ap.spo.si.keep f, fun _ _ h => h, fun b o e _ => f b o e, fun b h q => h (f.none q), ap.spo.si.tr, (BX.refl (F := F2) (ρ := ρ2)).bx, (BX.refl (F := F2) (ρ := ρ2)).nb⟩
        rw [if_pos rfl]
        refine ⟨Z, F2, ρ2, s3.si, ?_⟩
        cases e4 : ev D.cf c ρ2 with
        | bad => rw [e4] at h; exact h
        | exc c fs ρ' => rw [e4] at h; exact XPo.after s3 h
        | ok rc ρ3 =>
          rw [e4] at h
          simp only [Out.bind] at h
          intro F4 H4 w fpc ec
          cases e5 : evOp o2 [rb.t, rc.t] with
          | none => rw [e5] at h; exact h.elim
          | some r =>
            rw [e5] at h
            have ry4 : Rp D.K (Zs Z F4) H4 y rb.t := ((ry.keep (Fresh.out f)).keep (H' := H4) fun b o e n => ec.fr b o e fun i q => n (.inr ⟨i, q⟩)).zn (Zs.sub ec.sub)
            exact ⟨Zs Z F4, [rb.t, rc.t], r, fun b hb => ec.spo.si.tz hb, ⟨y, _, rfl, ry4.vw, w, _, rfl, ec.shr.vw, rfl⟩, e5, fun v H5 fp o => h F4 H5 v fp (EPo.of_op (s3.trans ec.spo) o)⟩
      · rename_i e3
        refine ⟨Zs Z F2, [ra.t, rb.t], _, fun b hb => ap.spo.si.tz hb, rp.vws, e3, fun v H3 fp o => ?_⟩
        obtain ⟨rfl, f⟩ := o.sc (w := .bl false) rfl
        refine ⟨false, rfl, ?_⟩
        simp only [Bool.false_eq_true, if_false]
        exact h F2 H3 _ _ (EPo.of_op ap.spo (.sh' f (Rp.bl _)))
      · exact h.elim
theorem optp {b : Bool} {ts r : List T} {lo : Option Int} (h : opt b ts = some (lo, r)) : (b = false ∧ lo = none ∧ ts = r) ∨ ∃ i, b = true ∧ lo = some i ∧ ts = .int i :: r := by
  unfold opt at h
  cases b with
  | false => simp at h; exact .inl ⟨rfl, h.1.symm, h.2⟩
  | true =>
    simp only [if_true] at h
    split at h
    · cases h; exact .inr ⟨_, rfl, rfl, rfl⟩
    · cases h
def tPart' (D : Wd) (o : Option E) : TO := match o with
  | none => tNoPart
  | some e => tPart (tE D e)
def optL (o : Option E) : List E := match o with
  | none => []
  | some e => [e]
theorem plain_not {e : E} (h : plainE e = true) : NoSt e := fun x q => by subst q; simp [plainE] at h
theorem evs_one {cf : CallF} {e : E} {ρ ρ' : Env} {as : List Arg} (hp : plainE e = true) (h : evs cf [e] ρ = .ok as ρ') : ∃ r, ev cf e ρ = .ok r ρ' ∧ as = [.val r] := by
  rw [evs_plain hp] at h
  cases q : ev cf e ρ with
  | bad => rw [q] at h; cases h
  | exc c fs ρ2 => rw [q] at h; cases h
  | ok r ρ1 =>
    rw [q] at h
    simp only [Out.bind, evs] at h
    cases h
    exact ⟨r, rfl, rfl⟩
theorem slot_t {i : Nat} {ρ : Env} {xs : List T} (h : (Arg.slot i).t ρ = some xs) : ∃ t, xs = [t] := by
  simp only [Arg.t] at h
  cases q : getR ρ i with
  | none => rw [q] at h; cases h
  | some r =>
    rw [q] at h
    cases r <;> first | (cases h; exact ⟨_, rfl⟩) | cases h
theorem sl_int {t u w : T} {r : R} (h : evOp (.sl true true) [t, u, w] = some r) : (∃ i, u = .int i) ∧ ∃ j, w = .int j := by
  simp only [evOp, o_sl, opt, if_true] at h
  cases u <;> simp at h
  cases w <;> simp at h
  exact ⟨⟨_, rfl⟩, ⟨_, rfl⟩⟩
/-- the rest of a row of operands, where the answer is known to come -/
theorem sl_rest {x : V} {e f : E} (he : plainE e = true) (hf : plainE f = true) (hx : ∀ ρ c fs ρ', ev D.cf f ρ ≠ .exc c fs ρ') {Q2 : List V → Hp → Prop}
    (h : ∃ Z F ρ, SI D.K Z F σ ρ H ∧ wA D (evs D.cf [e, f] ρ) Z F σ ρ H Q2 ∧ ∀ as ρ', evs D.cf [e, f] ρ = .ok as ρ' → ∃ re rf i j, as = [.val re, .val rf] ∧ re.t = .int i ∧ rf.t = .int j) :
    tE D e σ H fun y H2 => ∃ i, y = .int i ∧ tE D f σ H2 fun z H3 => ∃ j, z = .int j ∧ Q2 [.int i, .int j] H3 := by
  obtain ⟨Z, F, ρ, S, h, k⟩ := h
  refine ⟨Z, F, ρ, S, ?_⟩
  rw [evs_plain he] at h k
  cases e1 : ev D.cf e ρ with
  | bad => rw [e1] at h; exact h
  | exc c fs ρ' => rw [e1] at h; exact h
  | ok r ρ1 =>
    rw [e1] at h k
    simp only [Out.bind] at h k
    intro F1 H1 v fp a
    rw [evs_plain hf] at h k
    cases e2 : ev D.cf f ρ1 with
    | bad => rw [e2] at h; exact h.elim
    | exc c fs ρ' => exact absurd e2 (hx _ _ _ _)
    | ok r2 ρ2 =>
      rw [e2] at h k
      simp only [Out.bind, evs] at h k
      obtain ⟨re, rf, i, j, e3, e4, e5⟩ := k _ _ rfl
      cases e3
      have hv : v = .int i := by
        have h1 := a.shr
        rw [e4] at h1
        unfold Rp at h1
        exact h1
      subst hv
      refine ⟨i, rfl, _, F1, ρ1, a.si, ?_⟩
      rw [e2]
      intro F2 H2 w fp2 b
      have hw : w = .int j := by
        have h1 := b.shr
        rw [e5] at h1
        unfold Rp at h1
        exact h1
      subst hw
      exact ⟨j, rfl, h F2 H2 _ _ (apo_cons a (apo_cons b (apo_nil b.si)))⟩
theorem sl_both {a e f : E} (ha : NoSt a) (he : plainE e = true) (hf : plainE f = true) (hx : ∀ ρ c fs ρ', ev D.cf f ρ ≠ .exc c fs ρ') (h : tE D (.op (.sl true true) [a, e, f]) σ H Q) :
    tO D a σ H fun x H1 => tE D e σ H1 fun y H2 => ∃ i, y = .int i ∧ tE D f σ H2 fun z H3 => ∃ j, z = .int j ∧ OpG D.K (.sl true true) [x, .int i, .int j] H3 Q := by
  have h0 := op_in h
  obtain ⟨Z, F, ρ, S, h⟩ := h
  rw [ev] at h
  have known : ∀ as ρ', evs D.cf [a, e, f] ρ = .ok as ρ' → ∃ ts r, argTs ρ' as = some ts ∧ evOp (.sl true true) ts = some r := fun as ρ' q => by
    rw [q] at h
    simp only [Out.bind] at h
    cases e2 : argTs ρ' as with
    | none => rw [e2] at h; exact h.elim
    | some ts =>
      rw [e2] at h
      dsimp only at h
      cases e3 : evOp (.sl true true) ts with
      | none => rw [e3] at h; exact h.elim
      | some r => exact ⟨ts, r, rfl, e3⟩
  have h1 : wA D (evs D.cf [a, e, f] ρ) Z F σ ρ H fun vs H' => OpG D.K (.sl true true) vs H' Q := by
    cases e1 : evs D.cf [a, e, f] ρ with
    | bad => rw [e1] at h; exact h
    | exc c fs ρ' => rw [e1] at h; exact h
    | ok as ρ1 =>
      rw [e1] at h
      simp only [Out.bind] at h
      intro F1 H1 vs fps a
      cases e2 : argTs ρ1 as with
      | none => rw [e2] at h; exact h.elim
      | some ts =>
        rw [e2] at h
        dsimp only at h
        cases e3 : evOp (.sl true true) ts with
        | none => rw [e3] at h; exact h.elim
        | some r =>
          rw [e3] at h
          refine ⟨Zs Z F1, ts, r, fun b hb => a.spo.si.tz hb, AsAt.view a.si (fun b q => .inl q) (fun b hb q => ?_) a.as_ e2, e3, fun v H' fp b => h F1 H' v fp (EPo.of_op a.spo b)⟩
          rcases q with q | ⟨i, q⟩
          · exact a.z0 b q (a.nw b hb)
          · exact a.si.zf i b q (.inr hb)
  clear h0 h
  have fin : ∀ {A0 : Arg} {ρ' : Env}, (∃ t, A0.t ρ' = some [t]) → ∀ {re rf : R}, (∃ ts r, argTs ρ' [A0, .val re, .val rf] = some ts ∧ evOp (.sl true true) ts = some r) → ∃ i j, re.t = .int i ∧ rf.t = .int j := fun {A0 ρ'} ⟨t, et⟩ {re rf} ⟨ts, r, k1, k2⟩ => by
    have k3 : argTs ρ' [A0, .val re, .val rf] = some [t, re.t, rf.t] := by
      rw [argTs, et]
      rfl
    rw [k3] at k1
    cases k1
    obtain ⟨⟨i, k3⟩, ⟨j, k4⟩⟩ := sl_int k2
    exact ⟨i, j, k3, k4⟩
  by_cases hb : plainE a = true
  · have hO : tO D a = tE D a := by cases a <;> first | rfl | (simp [plainE] at hb; done)
    rw [hO]
    refine ⟨Z, F, ρ, S, ?_⟩
    rw [evs_plain hb] at h1 known
    cases e1 : ev D.cf a ρ with
    | bad => rw [e1] at h1; exact h1
    | exc c fs ρ' => rw [e1] at h1; exact h1
    | ok r ρ1 =>
      rw [e1] at h1 known
      simp only [Out.bind] at h1 known
      intro F1 H1 v fp ep
      refine sl_rest (x := v) he hf hx (Q2 := fun vs H' => OpG D.K (.sl true true) (v :: vs) H' Q) ⟨_, F1, ρ1, ep.si, ?_, fun as ρ' q => ?_⟩
      · cases e2 : evs D.cf [e, f] ρ1 with
        | bad => rw [e2] at h1; exact h1
        | exc c fs ρ' => rw [e2] at h1; exact XPo.held ep.spo h1
        | ok as ρ2 =>
          rw [e2] at h1
          intro F2 H2 vs fps b
          exact h1 F2 H2 (v :: vs) (fp :: fps) (apo_cons ep b)
      · rw [q] at known
        have k := known _ _ rfl
        obtain ⟨re, ρ3, q1, rf, q2, rfl⟩ : ∃ re ρ3, ev D.cf e ρ1 = .ok re ρ3 ∧ ∃ rf, ev D.cf f ρ3 = .ok rf ρ' ∧ as = [.val re, .val rf] := by
          rw [evs_plain he] at q
          cases q1 : ev D.cf e ρ1 with
          | bad => rw [q1] at q; cases q
          | exc c fs ρ2 => rw [q1] at q; cases q
          | ok re ρ3 =>
            rw [q1] at q
            simp only [Out.bind] at q
            cases q3 : evs D.cf [f] ρ3 with
            | bad => rw [q3] at q; cases q
            | exc c fs ρ2 => rw [q3] at q; cases q
            | ok bs ρ4 =>
              rw [q3] at q
              cases q
              obtain ⟨rf, q4, rfl⟩ := evs_one hf q3
              exact ⟨re, ρ3, rfl, rf, q4, rfl⟩
        obtain ⟨i, j, k1, k2⟩ := fin ⟨r.t, rfl⟩ k
        exact ⟨re, rf, i, j, rfl, k1, k2⟩
  · cases a with
    | brw i0 =>
      rw [evs] at h1 known
      cases e0 : getR ρ i0 with
      | none => rw [e0] at h1; exact h1.elim
      | some r =>
        rw [e0] at h1 known
        obtain ⟨v, e1, _⟩ := S.at_ i0 r (getR_some e0)
        refine ⟨v, e1, sl_rest (x := v) he hf hx (Q2 := fun vs H' => OpG D.K (.sl true true) (v :: vs) H' Q) ⟨Z, F, ρ, S, ?_, fun as ρ' q => ?_⟩⟩
        · simp only [Out.bind] at h1
          cases e2 : evs D.cf [e, f] ρ with
          | bad => rw [e2] at h1; exact h1
          | exc c fs ρ' => rw [e2] at h1; exact h1
          | ok as ρ2 =>
            rw [e2] at h1
            intro F2 H2 vs fps b
            exact h1 F2 H2 (v :: vs) ([] :: fps) (apo_slot e1 b)
        · simp only [Out.bind] at known
          rw [q] at known
          have k := known _ _ rfl
          obtain ⟨re, ρ3, q1, rf, q2, rfl⟩ : ∃ re ρ3, ev D.cf e ρ = .ok re ρ3 ∧ ∃ rf, ev D.cf f ρ3 = .ok rf ρ' ∧ as = [.val re, .val rf] := by
            rw [evs_plain he] at q
            cases q1 : ev D.cf e ρ with
            | bad => rw [q1] at q; cases q
            | exc c fs ρ2 => rw [q1] at q; cases q
            | ok re ρ3 =>
              rw [q1] at q
              simp only [Out.bind] at q
              cases q3 : evs D.cf [f] ρ3 with
              | bad => rw [q3] at q; cases q
              | exc c fs ρ2 => rw [q3] at q; cases q
              | ok bs ρ4 =>
                rw [q3] at q
                cases q
                obtain ⟨rf, q4, rfl⟩ := evs_one hf q3
                exact ⟨re, ρ3, rfl, rf, q4, rfl⟩
          have t1 : ∃ t, (Arg.slot i0).t ρ' = some [t] := by
            obtain ⟨ts, r', k1, _⟩ := k
            simp only [argTs] at k1
            cases q5 : (Arg.slot i0).t ρ' with
            | none => rw [q5] at k1; cases k1
            | some xs =>
              obtain ⟨t, rfl⟩ := slot_t q5
              exact ⟨t, rfl⟩
          obtain ⟨i, j, k1, k2⟩ := fin t1 k
          exact ⟨re, rf, i, j, rfl, k1, k2⟩
    | star e => exact absurd rfl (ha e)
    | _ => exact absurd rfl hb
theorem sl_in {a : E} {lo hi : Option E} (ha : NoSt a) (hl : ∀ e, lo = some e → plainE e = true) (hh : ∀ e, hi = some e → plainE e = true) (hx : ∀ e, hi = some e → ∀ ρ c fs ρ', ev D.cf e ρ ≠ .exc c fs ρ') (h : tE D (.op (.sl lo.isSome hi.isSome) (a :: (optL lo ++ optL hi))) σ H Q) :
    tSl (fun x l u H Q => SlG D.K x l u H Q) (tO D a) (tPart' D lo) (tPart' D hi) σ H Q := by
  have fin : ∀ {x : V} {l u : Option Int} {vs : List V} {H3 : Hp}, vs = (l.toList ++ u.toList).map V.int → l.isSome = lo.isSome → u.isSome = hi.isSome → OpG D.K (.sl lo.isSome hi.isSome) (x :: vs) H3 Q → SlG D.K x l u H3 Q := fun {x l u vs H3} ev1 hl1 hu1 g => by
    obtain ⟨Z, ts, r, hz, hv, he, hq⟩ := g
    match ts, hv, he with
    | t :: ts, hv, he =>
      obtain ⟨v, ws, ex, h2, h3⟩ := hv
      cases ex
      simp only [evOp, o_sl] at he
      cases q1 : opt lo.isSome ts with
      | none => rw [q1] at he; cases he
      | some p1 =>
        obtain ⟨l1, r1⟩ := p1
        rw [q1] at he
        simp only [Option.bind_some] at he
        cases q2 : opt hi.isSome r1 with
        | none => rw [q2] at he; cases he
        | some p2 =>
          obtain ⟨u1, r2⟩ := p2
          rw [q2] at he
          simp only [Option.bind_some] at he
          cases r2 with
          | cons z zs => cases t <;> cases he
          | nil =>
            have eq : l1 = l ∧ u1 = u := by
              rcases optp q1 with ⟨b1, rfl, rfl⟩ | ⟨i, b1, rfl, rfl⟩
              · rcases optp q2 with ⟨b2, rfl, rfl⟩ | ⟨j, b2, rfl, rfl⟩
                · rw [b1] at hl1; rw [b2] at hu1
                  exact ⟨by cases l <;> simp at hl1 ⊢, by cases u <;> simp at hu1 ⊢⟩
                · rw [b1] at hl1; rw [b2] at hu1
                  cases l <;> simp at hl1
                  cases u <;> simp at hu1
                  obtain ⟨v2, e2, h4⟩ := h3.one
                  rw [h4.int] at e2
                  rw [e2] at ev1
                  simp at ev1
                  exact ⟨rfl, by rw [ev1]⟩
              · rcases optp q2 with ⟨b2, rfl, rfl⟩ | ⟨j, b2, rfl, rfl⟩
                · rw [b1] at hl1; rw [b2] at hu1
                  cases u <;> simp at hu1
                  cases l <;> simp at hl1
                  obtain ⟨v2, e2, h4⟩ := h3.one
                  rw [h4.int] at e2
                  rw [e2] at ev1
                  simp at ev1
                  exact ⟨by rw [ev1], rfl⟩
                · rw [b1] at hl1; rw [b2] at hu1
                  cases u <;> simp at hu1
                  cases l <;> simp at hl1
                  obtain ⟨v2, v3, e2, h4, h5⟩ := h3.two
                  rw [h4.int, h5.int] at e2
                  rw [e2] at ev1
                  simp at ev1
                  exact ⟨by rw [ev1.1], by rw [ev1.2]⟩
            obtain ⟨rfl, rfl⟩ := eq
            refine ⟨Z, t, r, hz, h2, ?_, hq⟩
            cases t <;> first | exact he | cases he
    | [], hv, _ =>
      have hv : _ = [] := hv
      cases hv
  have int1 : ∀ {x v : V} {vs : List V} {H3 : Hp}, OpG D.K (.sl lo.isSome hi.isSome) (x :: v :: vs) H3 Q → ∃ i, v = .int i := fun {x v vs H3} g => by
    obtain ⟨Z, ts, r, hz, hv, he, hq⟩ := g
    match ts, hv, he with
    | t :: ts, hv, he =>
      obtain ⟨v', ws, ex, h2, h3⟩ := hv
      cases ex
      match ts, h3, he with
      | t2 :: ts, h3, he =>
        obtain ⟨v2, ws2, ex2, h4, h5⟩ := h3
        cases ex2
        simp only [evOp, o_sl] at he
        cases q1 : opt lo.isSome (t2 :: ts) with
        | none => rw [q1] at he; cases he
        | some p1 =>
          obtain ⟨l1, r1⟩ := p1
          rw [q1] at he
          simp only [Option.bind_some] at he
          rcases optp q1 with ⟨b1, rfl, rfl⟩ | ⟨i, b1, rfl, ee⟩
          · cases q2 : opt hi.isSome (t2 :: ts) with
            | none => rw [q2] at he; cases he
            | some p2 =>
              obtain ⟨u1, r2⟩ := p2
              rw [q2] at he
              simp only [Option.bind_some] at he
              rcases optp q2 with ⟨b2, rfl, rfl⟩ | ⟨j, b2, rfl, ee⟩
              · cases t <;> cases he
              · cases ee
                exact ⟨j, h4.int⟩
          · cases ee
            exact ⟨i, h4.int⟩
      | [], h3, _ =>
        have h3 : _ = [] := h3
        cases h3
    | [], hv, _ =>
      have hv : _ = [] := hv
      cases hv
  cases lo with
  | none =>
    refine (tO_one ha (op_in h)).mono fun x H1 h1 => ?_
    cases hi with
    | none => exact fin (l := none) (u := none) rfl rfl rfl (tAs_nil h1)
    | some e =>
      refine (tAs_cons (hh e rfl) h1).mono fun v H2 h2 => ?_
      have g := tAs_nil h2
      obtain ⟨i, rfl⟩ := int1 g
      exact ⟨i, rfl, fin (l := none) (u := some i) rfl rfl rfl g⟩
  | some e =>
    cases hi with
    | none =>
      refine (tO_one ha (op_in h)).mono fun x H1 h1 => ?_
      refine (tAs_cons (hl e rfl) h1).mono fun v H2 h2 => ?_
      have g := tAs_nil h2
      obtain ⟨i, rfl⟩ := int1 g
      exact ⟨i, rfl, fin (l := some i) (u := none) rfl rfl rfl g⟩
    | some f =>
      refine (sl_both ha (hl e rfl) (hh f rfl) (hx f rfl) h).mono fun x H1 h1 => h1.mono fun v H2 ⟨i, e1, h2⟩ => ⟨i, e1, h2.mono fun w H3 ⟨j, e2, g⟩ => ⟨j, e2, fin (l := some i) (u := some j) rfl rfl rfl g⟩⟩
end
end Ev
end
section
set_option Elab.async false
set_option linter.all false
set_option maxRecDepth 100000
set_option maxHeartbeats 1000000
namespace Ev
open PySem PySem.Spec L2 StX
/-- behind a statement -/
structure StP (K : PySem.W.Frag) (Z : Zn) (F : Nat → List Addr) (σ : L2.St) (ρ : Env) (H : Hp) (F' : Nat → List Addr) (σ' : L2.St) (ρ' : Env) (H' : Hp) : Prop where
  si : SI K Z F' σ' ρ' H'
  ow : ∀ i a, a ∈ F' i → a ∈ F i ∨ H a = none
  fr : ∀ b o, H b = some o → (∀ i, b ∉ F i) → H' b = some o
  mo : ∀ b, H b ≠ none → H' b ≠ none
  bx : BX F ρ F' ρ'
  bs : ∀ (i : Nat) (ts : List T), ρ[i]? = some (some (R.box ts)) → σ'[i]? = σ[i]?
  ln : σ'.length = σ.length
/-- behind a return -/
structure RtP (K : PySem.W.Frag) (Z : Zn) (np : Nat) (F : Nat → List Addr) (σ : L2.St) (ρ : Env) (H : Hp) (F' : Nat → List Addr) (σ' : L2.St) (ρ' : Env) (H' : Hp) (v : V) (r : R) (fp : List Addr) : Prop where
  st : StP K Z F σ ρ H F' σ' ρ' H'
  si : SI K (fun a => Z a ∨ a ∈ fp) F' σ' ρ' H'
  rr : Rr K (Zs (fun a => Z a ∨ a ∈ fp) F') H' v r fp
  nd : fp.Nodup
  nw : ∀ a ∈ fp, H a = none ∨ ∃ i, np ≤ i ∧ a ∈ F i
  nb : r.isBox = false
section
variable {K : PySem.W.Frag} {Z : Zn} {np : Nat} {F F' F2 : Nat → List Addr} {σ σ' σ2 : L2.St} {ρ ρ' ρ2 : Env} {H H' H2 : Hp} {v : V} {r : R} {fp : List Addr}
theorem StP.refl (S : SI K Z F σ ρ H) : StP K Z F σ ρ H F σ ρ H := ⟨S, fun _ _ h => .inl h, fun _ _ e _ => e, fun _ h => h, .refl, fun _ _ _ => rfl, rfl⟩
theorem SPo.st (s : SPo K Z F σ ρ H F' ρ' H') : StP K Z F σ ρ H F' σ ρ' H' := ⟨s.si, fun i a h => .inl (s.sub i a h), s.fr, s.mo, s.bx', fun _ _ _ => rfl, rfl⟩
theorem StP.trans (a : StP K Z F σ ρ H F' σ' ρ' H') (b : StP K Z F' σ' ρ' H' F2 σ2 ρ2 H2) : StP K Z F σ ρ H F2 σ2 ρ2 H2 := by
  refine ⟨b.si, fun i x h => ?_, fun x o e n => b.fr x o (a.fr x o e n) fun i q => ?_, fun x h => b.mo x (a.mo x h), a.bx.trans b.bx, fun i ts e => ?_, b.ln.trans a.ln⟩
  · rcases b.ow i x h with q | q
    · exact a.ow i x q
    · cases e : H x with
      | none => exact .inr rfl
      | some o => exact absurd q (a.mo x (by rw [e]; simp))
  · rcases a.ow i x q with q | q
    · exact n i q
    · rw [e] at q; cases q
  · obtain ⟨_, ts', e2⟩ := a.bx.bx i ts e
    rw [b.bs i ts' e2, a.bs i ts e]
theorem StP.rt (a : StP K Z F σ ρ H F' σ' ρ' H') (b : RtP K Z np F' σ' ρ' H' F2 σ2 ρ2 H2 v r fp) : RtP K Z np F σ ρ H F2 σ2 ρ2 H2 v r fp := by
  refine ⟨a.trans b.st, b.si, b.rr, b.nd, fun x hx => ?_, b.nb⟩
  rcases b.nw x hx with q | ⟨i, hi, q⟩
  · left
    cases e : H x with
    | none => rfl
    | some o => exact absurd q (a.mo x (by rw [e]; simp))
  · rcases a.ow i x q with q | q
    · exact .inr ⟨i, hi, q⟩
    · exact .inl q
/-- a value goes to a slot -/
theorem StP.put (s : SPo K Z F σ ρ H F' ρ' H') (S : SI K (fun a => Z a ∨ a ∈ fp) F' σ ρ' H') (hr : Rr K (Zs (fun a => Z a ∨ a ∈ fp) F') H' v r fp) (nd : fp.Nodup) (nw : ∀ a ∈ fp, H a = none) {i : Nat} (h : put1 ρ' i r = some ρ2) : StP K Z F σ ρ H (fset F' i fp) (σ.set i (some v)) ρ2 H' := by
  obtain ⟨h1, rfl, h3, h4⟩ := put1_some h
  have zf : ∀ a ∈ fp, ¬ Z a := fun a ha q => s.z0 a q (nw a ha)
  refine ⟨si_set S hr nd zf h1, fun j a hj => ?_, s.fr, s.mo, s.bx'.trans (BX.put h4 h3), fun j ts e => ?_, by simp⟩
  · by_cases q : j = i
    · subst q
      rw [fset_self] at hj
      exact .inr (nw a hj)
    · rw [fset_ne q] at hj
      exact .inl (s.sub j a hj)
  · obtain ⟨_, ts', e2⟩ := s.bx j ts e
    have : j ≠ i := fun q => by subst q; exact h4 ts' e2
    rw [List.getElem?_set_ne (Ne.symm this)]
theorem StP.put_sh (s : SPo K Z F σ ρ H F' ρ' H') {t : T} (hr : Rp K (Zs Z F') H' v t) {i : Nat} (h : put1 ρ' i (.sh t) = some ρ2) : StP K Z F σ ρ H (fset F' i []) (σ.set i (some v)) ρ2 H' :=
  StP.put (fp := []) (r := .sh t) s (s.si.zn fun b q => q.elim id fun q => by simp at q) ⟨rfl, hr.zn fun b _ q => q.imp (fun q => q.elim id fun q => by simp at q) id⟩ (by simp) (fun a h => by simp at h) h
/-- an owned list is changed in place -/
theorem si_own (S : SI K Z F σ ρ H) {i : Nat} {a : Addr} {ts : List T} {vs vs' : List V} {r r' : R} (e : ρ[i]? = some (some r)) (hi : (∃ ts, r = .own ts ∧ r' = .own ts') ∨ (∃ ts, r = .box ts ∧ r' = .box ts')) (ha : σ[i]? = some (some (.ref a))) (hv : Rps K (Zs Z F) H vs' ts') :
    SI K Z F σ (setR ρ i r') (upd H a (.lst vs')) ∧ F i = [a] := by
  have hlt : i < ρ.length := (List.getElem?_eq_some_iff.mp e).1
  obtain ⟨v0, e1, e2⟩ := S.at_ i r e
  rw [ha] at e1
  cases e1
  have hF : F i = [a] := by
    rcases hi with ⟨ts, rfl, _⟩ | ⟨ts, rfl, _⟩
    · obtain ⟨b, ws, eb, f, _⟩ := e2; cases eb; exact f
    · obtain ⟨b, ws, eb, f, _⟩ := e2; cases eb; exact f
  have am : a ∈ F i := by rw [hF]; simp
  have out : ∀ b o, H b = some o → ¬ Zs Z F b → upd H a (.lst vs') b = some o := fun b o eb n => by
    rw [upd_ne fun q => n (.inr ⟨i, by rw [q]; exact am⟩)]; exact eb
  refine ⟨⟨by simp [setR, S.len], fun b hb => ?_, fun j rj hj => ?_, fun j n => ?_, S.nd, S.dj, S.zf⟩, hF⟩
  · by_cases q : b = a
    · rw [q, upd_same]; simp
    · rw [upd_ne q]; exact S.tr b hb
  · unfold setR at hj
    by_cases q : j = i
    · subst q
      rw [List.getElem?_set_self hlt] at hj
      cases hj
      refine ⟨_, ha, ?_⟩
      rcases hi with ⟨ts, _, rfl⟩ | ⟨ts, _, rfl⟩
      · exact ⟨a, vs', rfl, hF, upd_same, hv.keep out⟩
      · exact ⟨a, vs', rfl, hF, upd_same, hv.keep out⟩
    · rw [List.getElem?_set_ne (Ne.symm q)] at hj
      obtain ⟨w, k1, k2⟩ := S.at_ j rj hj
      exact ⟨w, k1, k2.keep out fun b hb o eb => by
        rw [upd_ne fun q2 => q (S.dj j i b hb (by rw [q2]; exact am))]; exact eb⟩
  · unfold setR at n
    by_cases q : j = i
    · subst q
      exact absurd (List.getElem?_set_self hlt) (n r')
    · exact S.no j fun r2 h => n r2 (by rw [List.getElem?_set_ne (Ne.symm q)]; exact h)
end
def wF (D : Wd) (np : Nat) (x : Fl) (En : Ends) (Z : Zn) (F : Nat → List Addr) (σ : L2.St) (ρ : Env) (H : Hp) : Prop := match x with
  | .nx ρ' => ∀ F' σ' H', StP D.K Z F σ ρ H F' σ' ρ' H' → En.nx σ' H'
  | .bk ρ' => ∀ F' σ' H', StP D.K Z F σ ρ H F' σ' ρ' H' → En.bk σ' H'
  | .ct ρ' => ∀ F' σ' H', StP D.K Z F σ ρ H F' σ' ρ' H' → En.ct σ' H'
  | .rt r ρ' => ∀ F' σ' H' v fp, RtP D.K Z np F σ ρ H F' σ' ρ' H' v r fp → En.rt v H'
  | .exc c fs ρ' => ∀ F' σ' H' d, StP D.K Z F σ ρ H F' σ' ρ' H' → XFl D.K (Zs Z F') H' c d fs → D.W (D.cv c) d σ' H'
  | .bad => False
def tS (D : Wd) (np : Nat) (s : S) : TS := fun En σ H => ∃ Z F ρ, SI D.K Z F σ ρ H ∧ wF D np (ex D.cf s ρ) En Z F σ ρ H
def tSs (D : Wd) (np : Nat) (s : List S) : TS := fun En σ H => ∃ Z F ρ, SI D.K Z F σ ρ H ∧ wF D np (exs D.cf s ρ) En Z F σ ρ H
section
variable {D : Wd} {np : Nat} {Z : Zn} {F F' F2 : Nat → List Addr} {σ σ' σ2 : L2.St} {ρ ρ' ρ2 : Env} {H H' H2 : Hp} {v : V} {r : R} {fp : List Addr} {En : Ends}
theorem wF.after {x : Fl} (a : StP D.K Z F σ ρ H F' σ' ρ' H') (h : wF D np x En Z F σ ρ H) : wF D np x En Z F' σ' ρ' H' := by
  cases x with
  | nx ρ2 => exact fun F2 σ2 H2 b => h F2 σ2 H2 (a.trans b)
  | bk ρ2 => exact fun F2 σ2 H2 b => h F2 σ2 H2 (a.trans b)
  | ct ρ2 => exact fun F2 σ2 H2 b => h F2 σ2 H2 (a.trans b)
  | rt r ρ2 => exact fun F2 σ2 H2 v fp b => h F2 σ2 H2 v fp (a.rt b)
  | exc c fs ρ2 => exact fun F2 σ2 H2 d b x => h F2 σ2 H2 d (a.trans b) x
  | bad => exact h
/-- the first part of a statement is an expression -/
theorem fl_in {e : E} {g : R → Env → Fl} (h : wF D np ((ev D.cf e ρ).fl g) En Z F σ ρ H) {Q : VK} (k : ∀ r ρ1, ev D.cf e ρ = .ok r ρ1 → wF D np (g r ρ1) En Z F σ ρ H → ∀ F' H' v fp, EPo D.K Z F σ ρ H F' ρ1 H' v r fp → Q v H') :
    wE D (ev D.cf e ρ) Z F σ ρ H Q := by
  cases e1 : ev D.cf e ρ with
  | bad => rw [e1] at h; exact h
  | exc c fs ρ' => rw [e1] at h; exact fun F' H' d s x => h F' σ H' d s.st x
  | ok r ρ1 =>
    rw [e1] at h
    exact k r ρ1 e1 h
theorem s_asg {o : Bool} {i : Nat} {e : E} (h : tS D np (.asg o i e) En σ H) : tAsg (tE D e) (gName i) En σ H := by
  obtain ⟨Z, F, ρ, S, h⟩ := h
  rw [ex] at h
  refine ⟨Z, F, ρ, S, fl_in h fun r ρ1 _ g F1 H1 v fp a => ?_⟩
  clear h
  unfold gName
  cases e1 : put1 ρ1 i (if o then r else .sh r.t) with
  | none => rw [e1] at g; exact g.elim
  | some ρ2 =>
    rw [e1] at g
    cases o with
    | true => exact g _ _ _ (StP.put a.spo a.si a.rr a.nd a.nw (by simpa using e1))
    | false => exact g _ _ _ (StP.put_sh a.spo a.shr (by simpa using e1))
/-- a tuple or a list goes apart -/
def gTL (K : PySem.W.Frag) (ps : List Pat) : TG := fun v σ H Q => gTup K ps.length (gPs K ps) v σ H Q ∨ gLst K ps.length (gPs K ps) v σ H Q
theorem pg_TL {X : Cx} {es : List Expr} {k : Nat} {pos : Pos} {ps : List Pat} (hc : X.calm = true) (hk : X.K = D.K) (h : PGs X es (gPs D.K ps)) (h1 : (assignEach es X.env).length = ps.length) (h2 : (assignEach es X.env).findIdx? (fun x => x.1) = none) : PG X (.Tuple es k pos) (gTL D.K ps) :=
  ⟨fun pins s σ H v u Q I r q => q.elim (fun q => (pg_tup hc h h1 h2).run pins s σ H v u Q I r (hk ▸ q)) fun q => (pg_lst hc h h1 h2).run pins s σ H v u Q I r (hk ▸ q)⟩
theorem PutPo.st {own : Nat → Prop} (a : SPo D.K Z F σ ρ H F' ρ' H') (b : PutPo D.K Z own F' σ ρ' H' F2 σ2 ρ2) : StP D.K Z F σ ρ H F2 σ2 ρ2 H' :=
  ⟨b.si, fun i x h => .inl (a.sub i x (b.sub i x h)), a.fr, a.mo, a.bx'.trans b.bx, fun i ts e => let ⟨_, ts', e2⟩ := a.bx i ts e; b.bs i ts' e2, b.len⟩
theorem s_asgP {ps : List Pat} {e : E} {ow : List Nat} (hp : patsIn ow ps = true) (h : tS D np (.asgP ps e) En σ H) : tAsg (tE D e) (gTL D.K ps) En σ H := by
  obtain ⟨Z, F, ρ, S, h⟩ := h
  rw [ex] at h
  refine ⟨Z, F, ρ, S, fl_in h fun r ρ1 _ g F1 H1 v fp a => ?_⟩
  clear h
  have hs := a.shr
  have go : ∀ ts, wF D np (opt' (putPs ps ts ρ1)) En Z F σ ρ H → ∀ vs, Rps D.K (Zs Z F1) H1 vs ts → ts.length = ps.length ∧ gPs D.K ps vs σ H1 En.nx := fun ts g vs hv => by
    cases e1 : putPs ps ts ρ1 with
    | none => rw [e1] at g; exact g.elim
    | some ρ2 =>
      rw [e1] at g
      exact putPs_g (own := fun i => i ∈ ow) ow (fun _ h => h) hp a.spo.si hv e1 fun F2 σ2 b => g _ _ _ (b.st a.spo)
  cases hr : r.t with
  | tup ts =>
    rw [hr] at g hs
    obtain ⟨p, vs, rfl, ⟨h1, _⟩, h2⟩ := hs.tup'
    obtain ⟨l, q⟩ := go ts g vs h2
    exact .inl ⟨p, vs, rfl, .of h1, by rw [h2.len, l], q⟩
  | lst ts =>
    rw [hr] at g hs
    obtain ⟨p, vs, rfl, ⟨h1, _⟩, h2⟩ := hs.lst'
    obtain ⟨l, q⟩ := go ts g vs h2
    exact .inr ⟨p, vs, rfl, .of h1, by rw [h2.len, l], q⟩
  | _ => rw [hr] at g; exact g.elim
/-- the first part is a row -/
theorem fls_in {es : List E} {g : List Arg → Env → Fl} (h : wF D np ((evs D.cf es ρ).fl g) En Z F σ ρ H) {Q : List V → Hp → Prop} (k : ∀ as ρ1, evs D.cf es ρ = .ok as ρ1 → wF D np (g as ρ1) En Z F σ ρ H → ∀ F' H' vs fps, APo D.K Z F σ ρ H F' ρ1 H' vs as fps → Q vs H') :
    wA D (evs D.cf es ρ) Z F σ ρ H Q := by
  cases e1 : evs D.cf es ρ with
  | bad => rw [e1] at h; exact h
  | exc c fs ρ' => rw [e1] at h; exact fun F' H' d s x => h F' σ H' d s.st x
  | ok r ρ1 =>
    rw [e1] at h
    exact k r ρ1 e1 h
theorem s_expr {e : E} (h : tS D np (.expr e) En σ H) : tDrop (tE D e) En σ H := by
  obtain ⟨Z, F, ρ, S, h⟩ := h
  rw [ex] at h
  exact ⟨Z, F, ρ, S, fl_in h fun r ρ1 _ g F1 H1 v fp a => g _ _ _ a.spo.st⟩
theorem s_ret {e : E} (h : tS D np (.ret e) En σ H) : tRet (tE D e) En σ H := by
  obtain ⟨Z, F, ρ, S, h⟩ := h
  rw [ex] at h
  refine ⟨Z, F, ρ, S, fl_in h fun r ρ1 _ g F1 H1 v fp a => ?_⟩
  cases hb : r.isBox with
  | true => rw [hb] at g; exact g.elim
  | false =>
    rw [hb] at g
    exact g F1 σ H1 v fp ⟨a.spo.st, a.si, a.rr, a.nd, fun x hx => .inl (a.nw x hx), hb⟩
theorem s_retN (h : tS D np .retN En σ H) : tRetN En σ H := by
  obtain ⟨Z, F, ρ, S, h⟩ := h
  rw [ex] at h
  exact h F σ H _ [] ⟨.refl S, S.zn fun b q => q.elim id fun q => by simp at q, ⟨rfl, Rp.non⟩, by simp, fun a h => by simp at h, rfl⟩
theorem s_retV {i : Nat} (hi : np ≤ i) (h : tS D np (.retV i) En σ H) : tRet (tVar i) En σ H := by
  obtain ⟨Z, F, ρ, S, h⟩ := h
  rw [ex] at h
  cases e0 : getR ρ i with
  | none => rw [e0] at h; exact h.elim
  | some r =>
    obtain ⟨v, e1, e2⟩ := S.at_ i r (getR_some e0)
    have e3 := getR_some e0
    have hl : i < ρ.length := (List.getElem?_eq_some_iff.mp e3).1
    refine ⟨v, e1, ?_⟩
    have hb : r.isBox = false := by cases r <;> first | rfl | (rw [e0] at h; exact h.elim)
    have g : wF D np (.rt r (ρ.set i none)) En Z F σ ρ H := by
      rw [e0] at h
      cases r <;> first | exact h | (cases hb)
    have sub : ∀ j a, a ∈ fset F i [] j → a ∈ F j := fun j a h => by
      by_cases q : j = i
      · subst q; rw [fset_self] at h; simp at h
      · rw [fset_ne q] at h; exact h
    have zz : ∀ b, Zs (fun a => Z a ∨ a ∈ F i) (fset F i []) b → Zs Z F b := fun b q => by
      rcases q with (q | q) | ⟨j, q⟩
      · exact .inl q
      · exact .inr ⟨i, q⟩
      · exact .inr ⟨j, sub j b q⟩
    have si : SI D.K (fun a => Z a ∨ a ∈ F i) (fset F i []) σ (ρ.set i none) H := by
      refine ⟨by simp [S.len], fun a q => q.elim (S.tr a) fun q => S.ft q, fun j r' hj => ?_, fun j n => ?_, fun j => ?_, fun j k a h1 h2 => S.dj j k a (sub j a h1) (sub k a h2), fun j a hj q => ?_⟩
      · by_cases q : j = i
        · subst q
          rw [List.getElem?_set_self hl] at hj
          cases hj
        · rw [List.getElem?_set_ne (Ne.symm q)] at hj
          obtain ⟨w, k1, k2⟩ := S.at_ j r' hj
          exact ⟨w, k1, by rw [fset_ne q]; exact k2.zn fun b _ q => zz b q⟩
      · by_cases q : j = i
        · subst q; exact fset_self
        · rw [fset_ne q]
          exact S.no j fun r' h => n r' (by rw [List.getElem?_set_ne (Ne.symm q)]; exact h)
      · by_cases q : j = i
        · subst q; rw [fset_self]; simp
        · rw [fset_ne q]; exact S.nd j
      · by_cases q2 : j = i
        · subst q2; rw [fset_self] at hj; simp at hj
        · rw [fset_ne q2] at hj
          rcases q with q | q
          · exact S.zf j a hj q
          · exact q2 (S.dj j i a hj q)
    have bx : BX F ρ (fset F i []) (ρ.set i none) := by
      refine ⟨fun j ts e => ?_, fun j ts e => ?_⟩
      · have : j ≠ i := fun q => by
          subst q
          rw [e3] at e
          cases e
          cases hb
        exact ⟨fset_ne this, ts, by rw [List.getElem?_set_ne (Ne.symm this)]; exact e⟩
      · by_cases q : j = i
        · subst q
          rw [List.getElem?_set_self hl] at e
          cases e
        · exact ⟨ts, by rw [List.getElem?_set_ne (Ne.symm q)] at e; exact e⟩
    exact g _ σ H v (F i) ⟨⟨si.zn fun _ q => .inl q, fun j a h => .inl (sub j a h), fun _ _ e _ => e, fun _ h => h, bx, fun _ _ _ => rfl, rfl⟩, si, e2.zn fun b _ q => zz b q, S.nd i, fun a ha => .inr ⟨i, hi, ha⟩, hb⟩
end
end Ev
end
section
set_option Elab.async false
set_option linter.all false
set_option maxRecDepth 100000
set_option maxHeartbeats 1000000
namespace Ev
open PySem PySem.Spec L2 StX
section
variable {D : Wd} {np : Nat} {Z : Zn} {F F' F2 : Nat → List Addr} {σ σ' σ2 : L2.St} {ρ ρ' ρ2 : Env} {H H' H2 : Hp} {v : V} {r : R} {fp : List Addr} {En : Ends}
theorem s_aug {i : Nat} {e : E} {o : Op} {f : Int → Int → Int} (ho : (o = .add ∧ f = fun a b => a + b) ∨ (o = .sub ∧ f = fun a b => a - b)) (h : tS D np (.aug i o e) En σ H) : tAug i (tE D e) (ipI f) En σ H := by
  obtain ⟨Z, F, ρ, S, h⟩ := h
  rw [ex] at h
  split at h
  · rename_i a e0
    obtain ⟨v, e1, _, e2⟩ := S.at_ i _ (getR_some e0)
    have hv : v = .int a := by unfold Rp at e2; exact e2
    subst hv
    refine ⟨_, e1, Z, F, ρ, S, fl_in h fun r ρ1 q0 g F1 H1 w fp ep => ?_⟩
    clear h
    have go : ∀ (b c : Int), r = .sh (.int b) → f a b = c → wF D np (opt' (put1 ρ1 i (.sh (.int c)))) En Z F σ ρ H → ipI f (.int a) w H1 fun z H2 => En.nx (σ.set i (some z)) H2 := fun b c hr hf g2 => by
      subst hr
      have hw : w = .int b := by
        have := ep.shr
        unfold R.t Rp at this
        exact this
      subst hw
      refine ⟨a, b, rfl, rfl, ?_⟩
      cases e3 : put1 ρ1 i (.sh (.int c)) with
      | none => rw [e3] at g2; exact g2.elim
      | some ρ2 =>
        rw [e3] at g2
        rw [hf]
        exact g2 _ _ _ (StP.put_sh ep.spo (Rp.int c) e3)
    split at g
    · rename_i b
      rcases ho with ⟨_, rfl⟩ | ⟨q, _⟩
      · exact go _ _ rfl rfl g
      · cases q
    · rename_i b
      rcases ho with ⟨q, _⟩ | ⟨_, rfl⟩
      · cases q
      · exact go _ _ rfl rfl g
    · exact g.elim
  · exact h.elim
theorem s_ifs {c : E} {a b : List S} (h : tS D np (.ifs c a b) En σ H) : tIfS (tT D c) (tSs D np a) (tSs D np b) En σ H := by
  obtain ⟨Z, F, ρ, S, h⟩ := h
  rw [ex] at h
  refine ⟨Z, F, ρ, S, ?_⟩
  cases e1 : tru (ev D.cf c ρ) with
  | bad => rw [e1] at h; exact h
  | exc c fs ρ' => rw [e1] at h; exact fun F' H' d s x => h F' σ H' d s.st x
  | ok t ρ1 =>
    rw [e1] at h
    simp only [Out.fl] at h
    intro F1 H1 s
    cases t with
    | true => exact ⟨Z, F1, ρ1, s.si, wF.after s.st h⟩
    | false => exact ⟨Z, F1, ρ1, s.si, wF.after s.st h⟩
/-- an own list is changed: what stands behind -/
theorem own_st (s : SPo D.K Z F σ ρ H F' ρ' H') {i : Nat} {a : Addr} {ts ts' : List T} {vs' : List V} {r r' : R} (e : ρ'[i]? = some (some r)) (hi : (r = .own ts ∧ r' = .own ts') ∨ (r = .box ts ∧ r' = .box ts')) (ha : σ[i]? = some (some (.ref a))) (hv : Rps D.K (Zs Z F') H' vs' ts') :
    StP D.K Z F σ ρ H F' σ (setR ρ' i r') (upd H' a (.lst vs')) := by
  obtain ⟨si, hF⟩ := si_own (ts := ts) (vs := vs') s.si e (hi.imp (fun ⟨a, b⟩ => ⟨ts, a, b⟩) fun ⟨a, b⟩ => ⟨ts, a, b⟩) ha hv
  have am : a ∈ F' i := by rw [hF]; simp
  have hlt : i < ρ'.length := (List.getElem?_eq_some_iff.mp e).1
  refine ⟨si, fun j x h => .inl (s.sub j x h), fun b o eb n => ?_, fun b h => ?_, s.bx'.trans ⟨fun j ts2 ej => ?_, fun j ts2 ej => ?_⟩, fun _ _ _ => rfl, rfl⟩
  · rw [upd_ne fun q => n i (s.sub i b (by rw [q]; exact am))]
    exact s.fr b o eb n
  · by_cases q : b = a
    · rw [q, upd_same]; simp
    · rw [upd_ne q]; exact s.mo b h
  · refine ⟨rfl, ?_⟩
    unfold setR
    by_cases q : j = i
    · subst q
      rw [e] at ej
      cases ej
      rcases hi with ⟨h1, _⟩ | ⟨_, h2⟩
      · cases h1
      · exact ⟨ts', by rw [List.getElem?_set_self hlt, h2]⟩
    · exact ⟨ts2, by rw [List.getElem?_set_ne (Ne.symm q)]; exact ej⟩
  · unfold setR at ej
    by_cases q : j = i
    · subst q
      rw [List.getElem?_set_self hlt] at ej
      cases ej
      rcases hi with ⟨_, h2⟩ | ⟨h1, _⟩
      · cases h2
      · exact ⟨ts, by rw [e, h1]⟩
    · exact ⟨ts2, by rw [List.getElem?_set_ne (Ne.symm q)] at ej; exact ej⟩
theorem own_lst (S : SI D.K Z F σ ρ H) {i : Nat} {ts : List T} {r : R} (e : ρ[i]? = some (some r)) (hi : r = .own ts ∨ r = .box ts) : ∃ a vs, σ[i]? = some (some (.ref a)) ∧ H a = some (.lst vs) ∧ Rps D.K (Zs Z F) H vs ts := by
  obtain ⟨v, e1, e2⟩ := S.at_ i r e
  rcases hi with rfl | rfl
  · obtain ⟨a, vs, rfl, _, h1, h2⟩ := e2; exact ⟨a, vs, e1, h1, h2⟩
  · obtain ⟨a, vs, rfl, _, h1, h2⟩ := e2; exact ⟨a, vs, e1, h1, h2⟩
/-- what stands at an own slot is a list -/
theorem own_tyV (S : SI D.K Z F σ ρ H) {i : Nat} {r : R} (e : ρ[i]? = some (some r)) (hi : (∃ ts, r = .own ts) ∨ (∃ ts, r = .box ts) ∨ ∃ tss, r = .own2 tss) : ∃ a vs, σ[i]? = some (some (.ref a)) ∧ H a = some (.lst vs) := by
  obtain ⟨v, e1, e2⟩ := S.at_ i r e
  rcases hi with ⟨ts, rfl⟩ | ⟨ts, rfl⟩ | ⟨ts, rfl⟩
  · obtain ⟨a, vs, rfl, _, h1, h2⟩ := e2; exact ⟨a, vs, e1, h1⟩
  · obtain ⟨a, vs, rfl, _, h1, h2⟩ := e2; exact ⟨a, vs, e1, h1⟩
  · obtain ⟨a, bs, rfl, _, h1, h2⟩ := e2; exact ⟨a, _, e1, h1⟩
/-- an append's reading: the list's name, the value, the change -/
def tApp (i : Nat) (te : TE) : TS := fun En σ H => ∃ a vs0, σ[i]? = some (some (.ref a)) ∧ H a = some (.lst vs0) ∧ te σ H fun y H1 => ∃ vs, H1 a = some (.lst vs) ∧ vs.length < sizeLine ∧ En.nx σ (upd H1 a (.lst (vs ++ [y])))
theorem s_app {i : Nat} {e : E} (h : tS D np (.app i e) En σ H) : tApp i (tE D e) En σ H := by
  obtain ⟨Z, F, ρ, S, h⟩ := h
  rw [ex] at h
  cases e0 : isOwn ρ i with
  | false => rw [e0] at h; exact h.elim
  | true =>
    rw [e0] at h
    simp only [Bool.not_true, Bool.false_eq_true, if_false] at h
    have sub := S
    have key : ∃ a vs, σ[i]? = some (some (.ref a)) ∧ H a = some (.lst vs) := by
      unfold isOwn at e0
      cases e1 : getR ρ i with
      | none => rw [e1] at e0; cases e0
      | some r =>
        cases r with
        | own ts => exact own_tyV S (getR_some e1) (.inl ⟨ts, rfl⟩)
        | box ts => exact own_tyV S (getR_some e1) (.inr (.inl ⟨ts, rfl⟩))
        | own2 ts => exact own_tyV S (getR_some e1) (.inr (.inr ⟨ts, rfl⟩))
        | sh t => rw [e1] at e0; cases e0
        | ownD ks vs => rw [e1] at e0; cases e0
    obtain ⟨a, vs0, ea, eh⟩ := key
    refine ⟨a, vs0, ea, eh, Z, F, ρ, S, fl_in h fun r ρ1 q0 g F1 H1 w fp ep => ?_⟩
    clear h
    cases hb : r.isBox with
    | true => rw [hb] at g; exact g.elim
    | false =>
      rw [hb] at g
      simp only [Bool.false_eq_true, if_false] at g
      split at g
      · rename_i ts e1
        split at g
        · rename_i hl
          obtain ⟨a', vs, k1, k2, k3⟩ := own_lst ep.spo.si (getR_some e1) (.inl rfl)
          rw [ea] at k1
          cases k1
          refine ⟨vs, k2, by rw [k3.len, ← line_sz]; exact hl, ?_⟩
          exact g _ _ _ (own_st ep.spo (getR_some e1) (.inl ⟨rfl, rfl⟩) ea (k3.app (.one ep.shr)))
        · exact g.elim
      · rename_i ts e1
        split at g
        · rename_i hl
          obtain ⟨a', vs, k1, k2, k3⟩ := own_lst ep.spo.si (getR_some e1) (.inr rfl)
          rw [ea] at k1
          cases k1
          refine ⟨vs, k2, by rw [k3.len, ← line_sz]; exact hl, ?_⟩
          exact g _ _ _ (own_st ep.spo (getR_some e1) (.inr ⟨rfl, rfl⟩) ea (k3.app (.one ep.shr)))
        · exact g.elim
      · exact g.elim
/-- x[k] = e -/
def tSetI (i : Nat) (te tk : TE) : TS := fun En σ H => te σ H fun v H1 => ∃ a, σ[i]? = some (some (.ref a)) ∧ tk σ H1 fun kv H2 => ∃ xs k j, kv = .int k ∧ H2 a = some (.lst xs) ∧ L2.ixN xs.length k = some j ∧ En.nx σ (upd H2 a (.lst (xs.set j v)))
theorem s_setI {i : Nat} {k e : E} (h : tS D np (.setI i k e) En σ H) : tSetI i (tE D e) (tE D k) En σ H := by
  obtain ⟨Z, F, ρ, S, h⟩ := h
  rw [ex] at h
  cases e0 : isOwn ρ i with
  | false => rw [e0] at h; exact h.elim
  | true =>
    rw [e0] at h
    simp only [Bool.not_true, Bool.false_eq_true, if_false] at h
    have key : ∃ a vs, σ[i]? = some (some (.ref a)) ∧ H a = some (.lst vs) := by
      unfold isOwn at e0
      cases e1 : getR ρ i with
      | none => rw [e1] at e0; cases e0
      | some r =>
        cases r with
        | own ts => exact own_tyV S (getR_some e1) (.inl ⟨ts, rfl⟩)
        | box ts => exact own_tyV S (getR_some e1) (.inr (.inl ⟨ts, rfl⟩))
        | own2 ts => exact own_tyV S (getR_some e1) (.inr (.inr ⟨ts, rfl⟩))
        | sh t => rw [e1] at e0; cases e0
        | ownD ks vs => rw [e1] at e0; cases e0
    obtain ⟨a, vs0, ea, eh⟩ := key
    refine ⟨Z, F, ρ, S, fl_in h fun r ρ1 q0 g F1 H1 v fp ep => ?_⟩
    clear h
    refine ⟨a, ea, _, F1, ρ1, ep.si, ?_⟩
    cases e1 : ev D.cf k ρ1 with
    | bad => rw [e1] at g; exact g
    | exc c fs ρ' =>
      rw [e1] at g
      have x : XPo D Z F σ ρ H c fs ρ' := fun F' H' d s x => g F' σ H' d s.st x
      exact XPo.held ep.spo x
    | ok rk ρ2 =>
      rw [e1] at g
      simp only [Out.fl] at g
      intro F2 H2 kv fpk ek
      have ap := apo_cons ep (apo_cons ek (apo_nil ek.si))
      obtain ⟨v', kv', eq, rv, rkv⟩ := (ap.rps (rs := [r, rk]) rfl (ts := [r.t, rk.t]) rfl).duo
      cases eq
      cases hb : r.isBox with
      | true => rw [hb] at g; exact g.elim
      | false =>
        rw [hb] at g
        simp only [Bool.false_eq_true, if_false] at g
        have go : ∀ (n : Int) (ts : List T) (r0 : R) (R2 : List T → R), rk = .sh (.int n) → ρ2[i]? = some (some r0) → (∀ us, (r0 = .own ts ∧ R2 us = .own us) ∨ (r0 = .box ts ∧ R2 us = .box us)) →
            wF D np (match ixN ts.length n with | some j => .nx (setR ρ2 i (R2 (ts.set j r.t))) | none => .bad) En Z F σ ρ H →
            ∃ xs k j, kv = .int k ∧ H2 a = some (.lst xs) ∧ L2.ixN xs.length k = some j ∧ En.nx σ (upd H2 a (.lst (xs.set j v))) := fun n ts r0 R2 hn er hr g2 => by
          subst hn
          have hkv : kv = .int n := by
            unfold R.t Rp at rkv
            exact rkv
          obtain ⟨a', vs, k1, k2, k3⟩ := own_lst ap.spo.si er ((hr []).imp (fun x => x.1) fun x => x.1)
          rw [ea] at k1
          cases k1
          cases ej : ixN ts.length n with
          | none => rw [ej] at g2; exact g2.elim
          | some j =>
            rw [ej] at g2
            refine ⟨vs, n, j, hkv, k2, by rw [k3.len, ← ixN_eq]; exact ej, ?_⟩
            exact g2 _ _ _ (own_st ap.spo er (hr _) ea (k3.set rv j))
        split at g
        · rename_i ts n e2
          exact go n ts _ R.own rfl (getR_some e2) (fun us => .inl ⟨rfl, rfl⟩) g
        · rename_i ts n e2
          exact go n ts _ R.box rfl (getR_some e2) (fun us => .inr ⟨rfl, rfl⟩) g
        · exact g.elim
/-- x.append(y.pop(k)) -/
theorem own_key (S : SI D.K Z F σ ρ H) {i : Nat} (e0 : isOwn ρ i = true) : ∃ a vs, σ[i]? = some (some (.ref a)) ∧ H a = some (.lst vs) := by
  unfold isOwn at e0
  cases e1 : getR ρ i with
  | none => rw [e1] at e0; cases e0
  | some r =>
    cases r with
    | own ts => exact own_tyV S (getR_some e1) (.inl ⟨ts, rfl⟩)
    | box ts => exact own_tyV S (getR_some e1) (.inr (.inl ⟨ts, rfl⟩))
    | own2 ts => exact own_tyV S (getR_some e1) (.inr (.inr ⟨ts, rfl⟩))
    | sh t => rw [e1] at e0; cases e0
    | ownD ks vs => rw [e1] at e0; cases e0
theorem Rps.erase {K : PySem.W.Frag} {Z : Zn} {H : Hp} : ∀ {ts : List T} {vs : List V} {k : Nat}, Rps K Z H vs ts → Rps K Z H (vs.eraseIdx k) (ts.eraseIdx k)
  | [], _, k, h => by
    rw [h.nil']
    exact .nil
  | t :: ts, _, 0, h => by
    obtain ⟨v, r, rfl, _, h2⟩ := h.uncons
    exact h2
  | t :: ts, _, k + 1, h => by
    obtain ⟨v, r, rfl, h1, h2⟩ := h.uncons
    exact .cons h1 (Rps.erase h2)
def tPopAt (K : PySem.W.Frag) (j : Nat) (te : TE) : TE := tBM K "list" rPopAt (tVar j) (tCons te tNil)
theorem seq_ix {n : Int} {m : Nat} (h0 : 0 ≤ n) (h : n.toNat < m) : seqIndex? n m = some n.toNat := by
  have h1 : ¬ n < 0 := by omega
  have h2 : n < (m : Int) := by omega
  simp [seqIndex?, h1, h0, h2]
theorem s_popApp {i j : Nat} {e : E} (h : tS D np (.popApp i j e) En σ H) : tApp i (tPopAt D.K j (tE D e)) En σ H := by
  obtain ⟨Z, F, ρ, S, h⟩ := h
  rw [ex] at h
  cases e0 : isOwn ρ i with
  | false => rw [e0] at h; exact h.elim
  | true =>
    cases e00 : isOwn ρ j with
    | false => rw [e0, e00] at h; exact h.elim
    | true =>
      rw [e0, e00] at h
      simp only [Bool.not_true, Bool.or_false, Bool.false_eq_true, if_false] at h
      obtain ⟨a, vs0, ea, eh⟩ := own_key S e0
      obtain ⟨b, ws0, eb, ehb⟩ := own_key S e00
      refine ⟨a, vs0, ea, eh, .ref b, eb, .inl ⟨rfl, ws0, SqL.of ehb⟩, Z, F, ρ, S, fl_in h fun r ρ1 q0 g F1 H1 w fp ep => ?_⟩
      clear h
      split at g
      · rename_i n xs ys e1 e2
        split at g
        · rename_i hc
          obtain ⟨c1, c2, c3, c4⟩ := hc
          cases et : ys[n.toNat]? with
          | none => rw [et] at g; exact g.elim
          | some t =>
            rw [et] at g
            have hw : w = .int n := by
              have := ep.shr
              unfold R.t Rp at this
              exact this
            subst hw
            obtain ⟨b', ws, k1, k2, k3⟩ := own_lst ep.spo.si (getR_some e2) (.inl rfl)
            rw [eb] at k1
            cases k1
            obtain ⟨y, hy, ry⟩ := k3.get et
            have s1 := own_st ep.spo (getR_some e2) (.inl ⟨rfl, rfl⟩) eb (k3.erase (k := n.toNat))
            have e3 : (setR ρ1 j (.own (ys.eraseIdx n.toNat)))[i]? = some (some (.own xs)) := by
              unfold setR
              rw [List.getElem?_set_ne (Ne.symm c4)]
              exact getR_some e1
            obtain ⟨a', vs, m1, m2, m3⟩ := own_lst s1.si e3 (.inl rfl)
            rw [ea] at m1
            cases m1
            have bm : Zs Z F1 b := by
              obtain ⟨v, q1, q2⟩ := ep.spo.si.at_ j _ (getR_some e2)
              obtain ⟨b2, vs2, rfl, hF, _, _⟩ := q2
              rw [eb] at q1
              cases q1
              exact .inr ⟨j, by rw [hF]; simp⟩
            have out : Out' (Zs Z F1) H1 (upd H1 b (.lst (ws.eraseIdx n.toNat))) := fun c o hc hz => by
              rw [upd_ne fun q => hz (by rw [q]; exact bm)]
              exact hc
            have s2 := own_st (SPo.refl s1.si) e3 (.inl ⟨rfl, rfl⟩) ea (m3.app (.one (ry.keep out)))
            have kl : n.toNat < ws.length := by
              rw [k3.len]
              exact (List.getElem?_eq_some_iff.mp et).1
            have ll : line = 16777216 := rfl
            exact ⟨b, ws, n, n.toNat, y, rfl, rfl, k2, by omega, by omega, seq_ix c1 kl, hy, vs, m2, by rw [m3.len, ← line_sz]; exact c3, g _ _ _ (s1.trans s2)⟩
        · exact g.elim
      · exact g.elim
theorem Rows.len {K : PySem.W.Frag} : ∀ {bs : List Addr} {tss : List (List T)}, Rows K Z H bs tss → bs.length = tss.length
  | [], [], _ => rfl
  | _ :: _, _ :: _, h => by simp [Rows.len h.2]
  | [], _ :: _, h => h.elim
  | _ :: _, [], h => h.elim
theorem Rows.app {K : PySem.W.Frag} : ∀ {bs cs : List Addr} {tss uss : List (List T)}, Rows K Z H bs tss → Rows K Z H cs uss → Rows K Z H (bs ++ cs) (tss ++ uss)
  | [], _, [], _, _, h => h
  | _ :: _, _, _ :: _, _, h, h2 => ⟨h.1, Rows.app h.2 h2⟩
  | [], _, _ :: _, _, h, _ => h.elim
  | _ :: _, _, [], _, h, _ => h.elim
theorem Rows.at {K : PySem.W.Frag} : ∀ {bs : List Addr} {tss : List (List T)} {j : Nat} {ts : List T}, Rows K Z H bs tss → tss[j]? = some ts → ∃ b vs, bs[j]? = some b ∧ H b = some (.lst vs) ∧ Rps K Z H vs ts
  | [], [], _, _, _, e => by simp at e
  | b :: bs, us :: tss, 0, ts, ⟨⟨vs, h1, h2⟩, _⟩, e => by
    simp at e
    subst e
    exact ⟨b, vs, rfl, h1, h2⟩
  | b :: bs, us :: tss, j + 1, ts, ⟨_, h⟩, e => by
    simpa using Rows.at h (by simpa using e)
  | [], _ :: _, _, _, h, _ => h.elim
  | _ :: _, [], _, _, h, _ => h.elim
theorem Rows.put {K : PySem.W.Frag} {b : Addr} {vs' : List V} {ts' : List T} (out : Out' Z H (upd H b (.lst vs'))) (hv : Rps K Z H vs' ts') : ∀ {bs : List Addr} {tss : List (List T)} {j : Nat}, bs.Nodup → Rows K Z H bs tss → bs[j]? = some b → Rows K Z (upd H b (.lst vs')) bs (tss.set j ts')
  | [], [], _, _, _, e => by simp at e
  | c :: bs, us :: tss, 0, nd, ⟨_, h⟩, e => by
    simp at e
    subst e
    rw [List.nodup_cons] at nd
    exact ⟨⟨vs', upd_same, hv.keep out⟩, h.keep out fun x hx u eu => by rw [upd_ne fun q => nd.1 (by rw [← q]; exact hx)]; exact eu⟩
  | c :: bs, us :: tss, j + 1, nd, ⟨⟨vs, h1, h2⟩, h⟩, e => by
    rw [List.nodup_cons] at nd
    have e : bs[j]? = some b := by simpa using e
    refine ⟨⟨vs, ?_, h2.keep out⟩, Rows.put out hv nd.2 h e⟩
    rw [upd_ne fun q => nd.1 (by rw [q]; exact List.mem_of_getElem? e)]
    exact h1
  | [], _ :: _, _, _, h, _ => h.elim
  | _ :: _, [], _, _, h, _ => h.elim
/-- the slot of a list of lists gets other rows -/
theorem si_rows {fp : List Addr} (S : SI D.K (fun a => Z a ∨ a ∈ fp) F σ ρ H) (nd : fp.Nodup) (zf : ∀ a ∈ fp, ¬ Z a) {i : Nat} {c : Addr} {o : HO} {r r' : R} (e : ρ[i]? = some (some r)) (hc : c ∈ F i) (hr : ∃ v, σ[i]? = some (some v) ∧ Rr D.K (Zs Z (fset F i (F i ++ fp))) (upd H c o) v r' (F i ++ fp)) (ft : ∀ a ∈ fp, H a ≠ none) :
    SI D.K Z (fset F i (F i ++ fp)) σ (setR ρ i r') (upd H c o) := by
  have hlt : i < ρ.length := (List.getElem?_eq_some_iff.mp e).1
  have zz : ∀ b, Zs Z (fset F i (F i ++ fp)) b → Zs (fun a => Z a ∨ a ∈ fp) F b := fun b q => by
    rcases q with q | ⟨j, q⟩
    · exact .inl (.inl q)
    · by_cases e : j = i
      · subst e
        rw [fset_self] at q
        rcases List.mem_append.mp q with q | q
        · exact .inr ⟨j, q⟩
        · exact .inl (.inr q)
      · rw [fset_ne e] at q
        exact .inr ⟨j, q⟩
  refine ⟨by simp [setR, S.len], fun a h => ?_, fun j r2 hj => ?_, fun j n => ?_, fun j => ?_, fun j k a h1 h2 => ?_, fun j a h q => ?_⟩
  · by_cases q : a = c
    · rw [q, upd_same]; simp
    · rw [upd_ne q]; exact S.tr a (.inl h)
  · unfold setR at hj
    by_cases q : j = i
    · subst q
      rw [List.getElem?_set_self hlt] at hj
      cases hj
      rw [fset_self]
      exact hr
    · rw [List.getElem?_set_ne (Ne.symm q)] at hj
      obtain ⟨w, k1, k2⟩ := S.at_ j r2 hj
      rw [fset_ne q]
      refine ⟨w, k1, Rr.zn (Z := Zs (fun a => Z a ∨ a ∈ fp) F) (k2.keep (fun b o eb n => ?_) fun b hb o eb => ?_) fun b _ q => zz b q⟩
      · rw [upd_ne fun q => n (.inr ⟨i, by rw [q]; exact hc⟩)]; exact eb
      · rw [upd_ne fun q2 => q (S.dj j i b hb (by rw [q2]; exact hc))]; exact eb
  · unfold setR at n
    by_cases q : j = i
    · subst q
      exact absurd (List.getElem?_set_self hlt) (n r')
    · rw [fset_ne q]
      exact S.no j fun r2 h => n r2 (by rw [List.getElem?_set_ne (Ne.symm q)]; exact h)
  · by_cases q : j = i
    · subst q
      rw [fset_self, List.nodup_append]
      exact ⟨S.nd j, nd, fun x hx y hy e => S.zf j x hx (.inr (by rw [e]; exact hy))⟩
    · rw [fset_ne q]; exact S.nd j
  · have key : ∀ j a, a ∈ fset F i (F i ++ fp) j → a ∈ F j ∨ (j = i ∧ a ∈ fp) := fun j a h => by
      by_cases q : j = i
      · subst q
        rw [fset_self] at h
        exact (List.mem_append.mp h).imp id fun h => ⟨rfl, h⟩
      · rw [fset_ne q] at h; exact .inl h
    rcases key j a h1 with k1 | ⟨k1, k1'⟩ <;> rcases key k a h2 with k2 | ⟨k2, k2'⟩
    · exact S.dj j k a k1 k2
    · exact absurd (.inr k2') (S.zf j a k1)
    · exact absurd (.inr k1') (S.zf k a k2)
    · rw [k1, k2]
  · by_cases q2 : j = i
    · subst q2
      rw [fset_self] at h
      rcases List.mem_append.mp h with h | h
      · exact S.zf j a h (.inl q)
      · exact zf a h q
    · rw [fset_ne q2] at h
      exact S.zf j a h (.inl q)
theorem rows_st {fp : List Addr} (s : SPo D.K Z F σ ρ H F' ρ' H') (S : SI D.K (fun a => Z a ∨ a ∈ fp) F' σ ρ' H') (nd : fp.Nodup) (nw : ∀ a ∈ fp, H a = none) {i : Nat} {c : Addr} {o : HO} {r r' : R} (e : ρ'[i]? = some (some r)) (hb : r.isBox = false) (hb' : r'.isBox = false) (hc : c ∈ F' i)
    (hr : ∃ v, σ[i]? = some (some v) ∧ Rr D.K (Zs Z (fset F' i (F' i ++ fp))) (upd H' c o) v r' (F' i ++ fp)) (ft : ∀ a ∈ fp, H' a ≠ none) : StP D.K Z F σ ρ H (fset F' i (F' i ++ fp)) σ (setR ρ' i r') (upd H' c o) := by
  have zf : ∀ a ∈ fp, ¬ Z a := fun a ha q => s.z0 a q (nw a ha)
  refine ⟨si_rows S nd zf e hc hr ft, fun j a h => ?_, fun b o eb n => ?_, fun b h => ?_, s.bx'.trans (BX.put (fun ts q => by rw [e] at q; cases q; cases hb) hb'), fun _ _ _ => rfl, rfl⟩
  · by_cases q : j = i
    · subst q
      rw [fset_self] at h
      rcases List.mem_append.mp h with h | h
      · exact .inl (s.sub j a h)
      · exact .inr (nw a h)
    · rw [fset_ne q] at h; exact .inl (s.sub j a h)
  · rw [upd_ne fun q => n i (s.sub i b (by rw [q]; exact hc))]
    exact s.fr b o eb n
  · by_cases q : b = c
    · rw [q, upd_same]; simp
    · rw [upd_ne q]; exact s.mo b h
theorem s_app2 {i : Nat} {e : E} (h : tS D np (.app2 i e) En σ H) : tApp i (tE D e) En σ H := by
  obtain ⟨Z, F, ρ, S, h⟩ := h
  rw [ex] at h
  cases e0 : isOwn ρ i with
  | false => rw [e0] at h; exact h.elim
  | true =>
    rw [e0] at h
    simp only [Bool.not_true, Bool.false_eq_true, if_false] at h
    have key : ∃ a vs, σ[i]? = some (some (.ref a)) ∧ H a = some (.lst vs) := by
      unfold isOwn at e0
      cases e1 : getR ρ i with
      | none => rw [e1] at e0; cases e0
      | some r =>
        cases r with
        | own ts => exact own_tyV S (getR_some e1) (.inl ⟨ts, rfl⟩)
        | box ts => exact own_tyV S (getR_some e1) (.inr (.inl ⟨ts, rfl⟩))
        | own2 ts => exact own_tyV S (getR_some e1) (.inr (.inr ⟨ts, rfl⟩))
        | sh t => rw [e1] at e0; cases e0
        | ownD ks vs => rw [e1] at e0; cases e0
    obtain ⟨a, vs0, ea, eh⟩ := key
    refine ⟨a, vs0, ea, eh, Z, F, ρ, S, fl_in h fun r ρ1 q0 g F1 H1 w fp ep => ?_⟩
    clear h
    have go : ∀ (xs : List T) (r0 : R) (bs : List Addr) (tss : List (List T)), r = .own xs → ρ1[i]? = some (some r0) → r0.isBox = false → F1 i = a :: bs → H1 a = some (.lst (bs.map .ref)) → Rows D.K (Zs (fun a => Z a ∨ a ∈ fp) F1) H1 bs tss → tss.length < line →
        wF D np (.nx (setR ρ1 i (.own2 (tss ++ [xs])))) En Z F σ ρ H → ∃ vs, H1 a = some (.lst vs) ∧ vs.length < sizeLine ∧ En.nx σ (upd H1 a (.lst (vs ++ [w]))) := fun xs r0 bs tss hx er hb hF ha hrow hl g2 => by
      subst hx
      obtain ⟨b, ws, rfl, rfl, k1, k2⟩ := ep.rr
      refine ⟨_, ha, by rw [List.length_map, hrow.len, ← line_sz]; exact hl, ?_⟩
      have hm : a ∈ F1 i := by rw [hF]; simp
      have hba : b ≠ a := fun q => ep.si.zf i a hm (.inr (by simp [q]))
      have zz : ∀ x, Zs Z (fset F1 i (F1 i ++ [b])) x → Zs (fun a => Z a ∨ a ∈ [b]) F1 x := fun x q => by
        rcases q with q | ⟨j, q⟩
        · exact .inl (.inl q)
        · by_cases e : j = i
          · subst e
            rw [fset_self] at q
            rcases List.mem_append.mp q with q | q
            · exact .inr ⟨j, q⟩
            · exact .inl (.inr q)
          · rw [fset_ne e] at q
            exact .inr ⟨j, q⟩
      have out : Out' (Zs (fun a => Z a ∨ a ∈ [b]) F1) H1 (upd H1 a (.lst (bs.map .ref ++ [.ref b]))) := fun x o e n => by
        rw [upd_ne fun q => n (.inr ⟨i, by rw [q]; exact hm⟩)]; exact e
      have nda := ep.si.nd i
      rw [hF, List.nodup_cons] at nda
      refine g2 _ _ _ (rows_st ep.spo ep.si ep.nd ep.nw er hb rfl hm ⟨.ref a, ea, a, bs ++ [b], rfl, by rw [hF]; rfl, by rw [upd_same]; simp, ?_⟩ fun x hx => ep.rr.there x hx)
      refine Rows.zn (Z := Zs (fun a => Z a ∨ a ∈ [b]) F1) (fun x _ q => zz x q) (Rows.app ?_ ?_)
      · exact hrow.keep out fun x hx u eu => by rw [upd_ne fun q => nda.1 (by rw [← q]; exact hx)]; exact eu
      · exact ⟨⟨ws, by rw [upd_ne hba]; exact k1, k2.keep out⟩, trivial⟩
    split at g
    · rename_i xs e1
      obtain ⟨v, k1, k2⟩ := ep.si.at_ i _ (getR_some e1)
      obtain ⟨a', vs, rfl, hF, k3, k4⟩ := k2
      rw [ea] at k1
      cases k1
      rw [k4.nil'] at k3
      exact go xs _ [] [] rfl (getR_some e1) rfl hF k3 trivial (by decide) g
    · rename_i xs tss e1
      split at g
      · rename_i hl
        obtain ⟨v, k1, k2⟩ := ep.si.at_ i _ (getR_some e1)
        obtain ⟨a', bs, rfl, hF, k3, k4⟩ := k2
        rw [ea] at k1
        cases k1
        exact go xs _ bs tss rfl (getR_some e1) rfl hF k3 k4 hl g
      · exact g.elim
    · exact g.elim
/-- x[k].append(y), all names -/
def tAppAt (i k e : Nat) : TS := fun En σ H => ∃ (a : Addr) (n : Int) (y : V) (bs : List Addr) (j : Nat) (b : Addr) (vs : List V), σ[i]? = some (some (.ref a)) ∧ σ[k]? = some (some (.int n)) ∧ σ[e]? = some (some y) ∧ H a = some (.lst (bs.map .ref)) ∧ L2.ixN bs.length n = some j ∧ bs[j]? = some b ∧ H b = some (.lst vs) ∧ vs.length < sizeLine ∧ En.nx σ (upd H b (.lst (vs ++ [y])))
theorem s_appAt {i k e : Nat} (h : tS D np (.appAt i k e) En σ H) : tAppAt i k e En σ H := by
  obtain ⟨Z, F, ρ, S, h⟩ := h
  rw [ex] at h
  split at h
  · rename_i tss n t e1 e2 e3
    obtain ⟨_, ea, a, bs, rfl, hF, ha, hrow⟩ := S.at_ i _ (getR_some e1)
    obtain ⟨kv, ek, _, hk⟩ := S.at_ k _ (getR_some e2)
    obtain ⟨y, ey, _, hy⟩ := S.at_ e _ (getR_some e3)
    have hkv : kv = .int n := by unfold Rp at hk; exact hk
    subst hkv
    split at h
    · rename_i j ej
      split at h
      · rename_i xs ex'
        split at h
        · rename_i hl
          obtain ⟨b, vs, hb, hbv, hr⟩ := hrow.at ex'
          refine ⟨a, n, y, bs, j, b, vs, ea, ek, ey, ha, by rw [hrow.len, ← ixN_eq]; exact ej, hb, hbv, by rw [hr.len, ← line_sz]; exact hl, ?_⟩
          have hm : b ∈ F i := by rw [hF]; exact List.mem_cons_of_mem _ (List.mem_of_getElem? hb)
          have nda := S.nd i
          rw [hF, List.nodup_cons] at nda
          have hba : a ≠ b := fun q => nda.1 (by rw [q]; exact List.mem_of_getElem? hb)
          have out : Out' (Zs Z F) H (upd H b (.lst (vs ++ [y]))) := fun x o eo nx => by
            rw [upd_ne fun q => nx (.inr ⟨i, by rw [q]; exact hm⟩)]; exact eo
          have fe : fset F i (F i ++ []) = F := by
            funext j
            by_cases q : j = i
            · subst q; rw [fset_self]; simp
            · rw [fset_ne q]
          have st := rows_st (fp := []) (.refl S) (S.zn fun b q => q.elim id fun q => by simp at q) (by simp) (fun a h => by simp at h) (getR_some e1) rfl (r' := .own2 (tss.set j (xs ++ [t]))) rfl hm (o := .lst (vs ++ [y])) ⟨.ref a, ea, a, bs, rfl, by simp [hF], by rw [upd_ne hba]; exact ha, by
            rw [fe]
            exact Rows.put out (hr.app (.one hy)) nda.2 hrow hb⟩ fun x hx => by simp at hx
          rw [fe] at st
          exact h _ _ _ st
        · exact h.elim
      · exact h.elim
    · exact h.elim
  · exact h.elim
end
end Ev
end
section
set_option Elab.async false
set_option linter.all false
set_option maxRecDepth 100000
set_option maxHeartbeats 1000000
namespace Ev
open PySem PySem.Spec L2 StX
section
variable {D : Wd} {np : Nat} {Z : Zn} {F F' F2 : Nat → List Addr} {σ σ' σ2 : L2.St} {ρ ρ' ρ2 : Env} {H H' H2 : Hp} {v : V} {r : R} {fp : List Addr} {En : Ends}
theorem s_nil (h : tSs D np [] En σ H) : tNext En σ H := by
  obtain ⟨Z, F, ρ, S, h⟩ := h
  rw [exs] at h
  exact h F σ H (.refl S)
theorem s_seq {s : S} {ss : List S} (h : tSs D np (s :: ss) En σ H) : tSeq (tS D np s) (tSs D np ss) En σ H := by
  obtain ⟨Z, F, ρ, S, h⟩ := h
  rw [exs] at h
  refine ⟨Z, F, ρ, S, ?_⟩
  cases e : ex D.cf s ρ with
  | nx ρ1 =>
    rw [e] at h
    exact fun F' σ' H' st => ⟨Z, F', ρ1, st.si, wF.after st h⟩
  | bk ρ1 => rw [e] at h; exact h
  | ct ρ1 => rw [e] at h; exact h
  | rt r ρ1 => rw [e] at h; exact h
  | exc c fs ρ1 => rw [e] at h; exact h
  | bad => rw [e] at h; exact h
theorem StP.fresh (a : StP D.K Z F σ ρ H F' σ' ρ' H') (f : Fresh H' H2) : StP D.K Z F σ ρ H F' σ' ρ' H2 :=
  a.trans ⟨a.si.keep f, fun _ _ h => .inl h, fun b o e _ => f b o e, fun b h q => h (f.none q), .refl, fun _ _ _ => rfl, rfl⟩
theorem PutPo.st' {own : Nat → Prop} (b : PutPo D.K Z own F σ ρ H F2 σ2 ρ2) : StP D.K Z F σ ρ H F2 σ2 ρ2 H :=
  ⟨b.si, fun i x h => .inl (b.sub i x h), fun _ _ e _ => e, fun _ h => h, b.bx, b.bs, b.len⟩
/-- the items, wherever the loop stands -/
theorem wk_st {xs : List T} {G : Hp → Prop} {Y : Nat → Hp → V → Hp → Prop} (S : SI D.K Z F σ ρ H)
    (hw : ∀ (Zu : Zn) (Hc : Hp), (∀ b, H b ≠ none → Zu b → Zs Z F b) → (∀ b, Zu b → Hc b ≠ none) → Out' Zu H Hc → G Hc ∧ ∀ i x H', Y i Hc x H' → Fresh Hc H' ∧ ∃ t, xs[i]? = some t ∧ Rp D.K Zu H' x t)
    (a : StP D.K Z F σ ρ H F' σ' ρ' H') : G H' ∧ ∀ i x H2, Y i H' x H2 → Fresh H' H2 ∧ ∃ t, xs[i]? = some t ∧ Rp D.K (Zs Z F') H2 x t := by
  obtain ⟨g, y⟩ := hw (fun b => Zs Z F b ∨ Zs Z F' b) H' (fun b hb q => by
    rcases q with q | q | ⟨i, q⟩
    · exact q
    · exact .inl q
    · rcases a.ow i b q with q | q
      · exact .inr ⟨i, q⟩
      · exact absurd q hb) (fun b q => by
    rcases q with q | q
    · exact a.mo b (S.tz q)
    · exact a.si.tz q) (fun b o e n => a.fr b o e fun i q => n (.inl (.inr ⟨i, q⟩)))
  refine ⟨g, fun i x H2 q => ?_⟩
  obtain ⟨f, t, e1, e2⟩ := y i x H2 q
  exact ⟨f, t, e1, e2.zn fun b _ q => .inr q⟩
theorem drop_at {α : Type} {xs : List α} {i : Nat} {t : α} (e : xs[i]? = some t) : xs.drop i = t :: xs.drop (i + 1) := by
  have hi := (List.getElem?_eq_some_iff.mp e).1
  rw [List.drop_eq_getElem_cons hi]
  rw [List.getElem?_eq_getElem hi] at e
  cases e
  rfl
theorem s_for {p : Pat} {k : ItK} {es : List E} {body : List S} {ow : List Nat} (hp : patIn ow p = true) (h : tS D np (.for_ p k es body) En σ H) : tFor (tI D k es) (gP D.K p) (tSs D np body) En σ H := by
  obtain ⟨Z, F, ρ, S, h⟩ := h
  rw [ex] at h
  refine ⟨Z, F, ρ, S, ?_⟩
  cases e1 : evs D.cf es ρ with
  | bad => rw [e1] at h; exact h
  | exc c fs ρ' => rw [e1] at h; exact fun F' H' d s x => h F' σ H' d s.st x
  | ok as ρ1 =>
    rw [e1] at h
    simp only [Out.fl] at h
    simp only [wI]
    cases e2 : argTs ρ1 as with
    | none => rw [e2] at h; exact h.elim
    | some ts =>
      rw [e2] at h
      dsimp only at h ⊢
      cases e3 : walk k ts with
      | none => rw [e3] at h; exact h.elim
      | some xs =>
        rw [e3] at h
        dsimp only at h ⊢
        intro F1 H1 J a w
        obtain ⟨G, Y, wk, hw⟩ := w
        refine for_it wk (fun i σi Hi => ∃ F' ρ', StP D.K Z F1 σ ρ1 H1 F' σi ρ' Hi ∧ wF D np (forL (putP p) (exs D.cf body) (xs.drop i) ρ') En Z F σ ρ H) ⟨F1, ρ1, .refl a.si, h⟩ (fun i σi Hi _ ⟨F', ρ', st, _⟩ => (wk_st a.si hw st).1) (fun i x σi Hi H' hi ⟨F', ρ', st, g⟩ y => ?_) (fun σi Hi ⟨F', ρ', st, g⟩ => ?_)
        · obtain ⟨f, t, e4, rt⟩ := (wk_st a.si hw st).2 i x H' y
          rw [drop_at e4] at g
          simp only [forL] at g
          cases e5 : putP p t ρ' with
          | none => rw [e5] at g; exact g.elim
          | some ρ2 =>
            rw [e5] at g
            dsimp only at g
            have st1 := st.fresh f
            refine putP_g (own := fun j => j ∈ ow) ow (fun _ h => h) hp st1.si rt e5 fun F2 σ2 b => ?_
            have st2 := st1.trans b.st'
            have base := a.st.trans st2
            refine ⟨Z, F2, ρ2, b.si, ?_⟩
            cases e6 : exs D.cf body ρ2 with
            | nx ρ3 => rw [e6] at g; exact fun F3 σ3 H3 s3 => ⟨F3, ρ3, st2.trans s3, g⟩
            | ct ρ3 => rw [e6] at g; exact fun F3 σ3 H3 s3 => ⟨F3, ρ3, st2.trans s3, g⟩
            | bk ρ3 => rw [e6] at g; exact fun F3 σ3 H3 s3 => g F3 σ3 H3 (base.trans s3)
            | rt r ρ3 => rw [e6] at g; exact fun F3 σ3 H3 v fp s3 => g F3 σ3 H3 v fp (base.rt s3)
            | exc c fs ρ3 => rw [e6] at g; exact fun F3 σ3 H3 d s3 x => g F3 σ3 H3 d (base.trans s3) x
            | bad => rw [e6] at g; exact g
        · rw [List.drop_length] at g
          simp only [forL] at g
          exact g F' σi Hi (a.st.trans st)
theorem s_while {c : E} {body : List S} (h : tS D np (.while_ c body) En σ H) : tWhile (tT D c) (tSs D np body) En σ H := by
  obtain ⟨Z, F, ρ, S, h⟩ := h
  rw [ex] at h
  refine ⟨fun m σi Hi => ∃ F' ρ', StP D.K Z F σ ρ H F' σi ρ' Hi ∧ wF D np (whileL (fun ρ1 => tru (ev D.cf c ρ1)) (exs D.cf body) m ρ') En Z F σ ρ H, ⟨turns, F, ρ, .refl S, h⟩, fun m σi Hi ⟨F', ρ', st, g⟩ => ?_⟩
  cases m with
  | zero => exact g.elim
  | succ m =>
    simp only [whileL] at g
    refine ⟨Z, F', ρ', st.si, ?_⟩
    cases e1 : tru (ev D.cf c ρ') with
    | bad => rw [e1] at g; exact g
    | exc cl fs ρ1 => rw [e1] at g; exact fun F1 H1 d s x => g F1 σi H1 d (st.trans s.st) x
    | ok b ρ1 =>
      rw [e1] at g
      simp only [Out.fl] at g
      intro F1 H1 s
      have st1 := st.trans s.st
      cases b with
      | false => exact g F1 σi H1 st1
      | true =>
        simp only [if_true] at g ⊢
        refine ⟨fun σ' H' => ∃ F2 ρ2, StP D.K Z F σ ρ H F2 σ' ρ2 H' ∧ wF D np (whileL (fun ρ1 => tru (ev D.cf c ρ1)) (exs D.cf body) m ρ2) En Z F σ ρ H, fun σ' H' ⟨F2, ρ2, q⟩ => ⟨m, by omega, F2, ρ2, q⟩, Z, F1, ρ1, s.si, ?_⟩
        cases e6 : exs D.cf body ρ1 with
        | nx ρ3 => rw [e6] at g; exact fun F3 σ3 H3 s3 => ⟨F3, ρ3, st1.trans s3, g⟩
        | ct ρ3 => rw [e6] at g; exact fun F3 σ3 H3 s3 => ⟨F3, ρ3, st1.trans s3, g⟩
        | bk ρ3 => rw [e6] at g; exact fun F3 σ3 H3 s3 => g F3 σ3 H3 (st1.trans s3)
        | rt r ρ3 => rw [e6] at g; exact fun F3 σ3 H3 v fp s3 => g F3 σ3 H3 v fp (st1.rt s3)
        | exc cl fs ρ3 => rw [e6] at g; exact fun F3 σ3 H3 d s3 x => g F3 σ3 H3 d (st1.trans s3) x
        | bad => rw [e6] at g; exact g
end
end Ev
end
section
set_option Elab.async false
set_option linter.all false
set_option maxRecDepth 100000
set_option maxHeartbeats 1000000
namespace Ev
open PySem PySem.Spec L2
section
variable {D : Wd} {np : Nat} {Z : Zn} {F F' : Nat → List Addr} {σ : L2.St} {ρ ρ2 : Env} {H : Hp} {v : V} {r : R} {fp : List Addr} {En : Ends} {K : PySem.W.Frag}
/-- what a target keeps -/
def kept : Pat → R → R
  | .o _, r => r
  | _, r => .sh r.t
theorem store1 {p : Pat} {i : Nat} (hp : p = .v i ∨ p = .o i) (S : SI K (fun a => Z a ∨ a ∈ fp) F σ ρ H) (hr : Rr K (Zs (fun a => Z a ∨ a ∈ fp) F) H v r fp) (nd : fp.Nodup) (zf : ∀ a ∈ fp, ¬ Z a) (h : put1 ρ i (kept p r) = some ρ2) :
    ∃ fpA, (∀ a ∈ fpA, a ∈ fp) ∧ SI K Z (fset F i fpA) (σ.set i (some v)) ρ2 H ∧ BX F ρ (fset F i fpA) ρ2 ∧ (∀ ts, ρ[i]? ≠ some (some (.box ts))) ∧ ρ2 = ρ.set i (some (kept p r)) := by
  obtain ⟨h1, rfl, h3, h4⟩ := put1_some h
  rcases hp with rfl | rfl
  · have n : ∀ b ∈ fp, ¬ Zs Z F b := fun b hb q => by
      rcases q with q | ⟨k, q⟩
      · exact zf b hb q
      · exact S.zf k b q (.inr hb)
    have rp : Rp K (Zs Z F) H v r.t := (hr.zn (Z' := Zs Z F) fun b _ q => q.imp .inl id).share n
    have S' : SI K (fun a => Z a ∨ a ∈ ([] : List Addr)) F σ ρ H := S.zn fun b q => q.elim .inl fun q => by simp at q
    have hR : Rr K (Zs (fun a => Z a ∨ a ∈ ([] : List Addr)) F) H v (.sh r.t) [] := ⟨rfl, rp.zn fun b _ q => q.imp (fun q => q.elim id fun q => by simp at q) id⟩
    exact ⟨[], fun a ha => by simp at ha, si_set S' hR List.nodup_nil (fun a ha => by simp at ha) h1, BX.put h4 h3, h4, rfl⟩
  · exact ⟨fp, fun a ha => ha, si_set S hr nd zf h1, BX.put h4 h3, h4, rfl⟩
theorem putT2 {p q : Pat} {i j : Nat} {rs : List R} {ρ' : Env} (hp : p = .v i ∨ p = .o i) (hq : q = .v j ∨ q = .o j) (h : putT [p, q] rs ρ = some ρ') : ∃ r1 r2 ρ2, rs = [r1, r2] ∧ put1 ρ i (kept p r1) = some ρ2 ∧ put1 ρ2 j (kept q r2) = some ρ' := by
  match rs, h with
  | [], h => rcases hp with rfl | rfl <;> simp [putT] at h
  | [r1], h => rcases hp with rfl | rfl <;> rcases hq with rfl | rfl <;> simp [putT] at h
  | r1 :: r2 :: r3 :: r, h => rcases hp with rfl | rfl <;> rcases hq with rfl | rfl <;> simp [putT] at h
  | [r1, r2], h =>
    rcases hp with rfl | rfl <;> rcases hq with rfl | rfl <;> simp only [putT, Option.bind_eq_some_iff] at h <;> obtain ⟨ρ2, e2, ρ3, e3, e4⟩ := h <;> cases e4 <;> exact ⟨r1, r2, ρ2, rfl, e2, e3⟩
theorem argVs2 {as : List Arg} {r1 r2 : R} (h : argVs as = some [r1, r2]) : as = [.val r1, .val r2] := by
  match as, h with
  | [], h => cases h
  | .star _ :: _, h => simp [argVs] at h
  | .slot _ :: _, h => simp [argVs] at h
  | [.val x], h =>
    simp only [argVs] at h
    split at h <;> simp at h
  | .val x :: .star _ :: _, h =>
    simp only [argVs] at h
    split at h <;> simp at h
  | .val x :: .slot _ :: _, h =>
    simp only [argVs] at h
    split at h <;> simp at h
  | .val x :: .val y :: r, h =>
    simp only [argVs] at h
    split at h
    · cases h
    · split at h
      · simp at h
      · cases e : argVs r with
        | none => rw [e] at h; simp at h
        | some l =>
          rw [e] at h
          simp only [Option.map_some, Option.some.injEq, List.cons.injEq] at h
          obtain ⟨rfl, rfl, rfl⟩ := h
          match r, e with
          | [], _ => rfl
          | .star _ :: _, e => simp [argVs] at e
          | .slot _ :: _, e => simp [argVs] at e
          | .val z :: r, e =>
            simp only [argVs] at e
            split at e
            · cases e
            · cases e2 : argVs r <;> rw [e2] at e <;> simp at e
theorem s_par2 {p q : Pat} {i j : Nat} {es : List E} (hp : p = .v i ∨ p = .o i) (hq : q = .v j ∨ q = .o j) (h : tS D np (.asgT [p, q] es) En σ H) : tPar i j (tAs D es) En σ H := by
  obtain ⟨Z, F, ρ, S, h⟩ := h
  rw [ex] at h
  refine ⟨Z, F, ρ, S, fls_in h fun as ρ1 e0 g F1 H1 vs fps a => ?_⟩
  clear h
  cases e1 : argVs as with
  | none => rw [e1] at g; exact g.elim
  | some rs =>
    rw [e1] at g
    dsimp only at g
    split at g
    · cases e5 : putT [p, q] rs ρ1 with
      | none => rw [e5] at g; exact g.elim
      | some ρ3 =>
        rw [e5] at g
        obtain ⟨r1, r2, ρ2, rfl, e2, e3⟩ := putT2 hp hq e5
        have ea := argVs2 e1
        subst ea
        obtain ⟨v, ws, fp1, gs, rfl, rfl, q1, w, ws2, fp2, gs2, rfl, rfl, q2, rfl, rfl⟩ := a.as_
        refine ⟨v, w, rfl, ?_⟩
        have fl : ∀ b, b ∈ [fp1, fp2].flatten ↔ b ∈ fp1 ∨ b ∈ fp2 := fun b => by simp
        have nd : fp1.Nodup ∧ fp2.Nodup ∧ ∀ b ∈ fp1, b ∉ fp2 := by
          have := a.nd
          simp only [List.flatten_cons, List.flatten_nil, List.append_nil] at this
          obtain ⟨n1, n2, n3⟩ := List.nodup_append.mp this
          exact ⟨n1, n2, fun b h1 h2 => n3 b h1 b h2 rfl⟩
        have zn : ∀ b, b ∈ fp1 ∨ b ∈ fp2 → ¬ Z b := fun b hb q => a.z0 b q (a.nw b ((fl b).mpr hb))
        have S1 : SI D.K (fun x => (Z x ∨ x ∈ fp2) ∨ x ∈ fp1) F1 σ ρ1 H1 := a.si.zn fun b q => by
          rcases q with (q | q) | q
          · exact .inl q
          · exact .inr ((fl b).mpr (.inr q))
          · exact .inr ((fl b).mpr (.inl q))
        have hr1 : Rr D.K (Zs (fun x => (Z x ∨ x ∈ fp2) ∨ x ∈ fp1) F1) H1 v r1 fp1 := q1.zn fun b _ q => by
          rcases q with ((q | q) | q) | q
          · exact .inl (.inl q)
          · exact .inl (.inr ((fl b).mpr (.inr q)))
          · exact .inl (.inr ((fl b).mpr (.inl q)))
          · exact .inr q
        obtain ⟨fpA, a1, a2, a3, a4, a5⟩ := store1 hp S1 hr1 nd.1 (fun b hb q => q.elim (zn b (.inl hb)) (nd.2.2 b hb)) e2
        have hr2 : Rr D.K (Zs (fun x => Z x ∨ x ∈ fp2) (fset F1 i fpA)) H1 w r2 fp2 := q2.zn fun b _ q => by
          rcases q with (q | q) | ⟨n, q⟩
          · exact .inl (.inl q)
          · exact .inl (.inr ((fl b).mpr (.inr q)))
          · by_cases hn : n = i
            · subst hn
              rw [fset_self] at q
              exact .inl (.inr ((fl b).mpr (.inl (a1 b q))))
            · rw [fset_ne hn] at q
              exact .inr ⟨n, q⟩
        obtain ⟨fpB, b1, b2, b3, b4, b5⟩ := store1 hq a2 hr2 nd.2.1 (fun b hb => zn b (.inr hb)) e3
        refine g _ _ _ ⟨b2, fun n x hx => ?_, a.fr, a.mo, (a.spo.bx'.trans a3).trans b3, fun n ts e => ?_, by simp⟩
        · by_cases hn : n = j
          · subst hn
            rw [fset_self] at hx
            exact .inr (a.nw x ((fl x).mpr (.inr (b1 x hx))))
          · rw [fset_ne hn] at hx
            by_cases hm : n = i
            · subst hm
              rw [fset_self] at hx
              exact .inr (a.nw x ((fl x).mpr (.inl (a1 x hx))))
            · rw [fset_ne hm] at hx
              exact .inl (a.sub n x hx)
        · obtain ⟨_, ts', e'⟩ := a.bx n ts e
          have hi : n ≠ i := fun q => by subst q; exact a4 ts' e'
          have e'' : ρ2[n]? = some (some (.box ts')) := by rw [a5, List.getElem?_set_ne (Ne.symm hi)]; exact e'
          have hj : n ≠ j := fun q => by subst q; exact b4 ts' e''
          rw [List.getElem?_set_ne (Ne.symm hj), List.getElem?_set_ne (Ne.symm hi)]
    · exact g.elim
end
end Ev
end
section
set_option Elab.async false
set_option linter.all false
set_option maxRecDepth 100000
set_option maxHeartbeats 1000000
namespace Ev
open PySem PySem.Spec L2 StX
section
variable {D : Wd} {np : Nat} {Z : Zn} {F F' F2 : Nat → List Addr} {σ σ' σ2 : L2.St} {ρ ρ' ρ2 : Env} {H H' H2 : Hp} {v : V} {r : R} {En : Ends}
theorem flat_sh {K : PySem.W.Frag} {fp : List Addr} (hf : flat r.t = true) (h : Rr K Z H v r fp) : fp = [] ∧ Rp K Z H v r.t := by
  cases r with
  | sh t => exact h
  | own ts => cases hf
  | own2 ts => cases hf
  | ownD a b => cases hf
  | box ts => cases hf
theorem s_raise1 {c : Nat} {e : E} (hc : (xKind c).isSome = true) (hcv : D.cv = cvK D.K) (hk : ExK D.K c) (hp : plainE e = true) (h : tS D np (.raise c [e]) En σ H) : tMkX (cvA D.K c) (xF c) (tAs D [e]) σ H fun cls d H' => D.W cls d σ H' := by
  obtain ⟨Z, F, ρ, S, h⟩ := h
  refine ⟨Z, F, ρ, S, ?_⟩
  rw [ex] at h
  cases e1 : evs D.cf [e] ρ with
  | bad => rw [e1] at h; exact h
  | exc c' fs ρ' => rw [e1] at h; exact fun F' H' d s x => h F' σ H' d s.st x
  | ok as ρ1 =>
    rw [e1] at h
    rw [evs_plain hp] at e1
    cases e2 : ev D.cf e ρ with
    | bad => rw [e2] at e1; cases e1
    | exc c' fs ρ' => rw [e2] at e1; cases e1
    | ok r ρ2 =>
      rw [e2] at e1
      simp only [Out.bind, evs] at e1
      cases e1
      simp only [Out.fl, argTs, Arg.t, Option.bind_some, Option.map_some] at h
      intro F1 H1 vs fps a
      have sp : SPo D.K Z F σ ρ H F1 ρ1 H1 := ⟨a.si.zn fun _ q => .inl q, a.sub, a.fr, a.mo, a.z0, a.bx, a.nb⟩
      obtain ⟨v, ws, fp, gs, rfl, rfl, h1, rfl, rfl⟩ := a.as_
      refine ⟨v, rfl, fun d nd => ?_⟩
      by_cases hq : (([r.t] ++ []).all flat && (Nat.beq ([r.t] ++ []).length (if (xKind c).isSome = true then 1 else 0) && Nat.blt c 8)) = true
      · rw [if_pos hq] at h
        simp only [Bool.and_eq_true, List.append_nil, List.all_cons, List.all_nil, and_true] at hq
        obtain ⟨q1, q2, q3⟩ := hq
        obtain ⟨rfl, h2⟩ := flat_sh q1 h1
        have f : Fresh H1 (upd H1 d (.xd [(xF c, v)])) := Fresh.upd nd
        have zn : ∀ b, Zs Z F1 b → Zs (fun a => Z a ∨ a ∈ [([] : List Addr)].flatten) F1 b := fun b q => q.imp .inl id
        have := h F1 σ _ (some d) (sp.st.fresh f) ⟨hk, Nat.blt_eq.mp q3, [v], .inr ⟨d, v, rfl, rfl, ⟨upd_same, fun q => sp.si.tz q nd⟩, hc⟩, .one ((h2.keep f.out).zn fun b _ q => zn b q)⟩
        rw [hcv] at this
        exact this
      · rw [if_neg hq] at h
        exact h.elim
theorem s_raise0 {c : Nat} (hc : xKind c = none) (hcv : D.cv = cvK D.K) (hk : ExK D.K c) (h : tS D np (.raise c []) En σ H) : D.W (cvK D.K c) none σ H := by
  obtain ⟨Z, F, ρ, S, h⟩ := h
  rw [ex, evs] at h
  simp only [Out.fl, argTs] at h
  by_cases hq : (([] : List T).all flat && (Nat.beq ([] : List T).length (if (xKind c).isSome = true then 1 else 0) && Nat.blt c 8)) = true
  · rw [if_pos hq] at h
    simp only [Bool.and_eq_true] at hq
    have := h F σ H none (.refl S) ⟨hk, Nat.blt_eq.mp hq.2.2, [], .inl ⟨rfl, rfl, hc⟩, .nil⟩
    rw [hcv] at this
    exact this
  · rw [if_neg hq] at h
    exact h.elim
theorem StP.off {K : PySem.W.Frag} {j : Nat} (s : StP K Z F σ ρ H F' σ' ρ' H') (e : hide ρ' [j] = some ρ2) : StP K Z F σ ρ H F' (σ'.set j none) ρ2 H' := by
  have si := s.si.hide e
  obtain ⟨rfl, hc⟩ := hide_some e
  have nb : ∀ i ts, ρ'[i]? = some (some (R.box ts)) → i ≠ j := fun i ts q z => by
    subst z
    have := hc i List.mem_cons_self
    unfold calmAt getR at this
    rw [q] at this
    cases this
  have same : ∀ i, i ≠ j → (wipe ρ' [j])[i]? = ρ'[i]? := fun i z => by
    show (ρ'.set j none)[i]? = _
    rw [List.getElem?_set_ne (Ne.symm z)]
  have bx2 : BX F' ρ' F' (wipe ρ' [j]) := ⟨fun i ts q => ⟨rfl, ts, by rw [same i (nb i ts q)]; exact q⟩, fun i ts q => by
    by_cases z : i = j
    · subst z
      have q : (ρ'.set i none)[i]? = some (some (R.box ts)) := q
      by_cases hl : i < ρ'.length
      · rw [List.getElem?_set_self hl] at q; cases q
      · rw [List.getElem?_eq_none (by simpa using hl)] at q; cases q
    · rw [same i z] at q
      exact ⟨ts, q⟩⟩
  refine ⟨si, s.ow, s.fr, s.mo, s.bx.trans bx2, fun i ts q => ?_, by rw [List.length_set]; exact s.ln⟩
  obtain ⟨_, ts', q2⟩ := s.bx.bx i ts q
  rw [List.getElem?_set_ne (Ne.symm (nb i ts' q2))]
  exact s.bs i ts q
theorem endF_in {i : Option Nat} {x : Fl} (h : wF D np (endF i x) En Z F σ ρ H) : wF D.c np x (endC i En) Z F σ ρ H := by
  cases i with
  | none =>
    cases x with
    | nx ρ1 => exact h
    | bk ρ1 => exact h
    | ct ρ1 => exact h
    | rt r ρ1 => exact h
    | exc c fs ρ1 => exact h.elim
    | bad => exact h.elim
  | some j =>
    cases x with
    | nx ρ1 =>
      simp only [endF, offR] at h
      cases e : hide ρ1 [j] with
      | none => rw [e] at h; exact h.elim
      | some ρ2 => rw [e] at h; exact fun F' σ' H' s => h F' _ H' (s.off e)
    | bk ρ1 =>
      simp only [endF, offR] at h
      cases e : hide ρ1 [j] with
      | none => rw [e] at h; exact h.elim
      | some ρ2 => rw [e] at h; exact fun F' σ' H' s => h F' _ H' (s.off e)
    | ct ρ1 =>
      simp only [endF, offR] at h
      cases e : hide ρ1 [j] with
      | none => rw [e] at h; exact h.elim
      | some ρ2 => rw [e] at h; exact fun F' σ' H' s => h F' _ H' (s.off e)
    | rt r ρ1 => exact h
    | exc c fs ρ1 => exact h.elim
    | bad => exact h.elim
/-- a clause that takes it -/
theorem suite_in {c : Nat} {fs : List T} {i : Option Nat} {b : List S} {d : Option Addr} {a : Addr} (hcv : D.cv = cvK D.K) (S : SI D.K Z F σ ρ H) (x : XFl D.K (Zs Z F) H c d fs) (na : H a = none) (h : wF D np (suiteF (exs D.cf b) i c fs ρ) En Z F σ ρ H) :
    tSs D.c np b (endC i En) (inC i (.ref a) σ) (upd H a (EXO a (D.cv c) d)) := by
  obtain ⟨xk, l8, ws, xd, rr⟩ := x
  have f : Fresh H (upd H a (EXO a (D.cv c) d)) := Fresh.upd na
  have st0 : StP D.K Z F σ ρ H F σ ρ (upd H a (EXO a (D.cv c) d)) := (StP.refl S).fresh f
  have hr : Rp D.K (Zs Z F) (upd H a (EXO a (D.cv c) d)) (.ref a) (.err c fs) := by
    unfold Rp
    exact ⟨a, d, ws, rfl, ⟨by rw [upd_same, hcv], fun q => S.tz q na⟩, xk, xd.keep f.out, rr.keep f.out⟩
  have h2 := h.after st0
  cases i with
  | none => exact ⟨Z, F, ρ, st0.si, endF_in h2⟩
  | some j =>
    simp only [suiteF] at h2
    cases e : put1 ρ j (.sh (.err c fs)) with
    | none => rw [e] at h2; exact h2.elim
    | some ρ2 =>
      rw [e] at h2
      have st1 := StP.put_sh (SPo.refl st0.si) hr e
      exact ⟨Z, _, ρ2, st1.si, endF_in (h2.after st1)⟩
theorem s_try1 {body b : List S} {c : Nat} {i : Option Nat} (hcv : D.cv = cvK D.K) (h8 : c < 8) (hx : xIn D.K c = true) (h : tS D np (.try1 body c i b) En σ H) : tSs { D with W := wKeep D.K D.W En [⟨cvK D.K c, i, fun _ => tSs D.c np b⟩] } np body En σ H := by
  obtain ⟨Z, F, ρ, S, h⟩ := h
  refine ⟨Z, F, ρ, S, ?_⟩
  rw [ex] at h
  show wF _ np (exs D.cf body ρ) En Z F σ ρ H
  cases e : exs D.cf body ρ with
  | nx ρ1 => rw [e] at h; exact h
  | bk ρ1 => rw [e] at h; exact h
  | ct ρ1 => rw [e] at h; exact h
  | rt r ρ1 => rw [e] at h; exact h
  | bad => rw [e] at h; exact h
  | exc c' fs ρ1 =>
    rw [e] at h
    simp only [Fl.catch] at h
    intro F' σ' H' d st x
    refine ⟨Nat.beq c' c, by rw [hcv]; exact x.1.ex c h8 hx, fun hb a na => ?_, fun hb => ?_⟩
    · rw [if_pos hb] at h
      exact suite_in hcv st.si x na (h.after st)
    · rw [if_neg (by rw [hb]; simp)] at h
      exact h F' σ' H' d st x
theorem s_try2 {body b b2 : List S} {c c2 : Nat} {i i2 : Option Nat} (hcv : D.cv = cvK D.K) (h8 : c < 8) (hx : xIn D.K c = true) (h82 : c2 < 8) (hx2 : xIn D.K c2 = true) (h : tS D np (.try2 body c i b c2 i2 b2) En σ H) :
    tSs { D with W := wKeep D.K D.W En [⟨cvK D.K c, i, fun _ => tSs D.c np b⟩, ⟨cvK D.K c2, i2, fun _ => tSs D.c np b2⟩] } np body En σ H := by
  obtain ⟨Z, F, ρ, S, h⟩ := h
  refine ⟨Z, F, ρ, S, ?_⟩
  rw [ex] at h
  show wF _ np (exs D.cf body ρ) En Z F σ ρ H
  cases e : exs D.cf body ρ with
  | nx ρ1 => rw [e] at h; exact h
  | bk ρ1 => rw [e] at h; exact h
  | ct ρ1 => rw [e] at h; exact h
  | rt r ρ1 => rw [e] at h; exact h
  | bad => rw [e] at h; exact h
  | exc c' fs ρ1 =>
    rw [e] at h
    simp only [Fl.catch] at h
    intro F' σ' H' d st x
    refine ⟨Nat.beq c' c, by rw [hcv]; exact x.1.ex c h8 hx, fun hb a na => ?_, fun hb => ?_⟩
    · rw [if_pos hb] at h
      exact suite_in hcv st.si x na (h.after st)
    · rw [if_neg (by rw [hb]; simp)] at h
      refine ⟨Nat.beq c' c2, by rw [hcv]; exact x.1.ex c2 h82 hx2, fun hb2 a na => ?_, fun hb2 => ?_⟩
      · rw [if_pos hb2] at h
        exact suite_in hcv st.si x na (h.after st)
      · rw [if_neg (by rw [hb2]; simp)] at h
        exact h F' σ' H' d st x
end
end Ev
end
section
set_option Elab.async false
set_option linter.all false
set_option maxRecDepth 100000
set_option maxHeartbeats 1000000
namespace Ev
open PySem PySem.Spec PyProof.Rows L2
structure XCm (K : PySem.W.Frag) (mg : Str → Option Value) (prog : Program) (c : Nat) : Prop where
  h8 : c < 8
  inK : xIn K c = true
  gC : mg (xNm c) = some (cvK K c)
  kC : PySem.W.keepIn K (cvK K c) = true
  rB : PySem.W.subIn K (cvK K c) (.type "BaseException") = some true
  tC : PySem.W.typeIn K (cvK K c) = some (.type "type")
  ek : ExK K c
  mk0 : xKind c = none → ∃ B newId initId bmB, ExcBaseFacts B newId initId bmB ∧ PySem.W.excIn K (cvA K c) bmB newId = true
  mk1 : (xKind c).isSome = true → ∃ fI B newId initId bmB, SupT K prog (xF c) (cvA K c) fI B newId initId bmB
  su : (xKind c).isSome = true → mg "super" = none
abbrev XC (X : Cx) (c : Nat) : Prop := XCm X.K X.mg X.prog c
theorem xNm_ok (c : Nat) : (xNm c == ("__debug__" : Str)) = false := by
  unfold xNm
  match c with
  | 0 => decide +kernel
  | 1 => decide +kernel
  | 2 => decide +kernel
  | 3 => decide +kernel
  | 4 => decide +kernel
  | 5 => decide +kernel
  | 6 => decide +kernel
  | 7 => decide +kernel
  | c + 8 => exact (by decide +kernel : (Str.ofString "NoName" == ("__debug__" : Str)) = false)
end Ev
end
section
set_option Elab.async false
set_option linter.all false
set_option maxRecDepth 100000
set_option maxHeartbeats 1000000
namespace Ev
open PySem PySem.Spec L2
theorem forIn_known {α β : Type} {f : α → β → Sem (ForInStep β)} {g : β → α → β} : ∀ (l : List α) (b : β), (∀ pre x post, l = pre ++ x :: post → f x (pre.foldl g b) = pure (.yield (g (pre.foldl g b) x))) → forIn l b f = pure (l.foldl g b)
  | [], b, _ => by simp
  | x :: l, b, h => by
    have h0 := h [] x l rfl
    simp only [List.foldl_nil] at h0
    rw [List.forIn_cons, h0]
    simp only [pure_bind, List.foldl_cons]
    exact forIn_known l (g b x) fun pre y post e => by
      have := h (x :: pre) y post (by rw [e]; rfl)
      simpa using this
/-- parameters without anything special -/
def plainPs (a : Arguments) (ps : List Str) : Bool := a.posonlyargs.isEmpty && decide (a.args.map (·.arg) = ps) && a.kwonlyargs.isEmpty && a.vararg.isNone && a.kwarg.isNone && decide ps.Nodup
/-- as many different ones as there are: all of them -/
theorem full_of {α : Type} [DecidableEq α] : ∀ {D m : List α}, m.Nodup → (∀ k ∈ m, k ∈ D) → D.length ≤ m.length → ∀ n ∈ D, n ∈ m
  | D, [], _, _, h, n, hn => by
    have : D = [] := List.eq_nil_of_length_eq_zero (by simpa using h)
    rw [this] at hn
    simp at hn
  | D, x :: m, nd, hs, h, n, hn => by
    obtain ⟨n1, n2⟩ := List.nodup_cons.mp nd
    have hx := hs x List.mem_cons_self
    by_cases q : n = x
    · rw [q]; exact List.mem_cons_self
    · refine List.mem_cons_of_mem _ (full_of (D := D.erase x) n2 (fun k hk => (List.mem_erase_of_ne fun e => n1 (by rw [← e]; exact hk)).mpr (hs k (List.mem_cons_of_mem _ hk))) ?_ n ((List.mem_erase_of_ne q).mpr hn))
      rw [List.length_erase_of_mem hx]
      have := List.length_pos_of_mem hx
      simp only [List.length_cons] at h
      omega
theorem bind_plain {x q : Str} {a : Arguments} {body : List Stmt} {sc : Scope} {kV doc pm cd ct : Value} {an : Option Addr} {ps : List Str} (hp : plainPs a ps = true) (us : List Value) (kw : List (Str × Value)) (h1 : us.length ≤ ps.length) (h2 : ∀ k ∈ kw, k.1 ∈ ps.drop us.length) (h3 : (kw.map (·.1)).Nodup) (h4 : us.length + kw.length = ps.length) :
    bindArgs (PySem.W.fnOf x q a body sc .none kV doc pm an cd ct) ⟨us, kw⟩ = pure (ps.filterMap fun n => ((ps.zip us ++ kw).lookup n).map (n, ·)) := by
  unfold plainPs at hp
  simp only [Bool.and_eq_true, decide_eq_true_eq, List.isEmpty_iff, Option.isNone_iff_eq_none] at hp
  obtain ⟨⟨⟨⟨⟨p1, p2⟩, p3⟩, p4⟩, p5⟩, p6⟩ := hp
  unfold bindArgs PySem.W.fnOf
  simp only [p1, p2, p3, p4, p5, List.map_nil, List.nil_append, List.append_nil]
  have fold : ∀ (l : List (Str × Value)) (z : List (Str × Value)) (e : List (Str × Value)), l.foldl (fun (s : List (Str × Value) × List (Str × Value)) x => (s.1 ++ [x], s.2)) (z, e) = (z ++ l, e) := fun l => by
    induction l with
    | nil => intro z e; simp
    | cons x l ih => intro z e; rw [List.foldl_cons, ih]; simp
  have zk : ∀ (l : List Str) (us : List Value) (k : Str), us.length ≤ l.length → (l.zip us).lookup k ≠ none → k ∈ l.take us.length := fun l => by
    induction l with
    | nil => intro us k h hk; cases us <;> simp at hk
    | cons y l ih =>
      intro us k h hk
      cases us with
      | nil => simp at hk
      | cons u us =>
        simp only [List.zip_cons_cons, List.lookup_cons] at hk
        simp only [List.length_cons, List.take_succ_cons, List.mem_cons]
        by_cases q : k = y
        · exact .inl q
        · have : (k == y) = false := by simpa using q
          rw [this] at hk
          exact .inr (ih us k (by simpa using h) hk)
  have lk : ∀ (l m : List (Str × Value)) (k : Str), (l ++ m).lookup k = (l.lookup k).or (m.lookup k) := fun l m k => by
    induction l with
    | nil => simp
    | cons y l ih =>
      obtain ⟨y1, y2⟩ := y
      simp only [List.cons_append, List.lookup_cons]
      split <;> simp_all
  have lkn : ∀ (m : List (Str × Value)) (k : Str), k ∉ m.map (·.1) → m.lookup k = none := fun m k => by
    induction m with
    | nil => simp
    | cons y m ih =>
      intro h
      obtain ⟨y1, y2⟩ := y
      simp only [List.map_cons, List.mem_cons, not_or] at h
      rw [List.lookup_cons, show (k == y1) = false by simpa using h.1]
      exact ih h.2
  have zk2 : ∀ (l : List Str) (us : List Value) (k : Str), us.length ≤ l.length → k ∈ l.take us.length → (l.zip us).lookup k ≠ none := fun l => by
    induction l with
    | nil => intro us k h hk; simp at hk
    | cons y l ih =>
      intro us k h hk
      cases us with
      | nil => simp at hk
      | cons u us =>
        simp only [List.zip_cons_cons, List.lookup_cons]
        simp only [List.length_cons, List.take_succ_cons, List.mem_cons] at hk
        by_cases q : k = y
        · simp [q]
        · have e : (k == y) = false := by simpa using q
          rw [e]
          exact ih us k (by simpa using h) (hk.resolve_left q)
  have lkm : ∀ (m : List (Str × Value)) (k : Str), k ∈ m.map (·.1) → m.lookup k ≠ none := fun m k => by
    induction m with
    | nil => simp
    | cons y m ih =>
      intro h
      obtain ⟨y1, y2⟩ := y
      simp only [List.map_cons, List.mem_cons] at h
      rw [List.lookup_cons]
      by_cases q : k = y1
      · simp [q]
      · have e : (k == y1) = false := by simpa using q
        rw [e]
        exact ih (h.resolve_left q)
  have full : ∀ n ∈ ps.drop us.length, n ∈ kw.map (·.1) := full_of h3 (fun k hk => by
    obtain ⟨y, hy, rfl⟩ := List.mem_map.mp hk
    exact h2 y hy) (by rw [List.length_drop, List.length_map]; omega)
  rw [forIn_known (g := fun (s : List (Str × Value) × List (Str × Value)) x => (s.1 ++ [x], s.2)) kw _ (fun pre y post e => ?_)]
  · rw [fold]
    have all : ∀ n ∈ ps, ((ps.zip us ++ kw).lookup n).isNone = false := fun n hn => by
      rw [lk]
      rw [← List.take_append_drop us.length ps] at hn
      rcases List.mem_append.mp hn with hn | hn
      · have : (ps.zip us).lookup n ≠ none := fun q => zk2 ps us n h1 hn q
        cases q : (ps.zip us).lookup n with
        | none => exact absurd q this
        | some z => rfl
      · have : kw.lookup n ≠ none := fun q => by
          have inn := full n hn
          exact absurd q (lkm kw n inn)
        cases q : (ps.zip us).lookup n with
        | some z => rfl
        | none =>
          cases q2 : kw.lookup n with
          | none => exact absurd q2 this
          | some z => rfl
    have miss : (ps.filter fun n => ((ps.zip us ++ kw).lookup n).isNone) = [] := List.filter_eq_nil_iff.mpr fun n hn => by rw [all n hn]; simp
    have ng : (decide (us.length > ps.length) && (none : Option Arg).isNone) = false := by simp; omega
    simp only [pure_bind, show seqItems? Value.none = pure none from rfl, ng, Bool.false_eq_true, if_false, Option.getD_none, List.length_nil, Nat.zero_sub, List.drop_nil, Nat.sub_zero, List.take_length, miss, List.isEmpty_nil, Bool.not_true, List.drop_length, List.zip_nil_left, List.forIn_nil, List.filter_nil]
    rw [if_neg (by simp; omega)]
  · rw [fold]
    have my : y ∈ kw := by rw [e]; simp
    have m1 : ps.contains y.1 = true := by
      rw [List.contains_iff_mem]
      exact List.mem_of_mem_drop (h2 y my)
    have m2 : (ps.zip us ++ pre).lookup y.1 = none := by
      rw [lk]
      have a1 : (ps.zip us).lookup y.1 = none := by
        cases q : (ps.zip us).lookup y.1 with
        | none => rfl
        | some z =>
          have := zk ps us y.1 h1 (by rw [q]; simp)
          have d := h2 y my
          have nd := List.nodup_append.mp (by rw [List.take_append_drop]; exact p6 : (ps.take us.length ++ ps.drop us.length).Nodup)
          exact absurd rfl (nd.2.2 y.1 this y.1 d)
      have a2 : pre.lookup y.1 = none := lkn pre y.1 fun q => by
        rw [e, List.map_append, List.map_cons] at h3
        have nd := List.nodup_append.mp h3
        exact nd.2.2 y.1 q y.1 List.mem_cons_self rfl
      rw [a1, a2]
      rfl
    simp only [m1, Bool.true_or, if_true, m2, Option.isSome_none, Bool.false_eq_true, if_false]
theorem lookup_zip : ∀ {N : List Str} {W : List Value} {i : Nat} {x : Str} {v : Value}, N.Nodup → N[i]? = some x → W[i]? = some v → (N.zip W).lookup x = some v
  | [], _, i, x, v, _, h, _ => by simp at h
  | _ :: _, [], i, x, v, _, _, h => by simp at h
  | y :: N, u :: W, 0, x, v, nd, h1, h2 => by
    simp at h1 h2
    subst h1 h2
    simp
  | y :: N, u :: W, i + 1, x, v, nd, h1, h2 => by
    obtain ⟨n1, n2⟩ := List.nodup_cons.mp nd
    have m := List.mem_of_getElem? (show N[i]? = some x by simpa using h1)
    have e : (x == y) = false := by
      simp only [beq_eq_false_iff_ne]
      intro q
      exact n1 (q ▸ m)
    rw [List.zip_cons_cons, List.lookup_cons, e]
    exact lookup_zip n2 (by simpa using h1) (by simpa using h2)
/-- each parameter's place among the names given -/
def placed (N : List Str) : List Str → List Nat → Bool
  | [], [] => true
  | p :: ps, i :: is => decide (N[i]? = some p) && placed N ps is
  | _, _ => false
theorem placed_fm {N : List Str} {W : List Value} (nd : N.Nodup) (hl : N.length = W.length) : ∀ {ps : List Str} {is : List Nat}, placed N ps is = true → ps.filterMap (fun n => ((N.zip W).lookup n).map (n, ·)) = ps.zip (pick Value.none W is)
  | [], is, h => by cases is <;> first | rfl | (simp [placed] at h)
  | p :: ps, [], h => by simp [placed] at h
  | p :: ps, i :: is, h => by
    simp only [placed, Bool.and_eq_true, decide_eq_true_eq] at h
    have hi : i < W.length := by
      rw [← hl]
      exact (List.getElem?_eq_some_iff.mp h.1).1
    have e := lookup_zip (v := W[i]) nd h.1 (List.getElem?_eq_getElem hi)
    rw [List.filterMap_cons, e]
    simp only [Option.map_some]
    rw [placed_fm nd hl h.2]
    simp [pick, List.getElem?_eq_getElem hi]
/-- is it a call by name that binds each parameter once -/
def kwOk (ps : List Str) (n : Nat) (ks : List Str) (is : List Nat) : Bool := decide (n + ks.length = ps.length) && decide ks.Nodup && ks.all (fun k => decide (k ∈ ps.drop n)) && decide (ps.take n ++ ks).Nodup && placed (ps.take n ++ ks) ps is
theorem pick_vals {vs : List V} {us : List Value} (r : Vals vs us) : ∀ {is : List Nat}, (∀ i ∈ is, i < vs.length) → Vals (pick .non vs is) (pick Value.none us is)
  | [], _ => .nil
  | i :: is, h => by
    have hi := h i List.mem_cons_self
    obtain ⟨u, e1, e2⟩ := r.get (i := i) (List.getElem?_eq_getElem hi)
    refine .cons ?_ (pick_vals r fun j hj => h j (List.mem_cons_of_mem _ hj))
    show RelV (vs.getD i .non) (us.getD i Value.none)
    rw [List.getD_eq_getElem?_getD, List.getD_eq_getElem?_getD, List.getElem?_eq_getElem hi, e1]
    exact e2
section
variable {K : PySem.W.Frag} {x qual : Str} {st : Stmt} {f : Addr} {fd : FuncData} {ps : List Str}
theorem kw_to {a : Arguments} {body : List Stmt} {sc : Scope} {kV doc pm cd ct : Value} {an : Option Addr} (hp : plainPs a ps = true) {n : Nat} {ks : List Str} {is : List Nat} (hk : kwOk ps n ks is = true) (us ws : List Value) (h1 : us.length = n) (h2 : ws.length = ks.length) :
    bindArgs (PySem.W.fnOf x qual a body sc .none kV doc pm an cd ct) ⟨us, ks.zip ws⟩ = pure (ps.zip (pick Value.none (us ++ ws) is)) := by
  unfold kwOk at hk
  simp only [Bool.and_eq_true, decide_eq_true_eq, List.all_eq_true] at hk
  obtain ⟨⟨⟨⟨k1, k2⟩, k3⟩, k4⟩, k5⟩ := hk
  have zf : (ks.zip ws).map (·.1) = ks := List.map_fst_zip (by omega)
  have zl : (ks.zip ws).length = ks.length := by rw [List.length_zip]; omega
  rw [bind_plain hp us (ks.zip ws) (by omega) (fun k hk => by
    rw [h1]
    exact k3 k.1 (by rw [← zf]; exact List.mem_map_of_mem hk)) (by rw [zf]; exact k2) (by omega)]
  have e : ps.zip us ++ ks.zip ws = (ps.take n ++ ks).zip (us ++ ws) := by
    rw [List.zip_append (by rw [List.length_take]; omega)]
    congr 1
    have : ps.zip us = (ps.take us.length).zip us := by
      clear k5 k4 k3 zf zl k1 k2 hp h1 h2
      induction ps generalizing us with
      | nil => simp
      | cons p ps ih => cases us <;> simp_all
    rw [this, h1]
  rw [e, placed_fm k4 (by simp only [List.length_append, List.length_take]; omega) k5]
theorem binds_plain (F : Fun K x qual st f fd) (hp : plainPs (defArgs st) ps = true) : Binds K fd ps [] := by
  refine F.binds fun kV doc pm an cdv ct us hl => ?_
  have nd : ps.Nodup := by
    unfold plainPs at hp
    simp only [Bool.and_eq_true, decide_eq_true_eq] at hp
    exact hp.2
  have := kw_to (x := x) (qual := qual) (body := defBody st) (sc := defScope st) (kV := kV) (doc := doc) (pm := pm) (an := an) (cd := cdv) (ct := ct) hp (n := ps.length) (ks := []) (is := List.range ps.length) (by
    unfold kwOk
    have e : ∀ (l : List Str) (k : Nat) (N : List Str), (∀ i, i < l.length → N[k + i]? = l[i]?) → placed N l (List.range' k l.length) = true := fun l => by
      induction l with
      | nil => intro k N h; rfl
      | cons y l ih =>
        intro k N h
        rw [List.length_cons, List.range'_succ]
        simp only [placed, Bool.and_eq_true, decide_eq_true_eq]
        refine ⟨by have := h 0 (by simp); simpa using this, ih (k + 1) N fun i hi => ?_⟩
        have := h (i + 1) (by simpa using hi)
        rw [show k + 1 + i = k + (i + 1) by omega, this]
        simp
    have e2 := e ps 0 ps (fun i hi => by simp)
    rw [← List.range_eq_range'] at e2
    simp [nd, e2]) us [] hl rfl
  have e3 : pick Value.none us (List.range ps.length) = us := by
    unfold pick
    apply List.ext_getElem
    · simp [hl]
    · intro i h1 h2
      simp [h2]
  rw [List.zip_nil_left, List.append_nil, e3] at this
  exact this
end
end Ev
end
section
set_option linter.all false
set_option maxRecDepth 100000
namespace Ev
def comb : Ordering → Ordering → Option Ordering
  | .eq, o => some o
  | .lt, .eq => some .lt
  | .gt, .eq => some .gt
  | .lt, .lt => some .lt
  | .gt, .gt => some .gt
  | _, _ => none
theorem comb_lt {p o : Ordering} (h : comb .lt p = some o) : o = .lt := by cases p <;> simp [comb] at h <;> exact h.symm
theorem comb_gt {p o : Ordering} (h : comb .gt p = some o) : o = .gt := by cases p <;> simp [comb] at h <;> exact h.symm
theorem comb_lt2 {p o : Ordering} (h : comb p .lt = some o) : o = .lt := by cases p <;> simp [comb] at h <;> exact h.symm
theorem comb_gt2 {p o : Ordering} (h : comb p .gt = some o) : o = .gt := by cases p <;> simp [comb] at h <;> exact h.symm
theorem ncmp_tr (a b c : Nat) (o : Ordering) (h : comb (ncmp a b) (ncmp b c) = some o) : ncmp a c = o := by
  unfold ncmp at *
  simp only [Nat.blt_eq, Nat.beq_eq] at *
  repeat' split at h
  all_goals simp [comb] at h
  all_goals subst h
  all_goals (repeat' split) <;> first | rfl | omega
theorem icmp_tr (a b c : Int) (o : Ordering) (h : comb (icmp a b) (icmp b c) = some o) : icmp a c = o := by
  unfold icmp at *
  repeat' split at h
  all_goals simp [comb] at h
  all_goals subst h
  all_goals (repeat' split) <;> first | rfl | omega
theorem ncmp_sw (a b : Nat) : ncmp b a = (ncmp a b).swap := by
  unfold ncmp
  simp only [Nat.blt_eq, Nat.beq_eq]
  (repeat' split) <;> first | rfl | omega
theorem icmp_sw (a b : Int) : icmp b a = (icmp a b).swap := by
  unfold icmp
  (repeat' split) <;> first | rfl | omega
theorem scmp_sw : ∀ a b : List Nat, scmp b a = (scmp a b).swap
  | [], [] => rfl
  | [], _ :: _ => rfl
  | _ :: _, [] => rfl
  | x :: xs, y :: ys => by
    simp only [scmp, ncmp_sw x y]
    cases ncmp x y <;> simp [Ordering.swap, scmp_sw xs ys]
theorem scmp_tr : ∀ (a b c : List Nat) (o : Ordering), comb (scmp a b) (scmp b c) = some o → scmp a c = o
  | [], [], [], o, h => by simpa [scmp, comb] using h
  | [], [], _ :: _, o, h => by simpa [scmp, comb] using h
  | [], _ :: _, [], o, h => by simp [scmp, comb] at h
  | _ :: _, [], [], o, h => by simpa [scmp, comb] using h
  | _ :: _, [], _ :: _, o, h => by simp [scmp, comb] at h
  | [], y :: ys, z :: zs, o, h => by rw [comb_lt (p := scmp (y :: ys) (z :: zs)) h]; rfl
  | x :: xs, y :: ys, [], o, h => by rw [comb_gt2 (p := scmp (x :: xs) (y :: ys)) h]; rfl
  | x :: xs, y :: ys, z :: zs, o, h => by
    have n := ncmp_tr x y z
    have ih := scmp_tr xs ys zs
    simp only [scmp] at h ⊢
    cases q1 : ncmp x y <;> cases q2 : ncmp y z <;> rw [q1, q2] at n <;> simp only [q1, q2] at h
    · rw [n .lt rfl, comb_lt h]
    · rw [n .lt rfl, comb_lt h]
    · simp [comb] at h
    · rw [n .lt rfl, comb_lt2 h]
    · rw [n .eq rfl]; exact ih o h
    · rw [n .gt rfl, comb_gt2 h]
    · simp [comb] at h
    · rw [n .gt rfl, comb_gt h]
    · rw [n .gt rfl, comb_gt h]
theorem tcmp_rank {a b : T} (h : a.rank ≠ b.rank) : tcmp a b = ncmp a.rank b.rank := by
  cases a <;> cases b <;> first | exact absurd rfl h | rfl | (unfold tcmp; rfl)
theorem ncmp_ne {a b : Nat} (h : a ≠ b) : (ncmp a b = .lt ∧ a < b) ∨ (ncmp a b = .gt ∧ b < a) := by
  unfold ncmp
  simp only [Nat.blt_eq, Nat.beq_eq]
  (repeat' split) <;> first | exact .inl ⟨rfl, by omega⟩ | exact .inr ⟨rfl, by omega⟩ | omega
theorem ncmp_lt {a b : Nat} (h : a < b) : ncmp a b = .lt := by
  unfold ncmp
  simp [Nat.blt_eq, h]
theorem ncmp_gt {a b : Nat} (h : b < a) : ncmp a b = .gt := by
  rcases ncmp_ne (show a ≠ b by omega) with h1 | h1
  · omega
  · exact h1.1
/-- ranks that differ decide -/
theorem rank_tr {a b c : T} {o : Ordering} (hr : ¬ (a.rank = b.rank ∧ b.rank = c.rank)) (h : comb (tcmp a b) (tcmp b c) = some o) : tcmp a c = o := by
  by_cases e1 : a.rank = b.rank
  · have e2 : b.rank ≠ c.rank := fun q => hr ⟨e1, q⟩
    rw [tcmp_rank e2] at h
    rw [tcmp_rank (by omega), e1]
    rcases ncmp_ne e2 with ⟨h1, _⟩ | ⟨h1, _⟩
    · rw [h1] at h ⊢; exact (comb_lt2 h).symm
    · rw [h1] at h ⊢; exact (comb_gt2 h).symm
  · rw [tcmp_rank e1] at h
    rcases ncmp_ne e1 with ⟨h1, l1⟩ | ⟨h1, l1⟩
    · rw [h1] at h
      rw [comb_lt h]
      by_cases e2 : b.rank = c.rank
      · rw [tcmp_rank (by omega), ← e2, h1]
      · rw [tcmp_rank e2] at h
        rcases ncmp_ne e2 with ⟨h2, l2⟩ | ⟨h2, l2⟩
        · rw [tcmp_rank (by omega)]; exact ncmp_lt (by omega)
        · rw [h2] at h; simp [comb] at h
    · rw [h1] at h
      rw [comb_gt h]
      by_cases e2 : b.rank = c.rank
      · rw [tcmp_rank (by omega), ← e2, h1]
      · rw [tcmp_rank e2] at h
        rcases ncmp_ne e2 with ⟨h2, l2⟩ | ⟨h2, l2⟩
        · rw [h2] at h; simp [comb] at h
        · rw [tcmp_rank (by omega)]; exact ncmp_gt (by omega)
mutual
theorem tcmp_sw : ∀ a b : T, tcmp b a = (tcmp a b).swap
  | .tup xs, b => by
    cases b <;> first | (unfold tcmp; exact tcmps_sw xs _) | (unfold tcmp; rfl)
  | .lst xs, b => by
    cases b <;> first | (unfold tcmp; exact tcmps_sw xs _) | (unfold tcmp; rfl)
  | .non, b => by cases b <;> (unfold tcmp; rfl)
  | .bl x, b => by cases b <;> first | (unfold tcmp; exact icmp_sw _ _) | (unfold tcmp; rfl)
  | .int x, b => by cases b <;> first | (unfold tcmp; exact icmp_sw _ _) | (unfold tcmp; rfl)
  | .str x, b => by cases b <;> first | (unfold tcmp; exact scmp_sw _ _) | (unfold tcmp; rfl)
  | .dct _ _, b => by cases b <;> (unfold tcmp; rfl)
  | .fz _, b => by cases b <;> (unfold tcmp; rfl)
  | .err _ _, b => by cases b <;> (unfold tcmp; rfl)
theorem tcmps_sw : ∀ a b : List T, tcmps b a = (tcmps a b).swap
  | [], [] => by unfold tcmps; rfl
  | [], _ :: _ => by unfold tcmps; rfl
  | _ :: _, [] => by unfold tcmps; rfl
  | x :: xs, y :: ys => by
    unfold tcmps
    rw [tcmp_sw x y]
    cases tcmp x y
    · rfl
    · exact tcmps_sw xs ys
    · rfl
end
mutual
theorem tcmp_tr : ∀ (a b c : T) (o : Ordering), comb (tcmp a b) (tcmp b c) = some o → tcmp a c = o
  | .tup xs, b, c, o, h => by
    by_cases hr : (T.tup xs).rank = b.rank ∧ b.rank = c.rank
    · cases b <;> simp [T.rank] at hr
      cases c <;> simp [T.rank] at hr
      unfold tcmp at h ⊢
      exact tcmps_tr xs _ _ o h
    · exact rank_tr hr h
  | .lst xs, b, c, o, h => by
    by_cases hr : (T.lst xs).rank = b.rank ∧ b.rank = c.rank
    · cases b <;> simp [T.rank] at hr
      cases c <;> simp [T.rank] at hr
      unfold tcmp at h ⊢
      exact tcmps_tr xs _ _ o h
    · exact rank_tr hr h
  | .str x, b, c, o, h => by
    by_cases hr : (T.str x).rank = b.rank ∧ b.rank = c.rank
    · cases b <;> simp [T.rank] at hr
      cases c <;> simp [T.rank] at hr
      unfold tcmp at h ⊢
      exact scmp_tr _ _ _ o h
    · exact rank_tr hr h
  | .bl x, b, c, o, h => by
    by_cases hr : (T.bl x).rank = b.rank ∧ b.rank = c.rank
    · cases b <;> simp [T.rank] at hr <;> cases c <;> simp [T.rank] at hr <;> (unfold tcmp at h ⊢; exact icmp_tr _ _ _ o h)
    · exact rank_tr hr h
  | .int x, b, c, o, h => by
    by_cases hr : (T.int x).rank = b.rank ∧ b.rank = c.rank
    · cases b <;> simp [T.rank] at hr <;> cases c <;> simp [T.rank] at hr <;> (unfold tcmp at h ⊢; exact icmp_tr _ _ _ o h)
    · exact rank_tr hr h
  | .non, b, c, o, h => by
    by_cases hr : T.non.rank = b.rank ∧ b.rank = c.rank
    · cases b <;> simp [T.rank] at hr
      cases c <;> simp [T.rank] at hr
      unfold tcmp at h ⊢
      simpa [comb] using h
    · exact rank_tr hr h
  | .dct k v, b, c, o, h => by
    by_cases hr : (T.dct k v).rank = b.rank ∧ b.rank = c.rank
    · cases b <;> simp [T.rank] at hr
      cases c <;> simp [T.rank] at hr
      unfold tcmp at h ⊢
      simpa [comb] using h
    · exact rank_tr hr h
  | .fz n, b, c, o, h => by
    by_cases hr : (T.fz n).rank = b.rank ∧ b.rank = c.rank
    · cases b <;> simp [T.rank] at hr
      cases c <;> simp [T.rank] at hr
      unfold tcmp at h ⊢
      simpa [comb] using h
    · exact rank_tr hr h
  | .err k v, b, c, o, h => by
    by_cases hr : (T.err k v).rank = b.rank ∧ b.rank = c.rank
    · cases b <;> simp [T.rank] at hr
      cases c <;> simp [T.rank] at hr
      unfold tcmp at h ⊢
      simpa [comb] using h
    · exact rank_tr hr h
theorem tcmps_tr : ∀ (a b c : List T) (o : Ordering), comb (tcmps a b) (tcmps b c) = some o → tcmps a c = o
  | [], [], c, o, h => by
    have e : tcmps [] [] = .eq := by unfold tcmps; rfl
    rw [e] at h
    simpa [comb] using h
  | x :: xs, [], [], o, h => by
    have e : tcmps [] [] = .eq := by unfold tcmps; rfl
    have e2 : tcmps (x :: xs) [] = .gt := by unfold tcmps; rfl
    rw [e, e2] at h
    rw [e2]
    simpa [comb] using h
  | [], y :: ys, [], o, h => by
    have e : tcmps [] (y :: ys) = .lt := by unfold tcmps; rfl
    have e2 : tcmps (y :: ys) [] = .gt := by unfold tcmps; rfl
    rw [e, e2] at h
    simp [comb] at h
  | x :: xs, [], z :: zs, o, h => by
    have e : tcmps [] (z :: zs) = .lt := by unfold tcmps; rfl
    have e2 : tcmps (x :: xs) [] = .gt := by unfold tcmps; rfl
    rw [e, e2] at h
    simp [comb] at h
  | [], y :: ys, z :: zs, o, h => by
    have e : tcmps [] (y :: ys) = .lt := by unfold tcmps; rfl
    rw [e] at h
    rw [comb_lt h]
    unfold tcmps
    rfl
  | x :: xs, y :: ys, [], o, h => by
    have e : tcmps (y :: ys) [] = .gt := by unfold tcmps; rfl
    rw [e] at h
    rw [comb_gt2 h]
    unfold tcmps
    rfl
  | x :: xs, y :: ys, z :: zs, o, h => by
    have n := tcmp_tr x y z
    have ih := tcmps_tr xs ys zs
    simp only [tcmps] at h ⊢
    cases q1 : tcmp x y <;> cases q2 : tcmp y z <;> rw [q1, q2] at n <;> simp only [q1, q2] at h
    · rw [n .lt rfl, comb_lt h]
    · rw [n .lt rfl, comb_lt h]
    · simp [comb] at h
    · rw [n .lt rfl, comb_lt2 h]
    · rw [n .eq rfl]; exact ih o h
    · rw [n .gt rfl, comb_gt2 h]
    · simp [comb] at h
    · rw [n .gt rfl, comb_gt h]
    · rw [n .gt rfl, comb_gt h]
end
end Ev
end
section
set_option linter.all false
set_option maxRecDepth 100000
namespace Ev
theorem tlt_asym (a b : T) (h : tlt a b = true) : tlt b a = false := by
  unfold tlt at *
  rw [tcmp_sw a b]
  cases q : tcmp a b <;> rw [q] at h <;> first | rfl | cases h
theorem tlt_tr (a b c : T) (h1 : tlt b a = false) (h2 : tlt c b = false) : tlt c a = false := by
  unfold tlt at *
  have t := tcmp_tr c b a
  cases q1 : tcmp c b <;> cases q2 : tcmp b a <;> rw [q1, q2] at t <;> simp only [q1, q2, oLt] at h1 h2 <;> first | (cases h1; done) | (cases h2; done) | skip
  · rw [t .eq rfl]; rfl
  · rw [t .gt rfl]; rfl
  · rw [t .gt rfl]; rfl
  · rw [t .gt rfl]; rfl
theorem tlt_irr (a : T) : tlt a a = false := by
  cases h : tlt a a with
  | false => rfl
  | true => rw [tlt_asym a a h] at h; cases h
/-- neither before the other -/
def teqv (a b : T) : Bool := !tlt a b && !tlt b a
def Tsd (l : List T) : Prop := l.Pairwise fun x y => tlt y x = false
theorem sorted_uniq : ∀ {l m : List T}, Tsd l → Tsd m → (∀ x, l.filter (teqv x) = m.filter (teqv x)) → l = m
  | [], [], _, _, _ => rfl
  | [], b :: m, _, _, h => by
    have := h b
    simp [teqv, tlt_irr] at this
  | a :: l, [], _, _, h => by
    have := h a
    simp [teqv, tlt_irr] at this
  | a :: l, b :: m, h1, h2, h => by
    have h1' := List.pairwise_cons.mp h1
    have h2' := List.pairwise_cons.mp h2
    have ab : tlt b a = false := by
      have mem : b ∈ (a :: l).filter (teqv b) := by rw [h b]; simp [teqv, tlt_irr]
      rcases List.mem_cons.mp (List.mem_filter.mp mem).1 with e | e
      · rw [e]; exact tlt_irr a
      · exact h1'.1 b e
    have ba : tlt a b = false := by
      have mem : a ∈ (b :: m).filter (teqv a) := by rw [← h a]; simp [teqv, tlt_irr]
      rcases List.mem_cons.mp (List.mem_filter.mp mem).1 with e | e
      · rw [e]; exact tlt_irr b
      · exact h2'.1 a e
    have ha := h a
    have e1 : teqv a a = true := by simp [teqv, tlt_irr]
    have e2 : teqv a b = true := by simp [teqv, ab, ba]
    rw [List.filter_cons_of_pos e1, List.filter_cons_of_pos e2] at ha
    have eq : a = b := (List.cons.inj ha).1
    subst eq
    congr 1
    refine sorted_uniq h1'.2 h2'.2 fun x => ?_
    have hx := h x
    by_cases q : teqv x a = true
    · rw [List.filter_cons_of_pos q, List.filter_cons_of_pos q] at hx
      exact (List.cons.inj hx).2
    · rw [List.filter_cons_of_neg q, List.filter_cons_of_neg q] at hx
      exact hx
theorem tins_mem {x z : T} : ∀ {l : List T}, z ∈ tins x l → z = x ∨ z ∈ l
  | [], h => by simp [tins] at h; exact .inl h
  | y :: l, h => by
    unfold tins at h
    split at h
    · rcases List.mem_cons.mp h with e | e
      · exact .inr (by simp [e])
      · exact (tins_mem e).imp id fun e => by simp [e]
    · rcases List.mem_cons.mp h with e | e
      · exact .inl e
      · exact .inr e
theorem tins_sorted {x : T} : ∀ {l : List T}, Tsd l → Tsd (tins x l)
  | [], _ => by unfold tins Tsd; simp
  | y :: l, h => by
    have h' := List.pairwise_cons.mp h
    unfold tins
    split
    · rename_i hy
      refine List.pairwise_cons.mpr ⟨fun z hz => ?_, tins_sorted h'.2⟩
      rcases tins_mem hz with e | e
      · rw [e]; exact tlt_asym y x hy
      · exact h'.1 z e
    · rename_i hy
      have hy : tlt y x = false := by simpa using hy
      refine List.pairwise_cons.mpr ⟨fun z hz => ?_, h⟩
      rcases List.mem_cons.mp hz with e | e
      · rw [e]; exact hy
      · exact tlt_tr x y z hy (h'.1 z e)
theorem tsort_sorted : ∀ l : List T, Tsd (tsort l)
  | [] => List.Pairwise.nil
  | x :: l => tins_sorted (tsort_sorted l)
theorem tins_filter {x z : T} : ∀ {l : List T}, Tsd l → (tins x l).filter (teqv z) = (x :: l).filter (teqv z)
  | [], _ => rfl
  | y :: l, h => by
    have h' := List.pairwise_cons.mp h
    unfold tins
    split
    · rename_i hy
      have ih := tins_filter (x := x) (z := z) h'.2
      by_cases q1 : teqv z y = true
      · have q2 : ¬ teqv z x = true := fun q2 => by
          unfold teqv at q1 q2
          simp only [Bool.and_eq_true, Bool.not_eq_true'] at q1 q2
          rw [tlt_tr x z y q2.1 q1.2] at hy
          cases hy
        rw [List.filter_cons_of_pos q1, ih, List.filter_cons_of_neg q2, List.filter_cons_of_neg q2, List.filter_cons_of_pos q1]
      · rw [List.filter_cons_of_neg q1, ih]
        by_cases q2 : teqv z x = true
        · rw [List.filter_cons_of_pos q2, List.filter_cons_of_pos q2, List.filter_cons_of_neg q1]
        · rw [List.filter_cons_of_neg q2, List.filter_cons_of_neg q2, List.filter_cons_of_neg q1]
    · rfl
theorem tsort_filter (z : T) : ∀ l : List T, (tsort l).filter (teqv z) = l.filter (teqv z)
  | [] => rfl
  | x :: l => by
    show (tins x (tsort l)).filter _ = _
    rw [tins_filter (tsort_sorted l)]
    by_cases q : teqv z x = true
    · rw [List.filter_cons_of_pos q, List.filter_cons_of_pos q, tsort_filter z l]
    · rw [List.filter_cons_of_neg q, List.filter_cons_of_neg q, tsort_filter z l]
theorem tsort_is {l m : List T} (h : Tsd l) (hf : ∀ x, l.filter (teqv x) = m.filter (teqv x)) : l = tsort m :=
  sorted_uniq h (tsort_sorted m) fun x => (hf x).trans (tsort_filter x m).symm
end Ev
end
section
set_option Elab.async false
set_option linter.all false
set_option maxRecDepth 100000
set_option maxHeartbeats 1000000
namespace Ev
open PySem PySem.Spec L2
open PySem.W (alike alikeAll dataLt rowLt)
mutual
theorem alike_toD : ∀ {a b : T}, alikeT a b = true → alike (toD a) (toD b) = true
  | .non, b, h => by cases b <;> simp_all [alikeT, toD, alike]
  | .bl _, b, h => by cases b <;> simp_all [alikeT, toD, alike]
  | .int _, b, h => by cases b <;> simp_all [alikeT, toD, alike]
  | .str _, b, h => by cases b <;> simp_all [alikeT, toD, alike]
  | .tup xs, b, h => by
    cases b with
    | tup ys => simp only [alikeT] at h; simp only [toD, alike]; exact alikes_toD h
    | _ => simp [alikeT] at h
  | .lst xs, b, h => by
    cases b with
    | lst ys => simp only [alikeT] at h; simp only [toD, alike]; exact alikes_toD h
    | _ => simp [alikeT] at h
  | .dct _ _, b, h => by cases b <;> simp [alikeT] at h
  | .fz _, b, h => by cases b <;> simp [alikeT] at h
theorem alikes_toD : ∀ {as bs : List T}, alikeTs as bs = true → alikeAll (toDs as) (toDs bs) = true
  | [], _, _ => by simp [toDs, alikeAll]
  | _ :: _, [], _ => by simp [toDs, alikeAll]
  | a :: as, b :: bs, h => by
    simp only [alikeTs, Bool.and_eq_true] at h
    simp only [toDs, alikeAll, Bool.and_eq_true]
    exact ⟨alike_toD h.1, alikes_toD h.2⟩
end
theorem nlt_scmp : ∀ x y : List Nat, decide (x < y) = oLt (scmp x y)
  | [], [] => by simp [scmp, oLt]
  | [], _ :: _ => by simp [scmp, oLt]
  | _ :: _, [] => by simp [scmp, oLt]
  | a :: x, b :: y => by
    have ih := nlt_scmp x y
    unfold scmp
    cases q : ncmp a b with
    | eq =>
      rw [ncmp_eq] at q
      subst q
      simp only [← ih]
      simp [List.cons_lt_cons_iff]
    | lt =>
      have : a < b := by
        unfold ncmp at q
        simp only [Nat.blt_eq] at q
        split at q
        · assumption
        · split at q <;> cases q
      simp [oLt, List.cons_lt_cons_iff, this]
    | gt =>
      have : b < a := by
        unfold ncmp at q
        simp only [Nat.blt_eq, Nat.beq_eq] at q
        split at q
        · cases q
        · split at q
          · cases q
          · omega
      have h1 : ¬ a < b := by omega
      have h2 : ¬ a = b := by omega
      simp [oLt, List.cons_lt_cons_iff, h1, h2]
theorem ilt_icmp (x y : Int) : decide (x < y) = oLt (icmp x y) := by
  unfold icmp
  split
  · simp [oLt, *]
  · split <;> simp [oLt, *]
mutual
theorem tlt_data : ∀ {a b : T} {n m : Nat}, fit n a = true → fit m b = true → alikeT a b = true → dataLt (toD a) (toD b) = tlt a b
  | .non, b, n, m, _, _, h => by
    cases b <;> simp [alikeT] at h
    exact PyProof.Rows.lex_irrefl (O := PyProof.Rows.itemOrd) _
  | .bl x, b, n, m, _, _, h => by
    cases b with
    | bl y =>
      simp only [toD, PySem.W.dataLt_bool]
      show _ = oLt (icmp (b2z x) (b2z y))
      rw [← ilt_icmp]
      cases x <;> cases y <;> rfl
    | _ => simp [alikeT] at h
  | .int x, b, n, m, _, _, h => by
    cases b with
    | int y =>
      simp only [toD, PySem.W.dataLt_int]
      exact ilt_icmp _ _
    | _ => simp [alikeT] at h
  | .str x, b, n, m, _, _, h => by
    cases b with
    | str y =>
      simp only [toD, PySem.W.dataLt_str, toS_cps]
      exact nlt_scmp _ _
    | _ => simp [alikeT] at h
  | .tup xs, b, n, m, f, g, h => by
    cases b with
    | tup ys =>
      cases n <;> cases m <;> simp only [fit] at f g <;> first | (cases f; done) | (cases g; done) | skip
      simp only [alikeT] at h
      simp only [toD, PySem.W.dataLt_tuple]
      exact tlts_data f g h
    | _ => simp [alikeT] at h
  | .lst xs, b, n, m, f, g, h => by
    cases b with
    | lst ys =>
      cases n <;> cases m <;> simp only [fit] at f g <;> first | (cases f; done) | (cases g; done) | skip
      simp only [alikeT] at h
      simp only [toD, PySem.W.dataLt_list]
      exact tlts_data f g h
    | _ => simp [alikeT] at h
  | .dct _ _, b, n, _, f, _, _ => by cases n <;> simp [fit] at f
  | .fz _, b, n, _, f, _, _ => by cases n <;> simp [fit] at f
theorem tlts_data : ∀ {as bs : List T} {n m : Nat}, fits n as = true → fits m bs = true → alikeTs as bs = true → rowLt (toDs as) (toDs bs) = oLt (tcmps as bs)
  | [], [], _, _, _, _, _ => by
    simp only [toDs, tcmps, oLt]
    exact PyProof.Rows.lex_irrefl _
  | [], b :: bs, _, _, _, _, _ => by
    simp only [toDs, tcmps, oLt, rowLt, PySem.W.toks_all_cons, PySem.W.keyToksAll]
    rw [PyProof.Rows.lex_diff (O := PyProof.Rows.itemOrd) (by simp)]
    rfl
  | a :: as, [], _, _, _, _, _ => by
    simp only [toDs, tcmps, oLt, rowLt, PySem.W.toks_all_cons, PySem.W.keyToksAll]
    rw [PyProof.Rows.lex_diff (O := PyProof.Rows.itemOrd) (by simp)]
    rfl
  | a :: as, b :: bs, n, m, f, g, h => by
    simp only [fits, Bool.and_eq_true] at f g
    simp only [alikeTs, Bool.and_eq_true] at h
    simp only [toDs, rowLt]
    rw [PySem.W.dataLt_cons (alike_toD h.1), eqv_teq f.1 g.1, tlt_data f.1 g.1 h.1]
    have ih := tlts_data f.2 g.2 h.2
    unfold rowLt at ih
    unfold teq tlt
    rw [tcmps]
    cases tcmp a b
    · simp [oEq, oLt]
    · simp only [oEq, if_true]; exact ih
    · simp [oEq, oLt]
end
/-- not after -/
def tle (a b : T) : Bool := !tlt b a
theorem tle_total : PySem.W.TotalLe tle where
  trans a b c h1 h2 := by
    simp only [tle, Bool.not_eq_true'] at *
    exact tlt_tr a b c h1 h2
  total a b := by
    cases h : tlt b a with
    | false => exact .inl (by simp [tle, h])
    | true => exact .inr (by simp [tle, tlt_asym b a h])
theorem merge_tsort (ts : List T) : ts.mergeSort tle = tsort ts := by
  refine (PySem.W.sort_unique tle_total ?_ fun c => ?_).symm
  · exact (tsort_sorted ts).imp fun h => by simp [tle, h]
  · have e : PySem.W.sameRank tle c = teqv c := by
      funext a
      show (!tlt a c && !tlt c a) = (!tlt c a && !tlt a c)
      rw [Bool.and_comm]
    rw [e]
    exact tsort_filter c ts
theorem fits_mem {n : Nat} : ∀ {ts : List T}, fits n ts = true → ∀ t ∈ ts, fit n t = true
  | [], _, t, h => by simp at h
  | x :: xs, f, t, h => by
    simp only [fits, Bool.and_eq_true] at f
    rcases List.mem_cons.mp h with rfl | h
    · exact f.1
    · exact fits_mem f.2 t h
structure SOk (ts : List T) : Prop where
  fit : fits 60 ts = true
  al : ∀ x ∈ ts, ∀ y ∈ ts, alikeT x y = true
  kd : PySem.W.Sortable (ts.map toD)
theorem sok_of {ts : List T} (h : sortOk ts = true) : SOk ts := by
  unfold sortOk at h
  simp only [Bool.and_eq_true, Bool.or_eq_true, List.all_eq_true] at h
  obtain ⟨⟨h1, h2⟩, h3⟩ := h
  refine ⟨h1, h2, ?_⟩
  rcases h3 with h3 | h3
  · refine .inl fun d hd => ?_
    obtain ⟨t, ht, rfl⟩ := List.mem_map.mp hd
    have := h3 t ht
    cases t with
    | tup us =>
      cases us with
      | nil => simp [tupNE] at this
      | cons u us => exact ⟨toD u, toDs us, by simp [toD, toDs]⟩
    | _ => simp [tupNE] at this
  · refine .inr fun d hd => ?_
    obtain ⟨t, ht, rfl⟩ := List.mem_map.mp hd
    have := h3 t ht
    have f := fits_mem h1 t ht
    cases t <;> simp_all [notTup, toD, fit]
/-- sorted by the library's order, told by the values -/
theorem merge_data {β : Type} (k : β → T) {bs : List β} (h : SOk (bs.map k)) : (bs.mergeSort (PySem.W.dataLe false fun b => toD (k b))).map k = tsort (bs.map k) := by
  rw [← merge_tsort]
  refine PySem.W.sort_maps k fun a ha b hb => ?_
  have ha' := List.mem_map_of_mem (f := k) ha
  have hb' := List.mem_map_of_mem (f := k) hb
  show (!dataLt (toD (k b)) (toD (k a))) = tle (k a) (k b)
  rw [tlt_data (fits_mem h.fit _ hb') (fits_mem h.fit _ ha') (h.al _ hb' _ ha')]
  rfl
end Ev
end
section
set_option Elab.async false
set_option linter.all false
set_option maxRecDepth 100000
set_option maxHeartbeats 1000000
namespace Ev
open PySem PySem.Spec PySem.Calls PyProof.Rows L2
open PySem.W (EachIs AllAlike SortsAt sortVals dataKind dataLe sortingHeap sortingHeap_old)
/-- nothing of s is lost in s' -/
structure Kp (s s' : Shared) : Prop where
  keep : ∀ b o, s.heap.get? b = some o → s'.heap.get? b = some o
  more : s.heap.objs.size ≤ s'.heap.objs.size
  gens : s'.gens = s.gens
  os : s'.os = s.os
section
variable {P : Program} {w : World} {A : Around} {E : Value → Shared → Prop} {s : Shared}
/-- what v's items are when they are gathered -/
def Col (P : Program) (w : World) (s : Shared) (v : Value) (C : List Value → Prop) : Prop :=
  ∀ (A1 : Around) (E1 : Value → Shared → Prop) (Q1 : List Value → Shared → Prop), A1.handled = none → (∀ s1 out, Kp s s1 → C out → Q1 out s1) → wpAny (model P w) A1 (collect v) Q1 E1 s
theorem col_list {l : Addr} {vs : List Value} (hl : s.heap.IsList l vs.toArray) (hz : vs.length ≤ sizeLine) : Col P w s (.ref l) (fun out => out = vs) := by
  intro A1 E1 Q1 _ h
  refine collect_list hl (h _ _ ⟨fun b o e => ?_, ?_, rfl, rfl⟩ rfl) hz
  · have hb := Heap.lt_size e
    exact (Heap.get?_update_ne _ _ _ _ (Nat.ne_of_lt hb)).trans (Heap.get?_push_of_some _ e)
  · show _ ≤ ((s.heap.push _).update _ _).objs.size
    rw [Heap.size_update, size_push']
    omega
theorem col_tup {l : Addr} {vs : List Value} (hl : s.heap.IsTuple l vs.toArray) (hz : vs.length ≤ sizeLine) : Col P w s (.ref l) (fun out => out = vs) := by
  intro A1 E1 Q1 _ h
  obtain ⟨ob, hob, hc, m, hd⟩ := id hl
  unfold collect
  refine wpAny_bind (wpAny_runValue (codeAny_builtin F.entry_proto_collect ?_))
  rw [Around.under_plainId F.plain_proto_collect _]
  show wpAny _ A1.in1 (newList [] >>= fun z => again (.builtin "list.__iadd__" ⟨[z, .ref l], []⟩)) _ _ s
  refine wpAny_bind (wpAny_newObj_type (wpAny_pure ⟨plainId_quiet F.plain_list_iadd _, codeAny_builtin F.entry_list_iadd ?_⟩))
  rw [Around.under_plainId F.plain_list_iadd _]
  have new : (s.heap.push { cls := .type "list", data := .seq ([] : List Value).toArray }).get? s.heap.objs.size = some (seqObj "list" #[] 0) := Heap.get?_push_size _ rfl
  have old : (s.heap.push { cls := .type "list", data := .seq ([] : List Value).toArray }).get? l = some ob := Heap.get?_push_of_some _ hob
  show wpAny _ A1.in1 (Builtin.List.listExtendWith (.ref s.heap.objs.size) (.ref l) (.ref s.heap.objs.size)) _ _ _
  unfold Builtin.List.listExtendWith
  refine wpAny_bind (wpAny_typeOf (T := "tuple") ⟨ob, old, hc⟩ ?_)
  rw [if_pos (by simp)]
  refine wpAny_bind (listItems_at old hd (wpAny_bind (listItems_at (xs := #[]) (n := 0) new rfl ?_)))
  rw [if_neg (by simp)]
  have hb : (#[] ++ vs.toArray).size ≤ sizeLine + 1 := by
    rw [Array.size_append, List.size_toArray]
    simp only [List.size_toArray, List.length_nil]
    omega
  refine wpAny_bind (listUpdate_at (xs := #[]) (n := 0) new rfl (wpAny_pure ?_) (Nat.zero_le _) hb)
  show wpAny _ A1 (load s.heap.objs.size >>= _) _ _ _
  refine wpAny_bind (wpAny_load (get?_update_seq new _) (wpAny_pure ?_))
  have eq : ((#[] : Array Value) ++ vs.toArray).toList = vs := by simp
  show Q1 ((#[] : Array Value) ++ vs.toArray).toList _
  rw [eq]
  refine h _ _ ⟨fun b o e => ?_, ?_, rfl, rfl⟩ rfl
  · have hb := Heap.lt_size e
    exact (Heap.get?_update_ne _ _ _ _ (Nat.ne_of_lt hb)).trans (Heap.get?_push_of_some _ e)
  · show _ ≤ ((s.heap.push _).update _ _).objs.size
    rw [Heap.size_update, size_push']
    omega
/-- sorted of what can be collected -/
theorem sorted_col {v : Value} {C : List Value → Prop} {β : Type} {R : Value → β → Prop} {enc : β → PyData} {B : List β → Prop} {Q : Value → Shared → Prop} (col : Col P w s v C) (hh : A.handled = none)
    (dat : ∀ s1 out, Kp s s1 → C out → ∃ bs : List β, EachIs R out bs ∧ EachIs (fun u b => ∃ as, Reads s1.heap u (enc b) as) out bs ∧ AllAlike (bs.map enc) ∧ PySem.W.Sortable (bs.map enc) ∧ bs.length ≤ sizeLine ∧ (∀ b ∈ bs, A.units + 2 + (enc b).depth < cLine) ∧ B bs)
    (hQ : ∀ s1 p out bs c, Kp s s1 → s.heap.objs.size ≤ p → s1.heap.get? p = some (seqObj "list" (List.toArray out) c) → B bs → out.length = bs.length → EachIs R out (bs.mergeSort (dataLe false enc)) → Q (.ref p) s1) :
    wpAny (model P w) A (call (.builtin "sorted") [v]) Q E s := by
  refine call_function_entry kind_sorted plain_sorted entry_sorted (args_sorted1 _) ?_
  unfold Builtin.«sorted»
  refine wpAny_bind (m := checkCount "sorted" 1 1 _) (wpAny_pure ?_)
  refine wpAny_bind (col A.in1 _ _ hh fun s1 vs k c => ?_)
  obtain ⟨bs, e1, e2, al, so, hz, hu, hB⟩ := dat s1 vs k c
  have hvz : vs.length ≤ sizeLine := by rw [e1.length]; exact hz
  refine wpAny_bind (wpAny_newList ?_ hvz)
  have at1 : (s1.heap.push (seqObj "list" vs.toArray 0)).get? s1.heap.objs.size = some (seqObj "list" vs.toArray 0) := Heap.get?_push_size _ rfl
  have e3 : EachIs (fun u b => ∃ as, Reads (sortingHeap (s1.heap.push (seqObj "list" vs.toArray 0)) s1.heap.objs.size vs) u (enc b) as) vs bs :=
    e2.mono fun u b ⟨as, r⟩ => ⟨as, PyProof.Rows.Reads.keeps (fun b o e => sortingHeap_old (Nat.ne_of_lt (Heap.lt_size e)) (Heap.get?_push_of_some _ e)) r⟩
  have S : SortsAt P w A.in1.in1 { s1 with heap := sortingHeap (s1.heap.push (seqObj "list" vs.toArray 0)) s1.heap.objs.size vs } (dataKind (sortingHeap (s1.heap.push (seqObj "list" vs.toArray 0)) s1.heap.objs.size vs) (bs.map enc)) vs :=
    SortsAt.data (s := { s1 with heap := sortingHeap (s1.heap.push (seqObj "list" vs.toArray 0)) s1.heap.objs.size vs }) (PySem.W.each_map (R := fun v d => ∃ as, Reads (sortingHeap (s1.heap.push (seqObj "list" vs.toArray 0)) s1.heap.objs.size vs) v d as) enc e3) al so (PySem.W.bound_map hu)
  refine wpAny_bind (wpAny_holding (wpAny_call_entry slot_list_sort ⟨_, at1, rfl⟩ entry_list_sort ?_ (args_list_sort _)))
  refine PySem.W.list_sort_vals (s := { s1 with heap := s1.heap.push (seqObj "list" vs.toArray 0) }) at1 S hvz ⟨_, rfl, wpAny_pure ⟨_, rfl, ?_⟩⟩
  have hlen : (sortVals (dataKind (sortingHeap (s1.heap.push (seqObj "list" vs.toArray 0)) s1.heap.objs.size vs) (bs.map enc)) false vs vs).length = bs.length := by
    rw [PySem.W.sortVals_length false rfl]; exact e1.length
  have hsd := PySem.W.sortVals_data (h' := sortingHeap (s1.heap.push (seqObj "list" vs.toArray 0)) s1.heap.objs.size vs) false e1 e3 al
  generalize sortVals (dataKind (sortingHeap (s1.heap.push (seqObj "list" vs.toArray 0)) s1.heap.objs.size vs) (bs.map enc)) false vs vs = out at hlen hsd ⊢
  obtain ⟨c, hc⟩ := sortedHeap_at (vs := vs) (out := List.toArray out) at1
  have sz : (sortedHeap (s1.heap.push (seqObj "list" vs.toArray 0)) s1.heap.objs.size vs (List.toArray out)).objs.size ≥ s1.heap.objs.size := Nat.le_of_lt (Heap.lt_size hc)
  refine hQ _ _ out bs c ⟨fun b o e => ?_, Nat.le_trans k.more sz, k.gens, k.os⟩ k.more hc hB hlen hsd
  have q := k.keep b o e
  have lt := Heap.lt_size q
  show (sortedHeap (s1.heap.push (seqObj "list" vs.toArray 0)) s1.heap.objs.size vs (List.toArray out)).get? b = some o
  rw [sortedHeap_old (Nat.ne_of_lt lt) (by rw [size_push']; exact Nat.lt_succ_of_lt lt)]
  exact Heap.get?_push_of_some _ q
end
section
variable {X : Cx} {pins : List (Addr × Obj)} {σ : L2.St} {H : Hp} {s : Shared} {Z : Zn}
theorem each_vt (I : Inv X pins σ H s) : ∀ {vs : List V} {us : List Value} {ts : List T}, Vals vs us → Rps X.K Z H vs ts → fits 60 ts = true →
    EachIs (fun u (b : V × T) => RelV b.1 u) us (vs.zip ts) ∧ EachIs (fun u (b : V × T) => ∃ as, Reads s.heap u (toD b.2) as) us (vs.zip ts)
  | [], us, ts, r, q, f => by
    cases r
    cases ts with
    | nil => exact ⟨.nil, .nil⟩
    | cons t ts => obtain ⟨_, _, e, _⟩ := q.uncons; cases e
  | v :: vs, us, ts, r, q, f => by
    cases r with
    | @cons _ u _ us r1 r2 =>
      cases ts with
      | nil => cases q.nil'
      | cons t ts =>
        obtain ⟨_, _, e, q1, q2⟩ := q.uncons
        cases e
        simp only [fits, Bool.and_eq_true] at f
        obtain ⟨a1, a2⟩ := each_vt I r2 q2 f.2
        exact ⟨.cons r1 a1, .cons (Dp.reads I (toD t) v u (Rp.dp f.1 q1).1 r1) a2⟩
theorem rps_zip {K : PySem.W.Frag} : ∀ {vs : List V} {ts : List T}, Rps K Z H vs ts → ∀ p ∈ vs.zip ts, Rp K Z H p.1 p.2
  | [], ts, h, p, hp => by simp at hp
  | v :: vs, [], h, p, hp => by simp at hp
  | v :: vs, t :: ts, h, p, hp => by
    obtain ⟨_, _, e, q1, q2⟩ := h.uncons
    cases e
    rw [List.zip_cons_cons] at hp
    rcases List.mem_cons.mp hp with rfl | hp
    · exact q1
    · exact rps_zip q2 p hp
theorem zip_rps {K : PySem.W.Frag} : ∀ {ps : List (V × T)}, (∀ p ∈ ps, Rp K Z H p.1 p.2) → Rps K Z H (ps.map (·.1)) (ps.map (·.2))
  | [], _ => .nil
  | p :: ps, h => .cons (h p List.mem_cons_self) (zip_rps fun q hq => h q (List.mem_cons_of_mem _ hq))
theorem each_vals : ∀ {us : List Value} {ps : List (V × T)}, EachIs (fun u (b : V × T) => RelV b.1 u) us ps → Vals (ps.map (·.1)) us
  | _, _, .nil => .nil
  | _, _, .cons h t => .cons h (each_vals t)
theorem alike_map {β : Type} {k : β → T} {bs : List β} (h : SOk (bs.map k)) : AllAlike (bs.map fun b => toD (k b)) := by
  intro d hd d' hd'
  obtain ⟨b, hb, rfl⟩ := List.mem_map.mp hd
  obtain ⟨b', hb', rfl⟩ := List.mem_map.mp hd'
  exact alike_toD (h.al _ (List.mem_map_of_mem hb) _ (List.mem_map_of_mem hb'))
/-- what is sorted stands in a new list -/
theorem sorted_fin (I : Inv X pins σ H s) {Q : VK} {s1 : Shared} {p : Addr} {out : List Value} {c : Nat} {ps : List (V × T)} (k : Kp s s1) (hp : s.heap.objs.size ≤ p) (hc : s1.heap.get? p = some (seqObj "list" (List.toArray out) c)) (hz : out.length ≤ sizeLine)
    (hr : ∀ b ∈ ps, Rp X.K Z H b.1 b.2) (hS : SOk (ps.map (·.2))) (e : EachIs (fun u (b : V × T) => RelV b.1 u) out (ps.mergeSort (dataLe false fun b => toD b.2)))
    (hQ : ∀ v H' fp, OPo X.K Z H H' v (.own (tsort (ps.map (·.2)))) fp → Q v H') : EP X pins σ Q (.ref p) s1 := by
  have hn : H p = none := I.hok.fresh hp
  have hv := each_vals e
  have hrp : Rps X.K Z H ((ps.mergeSort (dataLe false fun b => toD b.2)).map (·.1)) ((ps.mergeSort (dataLe false fun b => toD b.2)).map (·.2)) :=
    zip_rps fun q hq => hr q ((List.mergeSort_perm _ _).mem_iff.mp hq)
  rw [merge_data (fun b : V × T => b.2) hS] at hrp
  have hlen : ((ps.mergeSort (dataLe false fun b => toD b.2)).map (·.1)).length ≤ sizeLine := by rw [hv.length]; exact hz
  have J : Inv X pins σ (upd H p (.lst ((ps.mergeSort (dataLe false fun b => toD b.2)).map (·.1)))) { s with heap := s1.heap, gens := s1.gens, drawn := s1.drawn, toks := s1.toks } :=
    I.call (ch := []) (Un.laid k.keep hp hn) (I.hok.laid k.keep hp ⟨hlen, out, c, hv, hc⟩) (by rw [k.gens]; exact I.bare) (fun _ z => nomatch z)
  have es : s1 = { s with heap := s1.heap, gens := s1.gens, drawn := s1.drawn, toks := s1.toks } := by
    obtain ⟨_, _, _, _, os1⟩ := s1
    obtain ⟨_, _, _, _, os0⟩ := s
    have := k.os
    simp only at this
    subst this
    rfl
  rw [es]
  exact ⟨.ref p, _, J, rfl, hQ _ _ _ (.lst hn hrp)⟩
theorem zip_snd {K : PySem.W.Frag} {vs : List V} {ts : List T} (h : Rps K Z H vs ts) : (vs.zip ts).map (·.2) = ts := List.map_snd_zip (by rw [h.len]; exact Nat.le_refl _)
theorem depth_of {ps : List (V × T)} {n : Nat} (hr : ∀ b ∈ ps, Rp X.K Z H b.1 b.2) (hS : SOk (ps.map (·.2))) (hu : n + 65 < cLine) : ∀ b ∈ ps, n + 2 + (toD b.2).depth < cLine := fun b hb => by
  have f := fits_mem hS.fit b.2 (List.mem_map_of_mem (f := fun b : V × T => b.2) hb)
  have d := (Rp.dp f (hr b hb)).2.2
  omega
/-- sorted(d): its keys, texts -/
def rSrtD (K : PySem.W.Frag) : List V → Hp → VK → Prop := fun xs H Q => ∃ Z ks us v, xs = [v] ∧ (∀ a, Z a → H a ≠ none) ∧ Vw K Z H v (.dct ks us) ∧ ks.all isStr = true ∧ ks.length < 64 ∧ ∀ v H' fp, OPo K Z H H' v (.own (tsort ks)) fp → Q v H'
theorem cr_sorted1 (hca : X.calm = true) (hu : X.A.units + 65 < cLine) (hD : CallR X (.builtin "sorted") (rSrtD X.K)) : CallR X (.builtin "sorted") (fun xs H Q => OpG X.K .sorted xs H Q) := by
  intro pins s σ H xs us Q I rx ⟨Z, ts, r, hz, hv, he, hq⟩
  simp only [evOp, o_sorted] at he
  have go : ∀ {a : Addr} {vs : List V} {its : List Value} {ts : List T}, Vals vs its → vs.length ≤ sizeLine → Rps X.K Z H vs ts → sortOk ts = true → Col X.prog X.w s (.ref a) (fun out => out = its) →
      (∀ v H' fp, OPo X.K Z H H' v (.own (tsort ts)) fp → Q v H') → wpAny (model X.prog X.w) X.A (call (.builtin "sorted") [.ref a]) (EP X pins σ Q) X.xe s := by
    intro a vs its ts rv hl hr hs col hq
    have hS : SOk ((vs.zip ts).map (·.2)) := by rw [zip_snd hr]; exact sok_of hs
    have hr2 := rps_zip hr
    have hl2 : (vs.zip ts).length ≤ sizeLine := by rw [List.length_zip]; omega
    refine sorted_col (β := V × T) (R := fun u b => RelV b.1 u) (enc := fun b => toD b.2) (B := fun bs => bs = vs.zip ts) col (I.ok.hd hca) (fun s1 out k e => ?_) fun s1 p out bs c k hp hc hB hlen e => ?_
    · subst e
      obtain ⟨a1, a2⟩ := each_vt I rv hr (sok_of hs).fit
      refine ⟨_, a1, a2.mono fun u b ⟨as, r⟩ => ⟨as, PyProof.Rows.Reads.keeps k.keep r⟩, alike_map hS, ?_, hl2, depth_of hr2 hS hu, rfl⟩
      have := hS.kd
      rw [List.map_map] at this
      exact this
    · subst hB
      refine sorted_fin I k hp hc (by rw [hlen]; exact hl2) hr2 hS e ?_
      rw [zip_snd hr]
      exact hq
  split at he
  · split at he
    · rename_i ts hs
      cases he
      obtain ⟨v, rfl, h1⟩ := hv.one
      obtain ⟨p, vs, rfl, g1, g2⟩ := h1.lst
      obtain ⟨its, rv, pl, hzz⟩ := I.list (.of g1)
      rw [Vals.ref1 rx]
      exact go rv hzz g2 hs (col_list pl.isList (by rw [← rv.length]; exact hzz)) hq
    · cases he
  · split at he
    · rename_i ts hs
      cases he
      obtain ⟨v, rfl, h1⟩ := hv.one
      obtain ⟨p, vs, rfl, g1, g2⟩ := h1.tup
      obtain ⟨its, rv, pl, hzz⟩ := I.tuple (.of g1.1)
      rw [Vals.ref1 rx]
      exact go rv hzz g2 hs (col_tup pl (by rw [← rv.length]; exact hzz)) hq
    · cases he
  · split at he
    · rename_i ks uu hs
      cases he
      rw [Bool.and_eq_true] at hs
      obtain ⟨v, rfl, h1⟩ := hv.one
      exact hD pins s σ H _ us _ I rx ⟨Z, ks, _, v, rfl, hz, h1, hs.1, Nat.blt_eq.mp hs.2, hq⟩
    · cases he
  · cases he
end
end Ev
end
section
set_option Elab.async false
set_option linter.all false
set_option maxRecDepth 100000
set_option maxHeartbeats 1000000
namespace Ev
open PySem PySem.Spec PyProof.Rows L2
theorem paired_perm {α β : Type} {G : α → β → Prop} {l1 l2 : List α} (p : l1.Perm l2) : ∀ {ks : List β}, Paired G l2 ks → ∃ ks1, ks1.Perm ks ∧ Paired G l1 ks1 := by
  induction p with
  | nil => intro ks h; exact ⟨ks, .refl _, h⟩
  | cons x _ ih =>
    intro ks h
    cases h with
    | cons a b =>
      obtain ⟨k1, p1, q1⟩ := ih b
      exact ⟨_ :: k1, p1.cons _, .cons a q1⟩
  | swap x y l =>
    intro ks h
    cases h with
    | cons a b =>
      cases b with
      | cons c d => exact ⟨_, .swap _ _ _, .cons c (.cons a d)⟩
  | trans _ _ ih1 ih2 =>
    intro ks h
    obtain ⟨k1, p1, q1⟩ := ih2 h
    obtain ⟨k2, p2, q2⟩ := ih1 q1
    exact ⟨k2, p2.trans p1, q2⟩
theorem paired_mem {α β : Type} {G : α → β → Prop} {l : List α} {ks : List β} (h : Paired G l ks) : (∀ x ∈ l, ∃ k ∈ ks, G x k) ∧ ∀ k ∈ ks, ∃ x ∈ l, G x k := by
  induction h with
  | nil => exact ⟨fun _ h => by simp at h, fun _ h => by simp at h⟩
  | cons a _ ih =>
    refine ⟨fun x hx => ?_, fun k hk => ?_⟩
    · rcases List.mem_cons.mp hx with rfl | hx
      · exact ⟨_, List.mem_cons_self, a⟩
      · obtain ⟨k, k1, k2⟩ := ih.1 x hx
        exact ⟨k, List.mem_cons_of_mem _ k1, k2⟩
    · rcases List.mem_cons.mp hk with rfl | hk
      · exact ⟨_, List.mem_cons_self, a⟩
      · obtain ⟨x, k1, k2⟩ := ih.2 k hk
        exact ⟨x, List.mem_cons_of_mem _ k1, k2⟩
theorem paired_map {α β γ : Type} {G : α → β → Prop} {G2 : γ → β → Prop} (f : α → γ) (hg : ∀ a b, G a b → G2 (f a) b) {l : List α} {ks : List β} (h : Paired G l ks) : Paired G2 (l.map f) ks := by
  induction h with
  | nil => exact .nil
  | cons a _ ih => exact .cons (hg _ _ a) ih
section
variable (P : Program) (w : World)
/-- an entry of the table: its hash, its value -/
def Ent (e : Int × Value) (k : Key) : Prop := (mixKind P w).is k e.2 = true ∧ e.1 = (mixKind P w).hash k ∧ e.2.scannable = true
/-- the set at a: its keys in their order -/
def SetE (h : Heap) (a : Addr) (ks : List Key) : Prop :=
  ∃ o es ep t, h.get? a = some o ∧ o.ExactSet ∧ o.data = .set es ep t ∧ Paired (Ent P w) es.toList ks ∧ ks.Nodup ∧ es.size < scanBound ∧ t.fits es.size = true ∧ Ris t.place.toList ∧
    (w.params.followText "set-order" = true ∨ t.led = true)
/-- the set at a: just these keys -/
def SetM (h : Heap) (a : Addr) (m : List Key) : Prop := ∃ ks, SetE P w h a ks ∧ ∀ k, k ∈ ks ↔ k ∈ m
end
section
variable {P : Program} {w : World} {A : Around} {E : Value → Shared → Prop} {s : Shared} {h h' : Heap} {a : Addr} {ks m : List Key}
theorem SetE.at (R : SetE P w h a ks) (k : ∀ o, h.get? a = some o → h'.get? a = some o) : SetE P w h' a ks := by
  obtain ⟨o, es, ep, t, ho, r⟩ := R
  exact ⟨o, es, ep, t, k o ho, r⟩
theorem SetM.at (R : SetM P w h a m) (k : ∀ o, h.get? a = some o → h'.get? a = some o) : SetM P w h' a m := by
  obtain ⟨ks, r, q⟩ := R
  exact ⟨ks, r.at k, q⟩
theorem ent_elems {l : List (Int × Value)} (p : Paired (Ent P w) l ks) : ElemsOf (mixKind P w) l := fun e he => by
  obtain ⟨k, _, h1, h2, h3⟩ := (paired_mem p).1 e he
  exact ⟨⟨k, h1, h2⟩, h3⟩
theorem ent_key {l : List (Int × Value)} (p : Paired (Ent P w) l ks) (k : Key) : k ∈ ks ↔ ∃ e ∈ l, (mixKind P w).is k e.2 = true := by
  constructor
  · intro hk
    obtain ⟨e, he, h1, _⟩ := (paired_mem p).2 k hk
    exact ⟨e, he, h1⟩
  · rintro ⟨e, he, q⟩
    obtain ⟨k', hk', h1, _⟩ := (paired_mem p).1 e he
    rw [(mixKind P w).inj e.2 k k' q h1]
    exact hk'
/-- what is behind the table's store -/
theorem tail_in {g : Bool → Sem Unit} (hg : ∀ (b : Bool) (s1 : Shared) (Q1 : Unit → Shared → Prop), Q1 () s1 → wpAny (model P w) A (g b) Q1 E s1)
    {ob : Obj} {es0 es1 : Array (Int × Value)} {n : Nat} {t0 t1 : SetTable} (hob : s.heap.get? a = some ob) (ex : ob.ExactSet) (dt : ob.data = .set es0 n t0)
    (pr : Paired (Ent P w) es1.toList ks) (nd : ks.Nodup) (lt : es1.size < scanBound) (ft : t1.fits es1.size = true) (rs : Ris t1.place.toList) (ld : w.params.followText "set-order" = true ∨ t1.led = true)
    {dm : Bool} {Q : Option Bool → Shared → Prop} (hQ : ∀ hp ks1, Heap.SameBut a s.heap hp → ks1.Perm ks → SetE P w hp a ks1 → Q (some true) { s with heap := hp }) :
    wpAny (model P w) A (do
        storeSet a es1 t1
        if (!dm && t1.tooFull) = true then do
            g (relayAll t1 es1 (SetTable.grown es1.size)).2.2
            storeSet a (relayAll t1 es1 (SetTable.grown es1.size)).1 (relayAll t1 es1 (SetTable.grown es1.size)).2.1
            pure (some true)
          else pure (some true)) Q E s := by
  have same1 := Heap.SameBut.update s.heap a (Obj.putSet es1 t1)
  have got1 := store_at (es' := es1) (t' := t1) hob dt
  refine wpAny_bind (wpAny_storeSet_of hob dt ?_ (fits_of_scanBound lt))
  split
  · have q1 := relayAll_perm t1 es1 (SetTable.grown es1.size)
    have q2 := relayAll_fits t1 es1 (SetTable.grown es1.size)
    have q3 := relayAll_ris t1 es1 (SetTable.grown es1.size)
    have q4 := relayAll_led t1 es1 (SetTable.grown es1.size)
    generalize relayAll t1 es1 (SetTable.grown es1.size) = Y at q1 q2 q3 q4 ⊢
    obtain ⟨es2, t2, gv⟩ := Y
    dsimp only at q1 q2 q3 q4 ⊢
    obtain ⟨ks2, pm2, pr2⟩ := paired_perm q1 pr
    have sz : es2.size = es1.size := by
      have := q1.length_eq
      simpa using this
    have lt2 : es2.size < scanBound := by omega
    refine wpAny_bind (hg _ _ _ (wpAny_bind (wpAny_storeSet_of got1 rfl ?_ (fits_of_scanBound lt2))))
    refine wpAny_pure (hQ _ ks2 (same1.trans (Heap.SameBut.update _ a _)) pm2 ?_)
    exact ⟨_, es2, _, t2, store_at (es' := es2) (t' := t2) got1 rfl, ex, rfl, pr2, pm2.nodup_iff.mpr nd, lt2, q2, q3, ld.imp id fun z => q4.trans z⟩
  · exact wpAny_pure (hQ _ ks same1 (.refl _) ⟨_, es1, _, t1, got1, ex, rfl, pr, nd, lt, ft, rs, ld⟩)
/-- one key put in -/
theorem put_in {k : Key} {x : Value} {Q : Bool → Shared → Prop} (R : SetE P w s.heap a ks) (hk : (mixKind P w).is k x = true) (hx : x.scannable = true) (rm : ks.length + 1 < scanBound)
    (hQ : ∀ b hp ks1, Heap.SameBut a s.heap hp → SetE P w hp a ks1 → (∀ j, j ∈ ks1 ↔ j ∈ ks ∨ j = k) → Q b { s with heap := hp }) :
    wpAny (model P w) A (setAddHashed a x ((mixKind P w).hash k)) Q E s := by
  have R' := R
  obtain ⟨ob, es, n, t, hob, ex, dt, pr, nd, lt, ft, rs, ld⟩ := R
  have el := ent_elems pr
  have ln : es.size = ks.length := by rw [← pr.length, Array.length_toList]
  unfold setAddHashed setAddHashedIn
  refine wpAny_holding (wpAny_bind (wpAny_setState_of hob dt ft ?_))
  dsimp only
  rw [byScan_of hx lt el]
  simp only [↓reduceIte]
  unfold setAddByScan
  refine wpAny_bind (wpAny_bind (wpAny_rule (wpAny_bind (wpAny_setScan_of hk hob dt ft el ?_))))
  cases fi : List.findIdx? (fun e => (mixKind P w).is k e.2) es.toList with
  | some j =>
    dsimp only
    obtain ⟨hj, pj, _⟩ := List.findIdx?_eq_some_iff_getElem.mp fi
    have mem : k ∈ ks := (ent_key pr k).mpr ⟨es.toList[j], List.getElem_mem hj, pj⟩
    refine wpAny_pure (wpAny_pure (hQ _ s.heap ks (Heap.SameBut.refl a s.heap) R' fun i => ⟨.inl, fun q => q.elim id fun e => e ▸ mem⟩))
  | none =>
    dsimp only
    have nmem : k ∉ ks := fun q => by
      obtain ⟨e, he, c⟩ := (ent_key pr k).mp q
      have := List.findIdx?_eq_none_iff.mp fi e he
      rw [c] at this
      cases this
    have gw : ∀ (b : Bool) {s1 : Shared} {Q1 : Unit → Shared → Prop}, Q1 () s1 → wpAny (model P w) A (match b with | true => rule "set.scan.the-table-gave-way" | false => pure ()) Q1 E s1 := fun b s1 Q1 q => by
      cases b <;> first | exact wpAny_pure q | exact wpAny_rule q
    have q1 := layNew_perm t es ((mixKind P w).hash k) x
    have q2 := layNew_fits t es ((mixKind P w).hash k) x
    have q3 := layNew_ris t es ((mixKind P w).hash k) x rs
    have q4 := layNew_led t es ((mixKind P w).hash k) x
    generalize layNew t es ((mixKind P w).hash k) x = Y at q1 q2 q3 q4 ⊢
    obtain ⟨es1, t1, dm, gv⟩ := Y
    dsimp only at q1 q2 q3 q4 ⊢
    rw [Array.toList_push] at q1
    have pc : es1.toList.Perm (((mixKind P w).hash k, x) :: es.toList) := q1.trans (List.perm_append_singleton _ _)
    obtain ⟨ks1, pm1, pr1⟩ := paired_perm pc (Paired.cons (F := Ent P w) (⟨hk, rfl, hx⟩ : Ent P w ((mixKind P w).hash k, x) k) pr)
    have nd1 : ks1.Nodup := pm1.nodup_iff.mpr (List.nodup_cons.mpr ⟨nmem, nd⟩)
    have lt1 : es1.size < scanBound := by
      have := pc.length_eq
      simp only [Array.length_toList, List.length_cons] at this
      omega
    have ld1 : w.params.followText "set-order" = true ∨ t1.led = true := ld.imp id fun z => q4.trans z
    have fin : ∀ hp ks2, Heap.SameBut a s.heap hp → ks2.Perm ks1 → SetE P w hp a ks2 → Q true { s with heap := hp } := fun hp ks2 sb pm r => hQ _ hp ks2 sb r fun i => by
      rw [pm.mem_iff, pm1.mem_iff, List.mem_cons]
      exact Or.comm
    refine wpAny_bind (gw _ ?_)
    split
    · refine wpAny_bind ?_
      rw [hashByValue_scannable 8 hx]
      refine wpAny_pure (tail_in ?_ hob ex dt pr1 nd1 lt1 ?_ ?_ ?_ ?_)
      · exact fun b s1 Q1 q => gw b q
      · first | exact q2 | (split <;> first | exact q2 | exact SetTable.fits_plain_off q2)
      · first | exact q3 | (split <;> exact q3)
      · first | exact ld1 | (split <;> exact ld1)
      · intro hp ks2 sb pm r
        dsimp only
        exact wpAny_pure (fin hp ks2 sb pm r)
    · refine wpAny_bind (wpAny_pure ?_)
      simp only [↓reduceIte]
      refine tail_in ?_ hob ex dt pr1 nd1 lt1 q2 q3 ld1 ?_
      · exact fun b s1 Q1 q => gw b q
      · intro hp ks2 sb pm r
        dsimp only
        exact wpAny_pure (fin hp ks2 sb pm r)
theorem setM_zero (hob : h.get? a = some { cls := .type "set", dict := none, data := .set #[] 0 (.fresh 0 0 (!w.params.followText "set-order")) }) : SetM P w h a ([] : List Key) :=
  ⟨[], ⟨_, #[], 0, _, hob, ⟨rfl, rfl, rfl⟩, rfl, .nil, .nil, by decide, by rfl, List.Pairwise.nil, by
    show _ ∨ (!w.params.followText "set-order") = true
    cases w.params.followText "set-order"
    · exact .inr rfl
    · exact .inl rfl⟩, fun _ => Iff.rfl⟩
theorem nodup_leG {α : Type} [DecidableEq α] : ∀ {l m : List α}, l.Nodup → (∀ k ∈ l, k ∈ m) → l.length ≤ m.length
  | [], m, _, _ => Nat.zero_le _
  | x :: l, m, nd, hs => by
    obtain ⟨n1, n2⟩ := List.nodup_cons.mp nd
    have hx := hs x List.mem_cons_self
    have ih := nodup_leG (m := m.erase x) n2 fun k hk => (List.mem_erase_of_ne (a := k) (b := x) fun e => n1 (by rw [← e]; exact hk)).mpr (hs k (List.mem_cons_of_mem _ hk))
    rw [List.length_erase_of_mem hx] at ih
    have := List.length_pos_of_mem hx
    rw [List.length_cons]
    omega
theorem nodup_le {l m : List Key} (a : l.Nodup) (b : ∀ k ∈ l, k ∈ m) : l.length ≤ m.length := nodup_leG a b
end
section
variable {P : Program} {w : World} {A : Around} {E : Value → Shared → Prop} {s : Shared}
/-- the row's items, one behind another, put in -/
theorem all_in {I0 : Addr} {fp wr : List Addr} {G : Array GenState → Array GenState → Prop} {n : Nat} {Pv : Nat → Value → Prop} {St : Nat → Shared → Prop} {Q : Result → Shared → Prop}
    (W : WalksS P w A.in1 I0 fp wr G n Pv St) (S0 : Addr) (out : S0 ∉ fp) (m : List Key) (hn : n = m.length) (hb : m.length + 1 < scanBound) (hval : ∀ i v, Pv i v → ∃ k, m[i]? = some k ∧ (mixKind P w).is k v = true ∧ v.scannable = true) :
    ∀ (j i : Nat) (s : Shared), n - i = j → i ≤ n → St i s → SetM P w s.heap S0 (m.take i) →
      (∀ s1, Moved (S0 :: wr) G s s1 → SetM P w s1.heap S0 m → Q (.ok (.ret .none)) s1) → codeAny (model P w) A (.builtin "set.update.loop" ⟨[.ref S0, .ref I0], []⟩) Q s := by
  have wout : S0 ∉ wr := fun q => out (W.sub _ q)
  have sub : ∀ b ∈ wr, b ∈ S0 :: wr := fun b q => List.mem_cons_of_mem _ q
  intro j
  induction j with
  | zero =>
    intro i s hj hi st R hQ
    obtain rfl : i = n := by omega
    refine codeAny_builtin PyProof.Rows.F.entry_set_update_loop ?_
    rw [Around.under_plainId PyProof.Rows.F.plain_set_update_loop _]
    show wpAny _ A.in1 (pyNext (.ref I0) >>= _) _ _ s
    refine wpAny_bind (W.done s _ _ st fun s1 mv => ?_)
    show wpAny _ A.in1 (ret Value.none) _ _ s1
    rw [List.take_of_length_le (by omega)] at R
    exact wpAny_pure (hQ s1 (mv.mono sub) (R.at fun o e => mv.heap S0 o wout e))
  | succ j ih =>
    intro i s hj hi st R hQ
    have lt : i < n := by omega
    refine codeAny_builtin PyProof.Rows.F.entry_set_update_loop ?_
    rw [Around.under_plainId PyProof.Rows.F.plain_set_update_loop _]
    show wpAny _ A.in1 (pyNext (.ref I0) >>= _) _ _ s
    refine wpAny_bind (W.item i s _ _ lt st fun v s1 hv st1 mv => ?_)
    obtain ⟨k, hk, is, sc⟩ := hval i v hv
    have R1 : SetM P w s1.heap S0 (m.take i) := R.at fun o e => mv.heap S0 o wout e
    obtain ⟨ks, R2, mm⟩ := R1
    have le : ks.length ≤ (m.take i).length := by
      obtain ⟨_, _, _, _, _, _, _, _, nd, _⟩ := R2
      exact nodup_le nd fun k hk => (mm k).mp hk
    rw [List.length_take] at le
    show wpAny _ A.in1 (holding [v] (setAdd S0 v) >>= _) _ _ s1
    refine wpAny_bind (wpAny_holding ?_)
    unfold setAdd
    refine wpAny_holding (wpAny_bind ((mixKind P w).pyHash is ?_))
    refine put_in (s := { s1 with toks := s1.toks + 1 }) R2 is sc (by omega) fun b hp ks1 sb R3 m3 => ?_
    have R4 : SetM P w hp S0 (m.take (i + 1)) := ⟨ks1, R3, fun j => by
      rw [m3, mm, List.take_add_one, hk, List.mem_append]
      simp⟩
    refine wpAny_pure ⟨plainId_quiet PyProof.Rows.F.plain_set_update_loop _, ih (i + 1) _ (by omega) lt (W.frame _ s1 _ _ st1 (Nat.le_succ _) fun b hb' o e => ?_) R4 fun s2 mv2 R5 => ?_⟩
    · exact (sb.2 b fun q => out (q ▸ hb')).trans e
    · refine hQ s2 (Moved.trans W.gtrans ((mv.mono sub).then_heap (Nat.le_succ _) fun b o hb' e => ?_) mv2) R5
      exact (sb.2 b fun q => hb' (by rw [q]; exact List.mem_cons_self)).trans e
end
end Ev
end
section
set_option Elab.async false
set_option linter.all false
set_option maxRecDepth 100000
set_option maxHeartbeats 3200000
namespace Ev
open PySem PySem.Spec PyProof.Rows L2
section
variable {P : Program} {w : World} {A : Around} {E : Value → Shared → Prop} {s : Shared}
/-- the new empty set -/
abbrev newS (w : World) : Obj := { cls := .type "set", dict := none, data := .set #[] 0 (.fresh 0 0 (!w.params.followText "set-order")) }
/-- behind set(row): its keys are the row's, nothing else has changed -/
def MadeS (P : Program) (w : World) (s : Shared) (m : List Key) (s1 : Shared) : Prop := ∃ hp tk, s1 = { s with heap := hp, toks := tk } ∧ SetM P w hp s.heap.objs.size m ∧ ∀ b o, s.heap.get? b = some o → hp.get? b = some o
theorem init_tail {I0 : Addr} {fp : List Addr} {n : Nat} {Pv : Nat → Value → Prop} {St : Nat → Heap → Prop} {m : List Key} {h1 : Heap} {E1 : Value → Shared → Prop} {A1 : Around}
    (W : Walks P w A1.in1 I0 fp [I0] n Pv St) (out : s.heap.objs.size ∉ fp) (hn : n = m.length) (hb : m.length + 1 < scanBound) (hval : ∀ i v, Pv i v → ∃ k, m[i]? = some k ∧ (mixKind P w).is k v = true ∧ v.scannable = true)
    (hI : s.heap.objs.size < I0) (st : St 0 h1) (emp : SetM P w h1 s.heap.objs.size []) (kp : ∀ b o, s.heap.get? b = some o → h1.get? b = some o) :
    codeAny (model P w) A1 (.builtin "set.update.loop" ⟨[.ref s.heap.objs.size, .ref I0], []⟩) (wants (fun r s1 => r = .none ∧ MadeS P w s m s1) E1) { s with heap := h1 } := by
  refine all_in W.toS s.heap.objs.size out m hn hb hval (n - 0) 0 _ rfl (Nat.zero_le _) st (by rw [List.take_zero]; exact emp) fun s1 mv R => ?_
  obtain ⟨hp, g1, d1, tk, os1⟩ := s1
  obtain rfl : g1 = s.gens := mv.gens
  obtain rfl : d1 = s.drawn := mv.drawn
  obtain rfl : os1 = s.os := mv.os
  refine ⟨rfl, hp, tk, rfl, R, fun b o e => ?_⟩
  have lt := Heap.lt_size e
  refine mv.heap b o (fun q => ?_) (kp b o e)
  rcases List.mem_cons.mp q with q | q
  · exact Nat.ne_of_lt lt q
  · exact absurd lt (by rw [List.mem_singleton.mp q]; exact Nat.not_lt_of_lt hI)
/-- set(row), whatever the row is -/
theorem set_call {x : Value} {m : List Key} {Q : Value → Shared → Prop}
    (init : ∀ (A1 : Around) (E1 : Value → Shared → Prop), A1.handled = none → wpAny (model P w) A1.in1 (Builtin.«set.__init__» ⟨[.ref s.heap.objs.size, x], []⟩) (fun f s1 => match f with | .done f => wants (fun r s1 => r = .none ∧ MadeS P w s m s1) E1 (.ok f) s1 | .again c => c.quiet = true ∧ codeAny (model P w) A1 c (wants (fun r s1 => r = .none ∧ MadeS P w s m s1) E1) s1) (fun e s1 => wants (fun r s1 => r = .none ∧ MadeS P w s m s1) E1 (.error e) s1) { s with heap := s.heap.push (newS w) })
    (hh : A.handled = none) (h : ∀ s1, MadeS P w s m s1 → Q (.ref s.heap.objs.size) s1) :
    wpAny (model P w) A (call (.type "set") [x]) Q E s := by
  obtain ⟨_, _, hmro⟩ := PySem.F.called_set.mro
  have hmade := PySem.F.called_set.made
  have hsub := PySem.F.called_set.sub
  refine wpAny_call (codeAny_of_tree ?_)
  show wpAny _ _ (callAny (.type "set") _) _ _ _
  refine wpAny_pure ⟨Code.quiet_builtin _ (by decide +kernel), codeAny_builtin PySem.F.entry_type_call ?_⟩
  rw [Around.under_plain (weight_type_call_type "set" [x] []) rfl]
  have h1 := PySem.F.called_set.notType
  have h2 := PySem.F.called_set.canCreate
  have hct := PySem.F.typeCall_set_1 x
  repeat (any_goals (first | assumption | wp_step))
  refine codeAny_mono (code_set_led1 x (E := E) (Q₁ := fun ob s1 => ob = .ref s.heap.objs.size ∧ s1 = { s with heap := s.heap.push (newS w) }) ⟨rfl, rfl⟩) fun r s1 hr => ?_
  match r, hr with
  | .error e, hr => exact hr
  | .ok (.ret ob), hr =>
    obtain ⟨rfl, rfl⟩ := hr
    have at0 : (s.heap.push (newS w)).get? s.heap.objs.size = some (newS w) := Heap.get?_push_size _ rfl
    have ty : Shared.TypeIs { s with heap := s.heap.push (newS w) } (.ref s.heap.objs.size) "set" := ⟨_, at0, rfl⟩
    have hli := PySem.F.called_set.init.lookup
    have hbi := PySem.F.called_set.init.bind (.ref s.heap.objs.size)
    repeat (any_goals (first | assumption | wp_step))
    refine codeAny_mono (codeAny_call_builtin (R := wants (fun r s1 => r = .none ∧ MadeS P w s m s1) E) PySem.F.called_set.init.plain PySem.F.entry_set_init (check_set_init_1 ty ?_)) fun r2 s2 hr2 => ?_
    · exact init A.in1 E hh
    · match r2, hr2 with
      | .error e, hr2 => exact hr2
      | .ok (.ret r), hr2 =>
        obtain ⟨rfl, hm⟩ := hr2
        have hq := h _ hm
        repeat (any_goals (first | assumption | wp_step))
theorem paired_at {α β : Type} {G : α → β → Prop} : ∀ {l : List α} {ks : List β}, Paired G l ks → ∀ (i : Nat) (x : α), l[i]? = some x → ∃ k, ks[i]? = some k ∧ G x k
  | _, _, .nil, i, x, e => by simp at e
  | _, _, .cons r t, 0, x, e => by
    simp at e
    subst e
    exact ⟨_, rfl, r⟩
  | _, _, .cons r t, i + 1, x, e => by
    obtain ⟨k, k1, k2⟩ := paired_at t i x (by simpa using e)
    exact ⟨k, by simpa using k1, k2⟩
theorem init_list {l : Addr} {us : List Value} {m : List Key} (hl : s.heap.IsList l us.toArray) (hp : Paired (fun u k => (mixKind P w).is k u = true ∧ u.scannable = true) us m) (hb : m.length + 1 < scanBound) (A1 : Around) (E1 : Value → Shared → Prop) (hh : A1.handled = none) :
    wpAny (model P w) A1.in1 (Builtin.«set.__init__» ⟨[.ref s.heap.objs.size, .ref l], []⟩) (fun f s1 => match f with | .done f => wants (fun r s1 => r = .none ∧ MadeS P w s m s1) E1 (.ok f) s1 | .again c => c.quiet = true ∧ codeAny (model P w) A1 c (wants (fun r s1 => r = .none ∧ MadeS P w s m s1) E1) s1) (fun e s1 => wants (fun r s1 => r = .none ∧ MadeS P w s m s1) E1 (.error e) s1) { s with heap := s.heap.push (newS w) } := by
  obtain ⟨⟨ocls, odict, odata, oslots⟩, hob, hc, n, hd⟩ := id hl
  simp only at hc hd
  subst hc; subst hd
  have at0 : (s.heap.push (newS w)).get? s.heap.objs.size = some (newS w) := Heap.get?_push_size _ rfl
  have ty : Shared.TypeIs { s with heap := s.heap.push (newS w) } (.ref s.heap.objs.size) "set" := ⟨_, at0, rfl⟩
  have old : (s.heap.push (newS w)).get? l = some { cls := .type "list", dict := odict, data := .seq us.toArray n, slots := oslots } := Heap.get?_push_of_some _ hob
  have n1 := PySem.F.sub_list_set
  have n2 := PySem.F.sub_list_frozenset
  have n3 : (Value.type "list" == Value.type "dict") = false := by decide
  have hl1 : (s.heap.push (newS w)).IsList l us.toArray := ⟨_, old, rfl, n, rfl⟩
  unfold Builtin.«set.__init__» noKeywords Builtin.Frozenset.updateFrom
  generalize hPI : pyIter = PI
  wp_walk
  subst hPI
  refine wpAny_pyIter_list hl1 (wpAny_bind (wpAny_runValue ?_))
  have lt := Heap.lt_size hob
  have sz1 : (s.heap.push (newS w)).objs.size = s.heap.objs.size + 1 := Heap.size_push ..
  have hne : l ≠ (s.heap.push (newS w)).objs.size := by rw [sz1]; exact Nat.ne_of_lt (Nat.lt_succ_of_lt lt)
  have hlen : us.toArray.size = m.length := by rw [List.size_toArray]; exact hp.length
  refine codeAny_mono (init_tail (s := s) (A1 := A1.in1) (E1 := E1) (m := m) (Walks.list (A := A1.in1.in1) hh _ l hne us.toArray) ?_ hlen hb (fun i v hv => ?_) ?_ ⟨⟨_, Heap.get?_push_size _ rfl, rfl, rfl⟩, hl1.push _⟩ (setM_zero (Heap.get?_push_of_some _ at0)) (fun b o e => Heap.get?_push_of_some _ (Heap.get?_push_of_some _ e))) fun r s1 hr => ?_
  · rw [sz1]
    simp only [List.mem_cons, List.not_mem_nil, or_false, not_or]
    exact ⟨Nat.ne_of_lt (Nat.lt_succ_self _), Nat.ne_of_gt lt⟩
  · exact paired_at hp i v (by rw [← Array.getElem?_toList] at hv; exact hv)
  · rw [sz1]; exact Nat.lt_succ_self _
  · match r, hr with
    | .error e, hr => exact hr
    | .ok (.ret v), hr => exact wpAny_pure (wpAny_pure ⟨rfl, hr.2⟩)
theorem init_tup {l : Addr} {us : List Value} {m : List Key} (hl : s.heap.IsTuple l us.toArray) (hp : Paired (fun u k => (mixKind P w).is k u = true ∧ u.scannable = true) us m) (hb : m.length + 1 < scanBound) (A1 : Around) (E1 : Value → Shared → Prop) (hh : A1.handled = none) :
    wpAny (model P w) A1.in1 (Builtin.«set.__init__» ⟨[.ref s.heap.objs.size, .ref l], []⟩) (fun f s1 => match f with | .done f => wants (fun r s1 => r = .none ∧ MadeS P w s m s1) E1 (.ok f) s1 | .again c => c.quiet = true ∧ codeAny (model P w) A1 c (wants (fun r s1 => r = .none ∧ MadeS P w s m s1) E1) s1) (fun e s1 => wants (fun r s1 => r = .none ∧ MadeS P w s m s1) E1 (.error e) s1) { s with heap := s.heap.push (newS w) } := by
  obtain ⟨⟨ocls, odict, odata, oslots⟩, hob, hc, n, hd⟩ := id hl
  simp only at hc hd
  subst hc; subst hd
  have at0 : (s.heap.push (newS w)).get? s.heap.objs.size = some (newS w) := Heap.get?_push_size _ rfl
  have ty : Shared.TypeIs { s with heap := s.heap.push (newS w) } (.ref s.heap.objs.size) "set" := ⟨_, at0, rfl⟩
  have old : (s.heap.push (newS w)).get? l = some { cls := .type "tuple", dict := odict, data := .seq us.toArray n, slots := oslots } := Heap.get?_push_of_some _ hob
  have n1 := PySem.F.sub_tuple_set
  have n2 := PySem.F.sub_tuple_frozenset
  have n3 : (Value.type "tuple" == Value.type "dict") = false := by decide
  have hl1 : (s.heap.push (newS w)).IsTuple l us.toArray := ⟨_, old, rfl, n, rfl⟩
  unfold Builtin.«set.__init__» noKeywords Builtin.Frozenset.updateFrom
  generalize hPI : pyIter = PI
  wp_walk
  subst hPI
  refine wpAny_pyIter_tuple hl1 (wpAny_bind (wpAny_runValue ?_))
  have lt := Heap.lt_size hob
  have sz1 : (s.heap.push (newS w)).objs.size = s.heap.objs.size + 1 := Heap.size_push ..
  have hne : l ≠ (s.heap.push (newS w)).objs.size := by rw [sz1]; exact Nat.ne_of_lt (Nat.lt_succ_of_lt lt)
  have hlen : us.toArray.size = m.length := by rw [List.size_toArray]; exact hp.length
  refine codeAny_mono (init_tail (s := s) (A1 := A1.in1) (E1 := E1) (m := m) (Walks.tuple (A := A1.in1.in1) hh _ l hne us.toArray) ?_ hlen hb (fun i v hv => ?_) ?_ ⟨⟨_, Heap.get?_push_size _ rfl, rfl, rfl⟩, hl1.push _⟩ (setM_zero (Heap.get?_push_of_some _ at0)) (fun b o e => Heap.get?_push_of_some _ (Heap.get?_push_of_some _ e))) fun r s1 hr => ?_
  · rw [sz1]
    simp only [List.mem_cons, List.not_mem_nil, or_false, not_or]
    exact ⟨Nat.ne_of_lt (Nat.lt_succ_self _), Nat.ne_of_gt lt⟩
  · exact paired_at hp i v (by rw [← Array.getElem?_toList] at hv; exact hv)
  · rw [sz1]; exact Nat.lt_succ_self _
  · match r, hr with
    | .error e, hr => exact hr
    | .ok (.ret v), hr => exact wpAny_pure (wpAny_pure ⟨rfl, hr.2⟩)
end
end Ev
end
section
set_option Elab.async false
set_option linter.all false
set_option maxRecDepth 100000
set_option maxHeartbeats 1000000
namespace Ev
open PySem PySem.Spec PyProof.Rows L2
mutual
theorem alike_eq : ∀ {a b : T} {n m : Nat}, fit n a = true → fit m b = true → alikeT a b = true → tcmp a b = .eq → a = b
  | .non, b, _, _, _, _, h, e => by cases b <;> simp_all [alikeT]
  | .bl x, b, _, _, _, _, h, e => by
    cases b with
    | bl y =>
      have : b2z x = b2z y := icmp_eq.mp e
      cases x <;> cases y <;> first | rfl | cases this
    | _ => simp [alikeT] at h
  | .int x, b, _, _, _, _, h, e => by
    cases b with
    | int y => rw [icmp_eq.mp (show icmp x y = .eq from e)]
    | _ => simp [alikeT] at h
  | .str x, b, _, _, _, _, h, e => by
    cases b with
    | str y => rw [scmp_eq.mp (show scmp x y = .eq from e)]
    | _ => simp [alikeT] at h
  | .tup xs, b, n, m, f, g, h, e => by
    cases b with
    | tup ys =>
      cases n <;> cases m <;> simp only [fit] at f g <;> first | (cases f; done) | (cases g; done) | skip
      simp only [alikeT] at h
      rw [alikes_eq f g h (by simpa only [tcmp] using e)]
    | _ => simp [alikeT] at h
  | .lst xs, b, n, m, f, g, h, e => by
    cases b with
    | lst ys =>
      cases n <;> cases m <;> simp only [fit] at f g <;> first | (cases f; done) | (cases g; done) | skip
      simp only [alikeT] at h
      rw [alikes_eq f g h (by simpa only [tcmp] using e)]
    | _ => simp [alikeT] at h
  | .dct _ _, b, n, _, f, _, _, _ => by cases n <;> simp [fit] at f
  | .fz _, b, n, _, f, _, _, _ => by cases n <;> simp [fit] at f
theorem alikes_eq : ∀ {as bs : List T} {n m : Nat}, fits n as = true → fits m bs = true → alikeTs as bs = true → tcmps as bs = .eq → as = bs
  | [], [], _, _, _, _, _, _ => rfl
  | [], _ :: _, _, _, _, _, _, e => by simp [tcmps] at e
  | _ :: _, [], _, _, _, _, _, e => by simp [tcmps] at e
  | a :: as, b :: bs, n, m, f, g, h, e => by
    simp only [fits, Bool.and_eq_true] at f g
    simp only [alikeTs, Bool.and_eq_true] at h
    simp only [tcmps] at e
    cases q : tcmp a b <;> rw [q] at e <;> first | (cases e; done) | skip
    rw [alike_eq f.1 g.1 h.1 q, alikes_eq f.2 g.2 h.2 e]
end
theorem teqv_cmp {a b : T} (h : teqv a b = true) : tcmp a b = .eq := by
  unfold teqv tlt at h
  rw [tcmp_sw a b] at h
  cases q : tcmp a b <;> rw [q] at h <;> simp [oLt, Ordering.swap] at h ⊢
/-- the same things, told apart by the order: the same row -/
theorem tsort_perm {l m : List T} (p : l.Perm m) (h : ∀ x ∈ l, ∀ y ∈ l, tcmp x y = .eq → x = y) : tsort l = tsort m := by
  refine tsort_is (tsort_sorted l) fun x => ?_
  rw [tsort_filter]
  have key : ∀ z ∈ l, ∀ w ∈ l, teqv x z = true → teqv x w = true → z = w := fun z hz w hw a b => by
    refine h z hz w hw ?_
    have a1 := teqv_cmp a
    have b1 := teqv_cmp b
    refine tcmp_tr z x w .eq ?_
    rw [tcmp_sw x z, a1, b1]
    rfl
  have pf := p.filter (teqv x)
  have same : ∀ {u v : List T}, u.Perm v → (∀ z ∈ u, ∀ w ∈ u, z = w) → u = v := fun {u v} q hh => by
    cases u with
    | nil => exact (List.Perm.nil_eq q)
    | cons a u =>
      have e1 : (a :: u) = List.replicate (a :: u).length a := List.eq_replicate_of_mem fun b hb => hh b hb a List.mem_cons_self
      have e2 : v = List.replicate v.length a := List.eq_replicate_of_mem fun b hb => hh b (q.mem_iff.mpr hb) a List.mem_cons_self
      rw [e1, e2, q.length_eq]
  refine same pf fun z hz w hw => ?_
  obtain ⟨z1, z2⟩ := List.mem_filter.mp hz
  obtain ⟨w1, w2⟩ := List.mem_filter.mp hw
  exact key z z1 w w1 z2 w2
def tk : T → Key
  | .int i => .inl i
  | .str s => .inr (toS s)
  | _ => .inl 0
def tkey : T → Bool
  | .int _ => true
  | .str _ => true
  | _ => false
theorem keyT_tk {t : T} (h : tkey t = true) : keyT (tk t) = t := by
  cases t <;> first | (simp [tkey] at h; done) | simp [keyT, tk, toS_cps]
theorem tk_keyT (k : Key) : tk (keyT k) = k := by
  cases k with
  | inl i => rfl
  | inr z => rfl
theorem key_alike {ts : List T} (h : ts.all isStr = true ∨ ts.all isInt = true) : (∀ t ∈ ts, tkey t = true) ∧ (∀ a ∈ ts, ∀ b ∈ ts, alikeT a b = true) ∧ ∀ t ∈ ts, fit 60 t = true := by
  simp only [List.all_eq_true] at h
  rcases h with h | h
  · have st : ∀ t ∈ ts, ∃ s, t = .str s := fun t ht => by
      have := h t ht
      cases t <;> first | (simp [isStr] at this; done) | exact ⟨_, rfl⟩
    refine ⟨fun t ht => ?_, fun a ha b hb => ?_, fun t ht => ?_⟩
    · obtain ⟨s, rfl⟩ := st t ht; rfl
    · obtain ⟨s, rfl⟩ := st a ha; obtain ⟨s, rfl⟩ := st b hb; rfl
    · obtain ⟨s, rfl⟩ := st t ht; rfl
  · have st : ∀ t ∈ ts, ∃ s, t = .int s := fun t ht => by
      have := h t ht
      cases t <;> first | (simp [isInt] at this; done) | exact ⟨_, rfl⟩
    refine ⟨fun t ht => ?_, fun a ha b hb => ?_, fun t ht => ?_⟩
    · obtain ⟨s, rfl⟩ := st t ht; rfl
    · obtain ⟨s, rfl⟩ := st a ha; obtain ⟨s, rfl⟩ := st b hb; rfl
    · obtain ⟨s, rfl⟩ := st t ht; rfl
theorem tmem_mem {ts : List T} (h : ts.all isStr = true ∨ ts.all isInt = true) {x : T} {us : List T} (hx : x ∈ ts) (hu : ∀ u ∈ us, u ∈ ts) : tmem x us = true ↔ x ∈ us := by
  obtain ⟨k1, k2, k3⟩ := key_alike h
  unfold tmem
  rw [List.any_eq_true]
  constructor
  · rintro ⟨y, hy, e⟩
    unfold teq at e
    have hyt := hu y hy
    have : tcmp y x = .eq := by cases q : tcmp y x <;> rw [q] at e <;> first | rfl | cases e
    rw [← alike_eq (k3 y hyt) (k3 x hx) (k2 y hyt x hx) this]
    exact hy
  · intro hxu
    refine ⟨x, hxu, ?_⟩
    unfold teq
    have : tcmp x x = .eq := by
      have s := tcmp_sw x x
      cases q : tcmp x x <;> rw [q] at s <;> first | rfl | cases s
    rw [this]
    rfl
theorem dedup_sub : ∀ {ts : List T} {x : T}, x ∈ dedup ts → x ∈ ts
  | [], x, h => by simp [dedup] at h
  | t :: ts, x, h => by
    unfold dedup at h
    split at h
    · exact List.mem_cons_of_mem _ (dedup_sub h)
    · rcases List.mem_cons.mp h with rfl | h
      · exact List.mem_cons_self
      · exact List.mem_cons_of_mem _ (dedup_sub h)
theorem dedup_ok : ∀ {ts : List T}, (ts.all isStr = true ∨ ts.all isInt = true) → (dedup ts).Nodup ∧ ∀ x, x ∈ dedup ts ↔ x ∈ ts
  | [], _ => ⟨by simp [dedup], fun x => by simp [dedup]⟩
  | t :: ts, h => by
    have h' : ts.all isStr = true ∨ ts.all isInt = true := by
      simp only [List.all_cons, Bool.and_eq_true] at h
      exact h.imp (·.2) (·.2)
    obtain ⟨i1, i2⟩ := dedup_ok h'
    have mm := tmem_mem h (x := t) (us := ts) List.mem_cons_self fun u hu => List.mem_cons_of_mem _ hu
    unfold dedup
    split
    · rename_i hm
      have := mm.mp hm
      refine ⟨i1, fun x => ?_⟩
      rw [i2, List.mem_cons]
      exact ⟨.inr, fun q => q.elim (fun e => e ▸ this) id⟩
    · rename_i hm
      have : t ∉ ts := fun q => hm (mm.mpr q)
      refine ⟨List.nodup_cons.mpr ⟨fun q => this (dedup_sub q), i1⟩, fun x => ?_⟩
      rw [List.mem_cons, List.mem_cons, i2]
theorem map_nodup {ks : List Key} (h : ks.Nodup) : (ks.map keyT).Nodup := by
  refine List.pairwise_map.mpr (h.imp fun {a b} n e => n ?_)
  rw [← tk_keyT a, e, tk_keyT b]
theorem keys_perm {ts : List T} (h : ts.all isStr = true ∨ ts.all isInt = true) {ks : List Key} (nd : ks.Nodup) (hm : ∀ k, k ∈ ks ↔ k ∈ ts.map tk) : (ks.map keyT).Perm (dedup ts) := by
  obtain ⟨d1, d2⟩ := dedup_ok h
  obtain ⟨k1, _, _⟩ := key_alike h
  refine (List.perm_ext_iff_of_nodup (map_nodup nd) d1).mpr fun x => ?_
  rw [d2, List.mem_map]
  constructor
  · rintro ⟨k, hk, rfl⟩
    obtain ⟨t, ht, rfl⟩ := List.mem_map.mp ((hm k).mp hk)
    rw [keyT_tk (k1 t ht)]
    exact ht
  · intro hx
    exact ⟨tk x, (hm _).mpr (List.mem_map_of_mem hx), keyT_tk (k1 x hx)⟩
end Ev
end
section
set_option Elab.async false
set_option linter.all false
set_option maxRecDepth 100000
set_option maxHeartbeats 1000000
namespace Ev
open PySem PySem.Spec PyProof.Rows L2
/-- a set of just these keys at p -/
def SetX (P : Program) (w : World) (p : Addr) (m : List Key) : HO := .ext fun h => SetM P w h p m
section
variable {X : Cx} {pins : List (Addr × Obj)} {σ : L2.St} {H : Hp} {s : Shared} {Z : Zn}
theorem setX_ok {P : Program} {w : World} {H : Hp} {h : Heap} {a : Addr} {m : List Key} (R : SetM P w h a m) : ObjOk P w H h a (SetX P w a m) := by
  have R' := R
  obtain ⟨ks, ⟨o, es, ep, t, ho, _⟩, _⟩ := R
  exact ⟨R', ⟨o, ho⟩, fun h1 h2 p k => SetM.at p k⟩
theorem setX_get {a : Addr} {m : List Key} (I : Inv X pins σ H s) (ha : H a = some (SetX X.prog X.w a m)) : SetM X.prog X.w s.heap a m := (I.hok a _ ha).1
theorem keys_paired {P : Program} {w : World} : ∀ {m : List Key} {us : List Value}, Vals (m.map kV) us → Paired (fun u k => (mixKind P w).is k u = true ∧ u.scannable = true) us m
  | [], _, h => by cases h; exact .nil
  | k :: m, _, h => by
    cases h with
    | cons a b => exact .cons ⟨kV_is a, key_scan a⟩ (keys_paired b)
/-- set(row) -/
def rSet (P : Program) (w : World) (K : PySem.W.Frag) : List V → Hp → VK → Prop := fun xs H Q => ∃ (a : Addr) (m : List Key), xs = [.ref a] ∧ (SqL K H a (m.map kV) ∨ SqT K H a (m.map kV)) ∧ m.length ≤ 4000 ∧ ∀ p, H p = none → Q (.ref p) (upd H p (SetX P w p m))
theorem cr_set (hc : X.calm = true) : CallR X (.type "set") (rSet X.prog X.w X.K) := by
  intro pins s σ H xs us Q I rx ⟨a, m, hx, hs, hl, hq⟩
  subst hx
  rw [Vals.ref1 rx]
  have bd : m.length + 1 < scanBound := by
    have : scanBound = 4096 := rfl
    omega
  have fin : ∀ s1, MadeS X.prog X.w s m s1 → EP X pins σ Q (.ref s.heap.objs.size) s1 := fun s1 hm => by
    obtain ⟨hp, tk, rfl, R, kp⟩ := hm
    exact ⟨.ref _, upd H s.heap.objs.size (SetX X.prog X.w s.heap.objs.size m), I.laid kp (Nat.le_refl _) (setX_ok R), rfl, hq _ (I.hok.fresh (Nat.le_refl _))⟩
  rcases hs with hs | hs
  · obtain ⟨its, rv, pl, _⟩ := I.list hs
    exact set_call (fun A1 E1 hh => init_list pl.isList (keys_paired rv) bd A1 E1 hh) (I.ok.hd hc) fin
  · obtain ⟨its, rv, pl, _⟩ := I.tuple hs
    exact set_call (fun A1 E1 hh => init_tup pl (keys_paired rv) bd A1 E1 hh) (I.ok.hd hc) fin
theorem col_set {P : Program} {w : World} {s : Shared} {a : Addr} {m : List Key} (R : SetM P w s.heap a m) : Col P w s (.ref a) fun out => ∃ ks : List Key, ks.Nodup ∧ (∀ k, k ∈ ks ↔ k ∈ m) ∧ ks.length ≤ sizeLine ∧ Paired (fun u k => (mixKind P w).is k u = true) out ks := by
  intro A1 E1 Q1 hh h
  obtain ⟨ks, ⟨o, es, ep, t, ho, ex, hd, pr, nd, lt, ft, rs, ld⟩, mm⟩ := R
  refine collect_set hh ⟨o, ho, ex.1, hd⟩ ft lt rs ld fun s1 out k1 k2 k3 k4 pm => ?_
  obtain ⟨ks1, pm1, pr1⟩ := paired_perm pm (paired_map (G2 := fun u k => (mixKind P w).is k u = true) (·.2) (fun a b q => q.1) pr)
  refine h s1 out ⟨k1, k2, k3, k4⟩ ⟨ks1, pm1.nodup_iff.mpr nd, fun k => by rw [pm1.mem_iff, mm], ?_, pr1⟩
  rw [pm1.length_eq, ← pr.length, Array.length_toList]
  exact fits_of_scanBound lt
theorem is_rel {P : Program} {w : World} {k : Key} {u : Value} (h : (mixKind P w).is k u = true) : RelV (kV k) u := by
  rcases keyIs_shape h with ⟨i, t, rfl, rfl⟩ | ⟨x, t, rfl, rfl⟩
  · exact ⟨t, rfl⟩
  · exact ⟨t, rfl⟩
theorem rp_key {K : PySem.W.Frag} {k : Key} (h : okK k = true) : Rp K Z H (kV k) (keyT k) := by
  cases k with
  | inl i => exact Rp.int i
  | inr z =>
    have e : toS z.cps.toList = z := by simp [toS]
    have := Rp.str (K := K) (Z := Z) (H := H) (i := z.cps.toList) h
    rw [e] at this
    exact this
theorem each_keys {P : Program} {w : World} {hp : Heap} : ∀ {us : List Value} {ks : List Key}, Paired (fun u k => (mixKind P w).is k u = true) us ks →
    PySem.W.EachIs (fun u (b : V × T) => RelV b.1 u) us (ks.map fun k => (kV k, keyT k)) ∧ PySem.W.EachIs (fun u (b : V × T) => ∃ as, Reads hp u (toD b.2) as) us (ks.map fun k => (kV k, keyT k))
  | _, _, .nil => ⟨.nil, .nil⟩
  | _, _, .cons a b => by
    obtain ⟨i1, i2⟩ := each_keys b
    refine ⟨.cons (is_rel a) i1, .cons ?_ i2⟩
    rcases keyIs_shape a with ⟨i, t, rfl, rfl⟩ | ⟨x, t, rfl, rfl⟩
    · exact ⟨_, .int _ _⟩
    · have e : toS x.cps.toList = x := by simp [toS]
      refine ⟨[], ?_⟩
      show Reads hp (Value.str x t) (.str (toS x.cps.toList)) []
      rw [e]
      exact .str _ _
/-- sorted(set) -/
def rSortX (P : Program) (w : World) (K : PySem.W.Frag) : List V → Hp → VK → Prop := fun xs H Q => ∃ (a : Addr) (m : List Key) (Z : Zn), xs = [.ref a] ∧ H a = some (SetX P w a m) ∧ (∀ k ∈ m, okK k = true) ∧ SOk (m.map keyT) ∧
  ∀ ks : List Key, ks.Nodup → (∀ k, k ∈ ks ↔ k ∈ m) → ∀ v H' fp, OPo K Z H H' v (.own (tsort (ks.map keyT))) fp → Q v H'
theorem sok_sub {ts us : List T} (h : SOk ts) (hu : ∀ u ∈ us, u ∈ ts) : SOk us := by
  have f : ∀ {us : List T}, (∀ u ∈ us, u ∈ ts) → fits 60 us = true := fun {us} hu => by
    induction us with
    | nil => rfl
    | cons u us ih =>
      simp only [fits, Bool.and_eq_true]
      exact ⟨fits_mem h.fit u (hu u List.mem_cons_self), ih fun x hx => hu x (List.mem_cons_of_mem _ hx)⟩
  refine ⟨f hu, fun x hx y hy => h.al x (hu x hx) y (hu y hy), ?_⟩
  rcases h.kd with q | q
  · refine .inl fun d hd => ?_
    obtain ⟨t, ht, rfl⟩ := List.mem_map.mp hd
    exact q _ (List.mem_map_of_mem (hu t ht))
  · refine .inr fun d hd => ?_
    obtain ⟨t, ht, rfl⟩ := List.mem_map.mp hd
    exact q _ (List.mem_map_of_mem (hu t ht))
theorem cr_sortX (hc : X.calm = true) (hu : X.A.units + 65 < cLine) : CallR X (.builtin "sorted") (rSortX X.prog X.w X.K) := by
  intro pins s σ H xs us Q I rx ⟨a, m, Z, hx, ha, ok, so, hq⟩
  subst hx
  rw [Vals.ref1 rx]
  have R := setX_get I ha
  have sub : ∀ {ks : List Key}, (∀ k, k ∈ ks ↔ k ∈ m) → SOk ((ks.map fun k => (kV k, keyT k)).map (·.2)) := fun {ks} hm => by
    refine sok_sub so fun t ht => ?_
    rw [List.map_map] at ht
    obtain ⟨k, hk, rfl⟩ := List.mem_map.mp ht
    exact List.mem_map_of_mem ((hm k).mp hk)
  have rp : ∀ {ks : List Key}, (∀ k, k ∈ ks ↔ k ∈ m) → ∀ b ∈ ks.map fun k => (kV k, keyT k), Rp X.K Z H b.1 b.2 := fun {ks} hm b hb => by
    obtain ⟨k, hk, rfl⟩ := List.mem_map.mp hb
    exact rp_key (ok k ((hm k).mp hk))
  refine sorted_col (β := V × T) (R := fun u b => RelV b.1 u) (enc := fun b => toD b.2) (B := fun bs => ∃ ks : List Key, bs = (ks.map fun k => (kV k, keyT k)) ∧ ks.Nodup ∧ (∀ k, k ∈ ks ↔ k ∈ m) ∧ ks.length ≤ sizeLine) (col_set R) (I.ok.hd hc) (fun s1 out k ⟨ks, nd, hm, hz, pr⟩ => ?_) fun s1 p out bs c k hp hc2 ⟨ks, e0, nd, hm, hz⟩ hlen e => ?_
  · obtain ⟨a1, a2⟩ := each_keys (hp := s1.heap) pr
    refine ⟨_, a1, a2, alike_map (sub hm), ?_, by rw [List.length_map]; exact hz, depth_of (rp hm) (sub hm) hu, ks, rfl, nd, hm, hz⟩
    have := (sub hm).kd
    rw [List.map_map] at this
    exact this
  · subst e0
    refine sorted_fin I k hp hc2 (by rw [hlen, List.length_map]; exact hz) (rp hm) (sub hm) e ?_
    have e2 : (ks.map fun k => (kV k, keyT k)).map (·.2) = ks.map keyT := by rw [List.map_map]; rfl
    rw [e2]
    exact hq ks nd hm
/-- len(set) -/
def rLenX (P : Program) (w : World) : List V → Hp → VK → Prop := fun xs H Q => ∃ (a : Addr) (m : List Key), xs = [.ref a] ∧ H a = some (SetX P w a m) ∧ ∀ ks : List Key, ks.Nodup → (∀ k, k ∈ ks ↔ k ∈ m) → Q (.int ks.length) H
theorem cr_lenX : CallR X (.builtin "len") (rLenX X.prog X.w) := by
  intro pins s σ H xs us Q I rx ⟨a, m, hx, ha, hq⟩
  subst hx
  rw [Vals.ref1 rx]
  obtain ⟨ks, ⟨o, es, ep, t, ho, ex, hd, pr, nd, lt, ft, rs, ld⟩, mm⟩ := setX_get I ha
  have ln : es.size = ks.length := by rw [← pr.length, Array.length_toList]
  refine PySem.call_len_set ho ex hd ft (by
    have : scanBound = 4096 := rfl
    omega) ⟨.int ks.length, H, I.tok _, ⟨_, by rw [ln]⟩, hq ks nd mm⟩
theorem vws_keys {K : PySem.W.Frag} : ∀ {ts : List T} {vs : List V}, (∀ t ∈ ts, tkey t = true) → Rps K Z H vs ts → vs = (ts.map tk).map kV ∧ ∀ k ∈ ts.map tk, okK k = true
  | [], _, _, h => by rw [h.nil']; exact ⟨rfl, fun _ q => by simp at q⟩
  | t :: ts, _, hk, h => by
    obtain ⟨v, r, rfl, h1, h2⟩ := h.uncons
    obtain ⟨i1, i2⟩ := vws_keys (fun x hx => hk x (List.mem_cons_of_mem _ hx)) h2
    have kt := hk t List.mem_cons_self
    have one : v = kV (tk t) ∧ okK (tk t) = true := by
      cases t <;> first | (simp [tkey] at kt; done) | skip
      · unfold Rp at h1
        exact ⟨h1, rfl⟩
      · unfold Rp at h1
        refine ⟨h1.1, ?_⟩
        show okS (toS _).cps.toList = true
        rw [toS_cps]
        exact h1.2
    refine ⟨by rw [i1, one.1]; rfl, fun k q => ?_⟩
    rw [List.map_cons] at q
    rcases List.mem_cons.mp q with rfl | q
    · exact one.2
    · exact i2 k q
theorem keys_back {ts : List T} (h : ∀ t ∈ ts, tkey t = true) : (ts.map tk).map keyT = ts := by
  rw [List.map_map]
  exact (List.map_congr_left fun t ht => keyT_tk (h t ht)).trans (List.map_id _)
theorem sok_keys {ts : List T} (h : ts.all isStr = true ∨ ts.all isInt = true) : SOk ts := by
  obtain ⟨k1, k2, k3⟩ := key_alike h
  refine ⟨?_, k2, .inr fun d hd => ?_⟩
  · have : ∀ {us : List T}, (∀ u ∈ us, fit 60 u = true) → fits 60 us = true := fun {us} hu => by
      induction us with
      | nil => rfl
      | cons u us ih =>
        simp only [fits, Bool.and_eq_true]
        exact ⟨hu u List.mem_cons_self, ih fun x hx => hu x (List.mem_cons_of_mem _ hx)⟩
    exact this k3
  · obtain ⟨t, ht, rfl⟩ := List.mem_map.mp hd
    have := k1 t ht
    cases t <;> simp_all [tkey, toD]
theorem setOk_of {ts : List T} (h : setOk ts = true) : ts.length ≤ 4000 ∧ (ts.all isStr = true ∨ ts.all isInt = true) := by
  unfold setOk at h
  rw [Bool.and_eq_true, Bool.or_eq_true] at h
  exact ⟨Nat.le_of_ble_eq_true h.1, h.2⟩
theorem opo_pre {K : PySem.W.Frag} {H1 H' : Hp} {v : V} {r : R} {fp : List Addr} (f : Fresh H H1) (o : OPo K Z H1 H' v r fp) : OPo K Z H H' v r fp :=
  ⟨f.trans o.f, o.rr, o.nd, fun a h => f.none (o.nw a h)⟩
theorem set_row {K : PySem.W.Frag} {x : V} {ts : List T} {t : T} (h : Vw K Z H x t) (e : seqL t = some ts) : ∃ a vs, x = .ref a ∧ (SqL K H a vs ∨ SqT K H a vs) ∧ Rps K Z H vs ts := by
  cases t <;> simp only [seqL] at e <;> first | (cases e; done) | skip
  · cases e
    obtain ⟨p, vs, rfl, g1, g2⟩ := h.tup
    exact ⟨p, vs, rfl, .inr (.of g1.1), g2⟩
  · cases e
    obtain ⟨p, vs, rfl, g1, g2⟩ := h.lst
    exact ⟨p, vs, rfl, .inl (.of g1), g2⟩
theorem sset_in {P : Program} {w : World} {K : PySem.W.Frag} {x : V} {Q : VK} (h : OpG K .sset [x] H Q) : rSet P w K [x] H fun y H1 => rSortX P w K [y] H1 Q := by
  obtain ⟨Z, ts, r, hz, hv, he, hq⟩ := h
  simp only [evOp, o_sset] at he
  split at he
  · rename_i t
    obtain ⟨v, e, h1⟩ := hv.one
    cases e
    cases q : seqL t with
    | none => rw [q] at he; cases he
    | some us =>
      rw [q] at he
      simp only [Option.bind_some] at he
      split at he
      · rename_i hs
        cases he
        obtain ⟨hl, hk⟩ := setOk_of hs
        obtain ⟨k1, k2, k3⟩ := key_alike hk
        obtain ⟨a, vs, rfl, hr, g2⟩ := set_row h1 q
        obtain ⟨rfl, ok⟩ := vws_keys k1 g2
        refine ⟨a, us.map tk, rfl, hr, by rw [List.length_map]; exact hl, fun p np => ⟨p, us.map tk, Z, rfl, upd_same, ok, ?_, fun ks nd hm v H' fp o => ?_⟩⟩
        · rw [keys_back k1]
          exact sok_keys hk
        · have so := sok_keys hk
          have e : tsort (ks.map keyT) = tsort (dedup us) := by
            have pm := keys_perm hk nd hm
            refine tsort_perm pm fun x hx y hy q => ?_
            have hx' := dedup_sub (pm.mem_iff.mp hx)
            have hy' := dedup_sub (pm.mem_iff.mp hy)
            exact alike_eq (k3 x hx') (k3 y hy') (k2 x hx' y hy') q
          rw [e] at o
          exact hq v H' fp (opo_pre (.upd np) o)
      · cases he
  · cases he
theorem lset_in {P : Program} {w : World} {K : PySem.W.Frag} {x : V} {Q : VK} (h : OpG K .lset [x] H Q) : rSet P w K [x] H fun y H1 => rLenX P w [y] H1 Q := by
  obtain ⟨Z, ts, r, hz, hv, he, hq⟩ := h
  simp only [evOp, o_lset] at he
  split at he
  · rename_i t
    obtain ⟨v, e, h1⟩ := hv.one
    cases e
    cases q : seqL t with
    | none => rw [q] at he; cases he
    | some us =>
      rw [q] at he
      simp only [Option.bind_some] at he
      split at he
      · rename_i hs
        cases he
        obtain ⟨hl, hk⟩ := setOk_of hs
        obtain ⟨k1, k2, k3⟩ := key_alike hk
        obtain ⟨a, vs, rfl, hr, g2⟩ := set_row h1 q
        obtain ⟨rfl, ok⟩ := vws_keys k1 g2
        refine ⟨a, us.map tk, rfl, hr, by rw [List.length_map]; exact hl, fun p np => ⟨p, us.map tk, rfl, upd_same, fun ks nd hm => ?_⟩⟩
        have e : ks.length = (dedup us).length := by
          rw [← (keys_perm hk nd hm).length_eq, List.length_map]
        rw [e]
        exact hq _ _ _ (.sh' (.upd np) (Rp.int _))
      · cases he
  · cases he
end
end Ev
end
section
set_option Elab.async false
set_option linter.all false
set_option maxRecDepth 100000
set_option maxHeartbeats 1000000
namespace Ev
open PySem PySem.Spec PyProof.Rows L2
theorem two_pick {α : Type} : ∀ l : List α, (List.range ((l.length + 1) / 2)).filterMap (fun k => l[2 * k]?) = two l
  | [] => by simp [two]
  | [x] => by simp [two, List.range_succ]
  | x :: y :: r => by
    have ih := two_pick r
    have e : ((x :: y :: r).length + 1) / 2 = (r.length + 1) / 2 + 1 := by
      simp only [List.length_cons]
      omega
    rw [e, List.range_succ_eq_map, List.filterMap_cons, List.filterMap_map]
    simp only [two, Nat.mul_zero, List.getElem?_cons_zero]
    rw [← ih]
    congr 1
theorem all_pick {α : Type} : ∀ l : List α, (List.range l.length).filterMap (fun k => l[k]?) = l
  | [] => by simp
  | x :: l => by
    have ih := all_pick l
    rw [List.length_cons, List.range_succ_eq_map, List.filterMap_cons, List.filterMap_map]
    simp only [List.getElem?_cons_zero]
    congr 1
theorem rev_pick {α : Type} (l : List α) : (List.range l.length).filterMap (fun k => l[l.length - 1 - k]?) = l.reverse := by
  have e : ((List.range l.length).map fun k => l.length - 1 - k) = (List.range l.length).reverse := by
    apply List.ext_getElem
    · simp
    · intro i h1 h2
      rw [List.getElem_map, List.getElem_reverse]
      simp
  have e2 : (List.range l.length).filterMap (fun k => l[l.length - 1 - k]?) = ((List.range l.length).map fun k => l.length - 1 - k).filterMap (fun k => l[k]?) := by
    rw [List.filterMap_map]
    rfl
  rw [e2, e, List.filterMap_reverse, all_pick]
/-- the items that a step picks, by list -/
def stepped {α : Type} (k : Int) (lo : Option Int) (l : List α) : List α := if k = 2 then two (l.drop (sIx l.length 0 lo)) else l.reverse
/-- the steps that are known -/
def StepOk (k : Int) (lo : Option Int) : Prop := k = 2 ∨ (k = -1 ∧ lo = none)
theorem sIx_le (n d : Nat) (hd : d ≤ n) (o : Option Int) : sIx n d o ≤ n := by
  unfold sIx
  split
  · exact hd
  · split <;> omega
theorem clip_sIx (v : Int) (n d : Nat) : (if v < 0 then max (v + (n : Int)) 0 else min v (n : Int)) = ((sIx n d (some v) : Nat) : Int) := by
  show _ = (((if v < 0 then (v + (n : Int)).toNat else min v.toNat n) : Nat) : Int)
  split <;> omega
theorem fm_congr {α β : Type} {f g : α → Option β} : ∀ {l : List α}, (∀ x ∈ l, f x = g x) → l.filterMap f = l.filterMap g
  | [], _ => rfl
  | x :: l, h => by
    rw [List.filterMap_cons, List.filterMap_cons, h x List.mem_cons_self, fm_congr fun y hy => h y (List.mem_cons_of_mem _ hy)]
theorem two_at (xs : Array Value) (i : Nat) (hi : i ≤ xs.size) {c : Nat} (hc : c = (xs.size - i + 1) / 2) {g : Nat → Nat} (hg : ∀ k, g k = i + 2 * k) : (List.range c).filterMap (fun k => xs[g k]?) = two (xs.toList.drop i) := by
  rw [← two_pick, List.length_drop, Array.length_toList, hc]
  refine fm_congr fun k _ => ?_
  rw [hg, List.getElem?_drop, Array.getElem?_toList]
theorem rev_at (xs : Array Value) {c : Nat} (hc : c = xs.size) {g : Nat → Nat} (hg : ∀ k, k < xs.size → g k = xs.size - 1 - k) : (List.range c).filterMap (fun k => xs[g k]?) = xs.toList.reverse := by
  rw [← rev_pick, Array.length_toList, hc]
  refine fm_congr fun k hk => ?_
  rw [hg k (List.mem_range.mp hk), Array.getElem?_toList]
theorem step_pick (xs : Array Value) {k : Int} {lo : Option Int} (h : StepOk k lo) : PySem.slicePick xs lo none (some k) = (stepped k lo xs.toList).toArray := by
  unfold PySem.slicePick stepped
  rcases h with rfl | ⟨rfl, rfl⟩
  · rw [if_pos rfl]
    have b1 : (sliceBounds lo none (some 2) xs.size) = (((sIx xs.size 0 lo : Nat) : Int), (xs.size : Int), 2) := by
      unfold sliceBounds
      cases lo with
      | none => simp [sIx]
      | some v =>
        rw [← clip_sIx]
        simp only [Option.getD_some, show (2 : Int) > 0 by decide, if_true]
        refine Prod.ext ?_ rfl
        split
        · show max 0 (min (v + (xs.size : Int)) (xs.size : Int)) = max (v + (xs.size : Int)) 0
          omega
        · show max 0 (min v (xs.size : Int)) = min v (xs.size : Int)
          omega
    rw [b1]
    unfold sliceRange
    rw [List.filterMap_map]
    have le := sIx_le xs.size 0 (Nat.zero_le _) lo
    congr 1
    refine two_at xs _ le ?_ fun k => ?_
    · simp only [show (2 : Int) > 0 by decide, if_true]
      split
      · omega
      · have : sIx xs.size 0 lo = xs.size := by omega
        rw [this]; simp
    · show ((sIx xs.size 0 lo : Int) + 2 * (k : Int)).toNat = _
      omega
  · rw [if_neg (by decide)]
    have b2 : sliceBounds none none (some (-1)) xs.size = ((xs.size : Int) - 1, -1, -1) := by
      unfold sliceBounds
      simp
    rw [b2]
    unfold sliceRange
    rw [List.filterMap_map]
    congr 1
    refine rev_at xs ?_ fun k hk => ?_
    · simp only [show ¬ ((-1 : Int) > 0) by decide, if_false]
      split
      · simp
      · omega
    · show ((xs.size : Int) - 1 + -1 * (k : Int)).toNat = _
      omega
theorem step_tuple (xs : Array Value) {k : Int} {lo : Option Int} (h : StepOk k lo) :
    ((List.range (Builtin.Slice.slicePlaces (Builtin.Slice.sliceAdjust lo none k (xs.size : Int)).1 (Builtin.Slice.sliceAdjust lo none k (xs.size : Int)).2 k)).filterMap fun (m : Nat) => xs[((Builtin.Slice.sliceAdjust lo none k (xs.size : Int)).1 + (m : Int) * k).toNat]?) = stepped k lo xs.toList := by
  unfold stepped
  rcases h with rfl | ⟨rfl, rfl⟩
  · rw [if_pos rfl]
    have b1 : Builtin.Slice.sliceAdjust lo none 2 (xs.size : Int) = (((sIx xs.size 0 lo : Nat) : Int), (xs.size : Int)) := by
      unfold Builtin.Slice.sliceAdjust
      cases lo with
      | none => simp [sIx]
      | some v => 
        simp only [show ¬ ((2 : Int) < 0) by decide, if_false, ← clip_sIx]
    rw [b1]
    have le := sIx_le xs.size 0 (Nat.zero_le _) lo
    refine two_at xs _ le ?_ fun k => ?_
    · unfold Builtin.Slice.slicePlaces
      simp only [show (2 : Int) > 0 by decide, if_true]
      split
      · omega
      · have : sIx xs.size 0 lo = xs.size := by omega
        rw [this]; simp
    · show ((sIx xs.size 0 lo : Int) + (k : Int) * 2).toNat = _
      omega
  · rw [if_neg (by decide)]
    have b1 : Builtin.Slice.sliceAdjust none none (-1) (xs.size : Int) = ((xs.size : Int) - 1, -1) := by
      unfold Builtin.Slice.sliceAdjust
      simp
    rw [b1]
    refine rev_at xs ?_ fun k hk => ?_
    · unfold Builtin.Slice.slicePlaces
      simp only [show ¬ ((-1 : Int) > 0) by decide, if_false]
      split
      · simp
      · omega
    · show ((xs.size : Int) - 1 + (k : Int) * -1).toNat = _
      omega
theorem stepped_len {α : Type} (k : Int) (lo : Option Int) (l : List α) : (stepped k lo l).length ≤ l.length := by
  have key : ∀ l : List α, (two l).length ≤ l.length := fun l => by
    rw [← two_pick]
    refine Nat.le_trans (List.length_filterMap_le _ _) ?_
    rw [List.length_range]
    omega
  unfold stepped
  split
  · refine Nat.le_trans (key _) ?_
    rw [List.length_drop]
    omega
  · simp
section
variable {P : Program} {w : World} {A : Around} {E : Value → Shared → Prop} {s : Shared}
theorem applied_step {sl : Addr} {vl vu vs : Value} {lo hi : Option Int} {k : Int} {n : Nat} {Q : Int × Int × Nat → Shared → Prop} (hs : s.heap.IsSliceOf sl vl vu vs) (pl : IsPart vl lo) (pu : IsPart vu hi) (ps : IsPart vs (some k)) (k0 : k ≠ 0)
    (h : Q ((Builtin.Slice.sliceAdjust lo hi k (n : Int)).1, k, Builtin.Slice.slicePlaces (Builtin.Slice.sliceAdjust lo hi k (n : Int)).1 (Builtin.Slice.sliceAdjust lo hi k (n : Int)).2 k) s) :
    wpAny (model P w) A (Builtin.Slice.sliceApplied (.ref sl) (pure (n : Int))) Q E s := by
  obtain ⟨ob, hob, hc, hd⟩ := id hs
  unfold Builtin.Slice.sliceApplied Builtin.Slice.sliceFields
  refine wpAny_bind (wpAny_bind (wpAny_field hob hd (x := vl) rfl (wpAny_bind (wpAny_field hob hd (x := vu) rfl (wpAny_bind (wpAny_field hob hd (x := vs) rfl (wpAny_pure ?_)))))))
  refine wpAny_bind (HT.slicePart_ ps ?_)
  show wpAny _ _ (if (k == 0) = true then _ else _) _ _ s
  rw [if_neg (by simpa using k0)]
  exact wpAny_bind (HT.slicePart_ pl (wpAny_bind (HT.slicePart_ pu (wpAny_bind (wpAny_pure (wpAny_pure h))))))
theorem tuple_step {t sl : Addr} {xs : Array Value} {vl vu vs : Value} {lo : Option Int} {k : Int} {Q : Value → Shared → Prop} (ht : IsTup s.heap t xs) (hs : s.heap.IsSliceOf sl vl vu vs) (pl : IsPart vl lo) (pu : IsPart vu none) (ps : IsPart vs (some k)) (hk : StepOk k lo)
    (h : Q (.ref s.heap.objs.size) { s with heap := s.heap.push { cls := .type "tuple", data := .seq (stepped k lo xs.toList).toArray } }) (hz : xs.size ≤ sizeLine) :
    wpAny (model P w) A (getItem (.ref t) (.ref sl)) Q E s := by
  have sz : sizeOk (.seq (stepped k lo xs.toList).toArray) := by
    show (stepped k lo xs.toList).toArray.size ≤ sizeLine
    have := stepped_len k lo xs.toList
    rw [Array.length_toList] at this
    rw [List.size_toArray]
    exact Nat.le_trans this hz
  obtain ⟨ob, hob, hc, hd⟩ := id hs
  have ty : s.TypeIs (.ref sl) "slice" := ⟨ob, hob, hc⟩
  have k0 : k ≠ 0 := by rcases hk with rfl | ⟨rfl, _⟩ <;> decide
  have k1 : (k == 1) = false := by rcases hk with rfl | ⟨rfl, _⟩ <;> rfl
  unfold getItem
  try with_reducible refine wpAny_holding ?_
  first | refine wpAny_bind (wpAny_pure ?_) | skip
  refine wpAny_bind (wpAny_sequenceKey ht.typeIs (by decide) ?_)
  refine wpAny_bind (wpAny_callSpecial?_slot (name := Str.ofString "__getitem__") ht.typeIs PyProof.Rows.slot_tuple_getitem
    (wpAny_call_entry PyProof.Rows.slot_tuple_getitem ht.typeIs entry_tuple_getitem ?_ (args_tuple_getitem _ _)))
  show wpAny _ _ (Builtin.Tuple.tupleItemsOf (.ref t) >>= _) _ _ s
  refine wpAny_bind (tupleItemsOf_ ht (wpAny_bind (wpAny_typeOf ty ?_)))
  rw [if_pos (by decide)]
  refine wpAny_bind (applied_step hs pl pu ps k0 ?_)
  dsimp only
  rw [k1, Bool.and_false, Bool.false_and, if_neg (by decide), step_tuple xs hk]
  first
    | exact wpAny_bind (m := Builtin.Tuple.tupleExact _) (wpAny_newObj_type (wpAny_pure ⟨_, rfl, wpAny_pure h⟩) sz)
    | exact wpAny_bind (m := Builtin.Tuple.tupleExact _) (wpAny_newObj_type (wpAny_bind (wpAny_pure (wpAny_pure ⟨_, rfl, wpAny_pure h⟩))) sz)
    | exact wpAny_bind (wpAny_bind (m := Builtin.Tuple.tupleExact _) (wpAny_newObj_type (wpAny_pure (wpAny_pure ⟨_, rfl, wpAny_pure h⟩)) sz))
    | exact wpAny_bind (wpAny_bind (m := Builtin.Tuple.tupleExact _) (wpAny_newObj_type (wpAny_pure ⟨_, rfl, wpAny_pure h⟩) sz))
end
section
variable {X : Cx}
theorem vals_two : ∀ {xs : List V} {us : List Value}, Vals xs us → Vals (two xs) (two us)
  | _, _, .nil => .nil
  | _, _, .cons a .nil => .cons a .nil
  | _, _, .cons a (.cons b c) => .cons a (vals_two c)
theorem vals_stepped {k : Int} {lo : Option Int} {xs : List V} {us : List Value} (r : Vals xs us) : Vals (stepped k lo xs) (stepped k lo us) := by
  unfold stepped
  split
  · rw [r.length]
    exact vals_two (r.drop _)
  · exact r.reverse
/-- a slice with the step k and no end -/
def tStp (K : PySem.W.Frag) (k : Int) (te : TE) (tl : TO) : TE := fun σ H Q => te σ H fun x H1 => tl σ H1 fun lo H2 => StepOk k lo ∧ ∃ a xs, x = .ref a ∧
  ((SqL K H2 a xs ∧ ∀ p, H2 p = none → Q (.ref p) (upd H2 p (.lst (stepped k lo xs)))) ∨ (SqT K H2 a xs ∧ ∀ p, H2 p = none → Q (.ref p) (upd H2 p (.tup (stepped k lo xs)))))
theorem pe_stp {e st : Expr} {te : TE} {lo : Option Expr} {tl : TO} {k : Int} {p3 pos : Pos} (he : PE X e te) (hl : PO X lo tl) (hst : PE X st (tC (.int k)))
    (hsub : ∀ o i, subscripted (.Slice lo none (some st) p3) false o i = operate [o, i] (getItem o i)) : PE X (.Subscript e (.Slice lo none (some st) p3) pos) (tStp X.K k te tl) := by
  refine ⟨fun pins s σ H Q I h => ?_⟩
  refine Subscript_ (thn (he.run pins s σ H _ I h) fun v s1 ⟨x, H1, I1, r1, q1⟩ => ?_)
  refine wpAny_Slice (thn (hl.run pins s1 σ H1 _ I1 q1) fun vl s2 ⟨l, H2, I2, pl, sk, a, xs, ex, q⟩ => ?_)
  subst ex
  cases r1
  refine thn (po_none.run pins s2 σ H2 (fun o H3 => o = none ∧ H3 = H2) I2 ⟨rfl, rfl⟩) fun vu s3 ⟨u, H3, I3, pu, e2, e3⟩ => ?_
  subst e2 e3
  have pst : PO X (some st) (tPart (tC (.int k))) := po_some hst
  refine thn (pst.run pins s3 σ H3 (fun o H4 => o = some k ∧ H4 = H3) I3 ⟨k, rfl, rfl, rfl⟩) fun vs s4 ⟨o, H4, I4, ps, e4, e5⟩ => ?_
  subst e4 e5
  have I5 : Inv X pins σ H4 { s4 with heap := s4.heap.push { cls := .type "slice", data := .fields #[vl, vu, vs] } } := I4.kept (t' := s4.toks) fun b ob q => Heap.get?_push_of_some _ q
  show wpAny (model X.prog X.w) X.A (subscriptTail e (.Slice lo none (some st) p3) (.ref a) (.ref s4.heap.objs.size)) (EP X pins σ Q) X.xe { s4 with heap := s4.heap.push { cls := .type "slice", data := .fields #[vl, vu, vs] } }
  have k0 : some k ≠ some 0 := by rcases sk with rfl | ⟨rfl, _⟩ <;> decide
  rcases q with ⟨hs, q⟩ | ⟨hs, q⟩
  · obtain ⟨its, r, ht, hz⟩ := I5.list hs
    refine tail_any (ops := [.ref a, .ref s4.heap.objs.size]) ht.isList.typeIs (PySem.slot_list_getitem.lookup) ?_ (hsub _ _)
    refine wpAny_getItem_list_slice ht.isList (Heap.IsSliceOf.new _ vl vu vs) pl pu ps k0 ?_ (by rw [List.size_toArray, ← r.length]; exact hz)
    rw [step_pick _ sk]
    refine ⟨.ref _, _, I5.laid (t' := s4.toks) (o := .lst (stepped k l xs)) (fun b ob q => Heap.get?_push_of_some _ q) (Nat.le_refl _) ?_, rfl, q _ (I5.hok.fresh (Nat.le_refl _))⟩
    exact ⟨Nat.le_trans (stepped_len _ _ _) hz, _, 0, vals_stepped r, Heap.get?_push_size _ rfl⟩
  · obtain ⟨its, r, ht, hz⟩ := I5.tuple hs
    refine tail_any (ops := [.ref a, .ref s4.heap.objs.size]) ht.typeIs (PyProof.Rows.slot_tuple_getitem.lookup) ?_ (hsub _ _)
    refine tuple_step ht (Heap.IsSliceOf.new _ vl vu vs) pl pu ps sk ?_ (by rw [List.size_toArray, ← r.length]; exact hz)
    refine ⟨.ref _, _, I5.laid (t' := s4.toks) (o := .tup (stepped k l xs)) (fun b ob q => Heap.get?_push_of_some _ q) (Nat.le_refl _) ?_, rfl, q _ (I5.hok.fresh (Nat.le_refl _))⟩
    exact ⟨Nat.le_trans (stepped_len _ _ _) hz, _, vals_stepped r, IsTup.new _ _⟩
end
end Ev
end
section
set_option Elab.async false
set_option linter.all false
set_option maxRecDepth 100000
set_option maxHeartbeats 2000000
namespace Ev
open PySem PySem.Spec PyProof.Rows L2
section
variable {X : Cx}
theorem or_lt (hu : X.A.units + 64 < cLine) : OpR X (compareOp .Lt) (fun x y H Q => OpG X.K .lt [x, y] H Q) := by
  intro pins s σ H x y v u Q I rx ry h
  obtain ⟨Z, t, u', r, hz, h1, h2, he, hq⟩ := h.two
  simp only [evOp, o_lt] at he
  split at he
  · rename_i i j e
    cases e
    cases he
    exact op_lt pins s σ H x y v u Q I rx ry ⟨i, j, h1.int, h2.int, hq _ _ _ (.sh (Rp.bl _))⟩
  · rename_i i j e
    cases e
    cases he
    refine op_lt_str pins s σ H x y v u Q I rx ry ⟨_, _, h1.str.1, h2.str.1, ?_⟩
    have g := hq _ _ _ (.sh (Rp.bl _))
    rw [slt_to] at g
    exact g
  · rename_i a b e
    cases e
    split at he
    · rename_i hc
      cases he
      simp only [Bool.and_eq_true] at hc
      obtain ⟨⟨c1, c2⟩, c3⟩ := hc
      obtain ⟨d1, d2, d3⟩ := h1.dp c1
      obtain ⟨g1, g2, g3⟩ := h2.dp c2
      obtain ⟨as, ra⟩ := Dp.reads I (toD (.tup a)) x v d1 rx
      obtain ⟨bs, rb⟩ := Dp.reads I (toD (.tup b)) y u g1 ry
      refine PySem.W.rcLt_alike (toD (.tup a)) (toD (.tup b)) X.A s v u as bs ra rb (alike_toD c3) (by simp [toD]) (by omega) X.prog X.w _ _ (fin_bl I (hq _ _ _ (.sh (Rp.bl _))) (tlt_data c1 c2 c3).symm)
    · cases he
  · cases he
end
end Ev
end
section
set_option Elab.async false
set_option linter.all false
set_option maxRecDepth 100000
set_option maxHeartbeats 1000000
namespace Ev
open PySem PySem.Spec L2 StX
structure Ck where
  N : List Str
  fns : List (Str × List Str)
  bi : List Str
  gs : List (Str × List Nat)
  xs : List Nat
/-- a plain name -/
def okNm (x : Str) : Bool := !(x == ("__debug__" : Str)) && !(x == ("__classdict__" : Str)) && !decide (x = ("__name__" : Str))
def nmAt (N : List Str) (i : Nat) (x : Str) : Bool := decide (N[i]? = some x) && okNm x
def isVis : Option NameKind → Bool
  | some .local => true
  | some .cell => true
  | some .free => true
  | _ => false
def vis (sc : Scope) (x : Str) : Bool := isVis (sc.names.lookup x)
def gl (sc : Scope) (x : Str) : Bool := decide (sc.names.lookup x = some .globalImplicit)
theorem vis_of {sc : Scope} {x : Str} (h : vis sc x = true) : Vis sc x := by
  unfold vis at h
  unfold Vis
  cases e : sc.names.lookup x with
  | none => rw [e] at h; cases h
  | some k => cases k <;> first | (rw [e] at h; cases h; done) | simp
/-- a block's scope, seen from the def's -/
def relS (scope sc : Scope) : Scope :=
  { scope with names := scope.names.map fun nk => if (nk.2 == .free && sc.kind == .function && sc.names.lookup nk.1 == some .cell) then (nk.1, .cell) else nk }
theorem rel_eq {scope : Scope} {env : PySem.Env} {sc : Scope} (h : env.scope = sc) : PySem.relabel scope env = relS scope sc := by
  subst h
  rfl
/-- a def that may be called -/
structure BindsP (K : PySem.W.Frag) (fd : FuncData) (ps : List Str) : Prop where
  all : Binds K fd ps []
  kw : ∀ n ks is, kwOk ps n ks is = true → ∀ us ws : List Value, us.length = n → ws.length = ks.length → bindArgs fd ⟨us, ks.zip ws⟩ = pure (ps.zip (pick Value.none (us ++ ws) is))
theorem binds_p {K : PySem.W.Frag} {x qual : Str} {st : Stmt} {f : Addr} {fd : FuncData} {ps : List Str} (F : Fun K x qual st f fd) (hp : plainPs (defArgs st) ps = true) : BindsP K fd ps := by
  refine ⟨binds_plain F hp, ?_⟩
  obtain ⟨oc, od, kV, doc, pm, an, cdv, ct, osl, rfl, lk, hcd⟩ := F.ex
  exact fun n ks is hk us ws h1 h2 => kw_to hp hk us ws h1 h2
structure FnX (X : Cx) (D : Wd) (x : Str) (f : Nat) (ps : List Str) : Prop where
  ex : ∃ fa fd k, FnOk X.prog X.w X.K X.mg X.base (CX X.prog X.w) k fa fd ps (spF D.K D.cf D.cv f ps.length) ∧ Room k X.A ∧ X.mg x = some (.ref fa) ∧ PySem.W.keepIn X.K (.ref fa) = true ∧ BindsP X.K fd ps
structure Cok (X : Cx) (D : Wd) (C : Ck) (sc rw_ : Scope) : Prop where
  calm : X.calm = true
  hN : X.N = C.N
  nd : C.N.Nodup
  hK : X.K = D.K
  hsc : X.env.scope = sc
  hfn : ∀ x, rw_.names.lookup x = some .cell → X.fn x = true
  un : X.A.units + 200 < cLine
  tk : Takes X D.W
  fns : ∀ f x ps, C.fns[f]? = some (x, ps) → FnX X D x f ps
  bi : ∀ x ∈ C.bi, X.mg x = none
  gs : ∀ x s, (x, s) ∈ C.gs → ∃ t, X.mg x = some (.str (toS s) t)
  xs : ∀ c ∈ C.xs, XC X c
  cv : D.cv = cvK D.K
  rm : C.xs ≠ [] → ∃ k, Room k X.A
theorem Cok.blk {X : Cx} {D : Wd} {C : Ck} {sc rw_ : Scope} (h : Cok X D C sc rw_) (s : Shared) (H : Hp) (scope : Scope) (A : Addr) (cl : List (Str × Addr)) (fp : List Addr) :
    Cok (X.blk s H scope (PySem.compEnvC scope cl A X.env) fp) D.c C (relS scope sc) scope :=
  ⟨h.calm, h.hN, h.nd, h.hK, rel_eq h.hsc, fun x e => by show (_ == _) = true; rw [e]; rfl, h.un, takes0, fun f x ps e => ⟨(h.fns f x ps e).ex⟩, h.bi, h.gs, h.xs, h.cv, h.rm⟩
/-- within a try -/
theorem Cok.tr {X : Cx} {D : Wd} {C : Ck} {sc rw_ : Scope} (h : Cok X D C sc rw_) {W : WX} {pn : List (Addr × Obj)} {xe : Value → Shared → Prop} (tk : Takes (X.tr pn xe) W) : Cok (X.tr pn xe) { D with W := W } C sc rw_ :=
  ⟨h.calm, h.hN, h.nd, h.hK, h.hsc, h.hfn, h.un, tk, fun f x ps e => ⟨(h.fns f x ps e).ex⟩, h.bi, h.gs, h.xs, h.cv, h.rm⟩
section
variable {X : Cx} {D : Wd} {C : Ck} {sc rw_ : Scope}
theorem gl_of (c : Cok X D C sc rw_) {x : Str} (h : gl sc x = true) : Gl X x := by
  unfold gl at h
  show X.env.scope.names.lookup x = _
  rw [c.hsc]
  exact of_decide_eq_true h
theorem vis_X (c : Cok X D C sc rw_) {x : Str} (h : vis sc x = true) : Vis X.env.scope x := by
  rw [c.hsc]
  exact vis_of h
def isStar : Expr → Bool
  | .Starred _ _ => true
  | _ => false
theorem st_one {e : Expr} (h : isStar e = false) (es : List Expr) (env : PySem.Env) : starEach (e :: es) env = (false, eval e env) :: starEach es env := by
  cases e <;> first | rfl | (simp [isStar] at h)
theorem st_any : ∀ {es : List Expr} {env : PySem.Env} {pos : Pos}, es.all (fun e => !isStar e) = true → (backTo pos (starEach es env)).any (fun x => x.1) = false
  | [], _, _, _ => rfl
  | e :: es, env, pos, h => by
    simp only [List.all_cons, Bool.and_eq_true] at h
    rw [st_one (by simpa using h.1)]
    have := st_any (env := env) (pos := pos) h.2
    unfold backTo at this ⊢
    rw [List.map_cons, List.any_cons, this]
    rfl
def okC : T → Const → Bool
  | .non, .none => true
  | .bl b, .bool c => b == c
  | .int i, .int j => decide (i = j)
  | .str s, .str z => okS s && decide (toS s = z)
  | _, _ => false
theorem pe_cst {t : T} {c : Const} {j : Nat} {pos : Pos} (h : okC t c = true) : PE X (.Constant c j pos) (tE D (.cst t)) := by
  cases t <;> cases c <;> first | (simp [okC] at h; done) | skip
  · exact PE.weak pe_non fun σ H Q q => cst_in rfl q
  · rename_i b c
    have : b = c := by simpa [okC] using h
    subst this
    exact PE.weak pe_bl fun σ H Q q => cst_in rfl q
  · rename_i b c
    have : b = c := by simpa [okC] using h
    subst this
    exact PE.weak pe_int fun σ H Q q => cst_in rfl q
  · rename_i s z
    simp only [okC, Bool.and_eq_true, decide_eq_true_eq] at h
    obtain ⟨h1, h2⟩ := h
    subst h2
    exact PE.weak pe_str fun σ H Q q => cst_in (by simp [cstV, h1]) q
theorem nm_of (c : Cok X D C sc rw_) {i : Nat} {x : Str} (h : nmAt C.N i x = true) : X.N[i]? = some x := by
  rw [c.hN]
  unfold nmAt at h
  rw [Bool.and_eq_true] at h
  exact of_decide_eq_true h.1
theorem okNm_of {x : Str} (h : okNm x = true) : (x == ("__debug__" : Str)) = false ∧ (x == ("__classdict__" : Str)) = false ∧ x ≠ ("__name__" : Str) := by
  unfold okNm at h
  simp only [Bool.and_eq_true, Bool.not_eq_true', decide_eq_false_iff_not] at h
  exact ⟨h.1.1, h.1.2, h.2⟩
/-- a text that the module holds -/
def glC (C : Ck) (sc : Scope) (t : T) (x : Str) : Bool := match t with
  | .str s => okS s && decide ((x, s) ∈ C.gs) && gl sc x && okNm x
  | _ => false
theorem pe_gl {t : T} {x : Str} {k : Nat} {pos : Pos} (c : Cok X D C sc rw_) (h : glC C sc t x = true) : PE X (.Name x pos) (tE D (.glb k t)) := by
  cases t <;> first | (simp [glC] at h; done) | skip
  rename_i s
  simp only [glC, Bool.and_eq_true, decide_eq_true_eq] at h
  obtain ⟨⟨⟨h1, h2⟩, h3⟩, h4⟩ := h
  obtain ⟨u, hu⟩ := c.gs x s h2
  refine PE.weak (pe_glob (v := .str (toS s)) (gl_of c h3) hu ⟨u, rfl⟩ (okNm_of h4).1) fun σ H Q q => ?_
  have q' : tE D (.cst (.str s)) σ H Q := by
    obtain ⟨Z, F, ρ, S, w⟩ := q
    refine ⟨Z, F, ρ, S, ?_⟩
    simp only [ev] at w ⊢
    exact w
  exact cst_in (by simp [cstV, h1]) q'
theorem nm_ok {N : List Str} {i : Nat} {x : Str} (h : nmAt N i x = true) : okNm x = true := by
  unfold nmAt at h
  rw [Bool.and_eq_true] at h
  exact h.2
theorem pe_vr (c : Cok X D C sc rw_) {i : Nat} {x : Str} {pos : Pos} (h1 : nmAt C.N i x = true) (h2 : vis sc x = true) : PE X (.Name x pos) (tVar i) := pe_var (nm_of c h1) (vis_X c h2) (okNm_of (nm_ok h1)).1 (okNm_of (nm_ok h1)).2.1
def binO : Op → Option Operator
  | .add => some .Add | .sub => some .Sub | .mul => some .Mult | .fdiv => some .FloorDiv | .mod => some .Mod | .pow => some .Pow
  | _ => none
def cmpO : Op → Option CmpOp
  | .lt => some .Lt | .gt => some .Gt | .le => some .LtE | .ge => some .GtE | .eq => some .Eq | .ne => some .NotEq | .in_ => some .In | .nin => some .NotIn
  | _ => none
theorem or_bin {o : Op} {p : Operator} (h : binO o = some p) : OpR X (binaryOp p) (fun x y H Q => OpG X.K o [x, y] H Q) := by
  cases o <;> simp only [binO] at h <;> first | (cases h; done) | skip
  · cases h; exact or_add
  · cases h; exact or_sub
  · cases h; exact or_mul
  · cases h; exact or_fdiv
  · cases h; exact or_mod
  · cases h; exact or_pow
end
end Ev
end
section
set_option Elab.async false
set_option linter.all false
set_option maxRecDepth 100000
set_option maxHeartbeats 1000000
namespace PySem
open Sem (wp)
theorem F.args_sum2 (a b : Value) : argsOk "sum" ⟨[a, b], []⟩ := by unfold argsOk; kernel_rfl
section
variable {prog : Program} {w : World} {A : Around} {R : Result → Shared → Prop} {I : Addr} {fp wr : List Addr} {n : Nat} {P : Nat → Value → Prop} {St : Nat → Heap → Prop}
/-- what was added up so far -/
def preCat (val : Nat → Array Value) (a : Array Value) : Nat → Array Value
  | 0 => a
  | n + 1 => preCat val a n ++ val n
theorem codeAny_sum_loopL (W : Walks prog w A.in1 I fp wr n P St) (val : Nat → Array Value) (a : Array Value) (h0 : Heap)
    (hval : ∀ i v, P i v → ∃ p k, v = .ref p ∧ p ∉ wr ∧ IsL h0 p (val i) k) (S : Addr) (hfS : ∀ b ∈ fp, b < S) (h0S : h0.objs.size ≤ S) (hsz : ∀ i, i ≤ n → (preCat val a i).size ≤ sizeLine) :
    ∀ (k i : Nat) (s : Shared) (c : Nat) (T : Addr) (cT : Nat), n - i = k → i ≤ n → St i s.heap → (∀ b o, b ∉ wr → h0.get? b = some o → s.heap.get? b = some o) →
    s.heap.get? S = some { cls := .type "list", dict := none, data := .seq #[.ref T] c, slots := #[] } → T ∉ wr → IsL s.heap T (preCat val a i) cT → (0 < i → h0.objs.size ≤ T) →
    (∀ h' tk T' c', (∀ b o, b ∉ wr → h0.get? b = some o → h'.get? b = some o) → IsL h' T' (preCat val a n) c' → (0 < n → h0.objs.size ≤ T') → R (.ok (.ret (.ref T'))) { s with heap := h', toks := tk }) →
    codeAny (model prog w) A (.builtin "sum.loop" ⟨[.ref I, .ref S, rawInt 2, rawInt 0], []⟩) R s := by
  have hSf : S ∉ fp := fun h => Nat.lt_irrefl _ (hfS _ h)
  have hSw : S ∉ wr := fun h => hSf (W.sub _ h)
  intro k
  induction k with
  | zero =>
    intro i s c T cT hk hi hst hold hS hTw hT hTn hR
    have hin : i = n := by omega
    subst hin
    refine codeAny_builtin F.entry_sum_loop ?_
    rw [Around.under_plainId F.plain_sum_loop _]
    show wpAny _ A.in1 (seqItems? (.ref S) >>= _) _ _ s
    refine wpAny_bind (wpAny_seqItems hS rfl ?_)
    show wpAny _ A.in1 (tryCatch (pyNext (.ref I)) _ >>= _) _ _ s
    refine wpAny_bind (wpAny_tryCatch (W.done s _ _ hst fun h' tk hk' => ?_))
    exact wpAny_pure (hR h' tk T cT (fun b o hb e => hk' b o hb (hold b o hb e)) (hk' T _ hTw hT) hTn)
  | succ k ih =>
    intro i s c T cT hk hi hst hold hS hTw hT hTn hR
    have hlt : i < n := by omega
    refine codeAny_builtin F.entry_sum_loop ?_
    rw [Around.under_plainId F.plain_sum_loop _]
    show wpAny _ A.in1 (seqItems? (.ref S) >>= _) _ _ s
    refine wpAny_bind (wpAny_seqItems hS rfl ?_)
    show wpAny _ A.in1 (tryCatch (pyNext (.ref I)) _ >>= _) _ _ s
    refine wpAny_bind (wpAny_tryCatch (W.item i s _ _ hlt hst fun v h' tk hP hst' hk' => ?_))
    obtain ⟨p, kp, rfl, hpw, hp⟩ := hval i v hP
    have hS' := hk' S _ hSw hS
    have hT' : IsL h' T (preCat val a i) cT := hk' T _ hTw hT
    have hp' : IsL h' p (val i) kp := hk' p _ hpw (hold p _ hpw hp)
    have hz : (preCat val a i).size + (val i).size ≤ sizeLine := by
      have := hsz (i + 1) hlt
      simpa [preCat] using this
    have hold' : ∀ b o, b ∉ wr → h0.get? b = some o → h'.get? b = some o := fun b o hb e => hk' b o hb (hold b o hb e)
    have hSlt : S < h'.objs.size := Heap.lt_size hS'
    have hne : h'.objs.size ≠ S := fun e => by rw [e] at hSlt; exact Nat.lt_irrefl _ hSlt
    have hnw : h'.objs.size ∉ wr := fun hm => Nat.lt_irrefl _ (Nat.lt_trans (hfS _ (W.sub _ hm)) hSlt)
    show wpAny _ A.in1 ((holding [Value.ref p] (binaryOp .Add (.ref T) (.ref p))).attempt >>= _) _ _ _
    refine wpAny_bind (wpAny_attempt (wpAny_holding (PySem.P.add_list hT' hp' ?_ hz)))
    show wpAny _ A.in1 (updateSeq S (fun _ => #[.ref h'.objs.size]) >>= _) _ _ _
    refine wpAny_bind ?_
    have hS1 : (h'.push { cls := .type "list", data := .seq (preCat val a i ++ val i) }).get? S = some { cls := .type "list", dict := none, data := .seq #[.ref T] c, slots := #[] } := Heap.get?_push_of_some _ hS'
    refine wpAny_updateSeq hS1 rfl ?_
    refine wpAny_bind (wpAny_letGo ?_)
    have hS2 := Heap.get?_update_self (Obj.mapSeq fun _ => #[Value.ref h'.objs.size]) hS1 rfl
    refine wpAny_bind ?_
    have keep : ∀ b o, b ≠ S → h'.get? b = some o → (((h'.push { cls := .type "list", data := .seq (preCat val a i ++ val i) }).update S (Obj.mapSeq fun _ => #[Value.ref h'.objs.size])).update S (Obj.mapSeq fun _ => #[Value.ref h'.objs.size])).get? b = some o := fun b o hb e =>
      (Heap.get?_update_other _ _ (Ne.symm hb)).trans ((Heap.get?_update_other _ _ (Ne.symm hb)).trans (Heap.get?_push_of_some _ e))
    have hb0 : ∀ b o, h0.get? b = some o → b ≠ S := fun b o e q => by
      have := Heap.lt_size e
      rw [q] at this
      exact Nat.lt_irrefl _ (Nat.lt_of_lt_of_le this h0S)
    refine wpAny_updateSeq hS2 rfl (wpAny_pure ⟨plainId_quiet F.plain_sum_loop _, ih (i + 1) _ _ h'.objs.size 0 (by omega) hlt (W.frame _ _ _ hst' fun b hb o e => keep b o (fun q => hSf (q ▸ hb)) e) (fun b o hb e => keep b o (hb0 b o e) (hold' b o hb e)) (Heap.get?_update_self _ hS2 rfl) hnw ?_ (fun _ => Nat.le_of_lt (Nat.lt_of_le_of_lt h0S hSlt)) fun h'' tk'' T' c' k1 k2 k3 => hR h'' tk'' T' c' k1 k2 k3⟩)
    exact (Heap.get?_update_other _ _ (Ne.symm hne)).trans ((Heap.get?_update_other _ _ (Ne.symm hne)).trans (Heap.get?_push_size _ rfl))
end
section
variable {prog : Program} {w : World} {A : Around} {E : Value → Shared → Prop} {s : Shared}
theorem sum_lists {l b : Addr} {items a : Array Value} {ca : Nat} {Q : Value → Shared → Prop} (hh : A.handled = none) (hl : s.heap.IsList l items) (hb : IsL s.heap b a ca) (hn : 0 < items.size) (val : Nat → Array Value)
    (hval : ∀ i v, items[i]? = some v → ∃ p k, v = .ref p ∧ IsL s.heap p (val i) k) (hsz : ∀ i, i ≤ items.size → (preCat val a i).size ≤ sizeLine)
    (h : ∀ h' tk T c, (∀ b o, s.heap.get? b = some o → h'.get? b = some o) → IsL h' T (preCat val a items.size) c → s.heap.objs.size ≤ T → Q (.ref T) { s with heap := h', toks := tk }) :
    wpAny (model prog w) A (call (.builtin "sum") [.ref l, .ref b]) Q E s := by
  refine call_function_tree F.kind_sum F.plain_sum F.entry_sum (F.args_sum2 _ _) ?_
  unfold Builtin.«sum»
  simp only [List.length_cons, List.length_nil]
  rw [if_neg (by decide)]
  refine wpAny_bind (wpAny_of_eq (show Builtin.Builtins.bindParams "sum" ["start"] 0 ⟨[.ref b], []⟩ = pure [some (.ref b)] from rfl) ?_)
  have hlt : l < s.heap.objs.size := by obtain ⟨_, e, _⟩ := hl; exact Heap.lt_size e
  refine wpAny_bind (wpAny_pyIter_list hl ?_)
  have hbt : ∀ T : String, ({ s with heap := s.heap.push { cls := .type "list_iterator", data := .fields #[.ref l, .int 0 0] } } : Shared).TypeIs (.ref b) "list" := fun T => ⟨_, Heap.get?_push_of_some _ hb, rfl⟩
  simp only [List.forIn_cons, List.forIn_nil]
  refine wpAny_bind (wpAny_pure ?_)
  refine wpAny_bind (wpAny_bind (wpAny_bind (wpAny_isInstance (T := "list") (b := false) (hbt "list") (by kernel_rfl) ?_)))
  simp only [Bool.false_eq_true, if_false]
  refine wpAny_pure (wpAny_bind (wpAny_bind (wpAny_isInstance (T := "list") (b := false) (hbt "list") (by kernel_rfl) ?_)))
  simp only [Bool.false_eq_true, if_false]
  refine wpAny_pure (wpAny_bind (wpAny_bind (wpAny_isInstance (T := "list") (b := false) (hbt "list") (by kernel_rfl) ?_)))
  simp only [Bool.false_eq_true, if_false]
  refine wpAny_pure (wpAny_pure ?_)
  refine wpAny_bind (wpAny_newObj_type ?_)
  have e1 : (s.heap.push { cls := .type "list_iterator", data := .fields #[.ref l, .int 0 0] }).objs.size = s.heap.objs.size + 1 := Heap.size_push _ _
  refine wpAny_pure ⟨plainId_quiet F.plain_sum_loop _, codeAny_sum_loopL (A := A) (Walks.list (A := A.in1) hh s.heap.objs.size l (Nat.ne_of_lt hlt) items) val a s.heap (fun i v hv => ?_) (s.heap.push { cls := .type "list_iterator", data := .fields #[.ref l, .int 0 0] }).objs.size (fun c hc => ?_) (by rw [e1]; exact Nat.le_succ _) hsz items.size 0 _ 0 b ca rfl (Nat.zero_le _) ?_ (fun c o _ e => Heap.get?_push_of_some _ (Heap.get?_push_of_some _ e)) (Heap.get?_push_size _ rfl) (fun hm => ?_) (Heap.get?_push_of_some _ (Heap.get?_push_of_some _ hb)) (fun q => absurd q (Nat.lt_irrefl _)) fun h' tk T' c' k1 k2 k3 => ?_⟩
  · obtain ⟨p, k, rfl, hp⟩ := hval i v hv
    exact ⟨p, k, rfl, fun hm => absurd ((List.mem_singleton.mp hm) ▸ Heap.lt_size hp) (Nat.lt_irrefl _), hp⟩
  · rw [e1]
    rcases List.mem_cons.mp hc with rfl | hc
    · exact Nat.lt_succ_self _
    · rcases List.mem_cons.mp hc with rfl | hc
      · exact Nat.lt_succ_of_lt hlt
      · cases hc
  · exact ⟨⟨_, Heap.get?_push_of_some _ (Heap.get?_push_size _ rfl), rfl, rfl⟩, (hl.push _).push _⟩
  · exact absurd ((List.mem_singleton.mp hm) ▸ Heap.lt_size hb) (Nat.lt_irrefl _)
  · refine h h' tk T' c' (fun c o e => k1 c o (fun hm => absurd ((List.mem_singleton.mp hm) ▸ Heap.lt_size e) (Nat.lt_irrefl _)) e) k2 (k3 hn)
end
end PySem
namespace Ev
open PySem PySem.Spec PyProof.Rows L2
section
variable {X : Cx}
theorem preCat_is (L : List (List Value)) (a : List Value) : ∀ n, n ≤ L.length → preCat (fun i => (L.getD i []).toArray) a.toArray n = (a ++ (L.take n).flatten).toArray
  | 0, _ => by simp [preCat]
  | n + 1, h => by
    have ih := preCat_is L a n (by omega)
    have e : L.take (n + 1) = L.take n ++ [L.getD n []] := by
      rw [List.take_succ, List.getD, List.getElem?_eq_getElem (by omega)]
      rfl
    rw [preCat, ih, e]
    simp
theorem rows_at {pins : List (Addr × Obj)} {σ : L2.St} {H : Hp} {s : Shared} {Z : Zn} (I : L2.Inv X pins σ H s) : ∀ {ts : List T} {vs : List V} {its : List Value} {r : List T}, Rps X.K Z H vs ts → lsts ts = some r → Vals vs its →
    ∃ (L : List (List Value)) (W : List V), L.length = its.length ∧ (∀ i v, its[i]? = some v → ∃ p k, v = .ref p ∧ IsL s.heap p (L.getD i []).toArray k) ∧ Vals W L.flatten ∧ Rps X.K Z H W r
  | [], vs, its, r, h, e, hv => by
    rw [h.nil'] at hv
    cases e
    rw [hv.zero]
    exact ⟨[], [], rfl, fun i v q => by simp at q, .nil, .nil⟩
  | t :: ts, vs, its, r, h, e, hv => by
    obtain ⟨v, vs, rfl, h1, h2⟩ := h.uncons
    cases t with
    | lst us =>
      unfold lsts at e
      cases q : lsts ts with
      | none => rw [q] at e; cases e
      | some r' =>
        rw [q] at e
        cases e
        obtain ⟨p, ws, rfl, ⟨g1, _⟩, g2⟩ := h1
        cases hv with
        | cons rv hv =>
          rename_i u its
          cases rv
          obtain ⟨_, w, n, r1, _, e1⟩ := I.lstM g1
          obtain ⟨L, W, l1, l2, l3, l4⟩ := rows_at I h2 q hv
          refine ⟨w :: L, ws ++ W, by simp [l1], fun i v hi => ?_, r1.append l3, g2.app l4⟩
          cases i with
          | zero =>
            simp only [List.getElem?_cons_zero, Option.some.injEq] at hi
            exact ⟨p, n, hi.symm, e1⟩
          | succ i =>
            simp only [List.getElem?_cons_succ] at hi
            exact l2 i v hi
    | _ => simp [lsts] at e
theorem cr_sumL (hc : X.calm = true) : CallR X (.builtin "sum") (fun xs H Q => OpG X.K .sumL xs H Q) := by
  intro pins s σ H xs us Q I rx ⟨Z, ts, r, hz, hv, he, hq⟩
  simp only [evOp, o_sumL] at he
  split at he
  · rename_i t us' a
    cases q : lsts (t :: us') with
    | none => rw [q] at he; cases he
    | some r' =>
      rw [q, Option.bind_some] at he
      split at he
      · rename_i hl
        cases he
        obtain ⟨v, w, rfl, h1, h2⟩ := hv.two
        obtain ⟨p, vs, rfl, g1, g2⟩ := h1.lst
        obtain ⟨b, ws, rfl, k1, k2⟩ := h2.lst
        obtain ⟨_, its, n, v1, len1, e1⟩ := I.lstM g1
        obtain ⟨_, itb, nb, v2, len2, e2⟩ := I.lstM k1
        obtain ⟨L, W, l1, l2, l3, l4⟩ := rows_at I g2 q v1
        obtain ⟨u1, u2, rfl, x1, x2⟩ := rx.two
        cases x1
        cases x2
        have lL : (itb ++ L.flatten).length ≤ sizeLine := by
          rw [← line_sz, List.length_append, ← v2.length, ← l3.length, k2.len, l4.len, ← List.length_append]
          exact hl
        have hn : 0 < its.toArray.size := by
          rw [List.size_toArray, ← len1, g2.len]
          simp
        refine sum_lists (a := itb.toArray) (items := its.toArray) (I.ok.hd hc) ⟨_, e1, rfl, n, rfl⟩ e2 hn (fun i => (L.getD i []).toArray) (fun i v hi => l2 i v (by simpa using hi)) (fun i hi => ?_) fun h' tk T c hk hT hTn => ?_
        · rw [preCat_is L itb i (by rw [l1]; simpa using hi), List.size_toArray]
          refine Nat.le_trans ?_ lL
          rw [List.length_append, List.length_append]
          have e9 := congrArg (fun l : List (List Value) => l.flatten.length) (List.take_append_drop i L)
          simp only [List.flatten_append, List.length_append] at e9
          omega
        · rw [preCat_is L itb _ (by rw [l1]; simp), List.size_toArray, ← l1, List.take_length] at hT
          exact ⟨.ref T, upd H T (.lst (ws ++ W)), I.laid (t' := tk) hk hTn ⟨by rw [(v2.append l3).length]; exact lL, _, c, v2.append l3, hT⟩, rfl, hq _ _ _ (.lst (I.hok.fresh hTn) (k2.app l4))⟩
      · cases he
  · cases he
end
end Ev
end
section
set_option Elab.async false
set_option linter.all false
set_option maxRecDepth 100000
set_option maxHeartbeats 1000000
namespace Ev
open PySem PySem.Spec PyProof.Rows L2
theorem slt_lt : ∀ x y : List Nat, oLt (scmp x y) = ltCps x y
  | [], [] => rfl
  | [], _ :: _ => rfl
  | _ :: _, [] => rfl
  | a :: x, b :: y => by
    unfold scmp ltCps
    rw [← slt_lt x y]
    unfold ncmp
    by_cases h : a < b
    · rw [Nat.blt_eq.mpr h]; simp [oLt, h]
    · have h' : Nat.blt a b = false := by rw [Bool.eq_false_iff]; exact fun z => h (Nat.blt_eq.mp z)
      rw [h']
      by_cases q : a = b
      · subst q; simp
      · have q' : Nat.beq a b = false := by rw [Bool.eq_false_iff]; exact fun z => q (Nat.eq_of_beq_eq_true z)
        simp [q', oLt, h, q]
theorem rising_pw : ∀ {ys : List Str} {p : Str}, risingS p ys = true → (∀ y ∈ ys, tlt (.str y.cps.toList) (.str p.cps.toList) = false) ∧ Tsd (ys.map fun y => T.str y.cps.toList)
  | [], p, _ => ⟨by simp, List.Pairwise.nil⟩
  | x :: r, p, h => by
    unfold risingS at h
    rw [Bool.and_eq_true] at h
    obtain ⟨h1, h2⟩ := h
    obtain ⟨k1, k2⟩ := rising_pw h2
    have hx : tlt (.str x.cps.toList) (.str p.cps.toList) = false := by
      unfold tlt tcmp
      rw [slt_lt]
      simpa using h1
    refine ⟨fun y hy => ?_, List.pairwise_cons.mpr ⟨fun t ht => ?_, k2⟩⟩
    · rcases List.mem_cons.mp hy with rfl | hy
      · exact hx
      · have a := k1 y hy
        unfold tlt at hx a ⊢
        have tr := tcmp_tr (.str y.cps.toList) (.str p.cps.toList) (.str x.cps.toList)
        cases q : tcmp (.str y.cps.toList) (.str p.cps.toList) with
        | lt =>
          rw [q] at tr
          exfalso
          have sw := tcmp_sw (.str x.cps.toList) (.str p.cps.toList)
          cases q2 : tcmp (.str x.cps.toList) (.str p.cps.toList) with
          | lt => rw [q2] at hx; cases hx
          | eq =>
            rw [q2] at sw
            rw [sw] at tr
            rw [tr .lt rfl] at a
            cases a
          | gt =>
            rw [q2] at sw
            rw [sw] at tr
            rw [tr .lt rfl] at a
            cases a
        | eq => rfl
        | gt => rfl
    · obtain ⟨y, hy, rfl⟩ := List.mem_map.mp ht
      exact k1 y hy
theorem sorted_tsd {ys : List Str} (h : sortedS ys = true) : Tsd (ys.map fun y => T.str y.cps.toList) := by
  cases ys with
  | nil => exact List.Pairwise.nil
  | cons x r =>
    obtain ⟨k1, k2⟩ := rising_pw (p := x) (ys := r) h
    refine List.pairwise_cons.mpr ⟨fun t ht => ?_, k2⟩
    obtain ⟨y, hy, rfl⟩ := List.mem_map.mp ht
    exact k1 y hy
theorem key_strs : ∀ {kvs : List (Key × V)}, (kvs.map fun p => keyT p.1).all isStr = true → ∃ ks : List Str, kvs.map (·.1) = ks.map Sum.inr
  | [], _ => ⟨[], rfl⟩
  | p :: r, h => by
    rw [List.map_cons, List.all_cons, Bool.and_eq_true] at h
    obtain ⟨ks, e⟩ := key_strs h.2
    cases q : p.1 with
    | inl i => rw [q] at h; cases h.1
    | inr z => exact ⟨z :: ks, by rw [List.map_cons, List.map_cons, e, q]⟩
theorem cr_sortD {X : Cx} (hc : X.calm = true) : CallR X (.builtin "sorted") (rSrtD X.K) := by
  intro pins s σ H xs us Q I rx ⟨Z, kt, ut, v, e, hz, h1, hs, hl, hq⟩
  subst e
  obtain ⟨a, vs, rfl, ⟨kvs, g1, ⟨rfl, gk⟩, _⟩, g2⟩ := h1.dct
  obtain ⟨ks, ek⟩ := key_strs hs
  have et : (kvs.map fun p => keyT p.1) = ks.map fun y => T.str y.cps.toList := by
    have : (kvs.map fun p => keyT p.1) = (kvs.map (·.1)).map keyT := by rw [List.map_map]; rfl
    rw [this, ek, List.map_map]
    rfl
  refine call_sortedD hc pins s σ H _ us Q I rx ⟨a, kvs, ks, rfl, .inl g1, ek, by rw [et, List.length_map] at hl; exact hl, fun ys p pm st n => ?_⟩
  have hp : (ys.map fun y => T.str y.cps.toList).Perm (kvs.map fun p => keyT p.1) := by rw [et]; exact pm.map _
  have same : ∀ x ∈ (ys.map fun y => T.str y.cps.toList), ∀ y ∈ (ys.map fun y => T.str y.cps.toList), tcmp x y = .eq → x = y := fun x hx y hy q => by
    obtain ⟨a, _, rfl⟩ := List.mem_map.mp hx
    obtain ⟨b, _, rfl⟩ := List.mem_map.mp hy
    unfold tcmp at q
    rw [scmp_is q]
  have e1 : tsort (kvs.map fun p => keyT p.1) = ys.map fun y => T.str y.cps.toList := by
    rw [← tsort_perm hp same]
    exact (tsort_is (sorted_tsd st) fun _ => rfl).symm
  have ok : ∀ y ∈ ys, okS y.cps.toList = true := fun y hy => by
    have : (Sum.inr y : Key) ∈ kvs.map (·.1) := by rw [ek]; exact List.mem_map_of_mem (pm.mem_iff.mp hy)
    obtain ⟨p, hp, e⟩ := List.mem_map.mp this
    have := gk p hp
    rw [e] at this
    exact this
  refine hq _ _ [p] ?_
  rw [e1]
  refine .lst n ?_
  clear e1 same hp pm st
  induction ys with
  | nil => exact .nil
  | cons y r ih =>
    refine .cons ?_ (ih fun z hz => ok z (List.mem_cons_of_mem _ hz))
    have := Rp.str (K := X.K) (Z := Z) (H := H) (ok y List.mem_cons_self)
    simpa [toS] using this
end Ev
end
section
set_option Elab.async false
set_option linter.all false
set_option maxRecDepth 100000
set_option maxHeartbeats 1000000
namespace Ev
open PySem PySem.Spec L2 StX
mutual
def noExc : E → Bool
  | .var _ => true
  | .cst _ => true
  | .glb _ _ => true
  | .lenV _ => true
  | .op _ es => noExcs es
  | _ => false
def noExcs : List E → Bool
  | [] => true
  | .brw _ :: es => noExcs es
  | e :: es => noExc e && plainE e && noExcs es
end
mutual
theorem noExc_ok {cf : CallF} : ∀ {e : E}, noExc e = true → ∀ ρ c fs ρ', ev cf e ρ ≠ .exc c fs ρ'
  | .var i, _, ρ, c, fs, ρ', h => by
    rw [ev] at h
    unfold share at h
    split at h <;> cases h
  | .cst _, _, ρ, c, fs, ρ', h => by rw [ev] at h; cases h
  | .glb _ _, _, ρ, c, fs, ρ', h => by rw [ev] at h; cases h
  | .lenV i, _, ρ, c, fs, ρ', h => by
    rw [ev] at h
    split at h <;> cases h
  | .op o es, hn, ρ, c, fs, ρ', h => by
    rw [ev] at h
    unfold noExc at hn
    cases e : evs cf es ρ with
    | bad => rw [e] at h; cases h
    | exc c2 fs2 ρ2 => exact noExcs_ok hn _ _ _ _ e
    | ok as ρ1 =>
      rw [e] at h
      simp only [Out.bind] at h
      split at h
      · unfold fin at h
        split at h <;> cases h
      · cases h
  | .brw _, hn, _, _, _, _, _ => by simp [noExc] at hn
  | .star _, hn, _, _, _, _, _ => by simp [noExc] at hn
  | .ifx _ _ _, hn, _, _, _, _, _ => by simp [noExc] at hn
  | .and_ _ _, hn, _, _, _, _, _ => by simp [noExc] at hn
  | .or_ _ _, hn, _, _, _, _, _ => by simp [noExc] at hn
  | .chain _ _ _ _ _, hn, _, _, _, _, _ => by simp [noExc] at hn
  | .call _ _, hn, _, _, _, _, _ => by simp [noExc] at hn
  | .callk _ _ _, hn, _, _, _, _, _ => by simp [noExc] at hn
  | .lc _ _ _ _ _ _, hn, _, _, _, _, _ => by simp [noExc] at hn
  | .lc2 _ _ _ _ _ _ _ _ _ _, hn, _, _, _, _, _ => by simp [noExc] at hn
  | .dc _ _ _ _ _ _ _, hn, _, _, _, _, _ => by simp [noExc] at hn
  | .dc2 _ _ _ _ _ _ _ _ _ _ _, hn, _, _, _, _, _ => by simp [noExc] at hn
  | .bad, hn, _, _, _, _, _ => by simp [noExc] at hn
theorem noExcs_ok {cf : CallF} : ∀ {es : List E}, noExcs es = true → ∀ ρ c fs ρ', evs cf es ρ ≠ .exc c fs ρ'
  | [], _, ρ, c, fs, ρ', h => by rw [evs] at h; cases h
  | e :: es, hn, ρ, c, fs, ρ', h => by
    by_cases hp : plainE e = true
    · have hn2 : noExc e = true ∧ noExcs es = true := by
        cases e <;> first | (simp [plainE] at hp; done) | (simp only [noExcs, Bool.and_eq_true] at hn; exact ⟨hn.1.1, hn.2⟩)
      rw [evs_plain hp] at h
      cases q0 : ev cf e ρ with
      | bad => rw [q0] at h; cases h
      | exc c2 fs2 ρ2 => exact noExc_ok hn2.1 _ _ _ _ q0
      | ok r ρ1 =>
        rw [q0] at h
        simp only [Out.bind] at h
        cases q : evs cf es ρ1 with
        | bad => rw [q] at h; cases h
        | exc c2 fs2 ρ2 => exact noExcs_ok hn2.2 _ _ _ _ q
        | ok bs ρ2 => rw [q] at h; cases h
    · cases e with
      | brw i =>
        rw [evs] at h
        simp only [noExcs] at hn
        split at h
        · cases q : evs cf es ρ with
          | bad => rw [q] at h; cases h
          | exc c2 fs2 ρ2 => exact noExcs_ok hn _ _ _ _ q
          | ok bs ρ2 => rw [q] at h; cases h
        · cases h
      | star e => simp [noExcs, plainE] at hn
      | _ => exact absurd rfl hp
end
def noStarE : E → Bool
  | .star _ => false
  | _ => true
theorem noStar_of {e : E} (h : noStarE e = true) : NoSt e := fun x q => by subst q; simp [noStarE] at h
/-- operand by operand -/
def Each (X : Cx) (D : Wd) : List Expr → List E → Prop
  | [], [] => True
  | a :: as, e :: es => (NoSt e → PE X a (tO D e)) ∧ Each X D as es
  | _, _ => False
section
variable {X : Cx} {D : Wd} {C : Ck} {sc rw_ : Scope}
theorem Each.one {a : Expr} {es : List E} (h : Each X D [a] es) : ∃ e, es = [e] ∧ (NoSt e → PE X a (tO D e)) := by
  match es, h with
  | [e], h => exact ⟨e, rfl, h.1⟩
theorem Each.two {a b : Expr} {es : List E} (h : Each X D [a, b] es) : ∃ e f, es = [e, f] ∧ (NoSt e → PE X a (tO D e)) ∧ (NoSt f → PE X b (tO D f)) := by
  match es, h with
  | [e, f], h => exact ⟨e, f, rfl, h.1, h.2.1⟩
theorem two_st {e f : E} (h : [e, f].all noStarE = true) : NoSt e ∧ NoSt f := by
  simp only [List.all_cons, Bool.and_eq_true] at h
  exact ⟨noStar_of h.1, noStar_of h.2.1⟩
theorem one_st {e : E} (h : [e].all noStarE = true) : NoSt e := by
  simp only [List.all_cons, Bool.and_eq_true] at h
  exact noStar_of h.1
theorem pe_bin (c : Cok X D C sc rw_) {o : Op} {p : Operator} {a b : Expr} {pos : Pos} {es : List E} (h : binO o = some p) (hs : es.all noStarE = true) (he : Each X D [a, b] es) : PE X (.BinOp a p b pos) (tE D (.op o es)) := by
  obtain ⟨e, f, rfl, h1, h2⟩ := he.two
  obtain ⟨s1, s2⟩ := two_st hs
  exact PE.weak (pe_op (or_bin h) (h1 s1) (h2 s2)) fun σ H Q q => c.hK ▸ op_in2 s1 s2 q
theorem un_of {X : Cx} (h : X.A.units + 200 < cLine) : X.A.units + 64 < cLine ∧ X.A.units + 65 < cLine := by omega
theorem or_cmp (c : Cok X D C sc rw_) {o : Op} {p : CmpOp} (h : cmpO o = some p) : OpR X (compareOp p) (fun x y H Q => OpG D.K o [x, y] H Q) := by
  have hu := un_of c.un
  rw [← c.hK]
  cases o <;> simp only [cmpO] at h <;> first | (cases h; done) | skip
  · cases h; exact or_lt hu.1
  · cases h; exact or_le
  · cases h; exact or_gt
  · cases h; exact or_ge
  · cases h; exact or_eq hu.1
  · cases h; exact or_ne hu.1
  · cases h; exact or_in hu.2
  · cases h; exact or_nin hu.2
theorem cmp_isB {o : Op} {p : CmpOp} (h : cmpO o = some p) : isB o = true := by
  cases o <;> simp only [cmpO] at h <;> first | rfl | (cases h; done)
theorem pe_cmp2 (c : Cok X D C sc rw_) {o : Op} {p : CmpOp} {a b : Expr} {pos : Pos} {es : List E} (h : cmpO o = some p) (hm : behindInMarks p b = false) (hs : es.all noStarE = true) (he : Each X D [a, b] es) :
    PE X (.Compare a [p] [b] pos) (tE D (.op o es)) ∧ PT X (.Compare a [p] [b] pos) (tT D (.op o es)) := by
  obtain ⟨e, f, rfl, h1, h2⟩ := he.two
  obtain ⟨s1, s2⟩ := two_st hs
  refine ⟨PE.weak (pe_cmpR (or_cmp c h) (h1 s1) (h2 s2) hm) fun σ H Q q => op_in2 s1 s2 q, PT.weak (pt_cmpR (or_cmp c h) (h1 s1) (h2 s2) hm) fun σ H Q q => ?_⟩
  exact op_in2 s1 s2 (opT_in (cmp_isB h) q)
theorem pe_isn (c : Cok X D C sc rw_) {o : Op} {p : CmpOp} {a : Expr} {j : Nat} {pos p1 : Pos} {es : List E} (h : (o = .isN ∧ p = .Is) ∨ (o = .notN ∧ p = .IsNot)) (hs : es.all noStarE = true) (he : Each X D [a] es) :
    PE X (.Compare a [p] [.Constant .none j p1] pos) (tE D (.op o es)) ∧ PT X (.Compare a [p] [.Constant .none j p1] pos) (tT D (.op o es)) := by
  obtain ⟨e, rfl, h1⟩ := he.one
  have s1 := one_st hs
  rcases h with ⟨rfl, rfl⟩ | ⟨rfl, rfl⟩
  · refine ⟨PE.weak (pe_cmpR or_isN (h1 s1) pe_non rfl) fun σ H Q q => ?_, PT.weak (pt_cmpR or_isN (h1 s1) pe_non rfl) fun σ H Q q => ?_⟩
    · exact (op_in1 s1 q).mono fun x H1 g => ⟨rfl, c.hK ▸ g⟩
    · exact (op_in1 s1 (opT_in rfl q)).mono fun x H1 g => ⟨rfl, c.hK ▸ g⟩
  · refine ⟨PE.weak (pe_cmpR or_notN (h1 s1) pe_non rfl) fun σ H Q q => ?_, PT.weak (pt_cmpR or_notN (h1 s1) pe_non rfl) fun σ H Q q => ?_⟩
    · exact (op_in1 s1 q).mono fun x H1 g => ⟨rfl, c.hK ▸ g⟩
    · exact (op_in1 s1 (opT_in rfl q)).mono fun x H1 g => ⟨rfl, c.hK ▸ g⟩
theorem pe_neg (c : Cok X D C sc rw_) {a : Expr} {pos : Pos} {es : List E} (hs : es.all noStarE = true) (he : Each X D [a] es) : PE X (.UnaryOp .USub a pos) (tE D (.op .neg es)) := by
  obtain ⟨e, rfl, h1⟩ := he.one
  have s1 := one_st hs
  exact PE.weak (pe_un ur_neg (h1 s1)) fun σ H Q q => c.hK ▸ op_in1 s1 q
theorem pe_nt (c : Cok X D C sc rw_) {a : Expr} {pos : Pos} {es : List E} (hs : es.all noStarE = true) (he : Each X D [a] es) : PE X (.UnaryOp .Not a pos) (tE D (.op .not_ es)) := by
  obtain ⟨e, rfl, h1⟩ := he.one
  have s1 := one_st hs
  exact PE.weak (pe_notT (h1 s1)) fun σ H Q q => c.hK ▸ not_in s1 q
def plainIx : Expr → Bool
  | .Slice _ _ _ _ => false
  | _ => true
theorem plainIx_of {b : Expr} (h : plainIx b = true) : PlainIx b := fun o i => by
  cases b <;> first | rfl | (simp [plainIx] at h)
theorem pe_idx (c : Cok X D C sc rw_) {a b : Expr} {pos : Pos} {es : List E} (hb : plainIx b = true) (hs : es.all noStarE = true) (he : Each X D [a, b] es) : PE X (.Subscript a b pos) (tE D (.op .idx es)) := by
  obtain ⟨e, f, rfl, h1, h2⟩ := he.two
  obtain ⟨s1, s2⟩ := two_st hs
  exact PE.weak (pe_ix (ir_idx (un_of c.un).2) (h1 s1) (h2 s2) (plainIx_of hb)) fun σ H Q q => c.hK ▸ op_in2 s1 s2 q
def optX (o : Option Expr) : List Expr := match o with
  | none => []
  | some e => [e]
theorem po_of {lo : Option Expr} {l : Option E} (h : Each X D (optX lo) (optL l)) (hp : ∀ e, l = some e → plainE e = true) : PO X lo (tPart' D l) := by
  cases lo with
  | none =>
    cases l with
    | none => exact po_none
    | some e => exact h.elim
  | some x =>
    cases l with
    | none => exact h.elim
    | some e =>
      have := h.1 (plain_not (hp e rfl))
      have hO : tO D e = tE D e := by
        have hb := hp e rfl
        cases e <;> first | rfl | (simp [plainE] at hb; done)
      rw [hO] at this
      exact po_some this
theorem pe_sl (c : Cok X D C sc rw_) {a : Expr} {lo hi : Option Expr} {pos p2 : Pos} {e : E} {l u : Option E} (hs : noStarE e = true) (hl : ∀ e, l = some e → plainE e = true) (hu : ∀ e, u = some e → plainE e = true ∧ noExc e = true)
    (h1 : NoSt e → PE X a (tO D e)) (h2 : Each X D (optX lo) (optL l)) (h3 : Each X D (optX hi) (optL u)) : PE X (.Subscript a (.Slice lo hi none p2) pos) (tE D (.op (.sl l.isSome u.isSome) (e :: (optL l ++ optL u)))) := by
  have s1 := noStar_of hs
  exact PE.weak (pe_slice sr_sl (h1 s1) (po_of h2 hl) (po_of h3 fun e q => (hu e q).1)) fun σ H Q q => c.hK ▸ sl_in s1 hl (fun e q => (hu e q).1) (fun e q ρ c fs ρ' => noExc_ok (hu e q).2 ρ c fs ρ') q
theorem pe_cb (c : Cok X D C sc rw_) {o : Op} {f : Str} {id : String} {args : List Expr} {es : List E} {p pos : Pos} (hc : CallR X (.builtin id) (fun xs H Q => OpG X.K o xs H Q)) (hf : f = Str.ofString id) (hb : bootBuiltins f = some (.builtin id)) (hn : okNm f = true) (hg : gl sc f = true) (hm : f ∈ C.bi)
    (ha : args.all (fun e => !isStar e) = true) (h0 : args ≠ []) (pa : PA X args (tAs D es)) : PE X (.Call (.Name f p) args [] pos) (tE D (.op o es)) := by
  cases args with
  | nil => exact absurd rfl h0
  | cons a as =>
    simp only [List.all_cons, Bool.and_eq_true] at ha
    have hs := st_one (by simpa using ha.1) as X.env
    refine PE.weak (pe_callB hc (gl_of c hg) (c.bi f hm) hb pa (okNm_of hn).2.2 (okNm_of hn).1 hs (st_any ha.2)) fun σ H Q q => ?_
    exact c.hK ▸ op_in q
theorem pe_ct (c : Cok X D C sc rw_) {o : Op} {f : Str} {id : String} {args : List Expr} {es : List E} {p pos : Pos} (hc : CallR X (.type id) (fun xs H Q => OpG X.K o xs H Q)) (hf : f = Str.ofString id) (hb : bootBuiltins f = some (.type id)) (hn : okNm f = true) (hg : gl sc f = true) (hm : f ∈ C.bi)
    (ha : args.all (fun e => !isStar e) = true) (h0 : args ≠ []) (pa : PA X args (tAs D es)) : PE X (.Call (.Name f p) args [] pos) (tE D (.op o es)) := by
  cases args with
  | nil => exact absurd rfl h0
  | cons a as =>
    simp only [List.all_cons, Bool.and_eq_true] at ha
    have hs := st_one (by simpa using ha.1) as X.env
    refine PE.weak (pe_callTy hc (gl_of c hg) (c.bi f hm) hb pa (okNm_of hn).2.2 (okNm_of hn).1 hs (st_any ha.2)) fun σ H Q q => ?_
    exact c.hK ▸ op_in q
/-- which built-in is an operator -/
def bltO : Op → Option String
  | .len => some "len" | .abs => some "abs" | .min2 => some "min" | .max2 => some "max" | .minL => some "min" | .maxL => some "max"
  | .sum => some "sum" | .sumL => some "sum" | .all => some "all" | .any => some "any" | .sorted => some "sorted"
  | _ => none
def typO : Op → Option String
  | .toInt => some "int" | .toTup => some "tuple" | .toLst => some "list"
  | _ => none
theorem cr_blt (c : Cok X D C sc rw_) {o : Op} {id : String} (h : bltO o = some id) : CallR X (.builtin id) (fun xs H Q => OpG X.K o xs H Q) := by
  cases o <;> simp only [bltO] at h <;> first | (cases h; done) | skip
  · cases h; exact cr_len
  · cases h; exact cr_abs
  · cases h; exact cr_min2 c.calm
  · cases h; exact cr_max2 c.calm
  · cases h; exact cr_minL c.calm
  · cases h; exact cr_maxL c.calm
  · cases h; exact cr_sum1 c.calm
  · cases h; exact cr_sumL c.calm
  · cases h; exact cr_sorted1 c.calm (un_of c.un).2 (cr_sortD c.calm)
  · cases h; exact cr_all1 c.calm
  · cases h; exact cr_any1 c.calm
theorem bt_blt {o : Op} {id : String} (h : bltO o = some id) : bootBuiltins (Str.ofString id) = some (.builtin id) ∧ okNm (Str.ofString id) = true := by
  cases o <;> simp only [bltO] at h <;> first | (cases h; done) | skip
  all_goals cases h; exact ⟨rfl, by decide +kernel⟩
theorem cr_typ (c : Cok X D C sc rw_) {o : Op} {id : String} (h : typO o = some id) : CallR X (.type id) (fun xs H Q => OpG X.K o xs H Q) := by
  cases o <;> simp only [typO] at h <;> first | (cases h; done) | skip
  · cases h; exact cr_toTup c.calm
  · cases h; exact cr_toLst
  · cases h; exact cr_toInt
theorem bt_typ {o : Op} {id : String} (h : typO o = some id) : bootBuiltins (Str.ofString id) = some (.type id) ∧ okNm (Str.ofString id) = true := by
  cases o <;> simp only [typO] at h <;> first | (cases h; done) | skip
  all_goals cases h; exact ⟨rfl, by decide +kernel⟩
theorem pe_bl1 (c : Cok X D C sc rw_) {o : Op} {f : Str} {id : String} {args : List Expr} {es : List E} {p pos : Pos} (h : bltO o = some id) (hf : f = Str.ofString id) (hg : gl sc f = true) (hm : f ∈ C.bi)
    (ha : args.all (fun e => !isStar e) = true) (h0 : args ≠ []) (pa : PA X args (tAs D es)) : PE X (.Call (.Name f p) args [] pos) (tE D (.op o es)) := by
  subst hf
  exact pe_cb c (cr_blt c h) rfl (bt_blt h).1 (bt_blt h).2 hg hm ha h0 pa
theorem pe_ty1 (c : Cok X D C sc rw_) {o : Op} {f : Str} {id : String} {args : List Expr} {es : List E} {p pos : Pos} (h : typO o = some id) (hf : f = Str.ofString id) (hg : gl sc f = true) (hm : f ∈ C.bi)
    (ha : args.all (fun e => !isStar e) = true) (h0 : args ≠ []) (pa : PA X args (tAs D es)) : PE X (.Call (.Name f p) args [] pos) (tE D (.op o es)) := by
  subst hf
  exact pe_ct c (cr_typ c h) rfl (bt_typ h).1 (bt_typ h).2 hg hm ha h0 pa
theorem un65 (c : Cok X D C sc rw_) : X.A.units + 65 < cLine := (un_of c.un).2
theorem pe_set1 {a : Expr} {g : Str} {p pos : Pos} {t : TA} (c : Cok X D C sc rw_) (hg : gl sc g = true) (hm : g ∈ C.bi) (h : g = Str.ofString "set") (hs : isStar a = false) (pa : PA X [a] t) : PE X (.Call (.Name g p) [a] [] pos) (tCB (rSet X.prog X.w X.K) t) := by
  subst h
  exact pe_callTy (cr_set c.calm) (gl_of c hg) (c.bi _ hm) rfl pa (by decide +kernel) (by decide +kernel) (st_one hs _ _) rfl
theorem pe_sset (c : Cok X D C sc rw_) {a : Expr} {f g : Str} {p p2 pos pos2 : Pos} {es : List E} (hf : f = Str.ofString "sorted") (hg : g = Str.ofString "set") (gf : gl sc f = true) (gg : gl sc g = true) (mf : f ∈ C.bi) (mg : g ∈ C.bi) (ha : isStar a = false) (hs : es.all noStarE = true) (he : Each X D [a] es) :
    PE X (.Call (.Name f p) [.Call (.Name g p2) [a] [] pos2] [] pos) (tE D (.op .sset es)) := by
  obtain ⟨e, rfl, h1⟩ := he.one
  have s1 := one_st hs
  subst hf
  have pin := pe_set1 (p := p2) (pos := pos2) c gg mg hg ha (pa_cons (h1 s1) pa_nil (st_one ha _ _))
  refine PE.weak (pe_callB (cr_sortX c.calm (un65 c)) (gl_of c gf) (c.bi _ mf) rfl (pa_cons pin pa_nil (st_one rfl _ _)) (by decide +kernel) (by decide +kernel) (st_one rfl _ _) rfl) fun σ H Q q => ?_
  exact (op_in1 s1 q).mono fun x H1 g => sset_in (c.hK ▸ g)
theorem pe_lset (c : Cok X D C sc rw_) {a : Expr} {f g : Str} {p p2 pos pos2 : Pos} {es : List E} (hf : f = Str.ofString "len") (hg : g = Str.ofString "set") (gf : gl sc f = true) (gg : gl sc g = true) (mf : f ∈ C.bi) (mg : g ∈ C.bi) (ha : isStar a = false) (hs : es.all noStarE = true) (he : Each X D [a] es) :
    PE X (.Call (.Name f p) [.Call (.Name g p2) [a] [] pos2] [] pos) (tE D (.op .lset es)) := by
  obtain ⟨e, rfl, h1⟩ := he.one
  have s1 := one_st hs
  subst hf
  have pin := pe_set1 (p := p2) (pos := pos2) c gg mg hg ha (pa_cons (h1 s1) pa_nil (st_one ha _ _))
  refine PE.weak (pe_callB cr_lenX (gl_of c gf) (c.bi _ mf) rfl (pa_cons pin pa_nil (st_one rfl _ _)) (by decide +kernel) (by decide +kernel) (st_one rfl _ _) rfl) fun σ H Q q => ?_
  exact (op_in1 s1 q).mono fun x H1 g => lset_in (c.hK ▸ g)
/-- the step's text -/
def isRevX : Expr → Bool
  | .Slice none none (some (.UnaryOp .USub (.Constant (.int i) _ _) _)) _ => decide (i = 1)
  | _ => false
def isTwoX (l : Option Nat) : Expr → Bool
  | .Slice lo none (some (.Constant (.int i) _ _)) _ => decide (i = 2) && (match l, lo with
    | none, none => true
    | some n, some (.Constant (.int j) _ _) => decide (j = (n : Int))
    | _, _ => false)
  | _ => false
theorem rps_two {K : PySem.W.Frag} {Z : Zn} {H : Hp} : ∀ {vs : List V} {ts : List T}, Rps K Z H vs ts → Rps K Z H (two vs) (two ts)
  | [], ts, h => by
    cases ts with
    | nil => exact .nil
    | cons t ts => obtain ⟨_, _, e, _⟩ := h.uncons; cases e
  | [v], ts, h => by
    cases ts with
    | nil => cases h.nil'
    | cons t ts =>
      obtain ⟨w, r, e, h1, h2⟩ := h.uncons
      cases e
      cases ts with
      | nil => exact .cons h1 .nil
      | cons u us => obtain ⟨_, _, e, _⟩ := h2.uncons; cases e
  | v :: v2 :: vs, ts, h => by
    cases ts with
    | nil => cases h.nil'
    | cons t ts =>
      obtain ⟨w, r, e, h1, h2⟩ := h.uncons
      cases e
      cases ts with
      | nil => cases h2.nil'
      | cons u us =>
        obtain ⟨w2, r2, e, h3, h4⟩ := h2.uncons
        cases e
        exact .cons h1 (rps_two h4)
theorem rps_stepped {K : PySem.W.Frag} {Z : Zn} {H : Hp} {k : Int} {lo : Option Int} {vs : List V} {ts : List T} (h : Rps K Z H vs ts) : Rps K Z H (stepped k lo vs) (stepped k lo ts) := by
  unfold stepped
  split
  · rw [h.len]
    exact rps_two (h.drop _)
  · exact h.rev
/-- what an operator of steps gives -/
theorem stp_in {K : PySem.W.Frag} {o : Op} {k : Int} {lo : Option Int} {x : V} {H : Hp} {Q : VK} (sk : StepOk k lo) (h : OpG K o [x] H Q)
    (ho : ∀ t r, evOp o [t] = some r → (∃ ts, t = .tup ts ∧ r = .sh (.tup (stepped k lo ts))) ∨ ∃ ts, t = .lst ts ∧ r = .own (stepped k lo ts)) :
    StepOk k lo ∧ ∃ a xs, x = .ref a ∧ ((SqL K H a xs ∧ ∀ p, H p = none → Q (.ref p) (upd H p (.lst (stepped k lo xs)))) ∨ (SqT K H a xs ∧ ∀ p, H p = none → Q (.ref p) (upd H p (.tup (stepped k lo xs))))) := by
  obtain ⟨Z, ts, r, hz, hv, he, hq⟩ := h
  have l1 : ∃ t, ts = [t] := by
    have := hv.ln
    cases ts with
    | nil => simp at this
    | cons t ts => cases ts with
      | nil => exact ⟨t, rfl⟩
      | cons _ _ => simp at this
  obtain ⟨t, rfl⟩ := l1
  obtain ⟨v, e, h1⟩ := hv.one
  cases e
  refine ⟨sk, ?_⟩
  rcases ho t r he with ⟨us, rfl, rfl⟩ | ⟨us, rfl, rfl⟩
  · obtain ⟨p, vs, rfl, g1, g2⟩ := h1.tup
    exact ⟨p, vs, rfl, .inr ⟨.of g1.1, fun q nq => hq _ _ _ (.tup nq hz (rps_stepped g2))⟩⟩
  · obtain ⟨p, vs, rfl, g1, g2⟩ := h1.lst
    exact ⟨p, vs, rfl, .inl ⟨.of g1, fun q nq => hq _ _ _ (.lst nq (rps_stepped g2))⟩⟩
theorem pe_slrX (c : Cok X D C sc rw_) {a b : Expr} {pos : Pos} {es : List E} (hb : isRevX b = true) (hs : es.all noStarE = true) (he : Each X D [a] es) : PE X (.Subscript a b pos) (tE D (.op .slr es)) := by
  obtain ⟨e, rfl, h1⟩ := he.one
  have s1 := one_st hs
  unfold isRevX at hb
  split at hb
  · rename_i i p1 p2 p3 p4
    have hi := of_decide_eq_true hb
    subst hi
    have st : PE X (.UnaryOp .USub (.Constant (.int 1) p1 p2) p3) (tC (.int (-1))) := PE.weak (pe_un un_neg pe_int) fun σ H Q q => ⟨1, rfl, q⟩
    refine PE.weak (pe_stp (h1 s1) po_none st fun o i => rfl) fun σ H Q q => ?_
    refine (op_in1 s1 q).mono fun x H1 g => ?_
    refine stp_in (k := -1) (lo := none) (.inr ⟨rfl, rfl⟩) (c.hK ▸ g) fun t r he => ?_
    simp only [evOp, o_slr] at he
    split at he
    · rename_i ts e2
      cases e2
      cases he
      exact .inl ⟨ts, rfl, rfl⟩
    · rename_i ts e2
      cases e2
      cases he
      exact .inr ⟨ts, rfl, rfl⟩
    · cases he
  · cases hb
theorem pe_sl2X (c : Cok X D C sc rw_) {l : Option Nat} {a b : Expr} {pos : Pos} {es : List E} (hb : isTwoX l b = true) (hs : es.all noStarE = true) (he : Each X D [a] es) : PE X (.Subscript a b pos) (tE D (.op (.sl2 l) es)) := by
  obtain ⟨e, rfl, h1⟩ := he.one
  have s1 := one_st hs
  have fin : ∀ {x : V} {H1 : Hp} {Q : VK}, OpG X.K (.sl2 l) [x] H1 Q → _ := fun {x H1 Q} g => stp_in (x := x) (H := H1) (Q := Q) (k := 2) (lo := l.map fun n => (n : Int)) (.inl rfl) g fun t r he => by
    simp only [evOp, o_sl2] at he
    split at he
    · rename_i ts e2
      cases e2
      cases he
      exact .inl ⟨ts, rfl, rfl⟩
    · rename_i ts e2
      cases e2
      cases he
      exact .inr ⟨ts, rfl, rfl⟩
    · cases he
  unfold isTwoX at hb
  split at hb
  · rename_i lo i p1 p2 p3
    rw [Bool.and_eq_true] at hb
    have hi := of_decide_eq_true hb.1
    subst hi
    have st : PE X (.Constant (.int 2) p1 p2) (tC (.int 2)) := pe_int
    have hb2 := hb.2
    split at hb2
    · refine PE.weak (pe_stp (h1 s1) po_none st fun o i => rfl) fun σ H Q q => ?_
      exact (op_in1 s1 q).mono fun x H1 g => fin (c.hK ▸ g)
    · rename_i n j p4 p5
      have hj := of_decide_eq_true hb2
      subst hj
      refine PE.weak (pe_stp (h1 s1) (po_some pe_int) st fun o i => rfl) fun σ H Q q => ?_
      exact (op_in1 s1 q).mono fun x H1 g => ⟨_, rfl, fin (c.hK ▸ g)⟩
    · cases hb2
  · cases hb
def fldN (k : Bool) : Str := if k then "number" else "name"
theorem attr_in {k : Bool} {x : V} {H : Hp} {Q : VK} (h : OpG D.K (.attr k) [x] H Q) : ∃ (a C d : Addr) (fs : List (Str × V)) (v : V), x = .ref a ∧ XfC D.K C ∧ PySem.W.findIn D.K (.ref C) (fldN k) = some none ∧ H a = some (EXO a (.ref C) (some d)) ∧ H d = some (.xd fs) ∧ fs.lookup (fldN k) = some v ∧ Q v H := by
  obtain ⟨Z, ts, r, hz, hv, he, hq⟩ := h
  obtain ⟨t, rfl⟩ := len1 (Vws.ln hv)
  obtain ⟨v, e, hw⟩ := hv.one
  cases e
  simp only [evOp, o_attr] at he
  split at he
  · rename_i c u e
    cases e
    split at he
    · rename_i hc
      cases he
      have hr : Rp D.K Z H x (.err c [u]) := hw
      unfold Rp at hr
      obtain ⟨a, d, ws, rfl, ⟨h1, _⟩, xk, xd, rr⟩ := hr
      have ef : xF c = fldN k := by
        unfold xF fldN
        rw [hc]
        cases k <;> rfl
      rcases xd with ⟨_, _, q⟩ | ⟨dd, w, rfl, rfl, h3, _⟩
      · rw [hc] at q; cases q
      · obtain ⟨w', r', e', g1, _⟩ := rr.uncons
        cases e'
        have nf := xk.noF
        rw [ef] at nf h3
        exact ⟨a, cvA D.K c, dd, _, w, rfl, xk.fld, nf, h1, h3.1, by simp [List.lookup], hq _ _ [] (.sh g1)⟩
    · cases he
  · cases he
theorem pe_attrE (hK : X.K = D.K) {k : Bool} {x : Str} {p pos : Pos} {es : List E} (hs : es.all noStarE = true) (he : Each X D [.Name x p] es) : PE X (.Attribute (.Name x p) (fldN k) pos) (tE D (.op (.attr k) es)) := by
  obtain ⟨e, rfl, h1⟩ := he.one
  have s1 := one_st hs
  refine PE.weak (pe_exf (h1 s1) (by rfl)) fun σ H Q q => ?_
  refine (op_in1 s1 q).mono fun y H1 g => ?_
  rw [hK]
  exact attr_in g
end
end Ev
end
section
set_option Elab.async false
set_option linter.all false
set_option maxRecDepth 100000
set_option maxHeartbeats 1000000
namespace Ev
open PySem PySem.Spec L2 StX
def tyOk (C : Ck) (sc : Scope) : List Ty → List Expr → Bool
  | [], [] => true
  | y :: ys, .Name n _ :: es => y.ok && decide (n = Str.ofString y.nm) && gl sc n && decide (n ∈ C.bi) && okNm n && tyOk C sc ys es
  | _, _ => false
def isiArgs (C : Ck) (sc : Scope) (ys : List Ty) : List Expr → Option (List Expr)
  | [a, .Name n p] => if tyOk C sc ys [.Name n p] && !isStar a then some [a] else none
  | [a, .Tuple ts _ _] => if tyOk C sc ys ts && !isStar a && Nat.ble 2 ys.length && Nat.ble ys.length 100 then some [a] else none
  | _ => none
def bltNm (o : Op) (f : Str) : Bool := (match bltO o with
  | some id => decide (f = Str.ofString id)
  | none => false) || (match typO o with
  | some id => decide (f = Str.ofString id)
  | none => false)
def opCmp (o : Op) (a : Expr) : List CmpOp → List Expr → Option (List Expr)
  | [p], [b] => (match o with
    | .isN => (match p, b with
      | .Is, .Constant .none _ _ => some [a]
      | _, _ => none)
    | .notN => (match p, b with
      | .IsNot, .Constant .none _ _ => some [a]
      | _, _ => none)
    | _ => if decide (cmpO o = some p) && !behindInMarks p b then some [a, b] else none)
  | _, _ => none
/-- set(a) in a call -/
def setArg (C : Ck) (sc : Scope) : List Expr → Option (List Expr)
  | [.Call (.Name g _) [a] [] _] => if decide (g = Str.ofString "set") && gl sc g && decide (g ∈ C.bi) && !isStar a then some [a] else none
  | _ => none
def opCall (C : Ck) (sc : Scope) (o : Op) (f : Str) (args : List Expr) : Option (List Expr) :=
  if gl sc f && decide (f ∈ C.bi) then (match o with
    | .isi ys => if decide (f = Str.ofString "isinstance") then isiArgs C sc ys args else none
    | .sset => if decide (f = Str.ofString "sorted") then setArg C sc args else none
    | .lset => if decide (f = Str.ofString "len") then setArg C sc args else none
    | _ => if bltNm o f && args.all (fun e => !isStar e) && !args.isEmpty then some args else none) else none
def opnds (C : Ck) (sc : Scope) (o : Op) : Expr → Option (List Expr)
  | .BinOp a p b _ => if decide (binO o = some p) then some [a, b] else none
  | .Compare a ops bs _ => opCmp o a ops bs
  | .UnaryOp u a _ => (match o, u with
    | .neg, .USub => some [a]
    | .not_, .Not => some [a]
    | _, _ => none)
  | .Tuple es _ _ => (match o with
    | .tup => some es
    | _ => none)
  | .List es _ => (match o with
    | .lst => some es
    | _ => none)
  | .Attribute a f _ => (match o, a with
    | .attr k, .Name x p => if decide (f = fldN k) then some [.Name x p] else none
    | _, _ => none)
  | .Subscript a b _ => (match o with
    | .idx => if plainIx b then some [a, b] else none
    | .slr => if isRevX b then some [a] else none
    | .sl2 l => if isTwoX l b then some [a] else none
    | .sl x y => (match b with
      | .Slice lo hi none _ => if x == lo.isSome && y == hi.isSome then some (a :: (optX lo ++ optX hi)) else none
      | _ => none)
    | _ => none)
  | .Call fn args kws _ => (match fn, kws with
    | .Name f _, [] => opCall C sc o f args
    | _, _ => none)
  | _ => none
def lastE : List E → Bool
  | [] => true
  | [e] => noExc e
  | _ :: es => lastE es
def okOps (o : Op) (es : List E) : Bool := match o with
  | .tup => noBrw es
  | .lst => noBrw es
  | .sl _ y => (match es with
    | e :: r => noStarE e && r.all plainE && (!y || lastE r)
    | [] => false)
  | _ => es.all noStarE
theorem tys_of {X : Cx} {D : Wd} {C : Ck} {sc rw_ : Scope} (c : Cok X D C sc rw_) : ∀ {ys : List Ty} {es : List Expr}, tyOk C sc ys es = true → tyEs X es ys ∧ ys.all Ty.ok = true
  | [], [], _ => ⟨trivial, rfl⟩
  | [], _ :: _, h => by simp [tyOk] at h
  | _ :: _, [], h => by simp [tyOk] at h
  | y :: ys, e :: es, h => by
    cases e <;> first | (simp [tyOk] at h; done) | skip
    rename_i n p
    simp only [tyOk, Bool.and_eq_true, decide_eq_true_eq] at h
    obtain ⟨⟨⟨⟨⟨h1, h2⟩, h3⟩, h4⟩, h5⟩, h6⟩ := h
    obtain ⟨k1, k2⟩ := tys_of c h6
    have hb : bootBuiltins n = some (.type y.nm) := by
      subst h2
      cases y <;> first | (simp [Ty.ok] at h1; done) | rfl
    exact ⟨⟨⟨h2, hb, gl_of c h3, c.bi n h4, (okNm_of h5).2.2, (okNm_of h5).1, rfl⟩, k1⟩, by simp [h1]; simpa using k2⟩
section
variable {X : Cx} {D : Wd} {C : Ck} {sc rw_ : Scope}
theorem isi_of (c : Cok X D C sc rw_) {ys : List Ty} {f : Str} {args as : List Expr} {es : List E} {p pos : Pos} (hf : f = Str.ofString "isinstance") (hg : gl sc f = true) (hm : f ∈ C.bi) (h : isiArgs C sc ys args = some as) (hs : es.all noStarE = true) (he : Each X D as es) :
    PE X (.Call (.Name f p) args [] pos) (tE D (.op (.isi ys) es)) := by
  subst hf
  unfold isiArgs at h
  split at h
  · rename_i a n p1
    split at h
    · rename_i hc
      cases h
      rw [Bool.and_eq_true] at hc
      obtain ⟨e, rfl, h1⟩ := he.one
      have s1 := one_st hs
      obtain ⟨t1, t2⟩ := tys_of c hc.1
      match ys, t1, t2 with
      | [y], t1, t2 =>
        obtain ⟨⟨k1, k2, k3, k4, k5, k6, _⟩, _⟩ := t1
        exact pe_isi1 c.hK (gl_of c hg) (c.bi _ hm) s1 (by simpa using t2) k1 k2 k3 k4 k5 k6 (st_one (by simpa using hc.2) _ _) (h1 s1)
      | [], t1, _ => exact t1.elim
      | _ :: _ :: _, t1, _ => exact t1.2.elim
    · cases h
  · rename_i a ts x1 p1
    split at h
    · rename_i hc
      cases h
      simp only [Bool.and_eq_true] at hc
      obtain ⟨e, rfl, h1⟩ := he.one
      have s1 := one_st hs
      obtain ⟨t1, t2⟩ := tys_of c hc.1.1.1
      exact pe_isiN c.hK (gl_of c hg) (c.bi _ hm) s1 t2 (Nat.le_of_ble_eq_true hc.2) (Nat.le_of_ble_eq_true hc.1.2) t1 (st_one (by simpa using hc.1.1.2) _ _) (h1 s1)
    · cases h
  · cases h
theorem blt_of (c : Cok X D C sc rw_) {o : Op} {f : Str} {args : List Expr} {es : List E} {p pos : Pos} (h : bltNm o f = true) (hg : gl sc f = true) (hm : f ∈ C.bi) (ha : args.all (fun e => !isStar e) = true) (h0 : args.isEmpty = false) (pa : PA X args (tAs D es)) :
    PE X (.Call (.Name f p) args [] pos) (tE D (.op o es)) := by
  have h0 : args ≠ [] := fun q => by subst q; cases h0
  unfold bltNm at h
  rw [Bool.or_eq_true] at h
  rcases h with h | h
  · split at h
    · rename_i id e
      exact pe_bl1 c e (of_decide_eq_true h) hg hm ha h0 pa
    · cases h
  · split at h
    · rename_i id e
      exact pe_ty1 c e (of_decide_eq_true h) hg hm ha h0 pa
    · cases h
theorem sl_of (c : Cok X D C sc rw_) {a : Expr} {lo hi : Option Expr} {pos p2 : Pos} {es : List E} (h : okOps (.sl lo.isSome hi.isSome) es = true) (he : Each X D (a :: (optX lo ++ optX hi)) es) : PE X (.Subscript a (.Slice lo hi none p2) pos) (tE D (.op (.sl lo.isSome hi.isSome) es)) := by
  match es, he, h with
  | e :: r, he, h =>
    simp only [okOps, Bool.and_eq_true] at h
    obtain ⟨⟨h1, h2⟩, h3⟩ := h
    obtain ⟨k1, k2⟩ := he
    cases lo with
    | none =>
      cases hi with
      | none =>
        match r, k2 with
        | [], _ => exact pe_sl c (l := none) (u := none) h1 (fun e q => by cases q) (fun e q => by cases q) k1 trivial trivial
      | some y =>
        match r, k2, h2, h3 with
        | [u], k2, h2, h3 =>
          have pu : plainE u = true := by simpa using h2
          have nu : noExc u = true := by simpa [lastE] using h3
          exact pe_sl c (l := none) (u := some u) h1 (fun e q => by cases q) (fun e q => by cases q; exact ⟨pu, nu⟩) k1 trivial k2
        | [], k2, _, _ => exact k2.elim
        | _ :: _ :: _, k2, _, _ => exact k2.2.elim
    | some x =>
      cases hi with
      | none =>
        match r, k2, h2 with
        | [l], k2, h2 =>
          have pl : plainE l = true := by simpa using h2
          exact pe_sl c (l := some l) (u := none) h1 (fun e q => by cases q; exact pl) (fun e q => by cases q) k1 k2 trivial
        | [], k2, _ => exact k2.elim
        | _ :: _ :: _, k2, _ => exact k2.2.elim
      | some y =>
        match r, k2, h2, h3 with
        | [l, u], k2, h2, h3 =>
          have pl : plainE l = true ∧ plainE u = true := by simpa using h2
          have nu : noExc u = true := by simpa [lastE] using h3
          exact pe_sl c (l := some l) (u := some u) h1 (fun e q => by cases q; exact pl.1) (fun e q => by cases q; exact ⟨pl.2, nu⟩) k1 ⟨k2.1, trivial⟩ k2.2
        | [], k2, _, _ => exact k2.elim
        | [_], k2, _, _ => exact k2.2.elim
        | _ :: _ :: _ :: _, k2, _, _ => exact k2.2.2.elim
theorem setArg_of {C : Ck} {sc : Scope} {args as : List Expr} (h : setArg C sc args = some as) : ∃ g p pos a, args = [.Call (.Name g p) [a] [] pos] ∧ as = [a] ∧ g = Str.ofString "set" ∧ gl sc g = true ∧ g ∈ C.bi ∧ isStar a = false := by
  unfold setArg at h
  split at h
  · rename_i g p a pos
    split at h
    · rename_i hc
      cases h
      simp only [Bool.and_eq_true, decide_eq_true_eq, Bool.not_eq_true'] at hc
      exact ⟨g, p, pos, a, rfl, rfl, hc.1.1.1, hc.1.1.2, hc.1.2, hc.2⟩
    · cases h
  · cases h
/-- a test by its value -/
def genT : Expr → Bool
  | .Compare _ _ _ _ => false
  | .BoolOp _ _ _ => false
  | .IfExp _ _ _ _ => false
  | .UnaryOp .Not _ _ => false
  | _ => true
theorem gen_ok {e : Expr} {env : PySem.Env} (h : genT e = true) : ∀ whole : Sem Value, PySem.isTrue e env whole = (do let v ← whole; standAt e.pos; holding [v] (truthy v)) := by
  intro whole
  cases e <;> first | (simp [genT] at h; done) | rfl | skip
  rename_i op _ _
  cases op <;> first | (simp [genT] at h; done) | rfl
theorem pt_gen (c : Cok X D C sc rw_) {e : Expr} {x : E} (h : genT e = true) (p : PE X e (tE D x)) : PT X e (tT D x) :=
  PT.weak (pt_truth p (gen_ok h)) fun σ H Q q => c.hK ▸ val_in q
/-- an operator by its text -/
theorem op_of (c : Cok X D C sc rw_) {o : Op} {ex : Expr} {args : List Expr} {es : List E} (h : opnds C sc o ex = some args) (hi : okOps o es = true) (pa : PA X args (tAs D es)) (ea : Each X D args es) :
    PE X ex (tE D (.op o es)) ∧ (o ≠ .not_ → PT X ex (tT D (.op o es))) := by
  have gen : genT ex = true → PE X ex (tE D (.op o es)) → PE X ex (tE D (.op o es)) ∧ (o ≠ .not_ → PT X ex (tT D (.op o es))) := fun g p => ⟨p, fun _ => pt_gen c g p⟩
  cases ex <;> simp only [opnds] at h <;> first | (cases h; done) | skip
  · -- BinOp
    rename_i a p b pos
    split at h
    · rename_i hc
      cases h
      have hc := of_decide_eq_true hc
      refine gen rfl (pe_bin c hc ?_ ea)
      cases o <;> simp only [binO] at hc <;> first | exact hi | (cases hc; done)
    · cases h
  · -- UnaryOp
    rename_i u a pos
    split at h
    · cases h
      exact gen rfl (pe_neg c hi ea)
    · cases h
      exact ⟨pe_nt c hi ea, fun q => absurd rfl q⟩
    · cases h
  · -- Compare
    rename_i a ops bs pos
    match ops, bs, h with
    | [p], [b], h =>
      simp only [opCmp] at h
      split at h
      · split at h
        · cases h
          exact ⟨(pe_isn c (.inl ⟨rfl, rfl⟩) hi ea).1, fun _ => (pe_isn c (.inl ⟨rfl, rfl⟩) hi ea).2⟩
        · cases h
      · split at h
        · cases h
          exact ⟨(pe_isn c (.inr ⟨rfl, rfl⟩) hi ea).1, fun _ => (pe_isn c (.inr ⟨rfl, rfl⟩) hi ea).2⟩
        · cases h
      · split at h
        · rename_i hc
          cases h
          rw [Bool.and_eq_true] at hc
          have h1 := of_decide_eq_true hc.1
          have := pe_cmp2 (pos := pos) c h1 (by simpa using hc.2) (by cases o <;> simp only [cmpO] at h1 <;> first | exact hi | (cases h1; done)) ea
          exact ⟨this.1, fun _ => this.2⟩
        · cases h
    | [], _, h => simp [opCmp] at h
    | _ :: _ :: _, _, h => simp [opCmp] at h
    | [_], [], h => simp [opCmp] at h
    | [_], _ :: _ :: _, h => simp [opCmp] at h
  · -- Call
    rename_i fn as kws pos
    split at h
    · rename_i f p
      unfold opCall at h
      split at h
      · rename_i hc
        rw [Bool.and_eq_true] at hc
        have hm := of_decide_eq_true hc.2
        split at h
        · rename_i ys
          split at h
          · rename_i hf
            exact gen rfl (isi_of c (of_decide_eq_true hf) hc.1 hm h hi ea)
          · cases h
        · split at h
          · rename_i hf
            obtain ⟨g, p2, pos2, a, rfl, rfl, q1, q2, q3, q4⟩ := setArg_of h
            exact gen rfl (pe_sset c (of_decide_eq_true hf) q1 hc.1 q2 hm q3 q4 hi ea)
          · cases h
        · split at h
          · rename_i hf
            obtain ⟨g, p2, pos2, a, rfl, rfl, q1, q2, q3, q4⟩ := setArg_of h
            exact gen rfl (pe_lset c (of_decide_eq_true hf) q1 hc.1 q2 hm q3 q4 hi ea)
          · cases h
        · split at h
          · rename_i hb
            cases h
            simp only [Bool.and_eq_true] at hb
            exact gen rfl (blt_of c hb.1.1 hc.1 hm hb.1.2 (by simpa using hb.2) pa)
          · cases h
      · cases h
    · cases h
  · -- Attribute
    rename_i a f pos
    split at h
    · split at h
      · rename_i hf
        cases h
        obtain rfl := of_decide_eq_true hf
        exact gen rfl (pe_attrE c.hK hi ea)
      · cases h
    · cases h
  · -- Subscript
    rename_i a b pos
    split at h
    · split at h
      · rename_i hb
        cases h
        exact gen rfl (pe_idx c hb hi ea)
      · cases h
    · split at h
      · rename_i hb
        cases h
        exact gen rfl (pe_slrX c hb hi ea)
      · cases h
    · split at h
      · rename_i hb
        cases h
        exact gen rfl (pe_sl2X c hb hi ea)
      · cases h
    · split at h
      · split at h
        · rename_i hc
          cases h
          simp only [Bool.and_eq_true, beq_iff_eq] at hc
          obtain ⟨rfl, rfl⟩ := hc
          exact gen rfl (sl_of c hi ea)
        · cases h
      · cases h
    · cases h
  · -- List
    rename_i ls pos
    split at h
    · cases h
      exact gen rfl (pe_lstE hi pa)
    · cases h
  · -- Tuple
    rename_i ls k pos
    split at h
    · cases h
      exact gen rfl (pe_tupE hi pa)
    · cases h
theorem notT_in {a : E} (hp : plainE a = true) {σ : L2.St} {H : Hp} {Q : Bool → Hp → Prop} (h : tT D (.op .not_ [a]) σ H Q) : tNot (tT D a) σ H Q := by
  obtain ⟨Z, F, ρ, S, h⟩ := h
  refine ⟨Z, F, ρ, S, ?_⟩
  rw [ev, evs_plain hp] at h
  cases e1 : ev D.cf a ρ with
  | bad => rw [e1] at h; exact h
  | exc c fs ρ' => rw [e1] at h; exact h
  | ok r ρ1 =>
    rw [e1] at h
    have ha : argTs ρ1 [.val r] = some [r.t] := by simp [argTs, Arg.t]
    simp only [Out.bind, evs, ha, evOp, o_not_] at h
    simp only [tru]
    cases e2 : truth r.t with
    | none => rw [e2] at h; exact h
    | some b =>
      rw [e2] at h
      exact h
end
end Ev
end
section
set_option Elab.async false
set_option linter.all false
set_option maxRecDepth 100000
set_option maxHeartbeats 1000000
namespace Ev
open PySem PySem.Spec L2 StX
def locN (sc rw_ : Scope) (x : Str) : Bool := decide (sc.names.lookup x = some .local) || (decide (sc.names.lookup x = some .cell) && decide (rw_.names.lookup x = some .cell))
mutual
def okP (C : Ck) (sc rw_ : Scope) : Pat → Expr → Bool
  | .v i, e => (match e with
    | .Name x _ => nmAt C.N i x && locN sc rw_ x
    | _ => false)
  | .o i, e => (match e with
    | .Name x _ => nmAt C.N i x && locN sc rw_ x
    | _ => false)
  | .t ps, e => (match e with
    | .Tuple es _ _ => okPs C sc rw_ ps es
    | _ => false)
def okPs (C : Ck) (sc rw_ : Scope) : List Pat → List Expr → Bool
  | [], es => es.isEmpty
  | p :: ps, es => (match es with
    | e :: es => !isStar e && okP C sc rw_ p e && okPs C sc rw_ ps es
    | [] => false)
end
section
variable {X : Cx} {D : Wd} {C : Ck} {sc rw_ : Scope}
theorem pg_vr (c : Cok X D C sc rw_) {i : Nat} {x : Str} {pos : Pos} (h : (nmAt C.N i x && locN sc rw_ x) = true) : PG X (.Name x pos) (gName i) := by
  rw [Bool.and_eq_true] at h
  obtain ⟨h1, h2⟩ := h
  unfold locN at h2
  rw [Bool.or_eq_true] at h2
  rcases h2 with h2 | h2
  · have h2 := of_decide_eq_true h2
    exact pg_name (by rw [c.hN]; exact c.nd) (nm_of c h1) (by unfold L2.Loc; rw [c.hsc]; exact .inl h2) (by rw [c.hsc]; exact .inr h2)
  · rw [Bool.and_eq_true] at h2
    have h3 := of_decide_eq_true h2.1
    have h4 := of_decide_eq_true h2.2
    exact pg_name (by rw [c.hN]; exact c.nd) (nm_of c h1) (by unfold L2.Loc; rw [c.hsc]; exact .inr h3) (.inl (c.hfn x h4))
theorem as_one {e : Expr} (h : isStar e = false) (es : List Expr) (env : PySem.Env) : assignEach (e :: es) env = (false, assign e env) :: assignEach es env := by
  cases e <;> first | rfl | (simp [isStar] at h)
mutual
theorem okP_ok (c : Cok X D C sc rw_) : ∀ {p : Pat} {e : Expr}, okP C sc rw_ p e = true → PG X e (gP D.K p)
  | .v i, e, h => by
    cases e <;> simp only [okP] at h <;> first | (cases h; done) | skip
    unfold gP
    exact pg_vr c h
  | .o i, e, h => by
    cases e <;> simp only [okP] at h <;> first | (cases h; done) | skip
    unfold gP
    exact pg_vr c h
  | .t ps, e, h => by
    cases e <;> simp only [okP] at h <;> first | (cases h; done) | skip
    obtain ⟨k1, k2, k3⟩ := okPs_ok c h
    unfold gP
    exact ⟨fun pins s σ H v u Q I r q => q.elim (fun q => (pg_tup c.calm k1 k2 k3).run pins s σ H v u Q I r (c.hK ▸ q)) fun q => (pg_lst c.calm k1 k2 k3).run pins s σ H v u Q I r (c.hK ▸ q)⟩
theorem okPs_ok (c : Cok X D C sc rw_) : ∀ {ps : List Pat} {es : List Expr}, okPs C sc rw_ ps es = true → PGs X es (gPs D.K ps) ∧ (assignEach es X.env).length = ps.length ∧ (assignEach es X.env).findIdx? (fun x => x.1) = none
  | [], es, h => by
    unfold okPs at h
    cases es with
    | nil => exact ⟨by unfold gPs; exact pgs_nil, rfl, rfl⟩
    | cons e es => cases h
  | p :: ps, es, h => by
    cases es with
    | nil => simp [okPs] at h
    | cons e es =>
      simp only [okPs, Bool.and_eq_true] at h
      obtain ⟨⟨h1, h2⟩, h3⟩ := h
      obtain ⟨k1, k2, k3⟩ := okPs_ok c h3
      have ha := as_one (by simpa using h1) es X.env
      refine ⟨?_, by rw [ha]; simp [k2], ?_⟩
      · unfold gPs
        exact pgs_cons (okP_ok c h2) k1 (by rw [ha]; rfl)
      · rw [ha, List.findIdx?_cons]
        simp [k3]
end
def isTupX : Expr → Bool
  | .Tuple _ _ _ => true
  | _ => false
def notSet : Expr → Bool
  | .Set _ _ _ => false
  | _ => true
def itNm : ItK → String
  | .range => "range" | .enum => "enumerate" | .zip => "zip" | .rev => "reversed"
  | _ => ""
def itArgs (C : Ck) (sc : Scope) (k : ItK) (tg iter : Expr) : Option (List Expr) := match k with
  | .seq => some [iter]
  | _ => (match iter with
    | .Call fn args kws _ => (match fn, kws with
      | .Name f _, [] => if gl sc f && decide (f ∈ C.bi) && decide (f = Str.ofString (itNm k)) && args.all (fun e => !isStar e) then (match k, args with
          | .range, [a] => some [a]
          | .range, [a, b] => some [a, b]
          | .enum, [a] => if isTupX tg then some [a] else none
          | .zip, [a, b] => if isTupX tg then some [a, b] else none
          | .rev, [a] => some [a]
          | _, _ => none) else none
      | _, _ => none)
    | _ => none)
theorem fold_ok {e : Expr} {env : PySem.Env} (h : notSet e = true) : ∀ x, PySem.foldedSetIterable e env x = pure x := fun x => by
  cases e <;> first | rfl | (simp [notSet] at h)
theorem tO_pl {e : E} (h : plainE e = true) : tO D e = tE D e := by
  cases e <;> first | rfl | (simp [plainE] at h; done)
theorem it_of (c : Cok X D C sc rw_) {k : ItK} {tg iter : Expr} {args : List Expr} {es : List E} (h : itArgs C sc k tg iter = some args) (hp : plains es = true) (pa : PA X args (tAs D es)) (ea : Each X D args es) : PI X tg iter (tI D k es) := by
  have two : ∀ {a b : Expr} {f : E} {g : E}, ([a, b].all fun e => !isStar e) = true → starEach [a, b] X.env = [(false, eval a X.env), (false, eval b X.env)] ∧ starEach [b] X.env = [(false, eval b X.env)] ∧ ((backTo (Expr.pos a) (starEach [b] X.env)).any fun x => x.1) = false := fun {a b f g} h => by
    simp only [List.all_cons, Bool.and_eq_true] at h
    have h1 : isStar a = false := by simpa using h.1
    have h2 : isStar b = false := by simpa using h.2.1
    refine ⟨by rw [st_one h1, st_one h2]; rfl, by rw [st_one h2]; rfl, by rw [st_one h2]; rfl⟩
  unfold itArgs at h
  split at h
  · cases h
    obtain ⟨e, rfl, h1⟩ := ea.one
    have hp1 : plainE e = true := by simpa [plains] using hp
    have := h1 (plain_not hp1)
    rw [tO_pl hp1] at this
    exact pi_seq c.hK hp1 this
  · split at h
    · rename_i fn as kws pos
      split at h
      · rename_i f p
        split at h
        · rename_i hc
          simp only [Bool.and_eq_true] at hc
          obtain ⟨⟨⟨g1, g2⟩, g3⟩, g4⟩ := hc
          have hm := c.bi f (of_decide_eq_true g2)
          have hg := gl_of c g1
          have hf := of_decide_eq_true g3
          subst hf
          split at h
          · rename_i a x0
            cases h
            obtain ⟨e, rfl, h1⟩ := ea.one
            have ha : isStar a = false := by simpa using g4
            exact pi_rng1 hg hm (by simpa [plains] using hp) (by rw [st_one ha]; rfl) pa
          · rename_i a b
            cases h
            obtain ⟨e, e2, rfl, h1, h2⟩ := ea.two
            obtain ⟨t1, t2, t3⟩ := two (f := e) (g := e) g4
            exact pi_rng2 hg hm hp t1 t2 pa
          · rename_i a x0
            split at h
            · rename_i ht
              cases h
              obtain ⟨e, rfl, h1⟩ := ea.one
              have ha : isStar a = false := by simpa using g4
              cases tg <;> first | (simp [isTupX] at ht; done) | skip
              exact pi_enu c.hK hg hm hp (by rw [st_one ha]; rfl) pa
            · cases h
          · rename_i a b
            split at h
            · rename_i ht
              cases h
              obtain ⟨e, e2, rfl, h1, h2⟩ := ea.two
              obtain ⟨t1, t2, t3⟩ := two (f := e) (g := e) g4
              cases tg <;> first | (simp [isTupX] at ht; done) | skip
              exact pi_zi c.hK hg hm hp (by rw [t1, t2]) (by rw [t2]; rfl) pa
            · cases h
          · rename_i a x0
            cases h
            obtain ⟨e, rfl, h1⟩ := ea.one
            have ha : isStar a = false := by simpa using g4
            have hp1 : plainE e = true := by simpa [plains] using hp
            have := h1 (plain_not hp1)
            rw [tO_pl hp1] at this
            exact pi_re c.hK hg hm hp1 (st_one ha _ _) this
          · cases h
        · cases h
      · cases h
    · cases h
end
end Ev
end
section
set_option Elab.async false
set_option linter.all false
set_option maxRecDepth 100000
set_option maxHeartbeats 2000000
namespace Ev
open PySem PySem.Spec PyProof.Rows L2
abbrev DC (kx vx t0 i0 t1 i1 : Expr) (f0 f1 : List Expr) (sc : Scope) (pos : Pos) : Expr := .DictComp kx vx [⟨t0, i0, f0, 0⟩, ⟨t1, i1, f1, 0⟩] sc pos
/-- all of a clause's tests -/
abbrev tests (fs : List Expr) (env : PySem.Env) : Sem Bool := forIn fs true fun c r => if r = true then do { let ok ← isTrue c env (eval c env); pure (ForInStep.yield ok) } else pure (ForInStep.yield r)
section
variable {prog : Program} {w : World} {A : Around} {R : Result → Shared → Prop} {s : Shared} {kx vx t0 i0 t1 i1 : Expr} {f0 f1 : List Expr} {sc : Scope} {pos : Pos} {it : Value} {D : Addr} {env : PySem.Env}
theorem dcTurn_0 (acc : Value) : compTurn (DC kx vx t0 i0 t1 i1 f0 f1 sc pos) 0 it acc env = (do
    standAt i0.pos
    match ← pyNext it with
    | none => pure (.done .next)
    | some v =>
      letOwnedTupleGo t0 it v
      assign t0 env v
      if (← tests f0 env) then
        let x ← eval i1 env
        standAt i1.pos
        let x ← foldedSetIterable i1 env x
        let _ ← runOwn (.compStart (DC kx vx t0 i0 t1 i1 f0 f1 sc pos) 1 (← holding [x] (pyIter x)) acc env) env
      again (.compLoop (DC kx vx t0 i0 t1 i1 f0 f1 sc pos) 0 it acc env)) := by rfl
theorem dcTurn_1 : compTurn (DC kx vx t0 i0 t1 i1 f0 f1 sc pos) 1 it (.ref D) env = (do
    standAt i1.pos
    match ← pyNext it with
    | none => pure (.done .next)
    | some v =>
      letOwnedTupleGo t1 it v
      assign t1 env v
      if (← tests f1 env) then
        (do
          let a ← eval kx env
          let b ← holding [a] (eval vx env)
          standAt { kx.pos with endLine := vx.pos.endLine, endCol := vx.pos.endCol }
          holding [a, b] (dictSet D a b))
      again (.compLoop (DC kx vx t0 i0 t1 i1 f0 f1 sc pos) 1 it (.ref D) env)) := by rfl
/-- what is wished of a raise within the block -/
abbrev nB (prog : Program) (w : World) (A : Around) (env : PySem.Env) (R : Result → Shared → Prop) : Value → Shared → Prop := notedBy (model prog w) A env fun e s' => R (.error e) s'
abbrev wpN (prog : Program) (w : World) (A : Around) (env : PySem.Env) (R : Result → Shared → Prop) {α : Type} (m : Sem α) (Q : α → Shared → Prop) (s : Shared) : Prop := wpAny (model prog w) A m Q (nB prog w A env R) s
theorem dc_out (hs : ∀ x, foldedSetIterable i1 env x = pure x) {acc : Value} (J : Nat → Shared → Prop)
    (turn : ∀ n s, J n s → wpN prog w A env R (pyNext it) (fun r s1 => match r with
      | none => R (.ok .next) s1
      | some v => wpN prog w A env R (letOwnedTupleGo t0 it v) (fun _ s2 => wpN prog w A env R (assign t0 env v) (fun _ s3 => wpN prog w A env R (tests f0 env) (fun ok s4 =>
          if ok = true then wpN prog w A env R (eval i1 env) (fun x s5 => wpN prog w A env R (pyIter x) (fun it1 s6 =>
            codeAny (model prog w) A (.compStart (DC kx vx t0 i0 t1 i1 f0 f1 sc pos) 1 it1 acc env) (fun r s' => match r with
              | .ok _ => ∃ m, m < n ∧ J m s'
              | .error _ => False) s6) s5) s4
          else ∃ m, m < n ∧ J m s4) s3) s2) s1) s)
    (n : Nat) (h : J n s) : codeAny (model prog w) A (.compLoop (DC kx vx t0 i0 t1 i1 f0 f1 sc pos) 0 it acc env) R s := by
  refine codeAny_loop rfl J (fun n s hJ => ?_) n h
  refine wpAny_noted (m := (compTurn (DC kx vx t0 i0 t1 i1 f0 f1 sc pos) 0 it acc env)) ?_
  rw [dcTurn_0]
  refine wpAny_bind (wpAny_standAt (wpAny_bind ?_))
  refine wpAny_mono (turn n s hJ) (fun r s1 h1 => ?_) fun _ _ z => z
  cases r with
  | none => exact wpAny_pure h1
  | some v =>
    refine wpAny_bind (wpAny_mono h1 (fun _ s2 h2 => wpAny_bind (wpAny_mono h2 (fun _ s3 h3 => wpAny_bind (wpAny_mono h3 (fun ok s4 h4 => ?_) fun _ _ z => z)) fun _ _ z => z)) fun _ _ z => z)
    cases ok with
    | false => exact wpAny_pure ⟨rfl, h4⟩
    | true =>
      refine wpAny_bind (wpAny_mono h4 (fun x s5 h5 => wpAny_bind (wpAny_standAt (wpAny_bind (wpAny_of_eq (hs x) (wpAny_bind (wpAny_holding (wpAny_mono h5 (fun it1 s6 h6 => wpAny_bind (wpAny_runOwn ?_)) fun _ _ z => z))))))) fun _ _ z => z)
      rw [Around.mark_none]
      refine codeAny_mono h6 fun r s' hr => ?_
      cases r with
      | error e => exact hr.elim
      | ok f =>
        first
          | exact wpAny_pure ⟨rfl, hr⟩
          | exact wpAny_bind (wpAny_pure (wpAny_pure ⟨rfl, hr⟩))
theorem dc_inn (J : Nat → Shared → Prop)
    (turn : ∀ n s, J n s → wpN prog w A env R (pyNext it) (fun r s1 => match r with
      | none => R (.ok .next) s1
      | some v => wpN prog w A env R (letOwnedTupleGo t1 it v) (fun _ s2 => wpN prog w A env R (assign t1 env v) (fun _ s3 => wpN prog w A env R (tests f1 env) (fun ok s4 =>
          if ok = true then wpN prog w A env R (eval kx env) (fun a s5 => wpN prog w A env R (eval vx env) (fun b s6 => wpN prog w A env R (dictSet D a b) (fun _ s7 => ∃ m, m < n ∧ J m s7) s6) s5) s4
          else ∃ m, m < n ∧ J m s4) s3) s2) s1) s)
    (n : Nat) (h : J n s) : codeAny (model prog w) A (.compLoop (DC kx vx t0 i0 t1 i1 f0 f1 sc pos) 1 it (.ref D) env) R s := by
  refine codeAny_loop rfl J (fun n s hJ => ?_) n h
  refine wpAny_noted (m := (compTurn (DC kx vx t0 i0 t1 i1 f0 f1 sc pos) 1 it (.ref D) env)) ?_
  rw [dcTurn_1]
  refine wpAny_bind (wpAny_standAt (wpAny_bind ?_))
  refine wpAny_mono (turn n s hJ) (fun r s1 h1 => ?_) fun _ _ z => z
  cases r with
  | none => exact wpAny_pure h1
  | some v =>
    refine wpAny_bind (wpAny_mono h1 (fun _ s2 h2 => wpAny_bind (wpAny_mono h2 (fun _ s3 h3 => wpAny_bind (wpAny_mono h3 (fun ok s4 h4 => ?_) fun _ _ z => z)) fun _ _ z => z)) fun _ _ z => z)
    cases ok with
    | false => exact wpAny_pure ⟨rfl, h4⟩
    | true =>
      refine wpAny_bind (wpAny_bind (wpAny_mono h4 (fun a s5 h5 => wpAny_bind (wpAny_holding (wpAny_mono h5 (fun b s6 h6 => wpAny_bind (wpAny_standAt (wpAny_holding (wpAny_mono h6 (fun _ s7 h7 => ?_) fun _ _ z => z)))) fun _ _ z => z))) fun _ _ z => z))
      exact wpAny_pure ⟨rfl, h7⟩
theorem dc_start1 {acc : Value} (h0 : codeAny (model prog w) A (.compLoop (DC kx vx t0 i0 t1 i1 f0 f1 sc pos) 1 it acc env) R s)
    (h : wpN prog w A env R (pyIter it) (fun it' s' => codeAny (model prog w) A (.compLoop (DC kx vx t0 i0 t1 i1 f0 f1 sc pos) 1 it' acc env) R s') s) :
    codeAny (model prog w) A (.compStart (DC kx vx t0 i0 t1 i1 f0 f1 sc pos) 1 it acc env) R s := by
  refine codeAny_of_tree (wpAny_notedAt (m := compStart (DC kx vx t0 i0 t1 i1 f0 f1 sc pos) 1 it acc env) ?_)
  unfold compStart
  show wpAny _ _ (ask >>= _) _ _ s
  refine wpAny_bind (wpAny_askSetting (wpAny_ite ?_))
  split
  · first
      | exact wpAny_pure ⟨rfl, h0⟩
      | exact wpAny_bind (wpAny_pure (wpAny_pure ⟨rfl, h0⟩))
  · first
      | exact wpAny_bind (wpAny_rule (wpAny_bind (wpAny_standAt (wpAny_bind (wpAny_mono h (fun it' s' z => wpAny_pure ⟨rfl, z⟩) fun _ _ x => x)))))
      | (refine wpAny_bind (wpAny_rule ?_)
         show wpAny _ _ (standAt i1.pos >>= _) _ _ s
         exact wpAny_bind (wpAny_standAt (wpAny_bind (wpAny_mono h (fun it' s' z => wpAny_pure ⟨rfl, z⟩) fun _ _ x => x))))
end
end Ev
end
section
set_option Elab.async false
set_option linter.all false
set_option maxRecDepth 100000
set_option maxHeartbeats 2000000
namespace Ev
open PySem PySem.Spec PyProof.Rows L2
section
variable {X : Cx}
/-- in each block of this scope -/
abbrev InBlk (X : Cx) (sc : Scope) (f : Cx → Prop) : Prop := ∀ (s : Shared) (H : Hp) (C : Addr) (cl : List (Str × Addr)) (fp : List Addr), f (X.blk s H sc (compEnvC sc cl C X.env) fp)
/-- {k: v for g in wi if tt for g1 in wi1 if tt1}; vs: the block's names, vs1: those of the second target -/
def tDc2 (wi : TI) (g : TG) (tt : TT) (wi1 : TI) (g1 : TG) (tt1 : TT) (tk tv : TE) (vs vs1 : List Nat) : TE := fun σ H Q => wi σ H fun J H1 => ∀ D, H1 D = none → ∃ W : Nat → Nat → Hp → Prop, (∃ m, W 0 m (upd H1 D (.dK []))) ∧ ∀ i m Hi, W i m Hi →
  (J.stop i Hi ∧ Q (.ref D) Hi) ∨ (J.go i Hi ∧ ∃ Nx : Hp → Prop, (∀ H', Nx H' → ∃ m', m' < m ∧ W (i + 1) m' H') ∧ ∀ x H', J.yld i Hi x H' → g x (L2.wipe σ vs) H' fun σ2 H2 => L2.wipe σ2 vs = L2.wipe σ vs ∧ tt σ2 H2 fun b H3 =>
    if b = true then wi1 σ2 H3 fun J1 H4 => ∃ W1 : Nat → Nat → Hp → Prop, (∃ m, W1 0 m H4) ∧ ∀ j k Hj, W1 j k Hj →
      (J1.stop j Hj ∧ Nx Hj) ∨ (J1.go j Hj ∧ ∃ Nx1 : Hp → Prop, (∀ H', Nx1 H' → ∃ k', k' < k ∧ W1 (j + 1) k' H') ∧ ∀ x H', J1.yld j Hj x H' → g1 x (L2.wipe σ2 vs1) H' fun σ3 H5 => L2.wipe σ3 vs1 = L2.wipe σ2 vs1 ∧ tt1 σ3 H5 fun b H6 =>
        if b = true then tk σ3 H6 fun y H7 => tv σ3 H7 fun z H8 => ∃ kvs k, y = kV k ∧ H8 D = some (.dK kvs) ∧ kvs.length < sizeLine ∧ Nx1 (upd H8 D (.dK (putK kvs k z))) else Nx1 H6)
    else Nx H3)
theorem pe_dc2 {kx vx t0 i0 t1 i1 : Expr} {f0 f1 : List Expr} {sc : Scope} {own : List (Str × Nat)} {vs1 : List Nat} {pos : Pos} {wi wi1 : TI} {g g1 : TG} {tt tt1 : TT} {tk tv : TE} (hc : X.calm = true) (hN : X.N.Nodup) (hi : PI X t0 i0 wi) (ok : BlkOk X.N X.env.scope sc own) (hv : ∀ i ∈ vs1, i ∈ own.map (·.2))
    (hg : InBlk X sc fun X => PG X t0 g) (ht : InBlk X sc fun X => PTs X f0 tt) (hi1 : InBlk X sc fun X => PI X t1 i1 wi1) (hg1 : InBlk X sc fun X => PG X t1 g1) (ht1 : InBlk X sc fun X => PTs X f1 tt1) (hk : InBlk X sc fun X => PE X kx tk) (he : InBlk X sc fun X => PE X vx tv)
    (hs : ∀ x, foldedSetIterable i0 X.env x = pure x := by intro _; rfl) (hs1 : ∀ env x, foldedSetIterable i1 env x = pure x := by intro _ _; rfl) : PE X (DC kx vx t0 i0 t1 i1 f0 f1 sc pos) (tDc2 wi g tt wi1 g1 tt1 tk tv (own.map (·.2)) vs1) := by
  refine ⟨fun pins s σ H Q I h => ?_⟩
  rw [arm_eval_DictComp]
  have has : ∀ y ∈ sc.names, y.2 = .free → ∃ c, X.env.cells.lookup y.1 = some c := fun y hy e => I.ok.has _ ((ok.free y hy e).imp id id)
  refine wpAny_comprehension_free rfl hs (closure_ok has) ok.kind (fun y hy e => (ok.uniq y hy).trans (congrArg some e)) (thn (hi.run pins s σ H _ I h) fun _ _ hx => thn hx ?_)
  rintro _ s2 ⟨it, fp, tn, J, H2, rfl, I2, T, st2, f2, q⟩
  refine wpAny_newObj_type (newEnv_comp ?_)
  -- D: the new dict
  obtain ⟨D, hD⟩ : ∃ D, s2.heap.objs.size = D := ⟨_, rfl⟩
  rw [hD]
  obtain ⟨W, ⟨m0, w0⟩, turn⟩ := q D (I2.hok.fresh (Nat.le_of_eq hD))
  obtain ⟨s3, hs3⟩ : ∃ s3 : Shared, ({ s2 with heap := s2.heap.push { cls := .type "dict", data := .dict #[] } } : Shared) = s3 := ⟨_, rfl⟩
  have p3 : ∀ b o, s2.heap.get? b = some o → s3.heap.get? b = some o := fun b o e => by rw [← hs3]; exact Heap.get?_push_of_some _ e
  obtain ⟨H3, hH3⟩ : ∃ H3, upd H2 D (.dK []) = H3 := ⟨_, rfl⟩
  have I3 : Inv X pins σ H3 s3 := by
    rw [← hs3, ← hH3, ← hD]
    exact I2.laid (t' := s2.toks) (fun b o e => Heap.get?_push_of_some _ e) (Nat.le_refl _) (dk_empty s2.heap I2.big)
  have f3 : ∀ b ∈ fp, FpOk X pins H3 b ∧ b < s3.heap.objs.size := fun b hb => by
    obtain ⟨o, e, _⟩ := T.obj _ _ st2 b hb
    refine ⟨⟨?_, (f2 b hb).2⟩, Heap.lt_size (p3 _ _ e)⟩
    rw [← hH3, upd_ne (by rw [← hD]; exact Nat.ne_of_lt (Heap.lt_size e))]
    exact (f2 b hb).1
  have st3 : tn 0 s3.heap := T.keep _ _ _ st2 fun b _ o e => p3 b o e
  have I4 := block_start I3 ok hN f3
  rw [hH3] at w0
  rw [hs3]
  show codeAny _ _ (.compStart (DC kx vx t0 i0 t1 i1 f0 f1 sc pos) 0 (.ref it) (.ref D) (compEnvC sc (cellsFrom (s3.heap.objs.size + 1) sc.names (cloFrom X.env.cells sc.names [])) s3.heap.objs.size X.env)) _ _
  have inb : ∀ {f : Cx → Prop}, InBlk X sc f → f (X.blk s3 H3 sc (compEnvC sc (cellsFrom (s3.heap.objs.size + 1) sc.names (cloFrom X.env.cells sc.names [])) s3.heap.objs.size X.env) fp) := fun hf => hf _ _ _ _ _
  have pg := inb hg
  have pt := inb ht
  have pi := inb hi1
  have pg1 := inb hg1
  have pt1 := inb ht1
  have pk := inb hk
  have pv := inb he
  clear inb
  generalize hce : compEnvC sc (cellsFrom (s3.heap.objs.size + 1) sc.names (cloFrom X.env.cells sc.names [])) s3.heap.objs.size X.env = ce at *
  have cL : ce.locals = s3.heap.objs.size := by rw [← hce]; rfl
  obtain ⟨s4, hs4⟩ : ∃ s4 : Shared, ({ s3 with heap := pushCells (s3.heap.push { cls := .type "dict", data := .dict #[] }) sc.names } : Shared) = s4 := ⟨_, rfl⟩
  rw [hs4] at I4
  rw [hs4]
  have st4 : tn 0 s4.heap := T.keep _ _ _ st3 fun b _ o e => by rw [← hs4]; exact pushCells_keeps _ _ _ _ (Heap.get?_push_of_some _ e)
  obtain ⟨XB, hXB⟩ : ∃ XB, X.blk s3 H3 sc ce fp = XB := ⟨_, rfl⟩
  have own0 : ∀ {σ' : L2.St} {H' : Hp} {s' : Shared}, Inv (X.blk s3 H3 sc ce fp) [] σ' H' s' → (∀ b ∈ fp, H' b = none) → ∀ b ∈ fp, FpOk (X.blk s3 H3 sc ce fp) [] H' b := fun I' n b hb =>
    ⟨n b hb, (I'.ok.exf b hb).1, I'.ok.exfs b hb, .inl hb, fun x c e => (I'.ok.exf b hb).2 x c e, fun p hp => nomatch (show p ∈ ([] : List (Addr × Obj)) from hp)⟩
  -- what is so between two turns of the outer walk
  let Mid : Nat → Shared → Prop := fun n s' => ∃ i H', Inv (X.blk s3 H3 sc ce fp) [] (L2.wipe σ (own.map (·.2))) H' s' ∧ tn i s'.heap ∧ (∀ b ∈ fp, H' b = none) ∧ W i n H'
  have loop : codeAny (model X.prog X.w) X.A (.compLoop (DC kx vx t0 i0 t1 i1 f0 f1 sc pos) 0 (.ref it) (.ref D) ce) (compPost (model X.prog X.w) X.A X.xe none (EP X pins σ Q) (.ref D) s3.heap.objs.size) s4 := by
    refine dc_out (hs1 ce) Mid (fun n s5 ⟨i, H5, I5, st5, n5, w5⟩ => ?_) m0 ⟨0, H3, I4, st4, fun b hb => (f3 b hb).1.1, w0⟩
    rcases turn i n H5 w5 with ⟨stop, fin0⟩ | ⟨go, Nx, hNx, step⟩
    · refine thnF (T.done (X.blk s3 H3 sc ce fp) rfl rfl rfl hc i [] s5 _ H5 (fun _ _ => False) I5 (own0 I5 n5) st5 stop) ?_
      rintro _ s6 ⟨rfl, I6⟩
      have I7 : Inv X pins σ H5 s6 := I3.call' (ch := fp) I6.os I6.base I6.hok I6.bare fun b hb => let z := (f3 b hb).1.2; ⟨z.2.2.1, z.1, z.2.2.2.1, z.2.2.2.2⟩
      have nC : H5 s3.heap.objs.size = none := cL ▸ (show H5 ce.locals = none from I6.free)
      obtain ⟨m, hn, _⟩ := I6.loc
      have hn' : s6.heap.Ns s3.heap.objs.size m := cL ▸ hn
      obtain ⟨a0, a1, a2, a3, a4, _⟩ := I3.fpOk (Nat.le_refl _) nC
      exact ⟨m, hn', fun h'' sb => ⟨.ref D, H5, I7.turned (t' := s6.toks) (fun b o hb e => (sb.2 b hb).trans e) a0 a1 a3 a4 ‹_›, rfl, fin0⟩⟩
    · refine thnF (T.item (X.blk s3 H3 sc ce fp) rfl rfl rfl hc i [] s5 _ H5 (fun _ _ => False) I5 (own0 I5 n5) st5 go) ?_
      rintro _ s6 ⟨u, rfl, h6⟩
      refine thnF h6 fun _ s7 ⟨x, H7, I7, r7, y7, st7, n7⟩ => ?_
      refine thnF (pg.run _ s7 _ H7 x u _ (I7.pinned (own0 I7 n7) (T.obj _ _ st7)) r7 (step x H7 y7)) fun _ s8 ⟨σ8, H8, I8, hw8, q8⟩ => ?_
      refine thnF (pt.run _ s8 σ8 H8 _ I8 q8) fun b s9 ⟨H9, I9, q9⟩ => ?_
      -- the end of an outer turn
      have fin : ∀ {σ9 : L2.St} {s' : Shared} {H' : Hp}, Inv (X.blk s3 H3 sc ce fp) ([] ++ pinsAt fp s7.heap) σ9 H' s' → (L2.wipe σ (own.map (·.2))).length = σ9.length → (∀ (j : Nat) v, (L2.wipe σ (own.map (·.2)))[j]? = some (some v) → σ9[j]? = some (some v)) → Nx H' → ∃ m, m < n ∧ Mid m s' := by
        intro σ9 s' H' I' hl hk nx
        obtain ⟨m', hm, w'⟩ := hNx H' nx
        have at7 : ∀ b ∈ fp, ∀ o, s7.heap.get? b = some o → s'.heap.get? b = some o ∧ H' b = none := fun b hb o e =>
          let z := I'.pin (b, o) (List.mem_append.mpr (.inr (List.mem_append.mpr (.inr (mem_pinsAt hb e)))))
          ⟨z.1, z.2.1⟩
        refine ⟨m', hm, i + 1, H', (I'.unpinned (pins := [])).weak hl hk, T.keep _ _ _ st7 fun b hb o e => (at7 b hb o e).1, fun b hb => ?_, w'⟩
        obtain ⟨o, e, _⟩ := T.obj _ _ st7 b hb
        exact (at7 b hb o e).2
      have hk8 : ∀ (j : Nat) v, (L2.wipe σ (own.map (·.2)))[j]? = some (some v) → σ8[j]? = some (some v) ∧ j ∉ own.map (·.2) := fun j v e => by
        rw [← hw8] at e
        exact wipe_some e
      have hl8 : (L2.wipe σ (own.map (·.2))).length = σ8.length := (congrArg List.length hw8).symm.trans (wipe_length _ _)
      cases b with
      | false => exact fin I9 hl8 (fun j v e => (hk8 j v e).1) (by simpa using q9)
      | true =>
        simp only [if_true] at q9 ⊢
        refine thnF (pi.run _ s9 σ8 H9 _ I9 q9) fun _ s10 hx => thnF hx ?_
        rintro _ s11 ⟨it1, fp1, tn1, J1, H11, rfl, I11, T1, st11, f11, W1, ⟨m1, w1⟩, turn1⟩
        have own1 : ∀ {H' : Hp}, (∀ b ∈ fp1, H' b = none) → ∀ b ∈ fp1, FpOk (X.blk s3 H3 sc ce fp) ([] ++ pinsAt fp s7.heap) H' b := fun n b hb => ⟨n b hb, (f11 b hb).2⟩
        let Mid1 : Nat → Shared → Prop := fun k s' => ∃ j H', Inv (X.blk s3 H3 sc ce fp) ([] ++ pinsAt fp s7.heap) (L2.wipe σ8 vs1) H' s' ∧ tn1 j s'.heap ∧ (∀ b ∈ fp1, H' b = none) ∧ W1 j k H'
        have inner : codeAny (model X.prog X.w) X.A (.compLoop (DC kx vx t0 i0 t1 i1 f0 f1 sc pos) 1 (.ref it1) (.ref D) ce) (fun r s' => match r with
            | .ok _ => ∃ m, m < n ∧ Mid m s'
            | .error _ => False) s11 := by
          refine dc_inn Mid1 (fun k s12 ⟨j, H12, I12, st12, n12, w12⟩ => ?_) m1 ⟨0, H11, I11.weak (wipe_length _ _) (fun j v e => (wipe_some e).1), st11, fun b hb => (f11 b hb).1, w1⟩
          rcases turn1 j k H12 w12 with ⟨stop1, nx1⟩ | ⟨go1, Nx1, hNx1, step1⟩
          · refine thnF (T1.done (X.blk s3 H3 sc ce fp) rfl rfl rfl hc j _ s12 _ H12 (fun _ _ => False) I12 (own1 n12) st12 stop1) ?_
            rintro _ s13 ⟨rfl, I13⟩
            refine fin I13 (hl8.trans (wipe_length _ _).symm) (fun j v e => ?_) nx1
            obtain ⟨e1, e2⟩ := hk8 j v e
            exact (L2.wipe_out fun z => e2 (hv j z)).trans e1
          · refine thnF (T1.item (X.blk s3 H3 sc ce fp) rfl rfl rfl hc j _ s12 _ H12 (fun _ _ => False) I12 (own1 n12) st12 go1) ?_
            rintro _ s13 ⟨u1, rfl, h13⟩
            refine thnF h13 fun _ s14 ⟨x1, H14, I14, r14, y14, st14, n14⟩ => ?_
            refine thnF (pg1.run _ s14 _ H14 x1 u1 _ (I14.pinned (own1 n14) (T1.obj _ _ st14)) r14 (step1 x1 H14 y14)) fun _ s15 ⟨σ15, H15, I15, hw15, q15⟩ => ?_
            refine thnF (pt1.run _ s15 σ15 H15 _ I15 q15) fun b1 s16 ⟨H16, I16, q16⟩ => ?_
            have fin1 : ∀ {s' : Shared} {H' : Hp}, Inv (X.blk s3 H3 sc ce fp) (([] ++ pinsAt fp s7.heap) ++ pinsAt fp1 s14.heap) σ15 H' s' → Nx1 H' → ∃ m, m < k ∧ Mid1 m s' := by
              intro s' H' I' nx
              obtain ⟨m', hm, w'⟩ := hNx1 H' nx
              have at14 : ∀ b ∈ fp1, ∀ o, s14.heap.get? b = some o → s'.heap.get? b = some o ∧ H' b = none := fun b hb o e =>
                let z := I'.pin (b, o) (List.mem_append.mpr (.inr (List.mem_append.mpr (.inr (mem_pinsAt hb e)))))
                ⟨z.1, z.2.1⟩
              refine ⟨m', hm, j + 1, H', I'.unpinned.weak ((congrArg List.length hw15).symm.trans (wipe_length _ _)) (fun j v e => (wipe_some (hw15 ▸ e)).1), T1.keep _ _ _ st14 fun b hb o e => (at14 b hb o e).1, fun b hb => ?_, w'⟩
              obtain ⟨o, e, _⟩ := T1.obj _ _ st14 b hb
              exact (at14 b hb o e).2
            cases b1 with
            | false => exact fin1 I16 (by simpa using q16)
            | true =>
              simp only [if_true] at q16 ⊢
              refine thnF (pk.run _ s16 σ15 H16 _ I16 q16) fun _ s17 ⟨yk, H17, I17, r17, q17⟩ => thnF (pv.run _ s17 σ15 H17 _ I17 q17) ?_
              rintro _ s18 ⟨yv, H18, I18, r18, kvs, k, rfl, hD18, hz18, nx⟩
              exact d_dictSet (X := X.blk s3 H3 sc ce fp) I18 hD18 hz18 r17 r18 fun s19 I19 => fin1 I19 nx
        exact dc_start1 inner (T1.self X.A 0 _ _ _ st11 inner)
  exact codeAny_compStart_dict loop (T.self X.A 0 _ _ _ st4 loop)
end
end Ev
end
section
set_option Elab.async false
set_option linter.all false
set_option maxRecDepth 100000
set_option maxHeartbeats 1000000
namespace Ev
open PySem PySem.Spec L2
theorem key_any (t : T) (k : Key) (e : t = keyT k) : ∀ kvs : List (Key × V), ((kvs.map fun p => keyT p.1).any fun k' => teq k' t) = kvs.any fun kv => decide (kv.1 = k)
  | [] => rfl
  | p :: r => by
    subst e
    simp only [List.map_cons, List.any_cons, teq_key, key_any _ k rfl r]
theorem rps_upd {K : PySem.W.Frag} {Z : Zn} {H : Hp} {v : V} {u : T} {k : Key} (hv : Rp K Z H v u) : ∀ {kvs : List (Key × V)} {vs : List T}, Rps K Z H (kvs.map (·.2)) vs → Rps K Z H ((kvs.map fun kv => if kv.1 = k then (kv.1, v) else kv).map (·.2)) (List.zipWith (fun k' v' => if teq k' (keyT k) then u else v') (kvs.map fun p => keyT p.1) vs)
  | [], vs, h => by
    cases vs with
    | nil => exact .nil
    | cons _ _ => exact .nil
  | p :: r, vs, h => by
    cases vs with
    | nil => cases h.nil'
    | cons t ts =>
      obtain ⟨w, ws, e, h1, h2⟩ := h.uncons
      cases e
      have ih := rps_upd (k := k) hv h2
      simp only [List.map_cons, List.zipWith_cons_cons, teq_key]
      by_cases q : p.1 = k
      · simp only [q, decide_true, if_true]
        exact .cons hv ih
      · simp only [q, decide_false, if_false]
        exact .cons h1 ih
theorem dc_put {K : PySem.W.Frag} {Z : Zn} {H' : Hp} {D0 : Addr} {ks vs : List T} {kvs : List (Key × V)} {v : V} {u : T} {k : Key} (hd : H' D0 = some (.dK (putK kvs k v))) (e1 : ks = kvs.map fun p => keyT p.1) (e2 : ∀ p ∈ kvs, okK p.1 = true) (hk : okK k = true)
    (hr : Rps K Z H' (kvs.map (·.2)) vs) (hv : Rp K Z H' v u) : ∃ us, DcAt H' D0 (dput (keyT k) u ks vs).1 us ∧ Rps K Z H' us (dput (keyT k) u ks vs).2 := by
  refine ⟨(putK kvs k v).map (·.2), ⟨_, hd, ⟨?_, ?_⟩, rfl⟩, ?_⟩
  · subst e1
    unfold dput putK
    rw [key_any _ k rfl]
    split
    · dsimp only
      rw [List.map_map]
      refine List.map_congr_left fun p _ => ?_
      simp only [Function.comp_apply]
      split <;> rfl
    · simp
  · intro p hp
    unfold putK at hp
    split at hp
    · obtain ⟨q, hq, e⟩ := List.mem_map.mp hp
      have := e2 q hq
      split at e <;> (rw [← e]; exact this)
    · rcases List.mem_append.mp hp with hp | hp
      · exact e2 p hp
      · rw [List.mem_singleton.mp hp]; exact hk
  · subst e1
    unfold dput putK
    rw [key_any _ k rfl]
    split
    · exact rps_upd hv hr
    · simp only [List.map_append, List.map_cons, List.map_nil]
      exact hr.app (.one hv)
/-- within a comprehension: D0 holds the dict ks, us -/
structure CSD (K : PySem.W.Frag) (Z : Zn) (D0 : Addr) (σ : L2.St) (F0 : Nat → List Addr) (ρ0 : Env) (H0 : Hp) (ks us : List T) (F : Nat → List Addr) (ρ : Env) (H : Hp) : Prop where
  si : SI K Z F σ ρ H
  own : ∃ vs, DcAt H D0 ks vs ∧ Rps K (Zs Z F) H vs us
  sub : ∀ i a, a ∈ F i → a ∈ F0 i
  fr : ∀ b o, H0 b = some o → (∀ i, b ∉ F0 i) → b ≠ D0 → H b = some o
  mo : ∀ b, H0 b ≠ none → H b ≠ none
  bx : BX F0 ρ0 F ρ
section
variable {K : PySem.W.Frag} {Z : Zn} {D0 : Addr} {F F' F0 F3 F5 : Nat → List Addr} {σ σ2 : L2.St} {ρ ρ' ρ0 ρ3 ρ5 : Env} {H H' H0 H5 : Hp} {v : V} {r : R} {fp : List Addr} {ks us ks5 us5 : List T}
theorem CSD.spo (hz : Z D0) (c : CSD K Z D0 σ F0 ρ0 H0 ks us F ρ H) (s : SPo K Z F σ ρ H F' ρ' H') : CSD K Z D0 σ F0 ρ0 H0 ks us F' ρ' H' := by
  obtain ⟨vs, ⟨kvs, h1, h3, h4⟩, h2⟩ := c.own
  have nd : ∀ i, D0 ∉ F i := fun i q => c.si.zf i D0 q hz
  refine ⟨s.si, ⟨vs, ⟨kvs, s.lft nd h1, h3, h4⟩, ?_⟩, fun i a h => c.sub i a (s.sub i a h), fun b o e n n2 => s.fr b o (c.fr b o e n n2) fun i q => n i (c.sub i b q), fun b h => s.mo b (c.mo b h), c.bx.trans s.bx'⟩
  exact (h2.keep (H' := H') (fun b o e n => s.fr b o e fun i q => n (.inr ⟨i, q⟩))).zn (Zs.sub s.sub)
theorem CSD.fresh (hz : Z D0) (c : CSD K Z D0 σ F0 ρ0 H0 ks us F ρ H) (f : Fresh H H') : CSD K Z D0 σ F0 ρ0 H0 ks us F ρ H' :=
  c.spo hz ⟨c.si.keep f, fun _ _ h => h, fun b o e _ => f b o e, fun b h q => h (f.none q), c.si.tr, (BX.refl (F := F) (ρ := ρ)).bx, (BX.refl (F := F) (ρ := ρ)).nb⟩
theorem CSD.put (hz : Z D0) (c : CSD K Z D0 σ F0 ρ0 H0 ks us F ρ H) (e : EPo K Z F σ ρ H F' ρ' H' v r fp) {k : Key} (hk : okK k = true) : ∃ kvs, H' D0 = some (.dK kvs) ∧ kvs.length = ks.length ∧ CSD K Z D0 σ F0 ρ0 H0 (dput (keyT k) r.t ks us).1 (dput (keyT k) r.t ks us).2 F' ρ' (upd H' D0 (.dK (putK kvs k v))) := by
  have c1 := c.spo hz e.spo
  obtain ⟨vs, ⟨kvs, h1, ⟨h3, h5⟩, h4⟩, h2⟩ := c1.own
  have out : ∀ b u, H' b = some u → ¬ Zs Z F' b → upd H' D0 (.dK (putK kvs k v)) b = some u := fun b u e n => by
    rw [upd_ne fun q => n (.inl (by rw [q]; exact hz))]; exact e
  refine ⟨kvs, h1, by rw [h3, List.length_map], c1.si.updZ hz, ?_, c1.sub, fun b o e n n2 => ?_, fun b h => ?_, c1.bx⟩
  · subst h4
    exact dc_put upd_same h3 h5 hk (h2.keep out) (e.shr.keep out)
  · rw [upd_ne n2]; exact c1.fr b o e n n2
  · by_cases q : b = D0
    · rw [q, upd_same]; simp
    · rw [upd_ne q]; exact c1.mo b h
theorem CSD.turn (hz : Z D0) (c : CSD K Z D0 σ F0 ρ0 H0 ks us F ρ H) {own : List Nat} {p : Pat} {t : T} (hp : patIn own p = true) (hr : Rp K (Zs Z F) H v t) (h : (hide ρ own).bind (putP p t) = some ρ3) {Q : L2.St → Hp → Prop}
    (k : ∀ σ2 F3, L2.wipe σ2 own = L2.wipe σ own → CSD K Z D0 σ2 F3 ρ3 H ks us F3 ρ3 H → (∀ ks5 us5 F5 ρ5 H5, CSD K Z D0 σ2 F3 ρ3 H ks5 us5 F5 ρ5 H5 → CSD K Z D0 σ F0 ρ0 H0 ks5 us5 F5 (unwipe ρ ρ5 own) H5) → Q σ2 H) :
    gP K p v (L2.wipe σ own) H Q := by
  cases e : hide ρ own with
  | none => rw [e] at h; cases h
  | some ρ2 =>
    rw [e] at h
    simp only [Option.bind_some] at h
    obtain ⟨rfl, hc⟩ := hide_some e
    refine putP_g (own := fun i => i ∈ own) own (fun _ h => h) hp (c.si.hide e) hr h fun F3 σ2 a => ?_
    have hw : L2.wipe σ2 own = L2.wipe σ own := wipeS_eq (a.len.trans wipeS_len) fun j hj => (a.ot j hj).trans (wipeS_out hj)
    obtain ⟨vs, h1, h2⟩ := c.own
    refine k σ2 F3 hw ⟨a.si, ⟨vs, h1, h2.zn (Zs.sub a.sub)⟩, fun _ _ h => h, fun _ _ e _ _ => e, fun _ h => h, .refl⟩ fun ks5 us5 F5 ρ5 H5 d => ?_
    have sub : ∀ i a, a ∈ F5 i → a ∈ F i := fun i x h => a.sub i x (d.sub i x h)
    obtain ⟨ws, h3, h4⟩ := d.own
    have si := c.si.unhide hc hw d.si sub fun b o eb n => d.fr b o eb (fun i q => n (.inr ⟨i, a.sub i b q⟩)) fun q => n (.inl (by rw [q]; exact hz))
    have hl : ρ5.length = ρ.length := by
      have h1 := d.si.len
      have h2 := a.len
      rw [wipeS_len] at h2
      rw [h1, h2, c.si.len]
    exact ⟨si, ⟨ws, h3, h4⟩, fun i x h => c.sub i x (sub i x h), fun b o eb n n2 => d.fr b o (c.fr b o eb n n2) (fun i q => n i (c.sub i b (a.sub i b q))) n2, fun b h => d.mo b (c.mo b h), c.bx.trans (BX.unhide hc hl (a.bx.trans d.bx))⟩
theorem CSD.trans {σ : L2.St} {F1 : Nat → List Addr} {ρ1 : Env} {H1 : Hp} (a : CSD K Z D0 σ F0 ρ0 H0 ks us F1 ρ1 H1) (b : CSD K Z D0 σ F1 ρ1 H1 ks5 us5 F ρ H) : CSD K Z D0 σ F0 ρ0 H0 ks5 us5 F ρ H :=
  ⟨b.si, b.own, fun i x h => a.sub i x (b.sub i x h), fun x o e n n2 => b.fr x o (a.fr x o e n n2) (fun i q => n i (a.sub i x q)) n2, fun x h => b.mo x (a.mo x h), a.bx.trans b.bx⟩
theorem CSD.again (c : CSD K Z D0 σ F0 ρ0 H0 ks us F ρ H) : CSD K Z D0 σ F ρ H ks us F ρ H := ⟨c.si, c.own, fun _ _ h => h, fun _ _ e _ _ => e, fun _ h => h, .refl⟩
theorem CSD.start (S : SI K Z F σ ρ H) (n : H D0 = none) : CSD K (fun a => Z a ∨ a = D0) D0 σ F ρ (upd H D0 (.dK [])) [] [] F ρ (upd H D0 (.dK [])) := by
  have s0 := S.bar (fp := [D0]) (Fresh.upd (o := .dK []) n) (fun a h => by simp at h; rw [h]; exact n) (fun a h => by simp at h; rw [h, upd_same]; simp)
  exact ⟨s0.zn fun b q => q.imp id fun q => by simp [q], ⟨[], ⟨[], upd_same, ⟨rfl, by simp⟩, rfl⟩, .nil⟩, fun _ _ h => h, fun _ _ e _ _ => e, fun _ h => h, .refl⟩
theorem CSD.fin (a : SPo K Z F σ ρ H F0 ρ0 H0) (n : H0 D0 = none) (c : CSD K (fun a => Z a ∨ a = D0) D0 σ F0 ρ0 (upd H0 D0 (.dK [])) ks us F' ρ' H') : EPo K Z F σ ρ H F' ρ' H' (.ref D0) (.ownD ks us) [D0] := by
  obtain ⟨vs, h1, h2⟩ := c.own
  have zz : ∀ b, (Z b ∨ b ∈ [D0]) → (Z b ∨ b = D0) := fun b q => q.imp id fun q => by simpa using q
  have up : ∀ b o, H0 b = some o → upd H0 D0 (.dK []) b = some o := fun b o e => Fresh.upd n b o e
  refine ⟨c.si.zn zz, ⟨D0, vs, rfl, rfl, h1, h2.zn fun b _ q => q.imp (zz b) id⟩, by simp, fun i x h => a.sub i x (c.sub i x h), fun b o e n' => ?_, fun x hx => ?_, fun b h => c.mo b ?_, a.z0, (a.bx'.trans c.bx).bx, (a.bx'.trans c.bx).nb⟩
  · have e0 := a.fr b o e n'
    exact c.fr b o (up b o e0) (fun i q => n' i (a.sub i b q)) (ne_of_none e0 n)
  · have : x = D0 := by simpa using hx
    subst this
    cases q : H x with
    | none => rfl
    | some o => exact absurd n (a.mo x (by rw [q]; simp))
  · cases q : H0 b with
    | none => exact absurd q (a.mo b h)
    | some o => rw [up b o q]; simp
theorem wk_cd {xs : List T} {G : Hp → Prop} {Y : Nat → Hp → V → Hp → Prop} {Z1 : Zn} (n : H0 D0 = none) (z0 : ∀ b, Z b → Z1 b ∨ b = D0)
    (hw : ∀ (Zu : Zn) (Hc : Hp), (∀ b, H0 b ≠ none → Zu b → Zs Z1 F0 b) → (∀ b, Zu b → Hc b ≠ none) → Out' Zu H0 Hc → G Hc ∧ ∀ i x H', Y i Hc x H' → Fresh Hc H' ∧ ∃ t, xs[i]? = some t ∧ Rp K Zu H' x t)
    (hft : ∀ i b, b ∈ F0 i → H0 b ≠ none) (c : CSD K Z D0 σ F0 ρ0 (upd H0 D0 (.dK [])) ks us F ρ H) : G H ∧ ∀ i x H', Y i H x H' → Fresh H H' ∧ ∃ t, xs[i]? = some t ∧ Rp K (Zs Z F) H' x t := by
  have tz0 : ∀ b, Zs Z F0 b → H b ≠ none := fun b q => by
    rcases q with q | ⟨i, q⟩
    · exact c.si.tr b q
    · exact c.mo b (fun e => by
        cases q2 : H0 b with
        | none => exact hft i b q q2
        | some o => rw [Fresh.upd n b o q2] at e; cases e)
  have za : ∀ b, H0 b ≠ none → Zs Z F0 b → Zs Z1 F0 b := fun b hb q => by
    rcases q with q | q
    · rcases z0 b q with q | q
      · exact .inl q
      · rw [q] at hb; exact absurd n hb
    · exact .inr q
  have zb : Out' (Zs Z F0) H0 H := fun b o e nb => c.fr b o (Fresh.upd n b o e) (fun i q => nb (.inr ⟨i, q⟩)) (ne_of_none e n)
  obtain ⟨g, y⟩ := hw (Zs Z F0) H za tz0 zb
  refine ⟨g, fun i x H' q => ?_⟩
  obtain ⟨f, t, e1, e2⟩ := y i x H' q
  exact ⟨f, t, e1, e2.zn (Zs.sub c.sub)⟩
theorem wk_cd2 {xs : List T} {G : Hp → Prop} {Y : Nat → Hp → V → Hp → Prop}
    (hw : ∀ (Zu : Zn) (Hc : Hp), (∀ b, H0 b ≠ none → Zu b → Zs Z F0 b) → (∀ b, Zu b → Hc b ≠ none) → Out' Zu H0 Hc → G Hc ∧ ∀ i x H', Y i Hc x H' → Fresh Hc H' ∧ ∃ t, xs[i]? = some t ∧ Rp K Zu H' x t)
    (hz : Z D0) (hft : ∀ i b, b ∈ F0 i → H0 b ≠ none) (c : CSD K Z D0 σ F0 ρ0 H0 ks us F ρ H) : G H ∧ ∀ i x H', Y i H x H' → Fresh H H' ∧ ∃ t, xs[i]? = some t ∧ Rp K (Zs Z F) H' x t := by
  obtain ⟨g, y⟩ := hw (Zs Z F0) H (fun _ _ q => q) (fun b q => q.elim (fun q => c.si.tr b q) fun ⟨i, q⟩ => c.mo b (hft i b q)) fun b o e nb => c.fr b o e (fun i q => nb (.inr ⟨i, q⟩)) fun q => nb (.inl (by rw [q]; exact hz))
  refine ⟨g, fun i x H' q => ?_⟩
  obtain ⟨f, t, e1, e2⟩ := y i x H' q
  exact ⟨f, t, e1, e2.zn (Zs.sub c.sub)⟩
end
theorem compD_turn {f : T → List T → List T → Env → Out (List T × List T)} {xs ks vs : List T} {ρ ρ' : Env} {z : List T × List T} {i : Nat} {t : T} (h : compD f (xs.drop i) ks vs ρ = .ok z ρ') (e : xs[i]? = some t) :
    ∃ a b ρ1, f t ks vs ρ = .ok (a, b) ρ1 ∧ compD f (xs.drop (i + 1)) a b ρ1 = .ok z ρ' := by
  have hi := (List.getElem?_eq_some_iff.mp e).1
  have : xs.drop i = t :: xs.drop (i + 1) := by
    rw [List.drop_eq_getElem_cons hi]
    rw [List.getElem?_eq_getElem hi] at e
    cases e
    rfl
  rw [this] at h
  unfold compD at h
  split at h
  · rename_i a b ρ1 e1
    exact ⟨a, b, ρ1, e1, h⟩
  · cases h
theorem compD_done {f : T → List T → List T → Env → Out (List T × List T)} {xs ks vs : List T} {ρ ρ' : Env} {z : List T × List T} (h : compD f (xs.drop xs.length) ks vs ρ = .ok z ρ') : z = (ks, vs) ∧ ρ' = ρ := by
  rw [List.drop_length] at h
  unfold compD at h
  cases h
  exact ⟨rfl, rfl⟩
section
variable {D : Wd} {Z : Zn} {D0 : Addr} {F F' F0 F3 F5 : Nat → List Addr} {σ σ2 : L2.St} {ρ ρ' ρ0 ρ3 ρ5 : Env} {H H' H0 H5 : Hp} {v : V} {r : R} {fp : List Addr} {ks us : List T}
/-- the tests, the key, the value -/
theorem cd_body (hz : Z D0) {cs : List E} {ek eV : E} {z : List T × List T} {own : List Nat} {ρu : Env} (c : CSD D.K Z D0 σ F0 ρ0 H0 ks us F ρ H)
    (h : ((evc D.cf cs ρ).bind fun b ρ4 => if b then (ev D.cf ek ρ4).bind fun rk ρ5 => (ev D.cf eV ρ5).bind fun rv ρ6 => if isKeyT rk && !rv.isBox && Nat.blt ks.length line then .ok (dput rk.t rv.t ks us) (unwipe ρu ρ6 own) else .bad else .ok (ks, us) (unwipe ρu ρ4 own)) = .ok z ρ') {Nx : Hp → Prop}
    (k : ∀ F5 ρ5 H5, ρ' = unwipe ρu ρ5 own → CSD D.K Z D0 σ F0 ρ0 H0 z.1 z.2 F5 ρ5 H5 → Nx H5) :
    tTs D.c cs σ H fun b H3 => if b = true then tE D.c ek σ H3 fun y H4 => tE D.c eV σ H4 fun x H5 => ∃ kvs k, y = kV k ∧ H5 D0 = some (.dK kvs) ∧ kvs.length < sizeLine ∧ Nx (upd H5 D0 (.dK (putK kvs k x))) else Nx H3 := by
  refine ⟨Z, F, ρ, c.si, ?_⟩
  show wT D.c (evc D.cf cs ρ) Z F σ ρ H _
  cases e1 : evc D.cf cs ρ with
  | bad => rw [e1] at h; cases h
  | exc c fs ρ' => rw [e1] at h; cases h
  | ok b ρ4 =>
    rw [e1] at h
    simp only [Out.bind] at h
    intro F4 H4 s
    have c1 := c.spo hz s
    cases b with
    | false =>
      simp only [Bool.false_eq_true, if_false] at h ⊢
      cases h
      exact k F4 ρ4 H4 rfl c1
    | true =>
      simp only [if_true] at h ⊢
      refine ⟨Z, F4, ρ4, s.si, ?_⟩
      show wE D.c (ev D.cf ek ρ4) Z F4 σ ρ4 H4 _
      cases e2 : ev D.cf ek ρ4 with
      | bad => rw [e2] at h; cases h
      | exc c fs ρ' => rw [e2] at h; cases h
      | ok rk ρ5 =>
        rw [e2] at h
        dsimp only at h
        intro F5 H5 vk fpk ek1
        cases e3 : ev D.cf eV ρ5 with
        | bad => rw [e3] at h; cases h
        | exc c fs ρ' => rw [e3] at h; cases h
        | ok rv ρ6 =>
          rw [e3] at h
          dsimp only at h
          split at h
          · rename_i hq
            simp only [Bool.and_eq_true, Bool.not_eq_true'] at hq
            obtain ⟨⟨q1, q2⟩, q3⟩ := hq
            obtain ⟨rfl, key, rfl, ekt, hok⟩ := key_of q1 ek1.rr
            have s5 : SPo D.K Z F4 σ ρ4 H4 F5 ρ5 H5 := ek1.spo
            have c2 := c1.spo hz s5
            refine ⟨Z, F5, ρ5, s5.si, ?_⟩
            show wE D.c (ev D.cf eV ρ5) Z F5 σ ρ5 H5 _
            rw [e3]
            intro F6 H6 vv fpv ep
            obtain ⟨kvs, h1, h2, h3⟩ := c2.put hz ep hok
            cases h
            refine ⟨kvs, key, rfl, h1, by rw [h2, ← line_size]; exact Nat.blt_eq.mp q3, k F6 ρ6 _ rfl ?_⟩
            rw [ekt]
            exact h3
          · cases h
theorem dc_in {own : List Nat} {p : Pat} {k : ItK} {es cs : List E} {ek eV : E} {Q : VK} (hp : patIn own p = true) (h : tE D (.dc own p k es cs ek eV) σ H Q) : tDc (tI D k es) (gP D.K p) (tTs D.c cs) (tE D.c ek) (tE D.c eV) own σ H Q := by
  obtain ⟨Z, F, ρ, S, h⟩ := h
  refine ⟨Z, F, ρ, S, ?_⟩
  rw [ev] at h
  cases e1 : evs D.cf es ρ with
  | bad => rw [e1] at h; exact h
  | exc c fs ρ' => rw [e1] at h; exact h
  | ok as ρ1 =>
    rw [e1] at h
    simp only [Out.bind] at h
    simp only [wI]
    cases e2 : argTs ρ1 as with
    | none => rw [e2] at h; exact h.elim
    | some ts =>
      rw [e2] at h
      dsimp only at h ⊢
      cases e3 : walk k ts with
      | none => rw [e3] at h; exact h.elim
      | some xs =>
        rw [e3] at h
        dsimp only at h ⊢
        intro F1 H1 J a w D0 hD
        split at h
        · rename_i kz vz ρ2 e4
          obtain ⟨G, Y, wk, hw⟩ := w
          have hft : ∀ i b, b ∈ F1 i → H1 b ≠ none := fun i b hb => a.si.ft hb
          refine w_it wk (fun i Hc => ∃ ks vs F' ρ', compD _ (xs.drop i) ks vs ρ' = .ok (kz, vz) ρ2 ∧ CSD D.K (fun a => Z a ∨ a = D0) D0 σ F1 ρ1 (upd H1 D0 (.dK [])) ks vs F' ρ' Hc) ⟨[], [], F1, ρ1, e4, .start a.si hD⟩ (fun i Hc _ ⟨ks, vs, F', ρ', _, c⟩ => (wk_cd hD (fun b q => q) hw hft c).1) (fun i x Hc H' hi ⟨ks, vs, F', ρ', e5, c⟩ y => ?_) (fun Hc ⟨ks, vs, F', ρ', e5, c⟩ => ?_)
          · obtain ⟨f, t, e6, r⟩ := (wk_cd hD (fun b q => q) hw hft c).2 i x H' y
            obtain ⟨ka, va, ρ5, e7, e8⟩ := compD_turn e5 e6
            split at e7
            · cases e7
            · rename_i ρ3 e9
              refine (c.fresh (.inr rfl) f).turn (.inr rfl) hp r e9 fun σ2 F3 hw2 c3 back => ⟨hw2, cd_body (.inr rfl) c3 e7 fun F5 ρ6 H5 e10 c5 => ⟨ka, va, F5, _, e8, ?_⟩⟩
              rw [e10]
              exact back _ _ _ _ _ c5
          · obtain ⟨e9, rfl⟩ := compD_done e5
            cases e9
            exact h F' Hc _ _ (c.fin a hD)
        · exact h.elim
theorem dc2_in {own own1 : List Nat} {p p1 : Pat} {k k1 : ItK} {es es1 cs : List E} {ek eV : E} {Q : VK} (hp : patIn own p = true) (hp1 : patIn own1 p1 = true) (h : tE D (.dc2 own p k es own1 p1 k1 es1 cs ek eV) σ H Q) :
    tDc2 (tI D k es) (gP D.K p) tYes (tI D.c k1 es1) (gP D.K p1) (tTs D.c cs) (tE D.c ek) (tE D.c eV) own own1 σ H Q := by
  obtain ⟨Z, F, ρ, S, h⟩ := h
  refine ⟨Z, F, ρ, S, ?_⟩
  rw [ev] at h
  cases e1 : evs D.cf es ρ with
  | bad => rw [e1] at h; exact h
  | exc c fs ρ' => rw [e1] at h; exact h
  | ok as ρ1 =>
    rw [e1] at h
    simp only [Out.bind] at h
    simp only [wI]
    cases e2 : argTs ρ1 as with
    | none => rw [e2] at h; exact h.elim
    | some ts =>
      rw [e2] at h
      dsimp only at h ⊢
      cases e3 : walk k ts with
      | none => rw [e3] at h; exact h.elim
      | some xs =>
        rw [e3] at h
        dsimp only at h ⊢
        intro F1 H1 J a w D0 hD
        split at h
        · rename_i kz vz ρ2 e4
          obtain ⟨G, Y, wk, hw⟩ := w
          have hft : ∀ i b, b ∈ F1 i → H1 b ≠ none := fun i b hb => a.si.ft hb
          refine w_it wk (fun i Hc => ∃ ks vs F' ρ', compD _ (xs.drop i) ks vs ρ' = .ok (kz, vz) ρ2 ∧ CSD D.K (fun a => Z a ∨ a = D0) D0 σ F1 ρ1 (upd H1 D0 (.dK [])) ks vs F' ρ' Hc) ⟨[], [], F1, ρ1, e4, .start a.si hD⟩ (fun i Hc _ ⟨ks, vs, F', ρ', _, c⟩ => (wk_cd hD (fun b q => q) hw hft c).1) (fun i x Hc H' hi ⟨ks, vs, F', ρ', e5, c⟩ y => ?_) (fun Hc ⟨ks, vs, F', ρ', e5, c⟩ => ?_)
          · obtain ⟨f, t, e6, r⟩ := (wk_cd hD (fun b q => q) hw hft c).2 i x H' y
            obtain ⟨ka, va, ρ5, e7, e8⟩ := compD_turn e5 e6
            split at e7
            · cases e7
            · rename_i ρ3 e9
              refine (c.fresh (.inr rfl) f).turn (.inr rfl) hp r e9 fun σ2 F3 hw2 c3 back => ⟨hw2, ?_⟩
              unfold tYes
              simp only [if_true]
              refine ⟨fun a => Z a ∨ a = D0, F3, ρ3, c3.si, ?_⟩
              show wI D.c k1 (evs D.cf es1 ρ3) _ _ _ _ _ _
              cases f1 : evs D.cf es1 ρ3 with
              | bad => rw [f1] at e7; cases e7
              | exc c fs ρ' => rw [f1] at e7; cases e7
              | ok bs ρ4 =>
                rw [f1] at e7
                simp only [wI] at e7 ⊢
                cases f2 : argTs ρ4 bs with
                | none => rw [f2] at e7; cases e7
                | some us =>
                  rw [f2] at e7
                  dsimp only at e7 ⊢
                  cases f3 : walk k1 us with
                  | none => rw [f3] at e7; cases e7
                  | some ys1 =>
                    rw [f3] at e7
                    dsimp only at e7 ⊢
                    intro F4 H4 J1 s4 w1
                    split at e7
                    · rename_i zs1 ρ9 f4
                      cases e7
                      obtain ⟨G1, Y1, wk1, hw1⟩ := w1
                      have c4 := c3.spo (.inr rfl) s4
                      have hft1 : ∀ i b, b ∈ F4 i → H4 b ≠ none := fun i b hb => s4.si.ft hb
                      refine w_it wk1 (fun j Hc => ∃ kI vI F' ρ', compD _ (ys1.drop j) kI vI ρ' = .ok (ka, va) ρ9 ∧ CSD D.K (fun a => Z a ∨ a = D0) D0 σ2 F4 ρ4 H4 kI vI F' ρ' Hc) ⟨ks, vs, F4, ρ4, f4, c4.again⟩ (fun j Hc _ ⟨kI, vI, F', ρ', _, c⟩ => (wk_cd2 hw1 (.inr rfl) hft1 c).1) (fun j x1 Hc H5 hj ⟨kI, vI, F5, ρ5, g5, c5⟩ y1 => ?_) (fun Hc ⟨kI, vI, F5, ρ5, g5, c5⟩ => ?_)
                      · obtain ⟨fj, t1, g6, r1⟩ := (wk_cd2 hw1 (.inr rfl) hft1 c5).2 j x1 H5 y1
                        obtain ⟨kb, vb, ρ6, g7, g8⟩ := compD_turn g5 g6
                        split at g7
                        · cases g7
                        · rename_i ρ7 g9
                          refine (c5.fresh (.inr rfl) fj).turn (.inr rfl) hp1 r1 g9 fun σ3 F7 hw3 c7 back1 => ⟨hw3, cd_body (.inr rfl) c7 g7 fun F8 ρ8 H8 g10 c8 => ⟨kb, vb, F8, _, g8, ?_⟩⟩
                          rw [g10]
                          exact back1 _ _ _ _ _ c8
                      · obtain ⟨g9, rfl⟩ := compD_done g5
                        cases g9
                        exact ⟨_, _, F5, _, e8, back _ _ _ _ _ (c4.trans c5)⟩
                    · cases e7
          · obtain ⟨e9, rfl⟩ := compD_done e5
            cases e9
            exact h F' Hc _ _ (c.fin a hD)
        · exact h.elim
end
end Ev
end
section
set_option Elab.async false
set_option linter.all false
set_option maxRecDepth 100000
set_option maxHeartbeats 2000000
namespace Ev
open PySem PySem.Spec L2 StX
/-- what a test may be -/
def tst : E → Bool
  | .ifx _ _ _ => false
  | .and_ a b => tst a && tst b
  | .or_ a b => tst a && tst b
  | .op .not_ es => (match es with
    | [a] => plainE a && tst a
    | _ => false)
  | .brw _ => false
  | .star _ => false
  | _ => true
def ownS (N : List Str) (own : List Nat) : List (Str × Nat) := own.map fun i => (N.getD i Str.empty, i)
theorem ownS_snd {N : List Str} : ∀ {own : List Nat}, (ownS N own).map (·.2) = own
  | [] => rfl
  | i :: own => by
    show i :: (ownS N own).map (·.2) = i :: own
    rw [ownS_snd]
def andL (r : List Expr) (b : Expr) (p : Pos) (o : BoolOp) : Expr := match r with
  | [] => b
  | _ => .BoolOp o (b :: r) p
mutual
def okE (C : Ck) : E → Scope → Scope → Expr → Bool
  | .var i, sc, _, e => (match e with
    | .Name x _ => nmAt C.N i x && vis sc x
    | _ => false)
  | .cst t, _, _, e => (match e with
    | .Constant c _ _ => okC t c
    | _ => false)
  | .glb _ t, sc, _, e => (match e with
    | .Name x _ => glC C sc t x
    | _ => false)
  | .lenV i, sc, _, e => (match e with
    | .Call fn args kws _ => (match fn, args, kws with
      | .Name f _, [.Name x _], [] => decide (f = Str.ofString "len") && gl sc f && decide (f ∈ C.bi) && nmAt C.N i x && vis sc x
      | _, _, _ => false)
    | _ => false)
  | .op o es, sc, rw_, e => (match opnds C sc o e with
    | some args => okOps o es && okA C es sc rw_ args
    | none => false)
  | .ifx c a b, sc, rw_, e => (match e with
    | .IfExp c' a' b' _ => tst c && okE C c sc rw_ c' && okE C a sc rw_ a' && okE C b sc rw_ b'
    | _ => false)
  | .and_ a b, sc, rw_, e => (match e with
    | .BoolOp o vs p => (match o, vs with
      | .And, a' :: b' :: r => okE C a sc rw_ a' && okE C b sc rw_ (andL r b' p .And)
      | _, _ => false)
    | _ => false)
  | .or_ a b, sc, rw_, e => (match e with
    | .BoolOp o vs p => (match o, vs with
      | .Or, a' :: b' :: r => okE C a sc rw_ a' && okE C b sc rw_ (andL r b' p .Or)
      | _, _ => false)
    | _ => false)
  | .chain o1 o2 a b c, sc, rw_, e => (match e with
    | .Compare a' ops bs _ => (match ops, bs with
      | [p1, p2], [b', c'] => decide (cmpO o1 = some p1) && decide (cmpO o2 = some p2) && !lastMarks [p1, p2] [b', c'] && okE C a sc rw_ a' && okE C b sc rw_ b' && okE C c sc rw_ c'
      | _, _ => false)
    | _ => false)
  | .call f es, sc, rw_, e => (match e with
    | .Call fn args kws _ => (match fn, kws with
      | .Name x _, [] => (match C.fns[f]? with
        | some (y, ps) => decide (x = y) && decide (es.length = ps.length) && gl sc x && okNm x && args.all (fun e => !isStar e) && es.all noStarE && okA C es sc rw_ args
        | none => false)
      | _, _ => false)
    | _ => false)
  | .callk f es is, sc, rw_, e => (match e with
    | .Call fn args kws _ => (match fn, C.fns[f]? with
      | .Name x _, some (y, ps) => decide (x = y) && gl sc x && okNm x && args.all (fun e => !isStar e) && kws.all (fun k => k.arg.isSome) && plains es && kwOk ps args.length (kws.filterMap (·.arg)) is && decide (es.length = ps.length) && is.isPerm (List.range es.length) && okA C es sc rw_ (args ++ kws.map (·.value))
      | _, _ => false)
    | _ => false)
  | .lc own p k es cs e0, sc, rw_, e => (match e with
    | .ListComp elt gens scope _ => (match gens with
      | [⟨tg, iter, ifs, 0⟩] => (match itArgs C sc k tg iter with
        | some args => plains es && notSet iter && patIn own p && blkC C.N sc scope (ownS C.N own) && okP C (relS scope sc) scope p tg && okA C es sc rw_ args && plains cs && Nat.ble cs.length 1 && cs.all tst && okA C cs (relS scope sc) scope ifs && okE C e0 (relS scope sc) scope elt
        | none => false)
      | _ => false)
    | _ => false)
  | .lc2 own p k es own1 p1 k1 es1 cs e0, sc, rw_, e => (match e with
    | .ListComp elt gens scope _ => (match gens with
      | [⟨tg, iter, [], 0⟩, ⟨tg1, iter1, ifs1, 0⟩] => (match itArgs C sc k tg iter, itArgs C (relS scope sc) k1 tg1 iter1 with
        | some args, some args1 => plains es && notSet iter && patIn own p && plains es1 && notSet iter1 && patIn own1 p1 && own1.all (fun i => own.any (Nat.beq i)) && blkC C.N sc scope (ownS C.N own) && okP C (relS scope sc) scope p tg && okP C (relS scope sc) scope p1 tg1 && okA C es sc rw_ args && okA C es1 (relS scope sc) scope args1
            && plains cs && Nat.ble cs.length 1 && cs.all tst && okA C cs (relS scope sc) scope ifs1 && okE C e0 (relS scope sc) scope elt
        | _, _ => false)
      | _ => false)
    | _ => false)
  | .dc own p k es cs ek eV, sc, rw_, e => (match e with
    | .DictComp kx vx gens scope _ => (match gens with
      | [⟨tg, iter, ifs, 0⟩] => (match itArgs C sc k tg iter with
        | some args => plains es && notSet iter && patIn own p && blkC C.N sc scope (ownS C.N own) && okP C (relS scope sc) scope p tg && okA C es sc rw_ args && plains cs && Nat.ble cs.length 1 && cs.all tst && okA C cs (relS scope sc) scope ifs && okE C ek (relS scope sc) scope kx && okE C eV (relS scope sc) scope vx
        | none => false)
      | _ => false)
    | _ => false)
  | .dc2 own p k es own1 p1 k1 es1 cs ek eV, sc, rw_, e => (match e with
    | .DictComp kx vx gens scope _ => (match gens with
      | [⟨tg, iter, [], 0⟩, ⟨tg1, iter1, ifs1, 0⟩] => (match itArgs C sc k tg iter, itArgs C (relS scope sc) k1 tg1 iter1 with
        | some args, some args1 => plains es && notSet iter && patIn own p && plains es1 && notSet iter1 && patIn own1 p1 && own1.all (fun i => own.any (Nat.beq i)) && blkC C.N sc scope (ownS C.N own) && okP C (relS scope sc) scope p tg && okP C (relS scope sc) scope p1 tg1 && okA C es sc rw_ args && okA C es1 (relS scope sc) scope args1
            && plains cs && Nat.ble cs.length 1 && cs.all tst && okA C cs (relS scope sc) scope ifs1 && okE C ek (relS scope sc) scope kx && okE C eV (relS scope sc) scope vx
        | _, _ => false)
      | _ => false)
    | _ => false)
  | _, _, _, _ => false
def okA (C : Ck) : List E → Scope → Scope → List Expr → Bool
  | [], _, _, as => as.isEmpty
  | .brw i :: es, sc, rw_, as => (match as with
    | .Name x _ :: as => nmAt C.N i x && vis sc x && okA C es sc rw_ as
    | _ => false)
  | .star e :: es, sc, rw_, as => (match as with
    | .Starred a _ :: as => plainE e && okE C e sc rw_ a && okA C es sc rw_ as
    | _ => false)
  | e :: es, sc, rw_, as => (match as with
    | a :: as => !isStar a && okE C e sc rw_ a && okA C es sc rw_ as
    | [] => false)
end
section
variable {X : Cx} {D : Wd} {C : Ck} {sc rw_ : Scope}
theorem pe_cal (c : Cok X D C sc rw_) {f : Nat} {x : Str} {ps : List Str} {args : List Expr} {es : List E} {p pos : Pos} (hf : C.fns[f]? = some (x, ps)) (hl : es.length = ps.length) (hg : gl sc x = true) (hn : okNm x = true) (ha : args.all (fun e => !isStar e) = true)
    (pa : PA X args (tAs D es)) (ea : Each X D args es) : PE X (.Call (.Name x p) args [] pos) (tE D (.call f es)) := by
  obtain ⟨fa, fd, k, F, hr, hm, hk, hb⟩ := (c.fns f x ps hf).ex
  have rd : ∀ σ H Q, tE D (.call f es) σ H Q → tAs D es σ H fun vs H1 => spF D.K D.cf D.cv f ps.length (vs ++ []) H1 Q (WE D.W σ) := fun σ H Q q => by
    refine tA_mono (call_in hl q) fun vs H1 h => ?_
    rw [List.append_nil]
    exact h
  cases args with
  | nil =>
    refine ⟨fun pins s σ H Q I h => ?_⟩
    have e0 : es = [] := by
      cases es with
      | nil => rfl
      | cons _ _ => exact ea.elim
    subst e0
    have h0 := tAs_nil (rd σ H Q h)
    refine wpAny_Call_Name_kw (ld_glob I (gl_of c hg) hm ?_ (okNm_of hn).1)
    exact PySem.W.callWith_K0 I.kIn hk (run_fnSD (us := []) F hr hb.all .nil (passAt c.tk σ) I .nil h0)
  | cons a as =>
    simp only [List.all_cons, Bool.and_eq_true] at ha
    have hs := st_one (by simpa using ha.1) as X.env
    exact PE.weak (pe_callSD F hr (gl_of c hg) hm hk hb.all .nil (passAt c.tk) pa (okNm_of hn).1 hs (st_any ha.2)) fun σ H Q q => rd σ H Q q
/-- operand by operand -/
def tCs (D : Wd) : List E → TA
  | [] => tNil
  | e :: es => tCons (tO D e) (tCs D es)
theorem noSt_plain {e : E} (h : plainE e = true) : NoSt e := fun x q => by subst q; simp [plainE] at h
theorem tCs.mono' {D : Wd} : ∀ {es : List E} {σ : L2.St} {H : Hp} {Q Q' : List V → Hp → Prop}, tCs D es σ H Q → (∀ vs H', Q vs H' → Q' vs H') → tCs D es σ H Q'
  | [], σ, H, Q, Q', h, m => m _ _ h
  | e :: es, σ, H, Q, Q', h, m => tO.mono h fun x H1 h1 => tCs.mono' h1 fun vs H2 q => m _ _ q
theorem plains_app : ∀ {a b : List E}, plains (a ++ b) = true → plains a = true ∧ plains b = true
  | [], b, h => ⟨rfl, h⟩
  | e :: a, b, h => by
    simp only [List.cons_append, plains, Bool.and_eq_true] at h ⊢
    exact ⟨⟨h.1, (plains_app h.2).1⟩, (plains_app h.2).2⟩
theorem plains_mem : ∀ {a : List E}, plains a = true → ∀ e ∈ a, plainE e = true
  | [], _, e, he => by simp at he
  | x :: a, h, e, he => by
    simp only [plains, Bool.and_eq_true] at h
    rcases List.mem_cons.mp he with rfl | he
    · exact h.1
    · exact plains_mem h.2 e he
theorem each_len : ∀ {as : List Expr} {es : List E}, Each X D as es → es.length = as.length
  | [], [], _ => rfl
  | [], _ :: _, h => h.elim
  | _ :: _, [], h => h.elim
  | _ :: _, _ :: _, h => by simp [each_len h.2]
theorem tCs_of : ∀ {es1 es2 : List E} {σ : L2.St} {H : Hp} {Q : List V → Hp → Prop}, plains (es1 ++ es2) = true → tAs D (es1 ++ es2) σ H Q → tCs D es1 σ H fun vs H1 => vs.length = es1.length ∧ tCs D es2 σ H1 fun ws H2 => ws.length = es2.length ∧ Q (vs ++ ws) H2
  | [], [], σ, H, Q, _, h => ⟨rfl, rfl, tAs_nil h⟩
  | [], e :: es, σ, H, Q, hp, h => by
    simp only [List.nil_append, plains, Bool.and_eq_true] at hp
    refine ⟨rfl, tO.mono (tO_one (noSt_plain hp.1) h) fun x H1 h1 => ?_⟩
    have := tCs_of (es1 := []) (es2 := es) hp.2 h1
    exact tCs.mono' this.2 fun vs H2 q => ⟨by simp [q.1], q.2⟩
  | e :: es, es2, σ, H, Q, hp, h => by
    simp only [List.cons_append, plains, Bool.and_eq_true] at hp
    refine tO.mono (tO_one (noSt_plain hp.1) h) fun x H1 h1 => ?_
    exact tCs.mono' (tCs_of (es1 := es) (es2 := es2) hp.2 h1) fun vs H2 q => ⟨by simp [q.1], q.2⟩
theorem each_app : ∀ {as bs : List Expr} {es : List E}, Each X D (as ++ bs) es → ∃ es1 es2, es = es1 ++ es2 ∧ es1.length = as.length ∧ es2.length = bs.length ∧ Each X D as es1 ∧ Each X D bs es2
  | [], bs, es, h => ⟨[], es, rfl, rfl, each_len h, trivial, h⟩
  | a :: as, bs, [], h => h.elim
  | a :: as, bs, e :: es, h => by
    obtain ⟨es1, es2, rfl, h1, h2, h3, h4⟩ := each_app h.2
    exact ⟨e :: es1, es2, rfl, by simp [h1], h2, ⟨h.1, h3⟩, h4⟩
theorem each_pa : ∀ {as : List Expr} {es : List E}, plains es = true → as.all (fun e => !isStar e) = true → Each X D as es → PA X as (tCs D es)
  | [], [], _, _, _ => pa_nil
  | [], _ :: _, _, _, h => h.elim
  | _ :: _, [], _, _, h => h.elim
  | a :: as, e :: es, hp, hs, h => by
    simp only [plains, Bool.and_eq_true] at hp
    simp only [List.all_cons, Bool.and_eq_true] at hs
    exact pa_cons (h.1 (noSt_plain hp.1)) (each_pa hp.2 hs.2 h.2) (st_one (by simpa using hs.1) _ _)
theorem each_pk : ∀ {kws : List Keyword} {es : List E}, plains es = true → Each X D (kws.map (·.value)) es → PK X kws (tCs D es)
  | [], [], _, _ => pk_nil
  | [], _ :: _, _, h => h.elim
  | _ :: _, [], _, h => h.elim
  | ⟨nm, v, p⟩ :: kws, e :: es, hp, h => by
    simp only [plains, Bool.and_eq_true] at hp
    exact pk_cons (h.1 (noSt_plain hp.1)) (each_pk hp.2 h.2)
theorem kw_all : ∀ {kws : List Keyword} {pos : Pos} {env : PySem.Env}, kws.all (fun k => k.arg.isSome) = true → (backToKw pos (keywordEach kws env)).all (·.1.isSome) = true ∧ (backToKw pos (keywordEach kws env)).any (·.1.isNone) = false ∧ (backToKw pos (keywordEach kws env)).filterMap (·.1) = kws.filterMap (·.arg)
  | [], _, _, _ => ⟨rfl, rfl, rfl⟩
  | ⟨nm, v, p⟩ :: kws, pos, env, h => by
    simp only [List.all_cons, Bool.and_eq_true] at h
    obtain ⟨i1, i2, i3⟩ := kw_all (kws := kws) (pos := pos) (env := env) h.2
    cases nm with
    | none => simp at h
    | some n =>
      unfold backToKw at i1 i2 i3 ⊢
      simp only [keywordEach, List.map_cons, List.all_cons, List.any_cons, List.filterMap_cons, i1, i2, i3]
      simp
theorem run_fnKw {fa : Addr} {fd : FuncData} {k n : Nat} {ps : List Str} {sp : Sp} {CX : CXT} {E : L2.St → XK} {ks : List Str} {is : List Nat} {pins : List (Addr × Obj)} {σ : L2.St} {H : Hp} {s : Shared} {Q : VK} {us ws : List Value} {vs zs : List V} (F : FnOk X.prog X.w X.K X.mg X.base CX k fa fd ps sp) (hr : Room k X.A) (hb : BindsP X.K fd ps) (hx : PassesAt CX X σ (E σ))
    (hk : kwOk ps n ks is = true) (h1 : vs.length = n) (h2 : zs.length = ks.length) (hi : ∀ i ∈ is, i < (vs ++ zs).length) (I : Inv X pins σ H s) (r : Vals vs us) (rz : Vals zs ws) (h : sp (pick .non (vs ++ zs) is) H Q (E σ)) :
    wpAny (model X.prog X.w) X.A (call (.ref fa) us (ks.zip ws)) (EP X pins σ Q) X.xe s := by
  have r2 : Vals (pick .non (vs ++ zs) is) (pick Value.none (us ++ ws) is) := pick_vals (r.append rz) hi
  have bt : BindsTo s fd ⟨us, ks.zip ws⟩ (ps.zip (pick Value.none (us ++ ws) is)) := .of_eq (hb.kw n ks is hk us ws (by rw [← r.length]; exact h1) (by rw [← rz.length]; exact h2))
  refine wpAny_call (codeAny_mono (F.run X.A X.stack s H ⟨us, ks.zip ws⟩ _ _ Q (E σ) hr I.env0 bt r2 h) fun res s' hq => ?_)
  match res, hq with
  | .error e, hq => exact hx pins H s e s' I hq
  | .ok (.ret u), hq => exact I.after hq
  | .ok .next, hq => exact hq.elim
  | .ok .brk, hq => exact hq.elim
  | .ok .cont, hq => exact hq.elim
theorem pe_calk (c : Cok X D C sc rw_) {f : Nat} {x : Str} {ps : List Str} {args : List Expr} {kws : List Keyword} {es : List E} {is : List Nat} {p pos : Pos} (hf : C.fns[f]? = some (x, ps)) (hl : es.length = ps.length) (hg : gl sc x = true) (hn : okNm x = true) (ha : args.all (fun e => !isStar e) = true) (hw : kws.all (fun k => k.arg.isSome) = true)
    (hp : plains es = true) (hk : kwOk ps args.length (kws.filterMap (·.arg)) is = true) (hi : is.Perm (List.range es.length)) (ea : Each X D (args ++ kws.map (·.value)) es) : PE X (.Call (.Name x p) args kws pos) (tE D (.callk f es is)) := by
  obtain ⟨fa, fd, k, F, hr, hm, hkp, hb⟩ := (c.fns f x ps hf).ex
  obtain ⟨es1, es2, rfl, n1, n2, e1, e2⟩ := each_app ea
  obtain ⟨w1, w2, w3⟩ := kw_all (pos := pos) (env := X.env) hw
  have hp1 : plains es1 = true ∧ plains es2 = true := plains_app hp
  have pk := each_pk hp1.2 e2
  have il : is.length = ps.length := by rw [hi.length_eq, List.length_range]; exact hl
  have rd : ∀ σ H Q, tE D (.callk f (es1 ++ es2) is) σ H Q → tCs D es1 σ H fun vs H1 => vs.length = es1.length ∧ tCs D es2 σ H1 fun ws H2 => ws.length = es2.length ∧ spF D.K D.cf D.cv f ps.length (pick .non (vs ++ ws) is) H2 Q (WE D.W σ) := fun σ H Q q =>
    tCs_of hp (callk_in il (plains_mem hp) hi q)
  have lt : ∀ {vs ws : List V}, vs.length = es1.length → ws.length = es2.length → ∀ i ∈ is, i < (vs ++ ws).length := fun {vs ws} a b i h => by
    have := List.mem_range.mp (hi.mem_iff.mp h)
    rw [List.length_append] at this ⊢
    omega
  have kl : es2.length = (kws.filterMap (·.arg)).length := by
    rw [n2, List.length_map]
    have : ∀ {l : List Keyword}, l.all (fun k => k.arg.isSome) = true → l.length = (l.filterMap (·.arg)).length := fun {l} h => by
      induction l with
      | nil => rfl
      | cons y l ih =>
        simp only [List.all_cons, Bool.and_eq_true] at h
        obtain ⟨z, hz⟩ := Option.isSome_iff_exists.mp h.1
        rw [List.filterMap_cons, hz, List.length_cons, List.length_cons, ih h.2]
    exact this hw
  refine ⟨fun pins s σ H Q I h => ?_⟩
  have q0 := rd σ H Q h
  refine wpAny_Call_Name_kw (ld_glob I (gl_of c hg) hm ?_ (okNm_of hn).1)
  cases args with
  | nil =>
    have z : es1 = [] := List.eq_nil_of_length_eq_zero n1
    subst z
    refine PySem.W.callWith_KW0 (h₀ := X.base) I.ok.mod.kin hkp w1 ?_ (by rw [w2]; rfl)
    refine thn (pk.run pos pins s σ H _ I q0.2) fun ws s2 ⟨zs, H2, I2, rz, q2⟩ => ⟨I2.kIn, ?_⟩
    rw [w3]
    exact run_fnKw (E := WE D.W) (vs := []) (us := []) F hr hb (passAt c.tk σ) hk rfl (q2.1.trans kl) (lt rfl q2.1) I2 .nil rz q2.2
  | cons a as =>
    have pa := each_pa hp1.1 ha e1
    simp only [List.all_cons, Bool.and_eq_true] at ha
    refine PySem.W.callWith_KW (h₀ := X.base) I.ok.mod.kin hkp w1 (thn (pa.run pos pins s σ H _ I q0) fun us s1 ⟨vs, H1, I1, r, q⟩ => ?_) ?_ (st_one (by simpa using ha.1) _ _)
    · refine thn (pk.run pos pins s1 σ H1 _ I1 q.2) fun ws s2 ⟨zs, H2, I2, rz, q2⟩ => ⟨I2.kIn, ?_⟩
      rw [w3]
      exact run_fnKw (E := WE D.W) F hr hb (passAt c.tk σ) hk (q.1.trans n1) (q2.1.trans kl) (lt q.1 q2.1) I2 r rz q2.2
    · rw [w2, Bool.or_false]
      exact st_any (by simp only [List.all_cons, Bool.and_eq_true]; exact ha)
structure Snd (X : Cx) (D : Wd) (x : E) (e : Expr) : Prop where
  pe : PE X e (tE D x)
  pt : tst x = true → PT X e (tT D x)
  pw : tst x = true → (∃ o vs p, e = .BoolOp o vs p) → PW X e (tT D x)
theorem Snd.gen (c : Cok X D C sc rw_) {x : E} {e : Expr} (g : genT e = true) (p : PE X e (tE D x)) : Snd X D x e :=
  ⟨p, fun _ => pt_gen c g p, fun _ ⟨o, vs, p, q⟩ => by subst q; simp [genT] at g⟩
theorem pts_of {cs : List E} {ifs : List Expr} (hl : Nat.ble cs.length 1 = true) (hp : plains cs = true) (ht : cs.all tst = true) (h : (cs = [] ∧ ifs = []) ∨ ∃ c r i j, cs = c :: r ∧ ifs = i :: j ∧ (tst c = true → PT X i (tT D c)) ∧ (r = [] → j = [])) : PTs X ifs (tTs D cs) := by
  rcases h with ⟨rfl, rfl⟩ | ⟨c, r, i, j, rfl, rfl, h1, h2⟩
  · refine ⟨fun pins s σ H Q I h => pts_nil.run pins s σ H Q I ?_⟩
    obtain ⟨Z, F, ρ, S, h⟩ := h
    rw [evc] at h
    exact h F H (.refl S)
  · have hr : r = [] := by
      have := Nat.le_of_ble_eq_true hl
      simp at this
      exact this
    subst hr
    have hj := h2 rfl
    subst hj
    have ht : tst c = true := by simpa using ht
    refine ⟨fun pins s σ H Q I h => (pts_one (h1 ht)).run pins s σ H Q I ?_⟩
    obtain ⟨Z, F, ρ, S, h⟩ := h
    refine ⟨Z, F, ρ, S, ?_⟩
    rw [evc] at h
    cases e1 : tru (ev D.cf c ρ) with
    | bad => rw [e1] at h; exact h
    | exc c fs ρ' => rw [e1] at h; exact h
    | ok b ρ1 =>
      rw [e1] at h
      simp only [Out.bind] at h
      cases b with
      | true =>
        simp only [evc, if_true] at h
        exact h
      | false => exact h
theorem opnds_not {e : Expr} {args : List Expr} (h : opnds C sc .not_ e = some args) : ∃ a p, e = .UnaryOp .Not a p ∧ args = [a] := by
  cases e with
  | UnaryOp u a p => cases u <;> simp only [opnds] at h <;> first | (cases h; exact ⟨a, p, rfl, rfl⟩) | cases h
  | BinOp a o b p => simp [opnds, binO] at h
  | Compare a ops bs p =>
    simp only [opnds] at h
    match ops, bs, h with
    | [p], [b], h => simp [opCmp, cmpO] at h
    | [], _, h => simp [opCmp] at h
    | _ :: _ :: _, _, h => simp [opCmp] at h
    | [_], [], h => simp [opCmp] at h
    | [_], _ :: _ :: _, h => simp [opCmp] at h
  | Call fn as kws p =>
    simp only [opnds] at h
    split at h
    · simp [opCall, bltNm, bltO, typO] at h
    · cases h
  | Tuple es k p => simp [opnds] at h
  | List es p => simp [opnds] at h
  | Subscript a b p => simp [opnds] at h
  | _ => simp [opnds] at h
theorem chainT_in {o1 o2 : Op} (ho : isB o2 = true) {a b c : E} {σ : L2.St} {H : Hp} {Q : Bool → Hp → Prop} (h : tT D (.chain o1 o2 a b c) σ H Q) : tE D (.chain o1 o2 a b c) σ H fun x H1 => ∃ k, x = .bl k ∧ Q k H1 := by
  obtain ⟨Z, F, ρ, S, h⟩ := h
  refine ⟨Z, F, ρ, S, ?_⟩
  have key : ∀ r ρ', ev D.cf (.chain o1 o2 a b c) ρ = .ok r ρ' → ∃ k, r = .sh (.bl k) := fun r ρ' q => by
    rw [ev] at q
    cases e1 : ev D.cf a ρ with
    | bad => rw [e1] at q; cases q
    | exc _ _ _ => rw [e1] at q; cases q
    | ok ra ρ1 =>
      rw [e1] at q
      simp only [Out.bind] at q
      cases e2 : ev D.cf b ρ1 with
      | bad => rw [e2] at q; cases q
      | exc _ _ _ => rw [e2] at q; cases q
      | ok rb ρ2 =>
        rw [e2] at q
        simp only [Out.bind] at q
        split at q
        · cases e3 : ev D.cf c ρ2 with
          | bad => rw [e3] at q; cases q
          | exc _ _ _ => rw [e3] at q; cases q
          | ok rc ρ3 =>
            rw [e3] at q
            simp only [Out.bind] at q
            cases e4 : evOp o2 [rb.t, rc.t] with
            | none => rw [e4] at q; cases q
            | some r2 =>
              rw [e4] at q
              cases q
              exact isB_bl ho e4
        · cases q
          exact ⟨false, rfl⟩
        · cases q
  cases e : ev D.cf (.chain o1 o2 a b c) ρ with
  | bad => rw [e] at h; exact h
  | exc _ _ _ => rw [e] at h; exact h
  | ok r ρ1 =>
    rw [e] at h
    obtain ⟨k, rfl⟩ := key r ρ1 e
    intro F1 H1 v fp ep
    have h1 := ep.shr
    unfold R.t Rp at h1
    exact ⟨k, h1, h F1 H1 ep.spo⟩
/-- what a row of operands gives -/
def Row (X : Cx) (D : Wd) (as : List Expr) (es : List E) : Prop := PA X as (tAs D es) ∧ Each X D as es ∧ ∀ x r a j, es = x :: r → as = a :: j → (r = [] → j = []) ∧ (plainE x = true → tst x = true → PT X a (tT D x))
theorem okA_tests {cs : List E} {ifs : List Expr} (h : Row X D ifs cs) (hp : plains cs = true) : (cs = [] ∧ ifs = []) ∨ ∃ c r i j, cs = c :: r ∧ ifs = i :: j ∧ (tst c = true → PT X i (tT D c)) ∧ (r = [] → j = []) := by
  obtain ⟨_, ea, t⟩ := h
  cases cs with
  | nil =>
    cases ifs with
    | nil => exact .inl ⟨rfl, rfl⟩
    | cons _ _ => exact ea.elim
  | cons x r =>
    cases ifs with
    | nil => exact ea.elim
    | cons a j =>
      simp only [plains, Bool.and_eq_true] at hp
      obtain ⟨k1, k2⟩ := t x r a j rfl rfl
      exact .inr ⟨x, r, a, j, rfl, rfl, k2 hp.1, k1⟩
theorem okA_plain {e : E} {es : List E} {as : List Expr} (hp : plainE e = true) (h : okA C (e :: es) sc rw_ as = true) : ∃ a bs, as = a :: bs ∧ isStar a = false ∧ okE C e sc rw_ a = true ∧ okA C es sc rw_ bs = true := by
  cases as with
  | nil => cases e <;> first | (simp [plainE] at hp; done) | (simp [okA] at h; done)
  | cons a bs =>
    refine ⟨a, bs, rfl, ?_⟩
    cases e <;> first | (simp [plainE] at hp; done) | (simp only [okA, Bool.and_eq_true, Bool.not_eq_true'] at h; exact ⟨h.1.1, h.1.2, h.2⟩)
theorem okA_cons {e : E} {es : List E} {as : List Expr} (hp : plainE e = true) (c : Cok X D C sc rw_) (h : okA C (e :: es) sc rw_ as = true) (k : ∀ a, okE C e sc rw_ a = true → Snd X D e a) (r : ∀ bs, okA C es sc rw_ bs = true → Row X D bs es) : Row X D as (e :: es) := by
  obtain ⟨a, bs, rfl, h1, h2, h3⟩ := okA_plain hp h
  obtain ⟨pa, ea, _⟩ := r bs h3
  have k := k a h2
  refine ⟨⟨fun pos pins s σ H Q I q => (pa_cons k.pe pa (st_one h1 _ _)).run pos pins s σ H Q I (tAs_cons hp q)⟩, ⟨fun _ => by rw [tO_pl hp]; exact k.pe, ea⟩, fun x r a j q1 q2 => ?_⟩
  cases q1
  cases q2
  refine ⟨fun q => ?_, fun _ q => k.pt q⟩
  subst q
  cases bs with
  | nil => rfl
  | cons _ _ => exact ea.elim
mutual
theorem okE_ok : ∀ {x : E} {X : Cx} {D : Wd} {sc rw_ : Scope} {e : Expr}, Cok X D C sc rw_ → okE C x sc rw_ e = true → Snd X D x e
  | .var i, X, D, sc, rw_, e, c, h => by
    cases e <;> simp only [okE] at h <;> first | (cases h; done) | skip
    rw [Bool.and_eq_true] at h
    exact .gen c rfl (PE.weak (pe_vr c h.1 h.2) fun σ H Q q => var_in q)
  | .cst t, X, D, sc, rw_, e, c, h => by
    cases e <;> simp only [okE] at h <;> first | (cases h; done) | skip
    exact .gen c rfl (pe_cst h)
  | .lenV i, X, D, sc, rw_, e, c, h => by
    cases e <;> simp only [okE] at h <;> first | (cases h; done) | skip
    split at h
    · rename_i f p x p2
      simp only [Bool.and_eq_true] at h
      obtain ⟨⟨⟨⟨h1, h2⟩, h3⟩, h4⟩, h5⟩ := h
      have h1 := of_decide_eq_true h1
      subst h1
      have hm := of_decide_eq_true h3
      refine .gen c rfl (PE.weak (pe_callB cr_len (gl_of c h2) (c.bi _ hm) rfl (pa_cons (pe_vr c h4 h5) pa_nil (st_one rfl _ _)) (by decide +kernel) (by decide +kernel) (st_one rfl _ _) rfl) fun σ H Q q => ?_)
      exact c.hK ▸ lenV_in q
    · cases h
  | .op o es, X, D, sc, rw_, e, c, h => by
    simp only [okE] at h
    split at h
    · rename_i args ho
      rw [Bool.and_eq_true] at h
      obtain ⟨pa, ea, tp⟩ := okA_ok c h.2
      have k := op_of c ho h.1 pa ea
      by_cases hn : o = .not_
      · subst hn
        obtain ⟨a, p, rfl, rfl⟩ := opnds_not ho
        refine ⟨k.1, fun ht => ?_, fun _ ⟨o, vs, p, q⟩ => by cases q⟩
        unfold tst at ht
        split at ht
        · rename_i a0
          rw [Bool.and_eq_true] at ht
          exact PT.weak (pt_not ((tp _ _ _ _ rfl rfl).2 ht.1 ht.2)) fun σ H Q q => notT_in ht.1 q
        · cases ht
      · refine ⟨k.1, fun _ => k.2 hn, fun _ ⟨o, vs, p, q⟩ => ?_⟩
        subst q
        simp [opnds] at ho
    · cases h
  | .ifx a b d, X, D, sc, rw_, e, c, h => by
    cases e <;> simp only [okE] at h <;> first | (cases h; done) | skip
    simp only [Bool.and_eq_true] at h
    obtain ⟨⟨⟨h1, h2⟩, h3⟩, h4⟩ := h
    refine ⟨PE.weak (pe_ifExp ((okE_ok c h2).pt h1) (okE_ok c h3).pe (okE_ok c h4).pe) fun σ H Q q => ifx_in q, fun q => by simp [tst] at q, fun q => by simp [tst] at q⟩
  | .and_ a b, X, D, sc, rw_, e, c, h => by
    cases e <;> simp only [okE] at h <;> first | (cases h; done) | skip
    rename_i op0 vs0 pos
    split at h
    · rename_i o vs a' b' r
      rw [Bool.and_eq_true] at h
      have ka := okE_ok c h.1
      have kb := okE_ok c h.2
      have pb : PE X (.BoolOp .And (b' :: r) pos) (tE D b) := by
        cases r with
        | nil => exact pe_one kb.pe
        | cons z zs => exact kb.pe
      have wb : tst b = true → PW X (.BoolOp .And (b' :: r) pos) (tT D b) := fun q => by
        cases r with
        | nil => exact pw_and1 (kb.pt q)
        | cons z zs => exact kb.pw q ⟨_, _, _, rfl⟩
      have w : tst (.and_ a b) = true → PW X (.BoolOp .And (a' :: b' :: r) pos) (tT D (.and_ a b)) := fun q => by
        simp only [tst, Bool.and_eq_true] at q
        have := pw_and (ka.pt q.1) (wb q.2)
        exact ⟨fun whole pins s σ H Q I h => this.run whole pins s σ H Q I (andT_in h)⟩
      exact ⟨PE.weak (pe_andT ka.pe pb) fun σ H Q q => c.hK ▸ and_in q, fun q => (w q).pt, fun q _ => w q⟩
    · cases h
  | .or_ a b, X, D, sc, rw_, e, c, h => by
    cases e <;> simp only [okE] at h <;> first | (cases h; done) | skip
    rename_i op0 vs0 pos
    split at h
    · rename_i o vs a' b' r
      rw [Bool.and_eq_true] at h
      have ka := okE_ok c h.1
      have kb := okE_ok c h.2
      have pb : PE X (.BoolOp .Or (b' :: r) pos) (tE D b) := by
        cases r with
        | nil => exact pe_one kb.pe
        | cons z zs => exact kb.pe
      have wb : tst b = true → PW X (.BoolOp .Or (b' :: r) pos) (tT D b) := fun q => by
        cases r with
        | nil => exact pw_or1 (kb.pt q)
        | cons z zs => exact kb.pw q ⟨_, _, _, rfl⟩
      have w : tst (.or_ a b) = true → PW X (.BoolOp .Or (a' :: b' :: r) pos) (tT D (.or_ a b)) := fun q => by
        simp only [tst, Bool.and_eq_true] at q
        have := pw_or (ka.pt q.1) (wb q.2)
        exact ⟨fun whole pins s σ H Q I h => this.run whole pins s σ H Q I (orT_in h)⟩
      exact ⟨PE.weak (pe_orT ka.pe pb) fun σ H Q q => c.hK ▸ or_inn q, fun q => (w q).pt, fun q _ => w q⟩
    · cases h
  | .chain o1 o2 a b d, X, D, sc, rw_, e, c, h => by
    cases e <;> simp only [okE] at h <;> first | (cases h; done) | skip
    split at h
    · rename_i p1 p2 b' c'
      simp only [Bool.and_eq_true] at h
      obtain ⟨⟨⟨⟨⟨h1, h2⟩, h3⟩, h4⟩, h5⟩, h6⟩ := h
      have h1 := of_decide_eq_true h1
      have h2 := of_decide_eq_true h2
      have h3 : lastMarks [p1, p2] [b', c'] = false := by simpa using h3
      have r1 := or_cmp c h1
      have r2 := or_cmp c h2
      refine ⟨PE.weak (pe_chain r1 r2 (okE_ok c h4).pe (okE_ok c h5).pe (okE_ok c h6).pe h3) fun σ H Q q => chain_in q, fun _ => ?_, fun _ ⟨o, vs, p, q⟩ => by cases q⟩
      refine PT.weak (pt_chain r1 r2 (okE_ok c h4).pe (okE_ok c h5).pe (okE_ok c h6).pe h3) fun σ H Q q => chain_in (chainT_in (cmp_isB h2) q)
    · cases h
  | .call f es, X, D, sc, rw_, e, c, h => by
    cases e <;> simp only [okE] at h <;> first | (cases h; done) | skip
    split at h
    · split at h
      · rename_i y ps hf
        simp only [Bool.and_eq_true] at h
        obtain ⟨⟨⟨⟨⟨⟨h1, h2⟩, h3⟩, h4⟩, h5⟩, h6⟩, h7⟩ := h
        have h1 := of_decide_eq_true h1
        subst h1
        obtain ⟨pa, ea, _⟩ := okA_ok c h7
        exact .gen c rfl (pe_cal c hf (of_decide_eq_true h2) h3 h4 h5 pa ea)
      · cases h
    · cases h
  | .callk f es is, X, D, sc, rw_, e, c, h => by
    cases e <;> simp only [okE] at h <;> first | (cases h; done) | skip
    split at h
    · rename_i x p y ps hf
      simp only [Bool.and_eq_true, decide_eq_true_eq] at h
      obtain ⟨⟨⟨⟨⟨⟨⟨⟨⟨h1, h2⟩, h3⟩, h4⟩, h5⟩, h6⟩, h7⟩, h8⟩, h9⟩, h10⟩ := h
      subst h1
      obtain ⟨_, ea, _⟩ := okA_ok c h10
      exact .gen c rfl (pe_calk c hf h8 h2 h3 h4 h5 h6 h7 (List.isPerm_iff.mp h9) ea)
    · cases h
  | .lc own p k es cs e0, X, D, sc, rw_, e, c, h => by
    cases e <;> simp only [okE] at h <;> first | (cases h; done) | skip
    rename_i elt gens0 scope0 pos
    split at h
    · rename_i tg iter ifs
      split at h
      · rename_i args hi
        simp only [Bool.and_eq_true] at h
        obtain ⟨⟨⟨⟨⟨⟨⟨⟨⟨⟨h1, h2⟩, h3⟩, h4⟩, h5⟩, h6⟩, h7⟩, h8⟩, h9⟩, h10⟩, h11⟩ := h
        obtain ⟨pa, ea, _⟩ := okA_ok c h6
        have bo := blkOk_by h4
        have := pe_lc (pos := pos) (own := ownS C.N own) c.calm (by rw [c.hN]; exact c.nd) (it_of c hi h1 pa ea) (by rw [c.hN, c.hsc]; exact bo)
          (fun s H A cl fp => okP_ok (c.blk s H _ A cl fp) h5)
          (fun s H A cl fp => pts_of h8 h7 h9 (okA_tests (okA_ok (c.blk s H _ A cl fp) h10) h7))
          (fun s H A cl fp => (okE_ok (c.blk s H _ A cl fp) h11).pe) (fold_ok h2)
        rw [ownS_snd] at this
        exact .gen c rfl (PE.weak this fun σ H Q q => lc_in h3 q)
      · cases h
    · cases h
  | .lc2 own p k es own1 p1 k1 es1 cs e0, X, D, sc, rw_, e, c, h => by
    cases e <;> simp only [okE] at h <;> first | (cases h; done) | skip
    rename_i elt gens0 scope0 pos
    split at h
    · rename_i tg iter tg1 iter1 ifs1
      split at h
      · rename_i args args1 hi hi1
        simp only [Bool.and_eq_true] at h
        obtain ⟨⟨⟨⟨⟨⟨⟨⟨⟨⟨⟨⟨⟨⟨⟨⟨h1, h2⟩, h3⟩, g1⟩, g2⟩, g3⟩, g4⟩, h4⟩, h5⟩, g5⟩, h6⟩, g6⟩, h7⟩, h8⟩, h9⟩, h10⟩, h11⟩ := h
        obtain ⟨pa, ea, _⟩ := okA_ok c h6
        have bo := blkOk_by h4
        have := pe_lc2 (pos := pos) (own := ownS C.N own) (vs1 := own1) c.calm (by rw [c.hN]; exact c.nd) (it_of c hi h1 pa ea) (by rw [c.hN, c.hsc]; exact bo)
          (fun i hi => by
            rw [ownS_snd]
            have := List.all_eq_true.mp g4 i hi
            obtain ⟨j, hj, ej⟩ := List.any_eq_true.mp this
            rw [Nat.eq_of_beq_eq_true ej]
            exact hj)
          (fun s H A cl fp => okP_ok (c.blk s H _ A cl fp) h5)
          (fun s H A cl fp => pts_nil)
          (fun s H A cl fp => by
            obtain ⟨pa1, ea1, _⟩ := okA_ok (c.blk s H _ A cl fp) g6
            exact it_of (c.blk s H _ A cl fp) hi1 g1 pa1 ea1)
          (fun s H A cl fp => okP_ok (c.blk s H _ A cl fp) g5)
          (fun s H A cl fp => pts_of h8 h7 h9 (okA_tests (okA_ok (c.blk s H _ A cl fp) h10) h7))
          (fun s H A cl fp => (okE_ok (c.blk s H _ A cl fp) h11).pe) (fold_ok h2) (fun env => fold_ok g2)
        rw [ownS_snd] at this
        exact .gen c rfl (PE.weak this fun σ H Q q => lc2_in h3 g3 q)
      · cases h
    · cases h
  | .dc own p k es cs ek eV, X, D, sc, rw_, e, c, h => by
    cases e <;> simp only [okE] at h <;> first | (cases h; done) | skip
    rename_i kx vx gens0 scope0 pos
    split at h
    · rename_i tg iter ifs
      split at h
      · rename_i args hi
        simp only [Bool.and_eq_true] at h
        obtain ⟨⟨⟨⟨⟨⟨⟨⟨⟨⟨⟨h1, h2⟩, h3⟩, h4⟩, h5⟩, h6⟩, h7⟩, h8⟩, h9⟩, h10⟩, h11⟩, h12⟩ := h
        obtain ⟨pa, ea, _⟩ := okA_ok c h6
        have bo := blkOk_by h4
        have := pe_dc (pos := pos) (own := ownS C.N own) c.calm (by rw [c.hN]; exact c.nd) (it_of c hi h1 pa ea) (by rw [c.hN, c.hsc]; exact bo)
          (fun s H A cl fp => okP_ok (c.blk s H _ A cl fp) h5)
          (fun s H A cl fp => pts_of h8 h7 h9 (okA_tests (okA_ok (c.blk s H _ A cl fp) h10) h7))
          (fun s H A cl fp => (okE_ok (c.blk s H _ A cl fp) h11).pe) (fun s H A cl fp => (okE_ok (c.blk s H _ A cl fp) h12).pe) (fold_ok h2)
        rw [ownS_snd] at this
        exact .gen c rfl (PE.weak this fun σ H Q q => dc_in h3 q)
      · cases h
    · cases h
  | .dc2 own p k es own1 p1 k1 es1 cs ek eV, X, D, sc, rw_, e, c, h => by
    cases e <;> simp only [okE] at h <;> first | (cases h; done) | skip
    rename_i kx vx gens0 scope0 pos
    split at h
    · rename_i tg iter tg1 iter1 ifs1
      split at h
      · rename_i args args1 hi hi1
        simp only [Bool.and_eq_true] at h
        obtain ⟨⟨⟨⟨⟨⟨⟨⟨⟨⟨⟨⟨⟨⟨⟨⟨⟨h1, h2⟩, h3⟩, g1⟩, g2⟩, g3⟩, g4⟩, h4⟩, h5⟩, g5⟩, h6⟩, g6⟩, h7⟩, h8⟩, h9⟩, h10⟩, h11⟩, h12⟩ := h
        obtain ⟨pa, ea, _⟩ := okA_ok c h6
        have bo := blkOk_by h4
        have := pe_dc2 (pos := pos) (own := ownS C.N own) (vs1 := own1) c.calm (by rw [c.hN]; exact c.nd) (it_of c hi h1 pa ea) (by rw [c.hN, c.hsc]; exact bo)
          (fun i hi => by
            rw [ownS_snd]
            have := List.all_eq_true.mp g4 i hi
            obtain ⟨j, hj, ej⟩ := List.any_eq_true.mp this
            rw [Nat.eq_of_beq_eq_true ej]
            exact hj)
          (fun s H A cl fp => okP_ok (c.blk s H _ A cl fp) h5)
          (fun s H A cl fp => pts_nil)
          (fun s H A cl fp => by
            obtain ⟨pa1, ea1, _⟩ := okA_ok (c.blk s H _ A cl fp) g6
            exact it_of (c.blk s H _ A cl fp) hi1 g1 pa1 ea1)
          (fun s H A cl fp => okP_ok (c.blk s H _ A cl fp) g5)
          (fun s H A cl fp => pts_of h8 h7 h9 (okA_tests (okA_ok (c.blk s H _ A cl fp) h10) h7))
          (fun s H A cl fp => (okE_ok (c.blk s H _ A cl fp) h11).pe) (fun s H A cl fp => (okE_ok (c.blk s H _ A cl fp) h12).pe) (fold_ok h2) (fun env => fold_ok g2)
        rw [ownS_snd] at this
        exact .gen c rfl (PE.weak this fun σ H Q q => dc2_in h3 g3 q)
      · cases h
    · cases h
  | .brw _, _, _, _, _, _, _, h => by simp [okE] at h
  | .glb k t, X, D, sc, rw_, e, c, h => by
    cases e <;> simp only [okE] at h <;> first | (cases h; done) | skip
    exact .gen c rfl (pe_gl c h)
  | .star _, _, _, _, _, _, _, h => by simp [okE] at h
  | .bad, _, _, _, _, _, _, h => by simp [okE] at h
theorem okA_ok : ∀ {es : List E} {X : Cx} {D : Wd} {sc rw_ : Scope} {as : List Expr}, Cok X D C sc rw_ → okA C es sc rw_ as = true → Row X D as es
  | [], X, D, sc, rw_, as, c, h => by
    simp only [okA] at h
    cases as with
    | nil => exact ⟨⟨fun pos pins s σ H Q I q => pa_nil.run pos pins s σ H Q I (tAs_nil q)⟩, trivial, fun x r a j q => by cases q⟩
    | cons a as => cases h
  | .brw i :: es, X, D, sc, rw_, as, c, h => by
    simp only [okA] at h
    split at h
    · rename_i x p as
      simp only [Bool.and_eq_true] at h
      obtain ⟨pa, ea, _⟩ := okA_ok c h.2
      have pv := pe_vr (pos := p) c h.1.1 h.1.2
      refine ⟨⟨fun pos pins s σ H Q I q => (pa_cons pv pa (st_one rfl _ _)).run pos pins s σ H Q I (tAs_brw q)⟩, ⟨fun _ => pv, ea⟩, fun x r a j q1 q2 => ?_⟩
      cases q1
      cases q2
      refine ⟨fun q => ?_, fun q => by simp [plainE] at q⟩
      subst q
      cases as with
      | nil => rfl
      | cons _ _ => exact ea.elim
    · cases h
  | .star e :: es, X, D, sc, rw_, as, c, h => by
    simp only [okA] at h
    split at h
    · rename_i a p as
      simp only [Bool.and_eq_true] at h
      obtain ⟨pa, ea, _⟩ := okA_ok c h.2
      have k := okE_ok c h.1.2
      refine ⟨⟨fun pos pins s σ H Q I q => (StX.pa_star k.pe pa rfl).run pos pins s σ H Q I (c.hK ▸ tAs_star q)⟩, ⟨fun q => absurd rfl (q e), ea⟩, fun x r a j q1 q2 => ?_⟩
      cases q1
      cases q2
      refine ⟨fun q => ?_, fun q => by simp [plainE] at q⟩
      subst q
      cases as with
      | nil => rfl
      | cons _ _ => exact ea.elim
    · cases h
  | .var i :: es, X, D, sc, rw_, as, c, h => okA_cons rfl c h (fun a q => okE_ok c q) fun bs q => okA_ok c q
  | .cst t :: es, X, D, sc, rw_, as, c, h => okA_cons rfl c h (fun a q => okE_ok c q) fun bs q => okA_ok c q
  | .glb k t :: es, X, D, sc, rw_, as, c, h => okA_cons rfl c h (fun a q => okE_ok c q) fun bs q => okA_ok c q
  | .op o l :: es, X, D, sc, rw_, as, c, h => okA_cons rfl c h (fun a q => okE_ok c q) fun bs q => okA_ok c q
  | .lenV i :: es, X, D, sc, rw_, as, c, h => okA_cons rfl c h (fun a q => okE_ok c q) fun bs q => okA_ok c q
  | .ifx c0 a b :: es, X, D, sc, rw_, as, c, h => okA_cons rfl c h (fun a q => okE_ok c q) fun bs q => okA_ok c q
  | .and_ a b :: es, X, D, sc, rw_, as, c, h => okA_cons rfl c h (fun a q => okE_ok c q) fun bs q => okA_ok c q
  | .or_ a b :: es, X, D, sc, rw_, as, c, h => okA_cons rfl c h (fun a q => okE_ok c q) fun bs q => okA_ok c q
  | .chain o1 o2 a b d :: es, X, D, sc, rw_, as, c, h => okA_cons rfl c h (fun a q => okE_ok c q) fun bs q => okA_ok c q
  | .call f l :: es, X, D, sc, rw_, as, c, h => okA_cons rfl c h (fun a q => okE_ok c q) fun bs q => okA_ok c q
  | .callk f l ks :: es, X, D, sc, rw_, as, c, h => okA_cons rfl c h (fun a q => okE_ok c q) fun bs q => okA_ok c q
  | .lc own p k l cs e0 :: es, X, D, sc, rw_, as, c, h => okA_cons rfl c h (fun a q => okE_ok c q) fun bs q => okA_ok c q
  | .lc2 own p k l own1 p1 k1 l1 cs e0 :: es, X, D, sc, rw_, as, c, h => okA_cons rfl c h (fun a q => okE_ok c q) fun bs q => okA_ok c q
  | .dc own p k l cs ek ev1 :: es, X, D, sc, rw_, as, c, h => okA_cons rfl c h (fun a q => okE_ok c q) fun bs q => okA_ok c q
  | .dc2 own p k l own1 p1 k1 l1 cs ek ev1 :: es, X, D, sc, rw_, as, c, h => okA_cons rfl c h (fun a q => okE_ok c q) fun bs q => okA_ok c q
  | .bad :: es, X, D, sc, rw_, as, c, h => okA_cons rfl c h (fun a q => okE_ok c q) fun bs q => okA_ok c q
end
end
end Ev
end
section
set_option Elab.async false
set_option linter.all false
set_option maxRecDepth 100000
set_option maxHeartbeats 2000000
namespace Ev
open PySem PySem.Spec L2 StX
theorem PS.weak {X : Cx} {s : Stmt} {t u : TS} (h : PS X s t) (w : ∀ En σ H, u En σ H → t En σ H) : PS X s u := ⟨fun pins s σ H En I q => h.run pins s σ H En I (w En σ H q)⟩
theorem PSs.weak {X : Cx} {s : List Stmt} {t u : TS} (h : PSs X s t) (w : ∀ En σ H, u En σ H → t En σ H) : PSs X s u := ⟨fun pins s σ H En I q => h.run pins s σ H En I (w En σ H q)⟩
/-- a def's own context -/
structure Sok (X : Cx) (D : Wd) (C : Ck) (sc : Scope) : Prop where
  c : Cok X D C sc sc
  po : PassesOwn (model X.prog X.w) X.A X.env X.xe
  kd : sc.kind = .function
  st : X.stack = X.env :: X.outer
  fr : X.env.frame = some X.env.locals
def notComp : Expr → Bool
  | .ListComp _ _ _ _ => false
  | .SetComp _ _ _ _ => false
  | .DictComp _ _ _ _ _ => false
  | _ => true
theorem swap_no {v : Expr} {t : Option Expr} {l : Nat} {env : PySem.Env} (h : notComp v = true) : PySem.swapsWith v t l env = pure false := by
  cases v <;> first | rfl | (simp [notComp] at h)
theorem swap_cell {v : Expr} {x : Str} {px : Pos} {l : Nat} {env : PySem.Env} (h : env.kindOf x = some .cell) : PySem.swapsWith v (some (.Name x px)) l env = pure false := by
  have nc : (NameKind.cell == NameKind.local) = false := rfl
  cases v <;> first | rfl | (unfold PySem.swapsWith; simp [h, nc])
theorem stores_no {tg v : Expr} {env : PySem.Env} (h : isTupX v = false) : PySem.swappedStores [tg] v env = pure none := by
  cases v <;> first | (simp [isTupX] at h; done) | (cases tg <;> rfl)
section
variable {X : Cx} {D : Wd} {C : Ck} {sc : Scope} {np : Nat}
theorem loc_X (k : Sok X D C sc) {x : Str} (h : locN sc sc x = true) : L2.Loc X.env.scope x ∧ (X.fn x = true ∨ X.env.scope.names.lookup x = some .local) := by
  have c := k.c
  unfold locN at h
  rw [Bool.or_eq_true] at h
  rcases h with h | h
  · have h := of_decide_eq_true h
    exact ⟨by unfold L2.Loc; rw [c.hsc]; exact .inl h, by rw [c.hsc]; exact .inr h⟩
  · rw [Bool.and_eq_true] at h
    have h := of_decide_eq_true h.2
    exact ⟨by unfold L2.Loc; rw [c.hsc]; exact .inr h, .inl (c.hfn x h)⟩
theorem ndX (k : Sok X D C sc) : X.N.Nodup := by rw [k.c.hN]; exact k.c.nd
/-- x = v, v no comprehension -/
theorem st_asg (k : Sok X D C sc) {o : Bool} {i : Nat} {x : Str} {e : E} {v : Expr} {p px : Pos} (h1 : nmAt C.N i x = true) (h2 : locN sc sc x = true) (h3 : (notComp v || decide (sc.names.lookup x = some .cell)) = true) (h4 : okE C e sc sc v = true) : PS X (.Assign [.Name x px] v p) (tS D np (.asg o i e)) :=
  PS.weak (ps_set (i := i) (ndX k) (nm_of k.c h1) (loc_X k h2).1 (okE_ok k.c h4).pe (by
    rw [Bool.or_eq_true] at h3
    rcases h3 with h3 | h3
    · exact swap_no h3
    · exact swap_cell (by unfold PySem.Env.kindOf; rw [k.c.hsc]; exact of_decide_eq_true h3)) (loc_X k h2).2) fun En σ H q => s_asg q
/-- x = [comprehension], on one line -/
def lcSw (x : Str) (px : Pos) (sc : Scope) : Expr → Bool
  | .ListComp _ _ scope pos => decide (sc.names.lookup x = some .local) && (px.line == pos.line) && !(scope.names.any fun nk => nk.1 == x && (nk.2 == .local || nk.2 == .cell))
  | _ => false
theorem st_lc (k : Sok X D C sc) {o : Bool} {i : Nat} {x : Str} {e : E} {v : Expr} {p px : Pos} (h1 : nmAt C.N i x = true) (h3 : lcSw x px sc v = true) (h4 : okE C e sc sc v = true) : PS X (.Assign [.Name x px] v p) (tS D np (.asg o i e)) := by
  have c := k.c
  cases v <;> simp only [lcSw] at h3 <;> first | (cases h3; done) | skip
  rename_i elt gens scope pos
  simp only [Bool.and_eq_true, Bool.not_eq_true'] at h3
  obtain ⟨⟨hl, hp⟩, hs⟩ := h3
  have hl := of_decide_eq_true hl
  have sw := sw_true (elt := elt) (gs := gens) (scope := scope) (pos := pos) (py := px) (y := x) (l := p.line) (env := X.env) (by rw [c.hsc]; exact k.kd) (by rw [c.hsc]; exact hl) hp (by simpa using hs)
  have hl' : X.env.scope.names.lookup x = some .local := by rw [c.hsc]; exact hl
  cases e <;> simp only [okE] at h4 <;> first | (cases h4; done) | skip
  · rename_i own pt kk es cs e0
    split at h4
    · rename_i tg iter ifs
      split at h4
      · rename_i args hi
        simp only [Bool.and_eq_true] at h4
        obtain ⟨⟨⟨⟨⟨⟨⟨⟨⟨⟨g1, g2⟩, g3⟩, g4⟩, g5⟩, g6⟩, g7⟩, g8⟩, g9⟩, g10⟩, g11⟩ := h4
        obtain ⟨pa, ea, _⟩ := okA_ok c g6
        have bo := blkOk_by g4
        have := ps_setLc (i := i) (py := px) (pos := pos) (spos := p) (own := ownS C.N own) c.calm (ndX k) (nm_of c h1) hl' sw (it_of c hi g1 pa ea) (by rw [c.hN, c.hsc]; exact bo)
          (fun s H A cl fp => okP_ok (c.blk s H _ A cl fp) g5)
          (fun s H A cl fp => pts_of g8 g7 g9 (okA_tests (okA_ok (c.blk s H _ A cl fp) g10) g7))
          (fun s H A cl fp => (okE_ok (c.blk s H _ A cl fp) g11).pe) (fold_ok g2)
        rw [ownS_snd] at this
        exact PS.weak this fun En σ H q => lc_in g3 (s_asg q)
      · cases h4
    · cases h4
  · rename_i own pt kk es own1 p1 k1 es1 cs e0
    split at h4
    · rename_i tg iter tg1 iter1 ifs1
      split at h4
      · rename_i args args1 hi hi1
        simp only [Bool.and_eq_true] at h4
        obtain ⟨⟨⟨⟨⟨⟨⟨⟨⟨⟨⟨⟨⟨⟨⟨⟨g1, g2⟩, g3⟩, f1⟩, f2⟩, f3⟩, f4⟩, g4⟩, g5⟩, f5⟩, g6⟩, f6⟩, g7⟩, g8⟩, g9⟩, g10⟩, g11⟩ := h4
        obtain ⟨pa, ea, _⟩ := okA_ok c g6
        have bo := blkOk_by g4
        have := ps_setLc2 (i := i) (py := px) (pos := pos) (spos := p) (own := ownS C.N own) (vs1 := own1) c.calm (ndX k) (nm_of c h1) hl' sw (it_of c hi g1 pa ea) (by rw [c.hN, c.hsc]; exact bo)
          (fun i hi => by
            rw [ownS_snd]
            have := List.all_eq_true.mp f4 i hi
            obtain ⟨j, hj, ej⟩ := List.any_eq_true.mp this
            rw [Nat.eq_of_beq_eq_true ej]
            exact hj)
          (fun s H A cl fp => okP_ok (c.blk s H _ A cl fp) g5)
          (fun s H A cl fp => pts_nil)
          (fun s H A cl fp => by
            obtain ⟨pa1, ea1, _⟩ := okA_ok (c.blk s H _ A cl fp) f6
            exact it_of (c.blk s H _ A cl fp) hi1 f1 pa1 ea1)
          (fun s H A cl fp => okP_ok (c.blk s H _ A cl fp) f5)
          (fun s H A cl fp => pts_of g8 g7 g9 (okA_tests (okA_ok (c.blk s H _ A cl fp) g10) g7))
          (fun s H A cl fp => (okE_ok (c.blk s H _ A cl fp) g11).pe) (fold_ok g2) (fun env => fold_ok f2)
        rw [ownS_snd] at this
        exact PS.weak this fun En σ H q => lc2_in g3 f3 (s_asg q)
      · cases h4
    · cases h4
/-- a, b = v -/
theorem st_asgP (k : Sok X D C sc) {ps : List Pat} {e : E} {es : List Expr} {kt : Nat} {v : Expr} {p pt : Pos} (h1 : okPs C sc sc ps es = true) (h2 : patsIn (List.range C.N.length) ps = true) (h3 : notComp v = true) (h5 : isTupX v = false) (h4 : okE C e sc sc v = true) :
    PS X (.Assign [.Tuple es kt pt] v p) (tS D np (.asgP ps e)) := by
  obtain ⟨k1, k2, k3⟩ := okPs_ok k.c h1
  exact PS.weak (ps_asg (okE_ok k.c h4).pe (pg_TL k.c.calm k.c.hK k1 k2 k3) (by unfold PySem.swapsWithSole; exact swap_no h3) (stores_no h5) (by rfl)) fun En σ H q => s_asgP h2 q
theorem st_aug (k : Sok X D C sc) {i : Nat} {x : Str} {o : Op} {op : Operator} {e : E} {v : Expr} {p px : Pos} (h1 : nmAt C.N i x = true) (h2 : locN sc sc x = true) (h3 : (o = .add ∧ op = .Add) ∨ (o = .sub ∧ op = .Sub)) (h4 : okE C e sc sc v = true) : PS X (.AugAssign (.Name x px) op v p) (tS D np (.aug i o e)) := by
  rcases h3 with ⟨rfl, rfl⟩ | ⟨rfl, rfl⟩
  · exact PS.weak (ps_aug (ndX k) (nm_of k.c h1) (loc_X k h2).1 (okE_ok k.c h4).pe ip_add (loc_X k h2).2) fun En σ H q => s_aug (.inl ⟨rfl, rfl⟩) q
  · exact PS.weak (ps_aug (ndX k) (nm_of k.c h1) (loc_X k h2).1 (okE_ok k.c h4).pe ip_sub (loc_X k h2).2) fun En σ H q => s_aug (.inr ⟨rfl, rfl⟩) q
theorem st_expr (k : Sok X D C sc) {e : E} {v : Expr} {p : Pos} (h3 : notComp v = true) (h4 : okE C e sc sc v = true) : PS X (.Expr v p) (tS D np (.expr e)) :=
  PS.weak (ps_expr (okE_ok k.c h4).pe (swap_no h3)) fun En σ H q => s_expr q
theorem st_ret (k : Sok X D C sc) {e : E} {v : Expr} {p : Pos} (h4 : okE C e sc sc v = true) : PS X (.Return (some v) p) (tS D np (.ret e)) :=
  PS.weak (ps_ret (okE_ok k.c h4).pe) fun En σ H q => s_ret q
theorem st_retV (k : Sok X D C sc) {i : Nat} {x : Str} {p px : Pos} (h1 : nmAt C.N i x = true) (h2 : vis sc x = true) (h3 : np ≤ i) : PS X (.Return (some (.Name x px)) p) (tS D np (.retV i)) :=
  PS.weak (ps_ret (pe_vr k.c h1 h2)) fun En σ H q => s_retV h3 q
theorem st_retN {p : Pos} : PS X (.Return none p) (tS D np .retN) := PS.weak ps_retN fun En σ H q => s_retN q
/-- x.append(e) -/
theorem st_app (k : Sok X D C sc) {i : Nat} {x : Str} {e : E} {a : Expr} {p px ap cp : Pos} (h1 : nmAt C.N i x = true) (h2 : vis sc x = true) (hs : isStar a = false) (hl : (ap.endLine == cp.line) = true) (h4 : okE C e sc sc a = true) :
    PS X (.Expr (.Call (.Attribute (.Name x px) "append" ap) [a] [] cp) p) (tApp i (tE D e)) := by
  have st := st_one hs [] X.env
  refine PS.weak (ps_expr (pe_bm PySem.F.plainAttrs_list PySem.F.slot_list_append PySem.F.type_list_append mt_append (pe_vr k.c h1 h2) (pa_cons (okE_ok k.c h4).pe pa_nil st) rfl (by rw [st]; rfl) hl st rfl) (swap_no rfl)) fun En σ H q => ?_
  obtain ⟨b, vs0, e1, e2, q⟩ := q
  exact ⟨_, e1, .inl ⟨rfl, vs0, .of e2⟩, q.mono fun y H1 ⟨vs, g1, g2, g3⟩ => ⟨b, vs, y, rfl, rfl, g1, g2, g3⟩⟩
theorem pop_mono {K : PySem.W.Frag} {j : Nat} {e : E} {σ : L2.St} {H : Hp} {Q Q' : VK} (h : tPopAt K j (tE D e) σ H Q) (m : ∀ v H', Q v H' → Q' v H') : tPopAt K j (tE D e) σ H Q' := by
  obtain ⟨v, e1, ty, q⟩ := h
  exact ⟨v, e1, ty, q.mono fun w H2 ⟨l, xs, n, k, y, a1, a2, a3, a4, a5, a6, a7, a8⟩ => ⟨l, xs, n, k, y, a1, a2, a3, a4, a5, a6, a7, m _ _ a8⟩⟩
/-- x.append(y.pop(k)) -/
theorem st_popApp (k : Sok X D C sc) {i j : Nat} {x y : Str} {e : E} {a : Expr} {p px ap cp py ap2 cp2 : Pos} (h1 : nmAt C.N i x = true) (h2 : vis sc x = true) (g2 : nmAt C.N j y = true) (g3 : vis sc y = true) (hs : isStar a = false) (hl2 : (ap2.endLine == cp2.line) = true) (hl : (ap.endLine == cp.line) = true) (h4 : okE C e sc sc a = true) :
    PS X (.Expr (.Call (.Attribute (.Name x px) "append" ap) [.Call (.Attribute (.Name y py) "pop" ap2) [a] [] cp2] [] cp) p) (tApp i (tPopAt D.K j (tE D e))) := by
  have st := st_one hs [] X.env
  have pop : PE X (.Call (.Attribute (.Name y py) "pop" ap2) [a] [] cp2) (tPopAt X.K j (tE D e)) := pe_bm PySem.F.plainAttrs_list PySem.F.slot_list_pop PySem.F.type_list_pop mt_popAt (pe_vr k.c g2 g3) (pa_cons (okE_ok k.c h4).pe pa_nil st) rfl (by rw [st]; rfl) hl2 st rfl
  have st2 := st_one (e := .Call (.Attribute (.Name y py) "pop" ap2) [a] [] cp2) rfl [] X.env
  rw [← k.c.hK]
  refine PS.weak (ps_expr (pe_bm PySem.F.plainAttrs_list PySem.F.slot_list_append PySem.F.type_list_append mt_append (pe_vr k.c h1 h2) (pa_cons pop pa_nil st2) rfl (by rw [st2]; rfl) hl st2 rfl) (swap_no rfl)) fun En σ H q => ?_
  obtain ⟨b, vs0, e1, e2, q⟩ := q
  exact ⟨_, e1, .inl ⟨rfl, vs0, .of e2⟩, pop_mono q fun w H1 ⟨vs, g1, g2, g3⟩ => ⟨b, vs, w, rfl, rfl, g1, g2, g3⟩⟩
/-- x[k].append(y) -/
theorem st_appAt (k : Sok X D C sc) {i j l : Nat} {x y z : Str} {p px py pz pp ap cp : Pos} (h1 : nmAt C.N i x = true) (h2 : vis sc x = true) (h3 : nmAt C.N j y = true) (h4 : vis sc y = true) (h5 : nmAt C.N l z = true) (h6 : vis sc z = true) (hl : (ap.endLine == cp.line) = true) :
    PS X (.Expr (.Call (.Attribute (.Subscript (.Name x px) (.Name y py) pp) "append" ap) [.Name z pz] [] cp) p) (tS D np (.appAt i j l)) := by
  have st := st_one (e := .Name z pz) rfl [] X.env
  refine PS.weak (ps_expr (pe_bm PySem.F.plainAttrs_list PySem.F.slot_list_append PySem.F.type_list_append mt_append (pe_ix ix_list (pe_vr k.c h1 h2) (pe_vr k.c h3 h4) (plainIx_of rfl)) (pa_cons (pe_vr k.c h5 h6) pa_nil st) rfl (by rw [st]; rfl) hl st rfl) (swap_no rfl)) fun En σ H q => ?_
  obtain ⟨a, n, v, bs, j0, b, vs, e1, e2, e3, e4, e5, e6, e7, e8, e9⟩ := s_appAt q
  refine ⟨_, e1, _, e2, a, bs.map .ref, n, .ref b, rfl, rfl, .of e4, ?_, .inl ⟨rfl, vs, .of e7⟩, v, e3, b, vs, v, rfl, rfl, e7, e8, e9⟩
  unfold L2.atI
  rw [List.length_map, e5]
  show (bs.map V.ref)[j0]? = _
  rw [List.getElem?_map, e6]
  rfl
/-- x[k] = v -/
theorem st_setI (k : Sok X D C sc) {i : Nat} {x : Str} {e ek : E} {kx v : Expr} {p px pp : Pos} (h1 : nmAt C.N i x = true) (h2 : vis sc x = true) (h3 : notComp v = true) (h5 : isTupX v = false) (h6 : plainIx kx = true) (h4 : okE C e sc sc v = true) (h7 : okE C ek sc sc kx = true) :
    PS X (.Assign [.Subscript (.Name x px) kx pp] v p) (tS D np (.setI i ek e)) := by
  refine PS.weak (ps_asg (okE_ok k.c h4).pe (pg_sub (pe_vr k.c h1 h2) (okE_ok k.c h7).pe set_list (by intro w; cases kx <;> first | rfl | (simp [plainIx] at h6))) (by unfold PySem.swapsWithSole; exact swap_no h3) (stores_no h5) (by rfl)) fun En σ H q => ?_
  refine (s_setI q).mono fun w H1 ⟨a, e1, g⟩ => ⟨_, e1, g.mono fun kv H2 ⟨xs, n, j, g1, g2, g3, g4⟩ => ⟨a, xs, n, j, rfl, g1, g2, g3, g4⟩⟩
end
end Ev
end
section
set_option Elab.async false
set_option linter.all false
set_option maxRecDepth 100000
set_option maxHeartbeats 1000000
namespace Ev
open PySem PySem.Spec L2 StX
def okHe (C : Ck) (sc : Scope) : E → Expr → Bool
  | .var i, e => (match e with
    | .Name x _ => nmAt C.N i x && vis sc x
    | _ => false)
  | .cst t, e => (match e with
    | .Constant c _ _ => okC t c
    | _ => false)
  | .op o es, e => (match o, es, e with
    | .attr k, [.var i], .Attribute (.Name x _) f _ => nmAt C.N i x && vis sc x && decide (f = fldN k)
    | .isi [y], [.var i], .Call (.Name f _) [.Name x _, .Name n p] [] _ => decide (f = Str.ofString "isinstance") && gl sc f && decide (f ∈ C.bi) && nmAt C.N i x && vis sc x && tyOk C sc [y] [.Name n p]
    | _, _, _ => false)
  | _, _ => false
def okHes (C : Ck) (sc : Scope) : List E → List Expr → Bool
  | [], as => as.isEmpty
  | e :: es, as => (match as with
    | a :: as => plainE e && !isStar a && okHe C sc e a && okHes C sc es as
    | [] => false)
def okHl (C : Ck) (sc : Scope) (e : E) (a : Expr) : Bool := okHe C sc e a || (match e, a with
  | .op .lst es, .List as _ => okHes C sc es as
  | _, _ => false)
def okHst (C : Ck) (sc : Scope) : S → Stmt → Bool
  | .asg _ i e, s => (match s with
    | .Assign ts v _ => (match ts with
      | [.Name x _] => nmAt C.N i x && decide (sc.names.lookup x = some .local) && notComp v && okHl C sc e v
      | _ => false)
    | _ => false)
  | .ret e, s => (match s with
    | .Return (some v) _ => okHe C sc e v
    | _ => false)
  | _, _ => false
def okHss (C : Ck) (sc : Scope) : List S → List Stmt → Bool
  | [], bs => bs.isEmpty
  | s :: ss, bs => (match bs with
    | b :: bs => okHst C sc s b && okHss C sc ss bs
    | [] => false)
/-- what a suite's context keeps -/
structure Hk (X : Cx) (D : Wd) (C : Ck) (sc : Scope) : Prop where
  hN : X.N = C.N
  nd : C.N.Nodup
  hK : X.K = D.K
  hsc : X.env.scope = sc
  bi : ∀ x ∈ C.bi, X.mg x = none
section
variable {X : Cx} {D : Wd} {C : Ck} {sc : Scope} {np : Nat}
theorem hk_gl (c : Hk X D C sc) {x : Str} (h : gl sc x = true) : Gl X x := by
  show X.env.scope.names.lookup x = _
  rw [c.hsc]
  exact of_decide_eq_true h
theorem hk_vr (c : Hk X D C sc) {i : Nat} {x : Str} {pos : Pos} (h1 : nmAt C.N i x = true) (h2 : vis sc x = true) : PE X (.Name x pos) (tE D (.var i)) := by
  have hn := okNm_of (nm_ok h1)
  refine PE.weak (pe_var ?_ ?_ hn.1 hn.2.1) fun σ H Q q => var_in q
  · rw [c.hN]
    unfold nmAt at h1
    rw [Bool.and_eq_true] at h1
    exact of_decide_eq_true h1.1
  · rw [c.hsc]; exact vis_of h2
theorem hk_ty (c : Hk X D C sc) {y : Ty} {n : Str} {p : Pos} (h : tyOk C sc [y] [.Name n p] = true) : n = Str.ofString y.nm ∧ bootBuiltins n = some (.type y.nm) ∧ Gl X n ∧ X.mg n = none ∧ n ≠ "__name__" ∧ (n == ("__debug__" : Str)) = false ∧ y.ok = true := by
  simp only [tyOk, Bool.and_eq_true, decide_eq_true_eq] at h
  obtain ⟨⟨⟨⟨⟨h1, h2⟩, h3⟩, h4⟩, h5⟩, _⟩ := h
  have hb : bootBuiltins n = some (.type y.nm) := by
    subst h2
    cases y <;> first | (simp [Ty.ok] at h1; done) | rfl
  exact ⟨h2, hb, hk_gl c h3, c.bi n h4, (okNm_of h5).2.2, (okNm_of h5).1, h1⟩
theorem okHe_ok (c : Hk X D C sc) {e : E} {a : Expr} (h : okHe C sc e a = true) : PE X a (tE D e) := by
  cases e <;> simp only [okHe] at h <;> first | (cases h; done) | skip
  · cases a <;> first | (cases h; done) | skip
    simp only [Bool.and_eq_true] at h
    exact hk_vr c h.1 h.2
  · cases a <;> first | (cases h; done) | skip
    exact pe_cst h
  · split at h
    · simp only [Bool.and_eq_true, decide_eq_true_eq] at h
      obtain ⟨⟨h1, h2⟩, rfl⟩ := h
      exact pe_attrE c.hK (by rfl) ⟨fun _ => hk_vr c h1 h2, trivial⟩
    · simp only [Bool.and_eq_true, decide_eq_true_eq] at h
      obtain ⟨⟨⟨⟨⟨rfl, h2⟩, h3⟩, h4⟩, h5⟩, h6⟩ := h
      obtain ⟨k1, k2, k3, k4, k5, k6, k7⟩ := hk_ty c h6
      exact pe_isi1 c.hK (hk_gl c h2) (c.bi _ h3) (fun x q => by cases q) k7 k1 k2 k3 k4 k5 k6 (by rfl) (hk_vr c h4 h5)
    · cases h
theorem okHes_ok (c : Hk X D C sc) : ∀ {es : List E} {as : List Expr}, okHes C sc es as = true → PA X as (tAs D es) ∧ noBrw es = true
  | [], as, h => by
    unfold okHes at h
    cases as with
    | cons _ _ => cases h
    | nil => exact ⟨⟨fun pos pins s σ H Q I q => pa_nil.run pos pins s σ H Q I (tAs_nil q)⟩, rfl⟩
  | e :: es, as, h => by
    unfold okHes at h
    cases as with
    | nil => cases h
    | cons a as =>
      simp only [Bool.and_eq_true, Bool.not_eq_true'] at h
      obtain ⟨⟨⟨h1, h2⟩, h3⟩, h4⟩ := h
      obtain ⟨pa, hb⟩ := okHes_ok c h4
      refine ⟨⟨fun pos pins s σ H Q I q => (pa_cons (okHe_ok c h3) pa (st_one h2 _ _)).run pos pins s σ H Q I (tAs_cons h1 q)⟩, ?_⟩
      cases e <;> first | (simp [plainE] at h1; done) | exact hb
theorem okHl_ok (c : Hk X D C sc) {e : E} {a : Expr} (h : okHl C sc e a = true) : PE X a (tE D e) := by
  unfold okHl at h
  rw [Bool.or_eq_true] at h
  rcases h with h | h
  · exact okHe_ok c h
  · split at h
    · obtain ⟨pa, hb⟩ := okHes_ok c h
      exact pe_lstE hb pa
    · cases h
theorem okHst_ok (c : Hk X D C sc) {t : S} {s : Stmt} (h : okHst C sc t s = true) : PS X s (tS D np t) := by
  cases t <;> simp only [okHst] at h <;> first | (cases h; done) | skip
  · cases s <;> first | (cases h; done) | skip
    dsimp only at h
    split at h
    · simp only [Bool.and_eq_true, decide_eq_true_eq] at h
      obtain ⟨⟨⟨h1, h2⟩, h3⟩, h4⟩ := h
      rename_i o i e ts v pos x px
      have hx : X.N[i]? = some x := by
        rw [c.hN]
        unfold nmAt at h1
        rw [Bool.and_eq_true] at h1
        exact of_decide_eq_true h1.1
      exact PS.weak (ps_set (i := i) (by rw [c.hN]; exact c.nd) hx (by unfold L2.Loc; rw [c.hsc]; exact .inl h2) (okHl_ok c h4) (swap_no h3) (.inr (by rw [c.hsc]; exact h2))) fun En σ H q => s_asg q
    · cases h
  · cases s <;> first | (cases h; done) | skip
    rename_i e v pos
    cases v <;> first | (cases h; done) | skip
    exact PS.weak (ps_ret (okHe_ok c h)) fun En σ H q => s_ret q
theorem okHss_ok (c : Hk X D C sc) : ∀ {ts : List S} {ss : List Stmt}, okHss C sc ts ss = true → PSs X ss (tSs D np ts)
  | [], ss, h => by
    unfold okHss at h
    cases ss with
    | nil => exact PSs.weak pss_nil fun En σ H q => s_nil q
    | cons _ _ => cases h
  | t :: ts, ss, h => by
    unfold okHss at h
    cases ss with
    | nil => cases h
    | cons s ss =>
      rw [Bool.and_eq_true] at h
      exact PSs.weak (pss_cons (okHst_ok c h.1) (okHss_ok c h.2)) fun En σ H q => s_seq q
end
end Ev
end
section
set_option Elab.async false
set_option linter.all false
set_option maxRecDepth 100000
set_option maxHeartbeats 1000000
namespace Ev
open PySem PySem.Spec L2 StX
section
variable {D : Wd} {np : Nat} {Z : Zn} {F F' F2 : Nat → List Addr} {σ σ' σ2 : L2.St} {ρ ρ' ρ2 : Env} {H H' H2 : Hp} {v : V} {r : R} {fp : List Addr} {En : Ends} {K : PySem.W.Frag}
/-- behind the stores of a row: what stood free at fl may be a slot's -/
structure RowPo (K : PySem.W.Frag) (Z : Zn) (fl : List Addr) (F : Nat → List Addr) (σ : L2.St) (ρ : Env) (H : Hp) (F' : Nat → List Addr) (σ' : L2.St) (ρ' : Env) : Prop where
  si : SI K Z F' σ' ρ' H
  sub : ∀ i a, a ∈ F' i → a ∈ F i ∨ a ∈ fl
  bx : BX F ρ F' ρ'
  len : σ'.length = σ.length
  bs : ∀ (i : Nat) (ts : List T), ρ[i]? = some (some (R.box ts)) → σ'[i]? = σ[i]?
theorem argVs_all : ∀ {as : List Arg} {rs : List R}, argVs as = some rs → as = rs.map .val
  | [], _, h => by
    simp [argVs] at h
    subst h
    rfl
  | .val x :: as, rs, h => by
    simp only [argVs] at h
    split at h
    · cases h
    · cases e : argVs as with
      | none => rw [e] at h; simp at h
      | some l =>
        rw [e] at h
        simp only [Option.map_some, Option.some.injEq] at h
        subst h
        rw [argVs_all e]
        rfl
  | .star _ :: _, _, h => by simp [argVs] at h
  | .slot _ :: _, _, h => by simp [argVs] at h
theorem AsAt.lenV : ∀ {rs : List R} {vs : List V} {fps : List (List Addr)}, AsAt K Z σ H vs (rs.map .val) fps → vs.length = rs.length
  | [], vs, fps, h => by
    obtain ⟨rfl, _⟩ := h
    rfl
  | r :: rs, vs, fps, h => by
    obtain ⟨v, ws, fp, gs, rfl, rfl, _, q⟩ := h
    simp [q.lenV]
theorem AsAt.znV {Z' : Zn} : ∀ {rs : List R} {vs : List V} {fps : List (List Addr)}, (∀ b, H b ≠ none → Z' b → Z b) → AsAt K Z σ H vs (rs.map .val) fps → AsAt K Z' σ' H vs (rs.map .val) fps
  | [], vs, fps, _, h => h
  | r :: rs, vs, fps, z, h => by
    obtain ⟨v, ws, fp, gs, rfl, rfl, q1, q⟩ := h
    exact ⟨v, ws, fp, gs, rfl, rfl, q1.zn z, AsAt.znV z q⟩
theorem AsAt.keepV : ∀ {rs : List R} {vs : List V} {fps : List (List Addr)}, Fresh H H' → AsAt K Z σ H vs (rs.map .val) fps → AsAt K Z σ H' vs (rs.map .val) fps
  | [], vs, fps, _, h => h
  | r :: rs, vs, fps, f, h => by
    obtain ⟨v, ws, fp, gs, rfl, rfl, q1, q⟩ := h
    exact ⟨v, ws, fp, gs, rfl, rfl, q1.keep f.out fun b _ u e => f b u e, AsAt.keepV f q⟩
theorem putT_len : ∀ {ps : List Pat} {rs : List R} {ρ ρ' : Env}, putT ps rs ρ = some ρ' → rs.length = ps.length
  | [], [], _, _, _ => rfl
  | [], _ :: _, _, _, h => by simp [putT] at h
  | p :: _, [], _, _, h => by cases p <;> simp [putT] at h
  | p :: ps, r :: rs, ρ, ρ', h => by
    cases p <;> simp only [putT, Option.bind_eq_some_iff] at h <;> obtain ⟨ρ1, _, h⟩ := h <;> simp [putT_len h]
/-- a row of values goes to a row of targets -/
theorem putT_g {ow : List Nat} : ∀ {ps : List Pat} {rs : List R} {vs : List V} {fps : List (List Addr)} {F : Nat → List Addr} {σ : L2.St} {ρ ρ' : Env} {Q : L2.St → Hp → Prop}, patsIn ow ps = true →
    SI K (fun a => Z a ∨ a ∈ fps.flatten) F σ ρ H → AsAt K (Zs (fun a => Z a ∨ a ∈ fps.flatten) F) σ H vs (rs.map .val) fps → fps.flatten.Nodup → (∀ a ∈ fps.flatten, ¬ Z a) → putT ps rs ρ = some ρ' →
    (∀ F' σ', RowPo K Z fps.flatten F σ ρ H F' σ' ρ' → Q σ' H) → gPs K ps vs σ H Q
  | [], rs, vs, fps, F, σ, ρ, ρ', Q, hp, S, a, nd, zf, h, k => by
    cases rs with
    | cons r rs => simp [putT] at h
    | nil =>
      simp only [putT, Option.some.injEq] at h
      subst h
      obtain ⟨rfl, rfl⟩ := a
      unfold gPs gNil
      exact ⟨rfl, k F σ ⟨S.zn fun b q => .inl q, fun _ _ h => .inl h, .refl, rfl, fun _ _ _ => rfl⟩⟩
  | p :: ps, [], vs, fps, F, σ, ρ, ρ', Q, hp, S, a, nd, zf, h, k => by cases p <;> simp [putT] at h
  | p :: ps, r :: rs, vs, fps, F, σ, ρ, ρ', Q, hp, S, a, nd, zf, h, k => by
    obtain ⟨v, ws, fp, gs, rfl, rfl, q1, q2⟩ := a
    simp only [patsIn, Bool.and_eq_true] at hp
    simp only [List.flatten_cons] at S q1 q2 nd zf k
    obtain ⟨n1, n2, n3⟩ := List.nodup_append.mp nd
    have S1 : SI K (fun x => (Z x ∨ x ∈ gs.flatten) ∨ x ∈ fp) F σ ρ H := S.zn fun b q => by
      rcases q with (q | q) | q
      · exact .inl q
      · exact .inr (List.mem_append_right _ q)
      · exact .inr (List.mem_append_left _ q)
    have hr : Rr K (Zs (fun x => (Z x ∨ x ∈ gs.flatten) ∨ x ∈ fp) F) H v r fp := q1.zn fun b _ q => by
      rcases q with ((q | q) | q) | q
      · exact .inl (.inl q)
      · exact .inl (.inr (List.mem_append_right _ q))
      · exact .inl (.inr (List.mem_append_left _ q))
      · exact .inr q
    have zf1 : ∀ b ∈ fp, ¬ (Z b ∨ b ∈ gs.flatten) := fun b hb q => q.elim (zf b (List.mem_append_left _ hb)) fun q => n3 b hb b q rfl
    -- the rest, behind one store
    have rest : ∀ {F1 σ1 ρ1}, putT ps rs ρ1 = some ρ' → SI K (fun a => Z a ∨ a ∈ gs.flatten) F1 σ1 ρ1 H → (∀ i a, a ∈ F1 i → a ∈ F i ∨ a ∈ fp) → BX F ρ F1 ρ1 → σ1.length = σ.length → (∀ (i : Nat) (ts : List T), ρ[i]? = some (some (R.box ts)) → σ1[i]? = σ[i]?) → gPs K ps ws σ1 H Q := fun {F1 σ1 ρ1} h1 s1 sub bx ln bs => by
      refine putT_g hp.2 s1 (AsAt.znV (fun b _ q => ?_) q2) n2 (fun b hb => zf b (List.mem_append_right _ hb)) h1 fun F2 σ2 c => k F2 σ2 ⟨c.si, fun i x hx => ?_, bx.trans c.bx, c.len.trans ln, fun i ts e => ?_⟩
      · rcases q with (q | q) | ⟨n, q⟩
        · exact .inl (.inl q)
        · exact .inl (.inr (List.mem_append_right _ q))
        · rcases sub n b q with q | q
          · exact .inr ⟨n, q⟩
          · exact .inl (.inr (List.mem_append_left _ q))
      · rcases c.sub i x hx with q | q
        · rcases sub i x q with q | q
          · exact .inl q
          · exact .inr (List.mem_append_left _ q)
        · exact .inr (List.mem_append_right _ q)
      · obtain ⟨_, ts', e'⟩ := bx.bx i ts e
        rw [c.bs i ts' e', bs i ts e]
    have one : ∀ i, (p = .v i ∨ p = .o i) → ∀ ρ1, put1 ρ i (kept p r) = some ρ1 → putT ps rs ρ1 = some ρ' → gPs K ps ws (σ.set i (some v)) H Q := fun i hi ρ1 e1 e2 => by
      obtain ⟨fpA, a1, a2, a3, a4, a5⟩ := store1 hi S1 hr n1 zf1 e1
      refine rest e2 a2 (fun j x hx => ?_) a3 (by simp) fun j ts e => ?_
      · by_cases hn : j = i
        · subst hn
          rw [fset_self] at hx
          exact .inr (a1 x hx)
        · rw [fset_ne hn] at hx
          exact .inl hx
      · have hj : j ≠ i := fun q => by subst q; exact a4 ts e
        rw [List.getElem?_set_ne (Ne.symm hj)]
    unfold gPs gCons
    refine ⟨v, ws, rfl, ?_⟩
    cases p with
    | v i =>
      simp only [putT, Option.bind_eq_some_iff] at h
      obtain ⟨ρ1, e1, e2⟩ := h
      unfold gP gName
      exact one i (.inl rfl) ρ1 e1 e2
    | o i =>
      simp only [putT, Option.bind_eq_some_iff] at h
      obtain ⟨ρ1, e1, e2⟩ := h
      unfold gP gName
      exact one i (.inr rfl) ρ1 e1 e2
    | t qs =>
      simp only [putT, Option.bind_eq_some_iff] at h
      obtain ⟨ρ1, e1, e2⟩ := h
      have sh : Rp K (Zs (fun a => Z a ∨ a ∈ gs.flatten) F) H v r.t := by
        exact (hr.zn (Z' := Zs (fun a => Z a ∨ a ∈ gs.flatten) F) fun b _ q => q.imp .inl id).share fun b hb q => by
          rcases q with q | ⟨n, q⟩
          · exact zf1 b hb q
          · exact S1.zf n b q (.inr hb)
      have rp := sh
      have S2 : SI K (fun a => Z a ∨ a ∈ gs.flatten) F σ ρ H := S1.zn fun b q => .inl q
      exact putP_g (own := fun _ => True) ow (fun _ _ => trivial) hp.1 S2 rp e1 fun F1 σ1 c => rest e2 c.si (fun i x hx => .inl (c.sub i x hx)) c.bx c.len c.bs
theorem RowPo.st {fl : List Addr} (a : SPo K Z F σ ρ H F' ρ' H') (b : RowPo K Z fl F' σ ρ' H2 F2 σ2 ρ2) (f : Fresh H' H2) (nw : ∀ x ∈ fl, H x = none) : StP K Z F σ ρ H F2 σ2 ρ2 H2 :=
  ⟨b.si, fun i x h => (b.sub i x h).elim (fun q => .inl (a.sub i x q)) fun q => .inr (nw x q), fun c o e n => f c o (a.fr c o e n), fun c e => by
    have := a.mo c e
    cases q : H' c with
    | none => exact absurd q this
    | some o => rw [f c o q]; simp, a.bx'.trans b.bx, fun i ts e => let ⟨_, ts', e2⟩ := a.bx i ts e; b.bs i ts' e2, b.len⟩
theorem s_row {ps : List Pat} {es : List E} {ow : List Nat} (hp : patsIn ow ps = true) (h : tS D np (.asgT ps es) En σ H) : tAs D es σ H fun vs H1 => vs.length = ps.length ∧ vs.length ≤ line ∧ ∀ H2, Fresh H1 H2 → gPs D.K ps vs σ H2 En.nx := by
  obtain ⟨Z, F, ρ, S, h⟩ := h
  rw [ex] at h
  refine ⟨Z, F, ρ, S, fls_in h fun as ρ1 e0 g F1 H1 vs fps a => ?_⟩
  clear h
  cases e1 : argVs as with
  | none => rw [e1] at g; exact g.elim
  | some rs =>
    rw [e1] at g
    dsimp only at g
    split at g
    · rename_i hl
      cases e5 : putT ps rs ρ1 with
      | none => rw [e5] at g; exact g.elim
      | some ρ3 =>
        rw [e5] at g
        have ea := argVs_all e1
        subst ea
        have ln := a.as_.lenV
        refine ⟨by rw [ln, putT_len e5], by rw [ln]; exact hl, fun H2 f => ?_⟩
        exact putT_g hp (a.si.keep f) (AsAt.keepV f a.as_) a.nd (fun b hb q => a.z0 b q (a.nw b hb)) e5 fun F2 σ2 c => g _ _ _ (c.st a.spo f a.nw)
    · exact g.elim
/-- the tuple stands for a moment -/
theorem s_rowT {ps : List Pat} {es : List E} {ow : List Nat} (hp : patsIn ow ps = true) (h : tS D np (.asgT ps es) En σ H) : tAsg (tTup (tAs D es)) (gTL D.K ps) En σ H := by
  refine tA_mono (s_row hp h) fun vs H1 ⟨h1, h2, h3⟩ => ⟨h2, fun q e => ?_⟩
  have f : Fresh H1 (upd H1 q (.tup vs)) := fun b o eb => by
    have : b ≠ q := fun x => by rw [x, e] at eb; cases eb
    unfold upd
    simp [this, eb]
  exact .inl ⟨q, vs, rfl, .of (by unfold upd; simp), h1, h3 _ f⟩
theorem s_par3 {i j l : Nat} {p q u : Pat} {es : List E} {ow : List Nat} (h1 : p = .v i ∨ p = .o i) (h2 : q = .v j ∨ q = .o j) (h3 : u = .v l ∨ u = .o l) (hp : patsIn ow [p, q, u] = true) (h : tS D np (.asgT [p, q, u] es) En σ H) :
    tAs D es σ H fun vs H1 => ∃ v w x, vs = [v, w, x] ∧ En.nx (((σ.set i (some v)).set j (some w)).set l (some x)) H1 := by
  refine tA_mono (s_row hp h) fun vs H1 ⟨_, _, k⟩ => ?_
  have := k H1 fun b o e => e
  rcases h1 with rfl | rfl <;> rcases h2 with rfl | rfl <;> rcases h3 with rfl | rfl <;> simp only [gPs, gCons, gP, gName, gNil] at this <;> obtain ⟨v, r1, rfl, w, r2, rfl, x, r3, rfl, rfl, g⟩ := this <;> exact ⟨v, w, x, rfl, g⟩
end
end Ev
end
section
set_option Elab.async false
set_option linter.all false
set_option maxRecDepth 100000
set_option maxHeartbeats 2000000
namespace StX
open PySem PySem.Spec PyProof.Rows L2
variable {X : Cx} {pos : Pos}
/-- a, b, c = x, y, z with plain local names -/
def tPar3 (i j l : Nat) (ta : TA) : TS := fun D σ H => ta σ H fun vs H1 => ∃ v w x, vs = [v, w, x] ∧ D.nx (((σ.set i (some v)).set j (some w)).set l (some x)) H1
theorem ps_par3 {i j l : Nat} {x y z : Str} {a b c : Expr} {ta : TA} {px py pz pt : Pos} {kt k2 pt2} (hc : X.calm = true) (hN : X.N.Nodup) (hi : X.N[i]? = some x) (hj : X.N[j]? = some y) (hl : X.N[l]? = some z) (hij : i ≠ j) (hil : i ≠ l) (hjl : j ≠ l)
    (hx : X.env.scope.names.lookup x = some .local) (hy : X.env.scope.names.lookup y = some .local) (hz : X.env.scope.names.lookup z = some .local) (ha : PA X [a, b, c] ta)
    (hw : swappedStores [.Tuple [.Name x px, .Name y py, .Name z pz] kt pt] (.Tuple [a, b, c] k2 pt2) X.env = pure (some [x, y, z]))
    (hs : swapsWithSole [.Tuple [.Name x px, .Name y py, .Name z pz] kt pt] (.Tuple [a, b, c] k2 pt2) pos.line X.env = pure false := by rfl) :
    PS X (.Assign [.Tuple [.Name x px, .Name y py, .Name z pz] kt pt] (.Tuple [a, b, c] k2 pt2) pos) (tPar3 i j l ta) := by
  refine ⟨fun pins s σ H D I h => ?_⟩
  rw [exec_Assign_arm]
  refine wpAny_bind (wpAny_standAt ?_)
  rw [hs]
  refine wpAny_bind (wpAny_pure ?_)
  rw [if_neg (by decide)]
  refine wpAny_bind (Tuple_ (thn (ha.run _ pins s σ H _ I h) fun us s1 ⟨vs, H1, I1, r1, q1⟩ => ?_))
  obtain ⟨v, w, t, e1, q1⟩ := q1
  subst e1
  obtain ⟨u1, u2, u3, rfl, rv, rw', rt⟩ : ∃ u1 u2 u3, us = [u1, u2, u3] ∧ RelV v u1 ∧ RelV w u2 ∧ RelV t u3 := by
    cases r1 with
    | cons p q =>
      cases q with
      | cons p' q' =>
        cases q' with
        | cons p2 q2 =>
          cases q2
          exact ⟨_, _, _, rfl, p, p', p2⟩
  refine wpAny_newObj_type ?_ (by show 3 ≤ sizeLine; decide)
  have I2 : Inv X pins σ H1 { s1 with heap := s1.heap.push { cls := .type "tuple", data := .seq [u1, u2, u3].toArray } } := I1.kept (t' := s1.toks) fun b o e => Heap.get?_push_of_some _ e
  rw [hw]
  refine wpAny_bind (wpAny_pure ?_)
  show wpAny (model X.prog X.w) X.A (do rule "assign.swapped-stores"; let items ← unpackItems (.ref s1.heap.objs.size) 3 none; assignInOrder [fun v => bindName X.env z v, fun v => bindName X.env y v, fun v => bindName X.env x v] items.reverse; pure Flow.next) _ _ _
  refine wpAny_bind (wpAny_rule (wpAny_bind (unpackItems_tuple (items := #[u1, u2, u3]) (I.ok.hd hc) (IsTup.new s1.heap _) fun h' hx' => ?_)))
  have I3 := I2.kept (h' := h') (t' := s1.toks) fun b o e => hx' b o (Nat.ne_of_lt (Heap.lt_size e)) e
  show wpAny _ _ (assignInOrder [fun v => bindName X.env z v, fun v => bindName X.env y v, fun v => bindName X.env x v] [u3, u2, u1] >>= fun _ => pure Flow.next) _ _ _
  refine wpAny_bind (assignInOrder_cons (wpAny_bindName (store_ok I3 hN hl (.inl hz) rt (fun s2 I4 => ?_) (.inr hz))))
  refine assignInOrder_cons (wpAny_bindName (store_ok I4 hN hj (.inl hy) rw' (fun s3 I5 => ?_) (.inr hy)))
  refine assignInOrder_cons (wpAny_bindName (store_ok I5 hN hi (.inl hx) rv (fun s4 I6 => assignInOrder_nil (wpAny_pure ?_)) (.inr hx)))
  rw [List.set_comm (some t) (some w) (Ne.symm hjl), List.set_comm (some t) (some v) (Ne.symm hil), List.set_comm (some w) (some v) (Ne.symm hij)] at I6
  exact ⟨_, H1, I6, q1⟩
end StX
namespace Ev
open PySem PySem.Spec L2 StX
def lNm (sc : Scope) : Expr → Bool
  | .Name x _ => decide (sc.names.lookup x = some .local)
  | _ => false
/-- a tuple is made for such a row -/
def rowOk (sc : Scope) (ts vs : List Expr) : Bool := !(ts.length == 2 || ts.length == 3) || vs.length != ts.length || vs.all (PySem.foldedForSure 8) || ts.any (fun t => !lNm sc t)
theorem stores_row {sc : Scope} {ts vs : List Expr} {kt k2 : Nat} {pt p2 : Pos} {env : PySem.Env} (hs : env.scope = sc) (h : rowOk sc ts vs = true) : PySem.swappedStores [.Tuple ts kt pt] (.Tuple vs k2 p2) env = pure none := by
  unfold rowOk at h
  simp only [Bool.or_eq_true] at h
  unfold PySem.swappedStores
  dsimp only
  rcases h with ((h | h) | h) | h
  · rw [show (!(ts.length == 2 || ts.length == 3)) = true from h]
    simp
  · rw [show (vs.length != ts.length) = true from h]
    simp
  · simp only [h, if_true]
    repeat' split
    all_goals rfl
  · have key : ∀ l, ((ts.filterMap fun | .Name id pos => if env.kindOf id == some .local && pos.line == l then some id else none | _ => none).length != ts.length) = true := fun l => by
      rw [bne_iff_ne]
      intro q
      obtain ⟨t, ht, n⟩ := List.any_eq_true.mp h
      have := (List.filterMap_length_eq_length.mp q) t ht
      revert this
      cases t <;> simp
      rename_i x px
      intro e
      simp only [lNm, Bool.not_eq_true', decide_eq_false_iff_not] at n
      unfold PySem.Env.kindOf at e
      rw [hs] at e
      exact (n e).elim
    repeat' split
    all_goals first | rfl | skip
    all_goals (rename_i hh _ _; exact absurd (Bool.or_eq_true _ _ ▸ Or.inl (key _)) hh)
end Ev
end
section
set_option Elab.async false
set_option linter.all false
set_option maxRecDepth 100000
set_option maxHeartbeats 2000000
namespace Ev
open PySem PySem.Spec L2 StX
theorem stores_fold {ts vs : List Expr} {kt k2 : Nat} {pt p2 : Pos} {env : PySem.Env} (h : vs.all (PySem.foldedForSure 8) = true) : PySem.swappedStores [.Tuple ts kt pt] (.Tuple vs k2 p2) env = pure none := by
  unfold PySem.swappedStores
  simp only [h, if_true]
  repeat' split
  all_goals rfl
def parOk (sc : Scope) (x y : Str) (px py : Pos) (a b : Expr) : Bool :=
  decide (sc.names.lookup x = some .local) && decide (sc.names.lookup y = some .local) && decide (x ≠ y) && decide (py.line = px.line) && !isStar a && !isStar b && !([a, b].all (PySem.foldedForSure 8)) && !([a, b].all (PySem.constantsAlone 8))
theorem stores_par {sc : Scope} {x y : Str} {px py pt p2 : Pos} {kt k2 : Nat} {a b : Expr} {env : PySem.Env} (hs : env.scope = sc) (hk : sc.kind = .function) (h : parOk sc x y px py a b = true) : PySem.swappedStores [.Tuple [.Name x px, .Name y py] kt pt] (.Tuple [a, b] k2 p2) env = pure (some [x, y]) := by
  unfold parOk at h
  simp only [Bool.and_eq_true, decide_eq_true_eq, Bool.not_eq_true'] at h
  obtain ⟨⟨⟨⟨⟨⟨⟨h1, h2⟩, h3⟩, h4⟩, h5⟩, h6⟩, h7⟩, h8⟩ := h
  have hb : env.blockKind = .function := by
    unfold PySem.Env.blockKind
    rw [hs, hk]
    rfl
  have kx : env.kindOf x = some .local := by unfold PySem.Env.kindOf; rw [hs]; exact h1
  have ky : env.kindOf y = some .local := by unfold PySem.Env.kindOf; rw [hs]; exact h2
  have hst : ([a, b].any fun | .Starred .. => true | _ => false) = false := by
    cases a <;> cases b <;> first | rfl | (simp [isStar] at h5; done) | (simp [isStar] at h6; done)
  have hne : (y == x) = false := by simpa using fun q => h3 q.symm
  unfold PySem.swappedStores
  simp [hb, kx, ky, hst, h7, h8, h4, Expr.pos, List.eraseDups_cons, hne]
  intro q
  exfalso
  rcases q with q | q
  · cases a <;> first | (simp [isStar] at h5; done) | cases q
  · cases b <;> first | (simp [isStar] at h6; done) | cases q
section
variable {X : Cx} {D : Wd} {C : Ck} {sc : Scope} {np : Nat} {En : Ends} {σ : L2.St} {H : Hp}
def tgtP : Pat → Option Nat
  | .v i => some i
  | .o i => some i
  | _ => none
theorem tgtP_ok {p : Pat} {i : Nat} (h : tgtP p = some i) : p = .v i ∨ p = .o i := by
  cases p <;> simp only [tgtP] at h <;> cases h
  · exact .inl rfl
  · exact .inr rfl
theorem st_par (k : Sok X D C sc) {i j : Nat} {tp tq : Pat} (hp : tgtP tp = some i) (hq : tgtP tq = some j) {x y : Str} {es : List E} {a b : Expr} {kt k2 : Nat} {p px py pt p2 : Pos} (h1 : nmAt C.N i x = true) (h2 : nmAt C.N j y = true) (hij : i ≠ j) (h3 : parOk sc x y px py a b = true) (h4 : okA C es sc sc [a, b] = true) :
    PS X (.Assign [.Tuple [.Name x px, .Name y py] kt pt] (.Tuple [a, b] k2 p2) p) (tS D np (.asgT [tp, tq] es)) := by
  have c := k.c
  have hl := h3
  unfold parOk at hl
  simp only [Bool.and_eq_true, decide_eq_true_eq] at hl
  exact PS.weak (ps_par c.calm (ndX k) (nm_of c h1) (nm_of c h2) hij (by rw [c.hsc]; exact hl.1.1.1.1.1.1.1) (by rw [c.hsc]; exact hl.1.1.1.1.1.1.2) (okA_ok c h4).1 (stores_par c.hsc k.kd h3) (by unfold PySem.swapsWithSole; exact swap_no rfl)) fun En σ H q => s_par2 (tgtP_ok hp) (tgtP_ok hq) q
def par3Ok (sc : Scope) (x y z : Str) (px py pz : Pos) (a b c : Expr) : Bool :=
  decide (sc.names.lookup x = some .local) && decide (sc.names.lookup y = some .local) && decide (sc.names.lookup z = some .local) && decide (x ≠ y) && decide (x ≠ z) && decide (y ≠ z) && decide (py.line = px.line) && decide (pz.line = px.line) && !isStar a && !isStar b && !isStar c && !([a, b, c].all (PySem.foldedForSure 8)) && !([a, b, c].all (PySem.constantsAlone 8))
theorem stores_par3 {sc : Scope} {x y z : Str} {px py pz pt p2 : Pos} {kt k2 : Nat} {a b c : Expr} {env : PySem.Env} (hs : env.scope = sc) (hk : sc.kind = .function) (h : par3Ok sc x y z px py pz a b c = true) : PySem.swappedStores [.Tuple [.Name x px, .Name y py, .Name z pz] kt pt] (.Tuple [a, b, c] k2 p2) env = pure (some [x, y, z]) := by
  unfold par3Ok at h
  simp only [Bool.and_eq_true, decide_eq_true_eq, Bool.not_eq_true'] at h
  obtain ⟨⟨⟨⟨⟨⟨⟨⟨⟨⟨⟨⟨h1, h2⟩, h2z⟩, h3⟩, h3a⟩, h3b⟩, h4⟩, h4z⟩, h5⟩, h6⟩, h6z⟩, h7⟩, h8⟩ := h
  have hb : env.blockKind = .function := by
    unfold PySem.Env.blockKind
    rw [hs, hk]
    rfl
  have kx : env.kindOf x = some .local := by unfold PySem.Env.kindOf; rw [hs]; exact h1
  have ky : env.kindOf y = some .local := by unfold PySem.Env.kindOf; rw [hs]; exact h2
  have kz : env.kindOf z = some .local := by unfold PySem.Env.kindOf; rw [hs]; exact h2z
  have e1 : (y == x) = false := by simpa using fun q => h3 q.symm
  have e2 : (z == x) = false := by simpa using fun q => h3a q.symm
  have e3 : (z == y) = false := by simpa using fun q => h3b q.symm
  unfold PySem.swappedStores
  simp [hb, kx, ky, kz, h7, h8, h4, h4z, Expr.pos, List.eraseDups_cons, e1, e2, e3]
  intro q
  exfalso
  rcases q with q | q | q
  · cases a <;> first | (simp [isStar] at h5; done) | cases q
  · cases b <;> first | (simp [isStar] at h6; done) | cases q
  · cases c <;> first | (simp [isStar] at h6z; done) | cases q
/-- the check of a row of targets -/
def par2B (C : Ck) (sc : Scope) : List Pat → List Expr → List Expr → Bool
  | [tp, tq], [.Name x px, .Name y py], [a, b] => (match tgtP tp, tgtP tq with
    | some i, some j => nmAt C.N i x && nmAt C.N j y && decide (i ≠ j) && parOk sc x y px py a b
    | _, _ => false)
  | _, _, _ => false
def par3B (C : Ck) (sc : Scope) : List Pat → List Expr → List Expr → Bool
  | [tp, tq, tr], [.Name x px, .Name y py, .Name z pz], [a, b, c] => (match tgtP tp, tgtP tq, tgtP tr with
    | some i, some j, some l => nmAt C.N i x && nmAt C.N j y && nmAt C.N l z && decide (i ≠ j) && decide (i ≠ l) && decide (j ≠ l) && par3Ok sc x y z px py pz a b c
    | _, _, _ => false)
  | _, _, _ => false
theorem st_row (k : Sok X D C sc) {ps : List Pat} {es : List E} {ts vs : List Expr} {kt k2 : Nat} {p pt p2 : Pos} (h1 : patsIn (List.range C.N.length) ps = true) (h4 : okA C es sc sc vs = true)
    (h : (par2B C sc ps ts vs || (par3B C sc ps ts vs || (rowOk sc ts vs && okPs C sc sc ps ts))) = true) :
    PS X (.Assign [.Tuple ts kt pt] (.Tuple vs k2 p2) p) (tS D np (.asgT ps es)) := by
  rw [Bool.or_eq_true, Bool.or_eq_true, Bool.and_eq_true] at h
  have c := k.c
  rcases h with h | h | ⟨h2, h3⟩
  · unfold par2B at h
    split at h
    · split at h
      · rename_i hp hq
        simp only [Bool.and_eq_true, decide_eq_true_eq] at h
        obtain ⟨⟨⟨g1, g2⟩, g3⟩, g4⟩ := h
        exact st_par k hp hq g1 g2 g3 g4 h4
      · cases h
    · cases h
  · unfold par3B at h
    split at h
    · split at h
      · rename_i hp hq hr
        simp only [Bool.and_eq_true, decide_eq_true_eq] at h
        obtain ⟨⟨⟨⟨⟨⟨g1, g2⟩, g3⟩, g4⟩, g5⟩, g6⟩, g7⟩ := h
        have hl := g7
        unfold par3Ok at hl
        simp only [Bool.and_eq_true, decide_eq_true_eq] at hl
        have l1 := hl.1.1.1.1.1.1.1.1.1.1.1.1
        have l2 := hl.1.1.1.1.1.1.1.1.1.1.1.2
        have l3 := hl.1.1.1.1.1.1.1.1.1.1.2
        exact PS.weak (StX.ps_par3 c.calm (ndX k) (nm_of c g1) (nm_of c g2) (nm_of c g3) g4 g5 g6 (by rw [c.hsc]; exact l1) (by rw [c.hsc]; exact l2) (by rw [c.hsc]; exact l3) (okA_ok c h4).1 (stores_par3 c.hsc k.kd g7) (by unfold PySem.swapsWithSole; exact swap_no rfl)) fun En σ H q => s_par3 (tgtP_ok hp) (tgtP_ok hq) (tgtP_ok hr) h1 q
      · cases h
    · cases h
  · obtain ⟨k1, k2, k3⟩ := okPs_ok c h3
    exact PS.weak (ps_asg (pe_tup (okA_ok c h4).1) (pg_TL c.calm c.hK k1 k2 k3) (by unfold PySem.swapsWithSole; exact swap_no rfl) (stores_row c.hsc h2) (by rfl)) fun En σ H q => s_rowT h1 q
/-- a, b = constants -/
theorem st_asgF (k : Sok X D C sc) {ps : List Pat} {e : E} {es vs : List Expr} {kt k2 : Nat} {p pt p2 : Pos} (h1 : okPs C sc sc ps es = true) (h2 : patsIn (List.range C.N.length) ps = true) (h5 : vs.all (PySem.foldedForSure 8) = true) (h4 : okE C e sc sc (.Tuple vs k2 p2) = true) :
    PS X (.Assign [.Tuple es kt pt] (.Tuple vs k2 p2) p) (tS D np (.asgP ps e)) := by
  obtain ⟨k1, k2, k3⟩ := okPs_ok k.c h1
  exact PS.weak (ps_asg (okE_ok k.c h4).pe (pg_TL k.c.calm k.c.hK k1 k2 k3) (by unfold PySem.swapsWithSole; exact swap_no rfl) (stores_fold h5) (by rfl)) fun En σ H q => s_asgP h2 q
/-- the head of a clause -/
def hdOk (C : Ck) (sc : Scope) (c : Nat) (i : Option Nat) (x : Str) (n : Option Str) : Bool := decide (x = xNm c) && gl sc x && decide (c ∈ C.xs) && (match i, n with
  | none, none => true
  | some j, some y => nmAt C.N j y && decide (sc.names.lookup y = some .local)
  | _, _ => false)
mutual
def okSt (C : Ck) (np : Nat) : S → Scope → Stmt → Bool
  | .asg _ i e, sc, s => (match s with
    | .Assign ts v _ => (match ts with
      | [.Name x px] => nmAt C.N i x && locN sc sc x && okE C e sc sc v && ((notComp v || decide (sc.names.lookup x = some .cell)) || lcSw x px sc v)
      | _ => false)
    | _ => false)
  | .asgP ps e, sc, s => (match s with
    | .Assign ts v _ => (match ts with
      | [.Tuple es _ _] => okPs C sc sc ps es && patsIn (List.range C.N.length) ps && okE C e sc sc v && (match v with
        | .Tuple vs _ _ => vs.all (PySem.foldedForSure 8)
        | _ => notComp v)
      | _ => false)
    | _ => false)
  | .asgT ps es, sc, s => (match s with
    | .Assign ts v _ => (match ts with
      | [.Tuple tl _ _] => (match v with
        | .Tuple vs _ _ => patsIn (List.range C.N.length) ps && okA C es sc sc vs && (par2B C sc ps tl vs || (par3B C sc ps tl vs || (rowOk sc tl vs && okPs C sc sc ps tl)))
        | _ => false)
      | _ => false)
    | _ => false)
  | .aug i o e, sc, s => (match s with
    | .AugAssign t op v _ => (match t with
      | .Name x _ => nmAt C.N i x && locN sc sc x && okE C e sc sc v && (match o, op with
        | .add, .Add => true
        | .sub, .Sub => true
        | _, _ => false)
      | _ => false)
    | _ => false)
  | .app i e, sc, s => (match s with
    | .Expr v _ => (match v with
      | .Call (.Attribute (.Name x _) m ap) [a] [] cp => decide (m = Str.ofString "append") && nmAt C.N i x && vis sc x && !isStar a && (ap.endLine == cp.line) && okE C e sc sc a
      | _ => false)
    | _ => false)
  | .popApp i j e, sc, s => (match s with
    | .Expr v _ => (match v with
      | .Call (.Attribute (.Name x _) m ap) [.Call (.Attribute (.Name y _) m2 ap2) [a] [] cp2] [] cp => decide (m = Str.ofString "append") && nmAt C.N i x && vis sc x && decide (m2 = Str.ofString "pop") && nmAt C.N j y && vis sc y && !isStar a && (ap2.endLine == cp2.line) && (ap.endLine == cp.line) && okE C e sc sc a
      | _ => false)
    | _ => false)
  | .app2 i e, sc, s => (match s with
    | .Expr v _ => (match v with
      | .Call (.Attribute (.Name x _) m ap) [a] [] cp => decide (m = Str.ofString "append") && nmAt C.N i x && vis sc x && !isStar a && (ap.endLine == cp.line) && okE C e sc sc a
      | _ => false)
    | _ => false)
  | .appAt i j l, sc, s => (match s with
    | .Expr v _ => (match v with
      | .Call (.Attribute (.Subscript (.Name x _) (.Name y _) _) m ap) [.Name z _] [] cp => decide (m = Str.ofString "append") && nmAt C.N i x && vis sc x && nmAt C.N j y && vis sc y && nmAt C.N l z && vis sc z && (ap.endLine == cp.line)
      | _ => false)
    | _ => false)
  | .setI i ek e, sc, s => (match s with
    | .Assign ts v _ => (match ts with
      | [.Subscript (.Name x _) kx _] => nmAt C.N i x && vis sc x && notComp v && !isTupX v && plainIx kx && okE C e sc sc v && okE C ek sc sc kx
      | _ => false)
    | _ => false)
  | .expr e, sc, s => (match s with
    | .Expr v _ => notComp v && okE C e sc sc v
    | _ => false)
  | .ret e, sc, s => (match s with
    | .Return (some v) _ => okE C e sc sc v
    | _ => false)
  | .retV i, sc, s => (match s with
    | .Return (some v) _ => (match v with
      | .Name x _ => nmAt C.N i x && vis sc x && Nat.ble np i
      | _ => false)
    | _ => false)
  | .retN, _, s => (match s with
    | .Return none _ => true
    | _ => false)
  | .ifs c a b, sc, s => (match s with
    | .If c' a' b' _ => tst c && okE C c sc sc c' && okSts C np a sc a' && okSts C np b sc b'
    | _ => false)
  | .for_ p k es body, sc, s => (match s with
    | .For tg iter b orelse _ => (match orelse, itArgs C sc k tg iter with
      | [], some args => plains es && notSet iter && patIn (List.range C.N.length) p && okP C sc sc p tg && okA C es sc sc args && okSts C np body sc b
      | _, _ => false)
    | _ => false)
  | .while_ c body, sc, s => (match s with
    | .While c' b orelse _ => (match orelse with
      | [] => tst c && okE C c sc sc c' && okSts C np body sc b
      | _ => false)
    | _ => false)
  | .pass, _, s => (match s with
    | .Pass _ => true
    | _ => false)
  | .brk, _, s => (match s with
    | .Break _ => true
    | _ => false)
  | .cont, _, s => (match s with
    | .Continue _ => true
    | _ => false)
  | .bad, _, _ => true
  | .ext _ _, _, _ => false
  | .raise c es, sc, s => (match s with
    | .Raise (some (.Call (.Name x _) args [] _)) none _ => decide (x = xNm c) && gl sc x && decide (c ∈ C.xs) && (match xKind c, es, args with
      | none, [], [] => true
      | some _, [e], [a] => plainE e && !isStar a && okE C e sc sc a
      | _, _, _ => false)
    | _ => false)
  | .try1 body c i b, sc, s => (match s with
    | .Try bd [.ExceptHandler (some (.Name x _)) n (s0 :: su) _] [] [] _ => hdOk C sc c i x n && okSts C np body sc bd && okHss C sc b (s0 :: su)
    | _ => false)
  | .try2 body c i b c2 i2 b2, sc, s => (match s with
    | .Try bd [.ExceptHandler (some (.Name x _)) n (s0 :: su) _, .ExceptHandler (some (.Name x2 _)) n2 (t0 :: tu) _] [] [] _ => hdOk C sc c i x n && okSts C np body sc bd && okHss C sc b (s0 :: su) && hdOk C sc c2 i2 x2 n2 && okHss C sc b2 (t0 :: tu)
    | _ => false)
def okSts (C : Ck) (np : Nat) : List S → Scope → List Stmt → Bool
  | [], _, ss => ss.isEmpty
  | s :: ss, sc, bs => (match bs with
    | b :: bs => okSt C np s sc b && okSts C np ss sc bs
    | [] => false)
end
/-- a clause -/
theorem hd_ok (k : Sok X D C sc) {c : Nat} {i : Option Nat} {x : Str} {n : Option Str} {b : List S} {s0 : Stmt} {su : List Stmt} {np' pos' : Pos} {hds : List ExceptHandler} {l : List Clz} (h1 : hdOk C sc c i x n = true) (h3 : okHss C sc b (s0 :: su) = true) (r : KeepOk X hds l) :
    KeepOk X (.ExceptHandler (some (.Name x np')) n (s0 :: su) pos' :: hds) (⟨cvK X.K c, i, fun _ => tSs D.c np b⟩ :: l) := by
  unfold hdOk at h1
  simp only [Bool.and_eq_true, decide_eq_true_eq] at h1
  obtain ⟨⟨⟨rfl, g⟩, hc⟩, hi⟩ := h1
  have xc := k.c.xs c hc
  refine .cons ⟨gl_of k.c g, xNm_ok c, .inl xc.gC⟩ ?_ (fun a pn => ?_) r
  · cases i with
    | none =>
      cases n with
      | none => exact rfl
      | some y => cases hi
    | some j =>
      cases n with
      | none => cases hi
      | some y =>
        simp only [Bool.and_eq_true, decide_eq_true_eq] at hi
        exact ⟨y, rfl, nm_of k.c hi.1, by unfold PySem.Env.kindOf; rw [k.c.hsc]; exact hi.2⟩
  · exact okHss_ok (X := X.suite a pn) (D := D.c) ⟨k.c.hN, k.c.nd, k.c.hK, k.c.hsc, k.c.bi⟩ h3
theorem Sok.tr (k : Sok X D C sc) {W : WX} {pn : List (Addr × Obj)} {xe : Value → Shared → Prop} (tk : Takes (X.tr pn xe) W) (po : PassesOwn (model X.prog X.w) X.A X.env xe) : Sok (X.tr pn xe) { D with W := W } C sc := ⟨k.c.tr tk, po, k.kd, k.st, k.fr⟩
theorem s_pass (h : tS D np .pass En σ H) : tNext En σ H := by
  obtain ⟨Z, F, ρ, S, h⟩ := h
  rw [ex] at h
  exact h F σ H (.refl S)
theorem s_brk (h : tS D np .brk En σ H) : tBreak En σ H := by
  obtain ⟨Z, F, ρ, S, h⟩ := h
  rw [ex] at h
  exact h F σ H (.refl S)
theorem s_cont (h : tS D np .cont En σ H) : tCont En σ H := by
  obtain ⟨Z, F, ρ, S, h⟩ := h
  rw [ex] at h
  exact h F σ H (.refl S)
mutual
theorem okSt_ok : ∀ {t : S} {X : Cx} {D : Wd} {sc : Scope} {s : Stmt}, Sok X D C sc → okSt C np t sc s = true → PS X s (tS D np t)
  | .asg o i e, X, D, sc, s, k, h => by
    cases s <;> simp only [okSt] at h <;> first | (cases h; done) | skip
    split at h
    · rename_i x px
      simp only [Bool.and_eq_true] at h
      obtain ⟨⟨⟨h1, h2⟩, h3⟩, h4⟩ := h
      rw [Bool.or_eq_true] at h4
      rcases h4 with h4 | h4
      · exact st_asg k h1 h2 h4 h3
      · exact st_lc k h1 h4 h3
    · cases h
  | .asgP ps e, X, D, sc, s, k, h => by
    cases s <;> simp only [okSt] at h <;> first | (cases h; done) | skip
    rename_i ts0 v pos0
    split at h
    · simp only [Bool.and_eq_true] at h
      obtain ⟨⟨⟨h1, h2⟩, h3⟩, h4⟩ := h
      split at h4
      · exact st_asgF k h1 h2 h4 h3
      · rename_i _ nt
        exact st_asgP k h1 h2 h4 (by
          cases hv : isTupX v with
          | false => rfl
          | true =>
            cases v <;> first | (simp [isTupX] at hv; done) | exact (nt _ _ _ rfl).elim) h3
    · cases h
  | .asgT ps es, X, D, sc, s, k, h => by
    unfold okSt at h
    split at h
    · split at h
      · split at h
        · simp only [Bool.and_eq_true] at h
          obtain ⟨⟨h1, h2⟩, h3⟩ := h
          exact st_row k h1 h2 h3
        · cases h
      · cases h
    · cases h
  | .aug i o e, X, D, sc, s, k, h => by
    cases s <;> simp only [okSt] at h <;> first | (cases h; done) | skip
    split at h
    · simp only [Bool.and_eq_true] at h
      obtain ⟨⟨⟨h1, h2⟩, h3⟩, h4⟩ := h
      split at h4
      · exact st_aug k h1 h2 (.inl ⟨rfl, rfl⟩) h3
      · exact st_aug k h1 h2 (.inr ⟨rfl, rfl⟩) h3
      · cases h4
    · cases h
  | .app i e, X, D, sc, s, k, h => by
    cases s <;> simp only [okSt] at h <;> first | (cases h; done) | skip
    split at h
    · simp only [Bool.and_eq_true, Bool.not_eq_true'] at h
      obtain ⟨⟨⟨⟨⟨h1, h2⟩, h3⟩, h4⟩, h5⟩, h6⟩ := h
      have h1 := of_decide_eq_true h1
      subst h1
      exact PS.weak (st_app k h2 h3 h4 h5 h6) fun En σ H q => s_app q
    · cases h
  | .popApp i j e, X, D, sc, s, k, h => by
    cases s <;> simp only [okSt] at h <;> first | (cases h; done) | skip
    split at h
    · simp only [Bool.and_eq_true, Bool.not_eq_true'] at h
      obtain ⟨⟨⟨⟨⟨⟨⟨⟨⟨h1, h2⟩, h3⟩, g1⟩, g2⟩, g3⟩, g4⟩, g5⟩, h5⟩, h6⟩ := h
      have h1 := of_decide_eq_true h1
      subst h1
      have g1 := of_decide_eq_true g1
      subst g1
      exact PS.weak (st_popApp k h2 h3 g2 g3 g4 g5 h5 h6) fun En σ H q => s_popApp q
    · cases h
  | .app2 i e, X, D, sc, s, k, h => by
    cases s <;> simp only [okSt] at h <;> first | (cases h; done) | skip
    split at h
    · simp only [Bool.and_eq_true, Bool.not_eq_true'] at h
      obtain ⟨⟨⟨⟨⟨h1, h2⟩, h3⟩, h4⟩, h5⟩, h6⟩ := h
      have h1 := of_decide_eq_true h1
      subst h1
      exact PS.weak (st_app k h2 h3 h4 h5 h6) fun En σ H q => s_app2 q
    · cases h
  | .appAt i j l, X, D, sc, s, k, h => by
    cases s <;> simp only [okSt] at h <;> first | (cases h; done) | skip
    split at h
    · simp only [Bool.and_eq_true] at h
      obtain ⟨⟨⟨⟨⟨⟨⟨h1, h2⟩, h3⟩, h4⟩, h5⟩, h6⟩, h7⟩, h8⟩ := h
      have h1 := of_decide_eq_true h1
      subst h1
      exact st_appAt k h2 h3 h4 h5 h6 h7 h8
    · cases h
  | .setI i ek e, X, D, sc, s, k, h => by
    cases s <;> simp only [okSt] at h <;> first | (cases h; done) | skip
    split at h
    · simp only [Bool.and_eq_true, Bool.not_eq_true'] at h
      obtain ⟨⟨⟨⟨⟨⟨h1, h2⟩, h3⟩, h4⟩, h5⟩, h6⟩, h7⟩ := h
      exact st_setI k h1 h2 h3 h4 h5 h6 h7
    · cases h
  | .expr e, X, D, sc, s, k, h => by
    cases s <;> simp only [okSt] at h <;> first | (cases h; done) | skip
    rw [Bool.and_eq_true] at h
    exact st_expr k h.1 h.2
  | .ret e, X, D, sc, s, k, h => by
    unfold okSt at h
    split at h
    · exact st_ret k h
    · cases h
  | .retV i, X, D, sc, s, k, h => by
    unfold okSt at h
    split at h
    · split at h
      · simp only [Bool.and_eq_true] at h
        exact st_retV k h.1.1 h.1.2 (Nat.le_of_ble_eq_true h.2)
      · cases h
    · cases h
  | .retN, X, D, sc, s, k, h => by
    unfold okSt at h
    split at h
    · exact st_retN
    · cases h
  | .ifs c a b, X, D, sc, s, k, h => by
    cases s <;> simp only [okSt] at h <;> first | (cases h; done) | skip
    simp only [Bool.and_eq_true] at h
    obtain ⟨⟨⟨h1, h2⟩, h3⟩, h4⟩ := h
    exact PS.weak (ps_if ((okE_ok k.c h2).pt h1) (okSts_ok k h3) (okSts_ok k h4)) fun En σ H q => s_ifs q
  | .for_ p kk es body, X, D, sc, s, k, h => by
    cases s <;> simp only [okSt] at h <;> first | (cases h; done) | skip
    split at h
    · rename_i args hi
      simp only [Bool.and_eq_true] at h
      obtain ⟨⟨⟨⟨⟨h1, h2⟩, h3⟩, h4⟩, h5⟩, h6⟩ := h
      obtain ⟨pa, ea, _⟩ := okA_ok k.c h5
      exact PS.weak (ps_for k.po k.c.calm (it_of k.c hi h1 pa ea) (okP_ok k.c h4) (okSts_ok k h6) (fold_ok h2)) fun En σ H q => s_for h3 q
    · cases h
  | .while_ c body, X, D, sc, s, k, h => by
    cases s <;> simp only [okSt] at h <;> first | (cases h; done) | skip
    split at h
    · simp only [Bool.and_eq_true] at h
      exact PS.weak (ps_while k.po ((okE_ok k.c h.1.2).pt h.1.1) (okSts_ok k h.2)) fun En σ H q => s_while q
    · cases h
  | .pass, X, D, sc, s, k, h => by
    cases s <;> simp only [okSt] at h <;> first | (cases h; done) | skip
    exact PS.weak ps_pass fun En σ H q => s_pass q
  | .brk, X, D, sc, s, k, h => by
    cases s <;> simp only [okSt] at h <;> first | (cases h; done) | skip
    exact PS.weak ps_break fun En σ H q => s_brk q
  | .cont, X, D, sc, s, k, h => by
    cases s <;> simp only [okSt] at h <;> first | (cases h; done) | skip
    exact PS.weak ps_continue fun En σ H q => s_cont q
  | .ext _ _, _, _, _, _, _, h => by simp [okSt] at h
  | .raise c es, X, D, sc, s, k, h => by
    unfold okSt at h
    split at h
    · rename_i x px args pc pr
      simp only [Bool.and_eq_true, decide_eq_true_eq] at h
      obtain ⟨⟨⟨rfl, g⟩, hc⟩, h⟩ := h
      have xc := k.c.xs c hc
      obtain ⟨km, rm⟩ := k.c.rm (List.ne_nil_of_mem hc)
      split at h
      · rename_i e0
        obtain ⟨B, newId, initId, bmB, FB, q⟩ := xc.mk0 e0
        exact PS.weak (ps_raise k.c.calm k.c.tk (pmk_own0 FB q xc.gC xc.kC (raises_own xc.rB xc.tC) (gl_of k.c g) (xNm_ok c))) fun En σ H q => k.c.hK ▸ s_raise0 e0 k.c.cv (k.c.hK ▸ xc.ek) q
      · rename_i kd e a e0
        simp only [Bool.and_eq_true, Bool.not_eq_true'] at h
        obtain ⟨⟨h1, h2⟩, h3⟩ := h
        have hk : (xKind c).isSome = true := by rw [e0]; rfl
        obtain ⟨fI, B, newId, initId, bmB, T⟩ := xc.mk1 hk
        have pa : PA X [a] (tAs D [e]) := (okA_ok k.c (es := [e]) (as := [a]) (by
          cases e <;> first | (simp [plainE] at h1; done) | simp [okA, h2, h3])).1
        exact PS.weak (ps_raise k.c.calm k.c.tk (pmk_sup T xc.gC xc.kC (raises_own xc.rB xc.tC) (xc.su hk) rm pa (gl_of k.c g) (xNm_ok c) (st_one h2 _ _))) fun En σ H q => k.c.hK ▸ s_raise1 hk k.c.cv (k.c.hK ▸ xc.ek) h1 q
      · cases h
    · cases h
  | .try1 body c i b, X, D, sc, s, k, h => by
    unfold okSt at h
    split at h
    · rename_i bd x px n s0 su p1 p2
      simp only [Bool.and_eq_true] at h
      obtain ⟨⟨h1, h2⟩, h3⟩ := h
      have hc : c ∈ C.xs := by
        unfold hdOk at h1
        simp only [Bool.and_eq_true, decide_eq_true_eq] at h1
        exact h1.1.2
      have xc := k.c.xs c hc
      exact PS.weak (ps_try_keep (tb := fun W => tSs { D with W := W } np body) k.st k.fr (by rw [k.c.hN]; exact k.c.nd) k.c.tk (fun W pn xe tk po => okSts_ok (k.tr tk po) h2) (hd_ok (np := np) k h1 h3 .nil)) fun En σ H q => k.c.hK ▸ s_try1 k.c.cv xc.h8 (k.c.hK ▸ xc.inK) q
    · cases h
  | .try2 body c i b c2 i2 b2, X, D, sc, s, k, h => by
    unfold okSt at h
    split at h
    · simp only [Bool.and_eq_true] at h
      obtain ⟨⟨⟨⟨h1, h2⟩, h3⟩, h4⟩, h5⟩ := h
      have hc : c ∈ C.xs := by
        unfold hdOk at h1
        simp only [Bool.and_eq_true, decide_eq_true_eq] at h1
        exact h1.1.2
      have hc2 : c2 ∈ C.xs := by
        unfold hdOk at h4
        simp only [Bool.and_eq_true, decide_eq_true_eq] at h4
        exact h4.1.2
      have xc := k.c.xs c hc
      have xc2 := k.c.xs c2 hc2
      exact PS.weak (ps_try_keep (tb := fun W => tSs { D with W := W } np body) k.st k.fr (by rw [k.c.hN]; exact k.c.nd) k.c.tk (fun W pn xe tk po => okSts_ok (k.tr tk po) h2) (hd_ok (np := np) k h1 h3 (hd_ok (np := np) k h4 h5 .nil))) fun En σ H q => k.c.hK ▸ s_try2 k.c.cv xc.h8 (k.c.hK ▸ xc.inK) xc2.h8 (k.c.hK ▸ xc2.inK) q
    · cases h
  | .bad, X, D, sc, s, k, h => ⟨fun pins u σ H En I q => by
    obtain ⟨Z, F, ρ, S, w⟩ := q
    rw [ex] at w
    exact w.elim⟩
theorem okSts_ok : ∀ {ts : List S} {X : Cx} {D : Wd} {sc : Scope} {ss : List Stmt}, Sok X D C sc → okSts C np ts sc ss = true → PSs X ss (tSs D np ts)
  | [], X, D, sc, ss, k, h => by
    unfold okSts at h
    cases ss with
    | nil => exact PSs.weak pss_nil fun En σ H q => s_nil q
    | cons _ _ => cases h
  | t :: ts, X, D, sc, ss, k, h => by
    unfold okSts at h
    cases ss with
    | nil => cases h
    | cons s ss =>
      rw [Bool.and_eq_true] at h
      exact PSs.weak (pss_cons (okSt_ok k h.1) (okSts_ok k h.2)) fun En σ H q => s_seq q
end
end
end Ev
end
section
set_option Elab.async false
set_option linter.all false
set_option maxRecDepth 100000
set_option maxHeartbeats 2000000
namespace Ev
open PySem PySem.Spec L2 StX
section
variable {K : PySem.W.Frag} {Z : Zn} {F : Nat → List Addr} {H : Hp}
theorem entry_at : ∀ {ms : List Bool} {rs : List R} {ρ : Env}, entry ms rs = some ρ → ρ.length = rs.length ∧ ms.length = rs.length ∧ ∀ (i : Nat) (r : R), rs[i]? = some r → (ms[i]? = some true ∧ ρ[i]? = some (some r)) ∨ (ms[i]? = some false ∧ r.isBox = false ∧ ρ[i]? = some (some (.sh r.t)))
  | [], [], ρ, h => by
    unfold entry at h
    cases h
    exact ⟨rfl, rfl, fun i r e => by simp at e⟩
  | [], _ :: _, _, h => by simp [entry] at h
  | _ :: _, [], _, h => by simp [entry] at h
  | true :: ms, r :: rs, ρ, h => by
    simp only [entry] at h
    cases q : entry ms rs with
    | none => rw [q] at h; cases h
    | some ρ1 =>
      rw [q] at h
      cases h
      obtain ⟨l1, l2, k⟩ := entry_at q
      refine ⟨by simp [l1], by simp [l2], fun i r' e => ?_⟩
      cases i with
      | zero => simp at e; subst e; exact .inl ⟨rfl, rfl⟩
      | succ i => simpa using k i r' (by simpa using e)
  | false :: ms, r :: rs, ρ, h => by
    simp only [entry] at h
    split at h
    · cases h
    · rename_i hb
      cases q : entry ms rs with
      | none => rw [q] at h; cases h
      | some ρ1 =>
        rw [q] at h
        cases h
        obtain ⟨l1, l2, k⟩ := entry_at q
        refine ⟨by simp [l1], by simp [l2], fun i r' e => ?_⟩
        cases i with
        | zero => simp at e; subst e; exact .inr ⟨rfl, by simpa using hb, rfl⟩
        | succ i => simpa using k i r' (by simpa using e)
def entF (ms : List Bool) (F : Nat → List Addr) : Nat → List Addr := fun i => if ms[i]? = some true then F i else []
theorem entF_sub {ms : List Bool} : ∀ i a, a ∈ entF ms F i → a ∈ F i := fun i a h => by
  unfold entF at h
  split at h
  · exact h
  · simp at h
theorem si_entry {vs : List V} {rs : List R} {ms : List Bool} {ρ : Env} {m : Nat} (S : SI K Z F (vs.map some) (rs.map some) H) (he : entry ms rs = some ρ) : SI K Z (entF ms F) (vs.map some ++ List.replicate m none) (ρ ++ List.replicate m none) H := by
  obtain ⟨l1, l2, k⟩ := entry_at he
  have hl : rs.length = vs.length := by simpa using S.len
  refine ⟨by simp [l1, hl], S.tr, fun i r e => ?_, fun i n => ?_, fun i => ?_, fun i j a h1 h2 => S.dj i j a (entF_sub i a h1) (entF_sub j a h2), fun i a h => S.zf i a (entF_sub i a h)⟩
  · by_cases hi : i < rs.length
    · rw [List.getElem?_append_left (by omega)] at e
      obtain ⟨v, e1, e2⟩ := S.at_ i rs[i] (by simp [hi])
      refine ⟨v, by rw [List.getElem?_append_left (by simp; omega)]; exact e1, ?_⟩
      have z : ∀ b, H b ≠ none → Zs Z (entF ms F) b → Zs Z F b := fun b _ q => q.imp id fun ⟨j, q⟩ => ⟨j, entF_sub j b q⟩
      rcases k i rs[i] (List.getElem?_eq_getElem hi) with ⟨k1, k2⟩ | ⟨k1, k2, k3⟩
      · rw [k2] at e
        cases e
        have : entF ms F i = F i := by unfold entF; rw [if_pos k1]
        rw [this]
        exact e2.zn z
      · rw [k3] at e
        cases e
        have : entF ms F i = [] := by unfold entF; rw [if_neg (by rw [k1]; simp)]
        rw [this]
        refine ⟨rfl, (e2.zn z).share fun b hb q => ?_⟩
        rcases q with q | ⟨j, q⟩
        · exact S.zf i b hb q
        · have hj := S.dj i j b hb (entF_sub j b q)
          subst hj
          rw [this] at q
          simp at q
    · rw [List.getElem?_append_right (by omega)] at e
      rw [List.getElem?_replicate] at e
      split at e <;> cases e
  · unfold entF
    split
    · rename_i hm
      have hi : i < rs.length := by rw [← l2]; exact (List.getElem?_eq_some_iff.mp hm).1
      rcases k i rs[i] (List.getElem?_eq_getElem hi) with ⟨k1, k2⟩ | ⟨k1, _⟩
      · exact absurd (by rw [List.getElem?_append_left (by omega)]; exact k2) (n rs[i])
      · rw [hm] at k1; cases k1
    · rfl
  · unfold entF
    split
    · exact S.nd i
    · simp
theorem obox_some {x : Option R} {r : R} (h : obox x = some r) : ∃ ts, r = .box ts ∧ x = some (.box ts) := by
  unfold obox at h
  split at h
  · cases h; exact ⟨_, rfl, rfl⟩
  · cases h
/-- what is lent, behind the def -/
def lentF (ρ : Env) (F2 : Nat → List Addr) : Nat → List Addr := fun i => if (ρ[i]?).join.isSome then F2 i else []
/-- behind a def's body: what the caller sees -/
theorem epo_out {vs : List V} {rs : List R} {ms : List Bool} {ρ0 : Env} {m np : Nat} (S : SI K Z F (vs.map some) (rs.map some) H) (he : entry ms rs = some ρ0) (hnp : vs.length = np) {F2 : Nat → List Addr} {σ' : L2.St} {ρ' : Env} {H' : Hp} {v : V} {r : R} {fp : List Addr}
    (q : RtP K Z np (entF ms F) (vs.map some ++ List.replicate m none) (ρ0 ++ List.replicate m none) H F2 σ' ρ' H' v r fp) :
    EPo K Z F (vs.map some) (rs.map some) H (lentF ((ρ'.take np).map obox) F2) ((ρ'.take np).map obox) H' v r fp := by
  obtain ⟨l1, l2, k⟩ := entry_at he
  have hl : rs.length = vs.length := by simpa using S.len
  have hlen : ρ'.length = vs.length + m := by
    have h1 := q.si.len
    have h2 := q.st.ln
    simp at h2
    omega
  have get : ∀ i r', ((ρ'.take np).map obox)[i]? = some (some r') → i < np ∧ ∃ ts, r' = .box ts ∧ ρ'[i]? = some (some (.box ts)) := fun i r' e => by
    rw [List.getElem?_map, List.getElem?_take] at e
    split at e
    · rename_i hi
      cases q1 : ρ'[i]? with
      | none => rw [q1] at e; cases e
      | some x =>
        rw [q1] at e
        simp only [Option.map_some, Option.some.injEq] at e
        obtain ⟨ts, h1, h2⟩ := obox_some e
        exact ⟨hi, ts, h1, by rw [h2]⟩
    · cases e
  have got : ∀ i ts, i < np → ρ'[i]? = some (some (.box ts)) → ((ρ'.take np).map obox)[i]? = some (some (.box ts)) := fun i ts hi e => by
    rw [List.getElem?_map, List.getElem?_take, if_pos hi, e]
    rfl
  have back : ∀ i ts, i < np → ρ'[i]? = some (some (R.box ts)) → ∃ ts', rs[i]? = some (.box ts') ∧ ms[i]? = some true ∧ (ρ0 ++ List.replicate m none)[i]? = some (some (R.box ts')) := fun i ts hi e => by
    obtain ⟨ts', e1⟩ := q.st.bx.nb i ts e
    have hi2 : i < rs.length := by omega
    have e2 := e1
    rw [List.getElem?_append_left (by omega)] at e2
    rcases k i rs[i] (List.getElem?_eq_getElem hi2) with ⟨k1, k2⟩ | ⟨k1, k2, k3⟩
    · rw [k2] at e2
      simp only [Option.some.injEq] at e2
      exact ⟨ts', by rw [List.getElem?_eq_getElem hi2, e2], k1, e1⟩
    · rw [k3] at e2
      cases e2
  have fsub : ∀ i a, a ∈ (lentF ((ρ'.take np).map obox) F2) i → a ∈ F2 i ∧ ∃ r', ((ρ'.take np).map obox)[i]? = some (some r') := fun i a h => by
    unfold lentF at h
    split at h
    · rename_i hj
      refine ⟨h, ?_⟩
      cases q1 : ((ρ'.take np).map obox)[i]? with
      | none => rw [q1] at hj; cases hj
      | some x =>
        cases x with
        | none => rw [q1] at hj; cases hj
        | some r' => exact ⟨r', rfl⟩
    · simp at h
  have fpos : ∀ i r', ((ρ'.take np).map obox)[i]? = some (some r') → (lentF ((ρ'.take np).map obox) F2) i = F2 i := fun i r' e => by
    unfold lentF
    rw [e]
    rfl
  have zz : ∀ b, Zs (fun a => Z a ∨ a ∈ fp) (lentF ((ρ'.take np).map obox) F2) b → Zs (fun a => Z a ∨ a ∈ fp) F2 b := fun b h => h.imp id fun ⟨i, h⟩ => ⟨i, (fsub i b h).1⟩
  have boxF : ∀ i ts, i < np → ρ'[i]? = some (some (R.box ts)) → F2 i = F i := fun i ts hi e => by
    obtain ⟨ts', e1, e2, e3⟩ := back i ts hi e
    have := (q.st.bx.bx i ts' e3).1
    rw [this]
    unfold entF
    rw [if_pos e2]
  refine ⟨⟨by simp; omega, q.si.tr, fun i r' e => ?_, fun i n => ?_, fun i => ?_, fun i j a h1 h2 => q.si.dj i j a (fsub i a h1).1 (fsub j a h2).1, fun i a h => q.si.zf i a (fsub i a h).1⟩, q.rr.zn fun b _ h => zz b h, q.nd, fun i a h => ?_, fun b o e n => q.st.fr b o e fun i h => n i (entF_sub i b h), fun a ha => ?_, q.st.mo, S.tr, fun i ts e => ?_, fun i ts e => ?_⟩
  · obtain ⟨hi, ts, rfl, e1⟩ := get i r' e
    obtain ⟨v', g1, g2⟩ := q.si.at_ i _ e1
    obtain ⟨ts', e2, e3, e4⟩ := back i ts hi e1
    have hb := q.st.bs i ts' e4
    rw [List.getElem?_append_left (by simp; omega)] at hb
    rw [fpos i _ e]
    exact ⟨v', by rw [← hb]; exact g1, g2.zn fun b _ h => zz b h⟩
  · unfold lentF
    split
    · rename_i hj
      cases q1 : ((ρ'.take np).map obox)[i]? with
      | none => rw [q1] at hj; cases hj
      | some x =>
        cases x with
        | none => rw [q1] at hj; cases hj
        | some r' => exact absurd q1 (n r')
    · rfl
  · unfold lentF
    split
    · exact q.si.nd i
    · simp
  · obtain ⟨h1, r', e⟩ := fsub i a h
    obtain ⟨hi, ts, rfl, e1⟩ := get i r' e
    rw [boxF i ts hi e1] at h1
    exact h1
  · rcases q.nw a ha with h | ⟨i, hi, h⟩
    · exact h
    · exfalso
      unfold entF at h
      split at h
      · rename_i hm
        have := (List.getElem?_eq_some_iff.mp hm).1
        omega
      · simp at h
  · have hi : i < rs.length := by simpa using (List.getElem?_eq_some_iff.mp e).1
    have er : rs[i]? = some (.box ts) := by simpa using e
    rcases k i _ er with ⟨k1, k2⟩ | ⟨_, k2, _⟩
    · obtain ⟨f1, ts', f2⟩ := q.st.bx.bx i ts (by rw [List.getElem?_append_left (by omega)]; exact k2)
      have g := got i ts' (by omega) f2
      exact ⟨by rw [fpos i _ g]; exact boxF i ts' (by omega) f2, ts', g⟩
    · cases k2
  · obtain ⟨hi, ts', h1, e1⟩ := get i _ e
    obtain ⟨ts2, e2, _⟩ := back i ts' hi e1
    exact ⟨ts2, by simp [e2]⟩
end
end Ev
end
section
set_option Elab.async false
set_option linter.all false
set_option maxRecDepth 100000
set_option maxHeartbeats 2000000
namespace Ev
open PySem PySem.Spec L2 StX
structure DefD where
  x : Str
  qual : Str
  st : Stmt
  N : List Str
  ps : List Str
  fn : Fn
def fsC (N ps : List Str) (sc : Scope) : Bool :=
  decide (sc.kind = .function) && !sc.isCoroutine && !sc.isGenerator && decide N.Nodup && decide (N.take ps.length = ps) && (ps.all fun x => decide (sc.names.lookup x = some .local) || decide (sc.names.lookup x = some .cell)) && (sc.names.all fun y => decide (y.2 ≠ .free))
theorem fsC_of {N ps : List Str} {sc : Scope} (h : fsC N ps sc = true) : FnScope N ps sc := by
  unfold fsC at h
  simp only [Bool.and_eq_true, decide_eq_true_eq, Bool.not_eq_true', List.all_eq_true, Bool.or_eq_true] at h
  obtain ⟨⟨⟨⟨⟨⟨h1, h2⟩, h3⟩, h4⟩, h5⟩, h6⟩, h7⟩ := h
  exact ⟨h1, h2, h3, h4, h5, h6, h7⟩
def sigs (ds : List DefD) : List (Str × List Str) := ds.map fun d => (d.x, d.ps)
def defC (ds : List DefD) (bi : List Str) (gs : List (Str × List Nat)) (xs : List Nat) (d : DefD) : Bool :=
  plainPs (defArgs d.st) d.ps && fsC d.N d.ps (defScope d.st) && decide (d.fn.np = d.ps.length) && decide (d.N.length = d.fn.ns) && okSts ⟨d.N, sigs ds, bi, gs, xs⟩ d.fn.np d.fn.body (defScope d.st) (defBody d.st)
/-- what the module holds -/
structure ModOk (K : PySem.W.Frag) (mg : Str → Option Value) (prog : Program) (ds : List DefD) (bi : List Str) (gs : List (Str × List Nat)) (xs : List Nat) : Prop where
  defs : ∀ (f : Nat) (d : DefD), ds[f]? = some d → ∃ fa fd, Fun K d.x d.qual d.st fa fd ∧ mg d.x = some (.ref fa)
  bi : ∀ x ∈ bi, mg x = none
  gs : ∀ x s, (x, s) ∈ gs → ∃ t, mg x = some (.str (toS s) t)
  xs : ∀ c ∈ xs, XCm K mg prog c
section
variable {P : Program} {w : World} {K : PySem.W.Frag} {mg : Str → Option Value} {base : Heap} {ds : List DefD} {bi : List Str} {gs : List (Str × List Nat)} {xs : List Nat} {cv : Nat → Value}
theorem body_in {d : DefD} {n f : Nat} {vs : List V} {H : Hp} {Q : VK} {E : XK} (hd : ds[f]? = some d) (hnp : d.fn.np = d.ps.length) (hns : d.N.length = d.fn.ns) (h : spF K (run (ds.map (·.fn)) (n + 1)) cv f d.ps.length vs H Q E) :
    tSs ⟨K, run (ds.map (·.fn)) n, cv, fun cls dd _ H' => E cls dd H'⟩ d.fn.np d.fn.body { nx := fun _ H' => Q .non H', rt := Q } (L2.start d.N vs) H := by
  obtain ⟨hl, Z, F, rs, S, h⟩ := h
  have hf : (ds.map (·.fn))[f]? = some d.fn := by rw [List.getElem?_map, hd]; rfl
  simp only [run, hf] at h
  cases he : entry d.fn.ms rs with
  | none => rw [he] at h; exact h.elim
  | some ρ0 =>
    rw [he] at h
    dsimp only at h
    have hm : d.fn.ns - d.fn.np = d.N.length - vs.length := by omega
    rw [hm] at h
    have si := si_entry (m := d.N.length - vs.length) S he
    refine ⟨Z, entF d.fn.ms F, ρ0 ++ List.replicate (d.N.length - vs.length) none, si, ?_⟩
    have out := fun {F2 : Nat → List Addr} {σ' : L2.St} {ρ' : Env} {H' : Hp} {v : V} {r : R} {fp : List Addr} (q : RtP K Z d.fn.np (entF d.fn.ms F) (vs.map some ++ List.replicate (d.N.length - vs.length) none) (ρ0 ++ List.replicate (d.N.length - vs.length) none) H F2 σ' ρ' H' v r fp) => epo_out S he (by omega) q
    cases hx : exs (run (ds.map (·.fn)) n) d.fn.body (ρ0 ++ List.replicate (d.N.length - vs.length) none) with
    | bad => rw [hx] at h; exact h.elim
    | bk ρ1 => rw [hx] at h; exact h.elim
    | ct ρ1 => rw [hx] at h; exact h.elim
    | rt r ρ1 =>
      rw [hx] at h
      intro F2 σ' H' v fp q
      exact h.2 _ _ _ _ (out q)
    | nx ρ1 =>
      rw [hx] at h
      intro F2 σ' H' st
      refine h.2 _ _ _ [] (out (r := .sh .non) (v := .non) ⟨st, st.si.zn fun b q => q.elim id fun q => by simp at q, ⟨rfl, Rp.non⟩, by simp, fun a h => by simp at h, rfl⟩)
    | exc c fs ρ1 =>
      rw [hx] at h
      intro F2 σ' H' dd st x
      refine h H' dd (fun b o e nb => st.fr b o e fun i q => nb i (entF_sub i b q)) st.mo ?_
      exact x.zn fun b _ q => .inl q
theorem def_ps (hc : ds.all (defC ds bi gs xs) = true) {f : Nat} {d : DefD} (hd : ds[f]? = some d) : plainPs (defArgs d.st) d.ps = true := by
  have := List.all_eq_true.mp hc d (List.mem_of_getElem? hd)
  unfold defC at this
  simp only [Bool.and_eq_true] at this
  exact this.1.1.1.1
theorem all_okF (hcv : cv = cvK K) (M : ModOk K mg P ds bi gs xs) (hc : ds.all (defC ds bi gs xs) = true) : ∀ (n f : Nat) (d : DefD), ds[f]? = some d → ∀ (fa : Addr) (fd : FuncData), Fun K d.x d.qual d.st fa fd → FnOk P w K mg base (CX P w) n fa fd d.ps (spF K (run (ds.map (·.fn)) n) cv f d.ps.length)
  | 0, f, d, hd, fa, fd, F => by
    refine ⟨fun vs H Q E h => h.1, fun A outer s H args us vs Q E _ _ _ _ h => ?_⟩
    obtain ⟨_, Z, F, rs, S, h⟩ := h
    exact h.elim
  | n + 1, f, d, hd, fa, fd, F => by
    have hdc := List.all_eq_true.mp hc d (List.mem_of_getElem? hd)
    unfold defC at hdc
    simp only [Bool.and_eq_true, decide_eq_true_eq] at hdc
    obtain ⟨⟨⟨⟨_, c1⟩, c2⟩, c3⟩, c4⟩ := hdc
    have fs := fsC_of c1
    refine F.okX fs (fun vs H Q E h => h.1) fun cdv A outer s H vs Q E hr h => ⟨_, ?_, body_in hd c2 c3 h⟩
    refine okSts_ok (C := ⟨d.N, sigs ds, bi, gs, xs⟩) (sc := defScope d.st) ⟨⟨rfl, rfl, fs.nd, rfl, rfl, fun x e => ?_, ?_, takes_of rfl rfl rfl rfl, fun f' x ps e => ?_, M.bi, M.gs, M.xs, hcv, fun _ => ⟨_, hr⟩⟩, passes_of rfl, fs.kind, rfl, rfl⟩ c4
    · rfl
    · have := hr.un
      show (PySem.Around.deeper A _).units + 200 < cLine
      omega
    · unfold sigs at e
      rw [List.getElem?_map] at e
      cases q : ds[f']? with
      | none => rw [q] at e; cases e
      | some d' =>
        rw [q] at e
        cases e
        obtain ⟨fa', fd', F', hm'⟩ := M.defs f' d' q
        exact ⟨fa', fd', n, all_okF hcv M hc n f' d' q fa' fd' F', hr, hm', F'.kp, binds_p F' (def_ps hc q)⟩
end
end Ev
end
section
set_option Elab.async false
set_option linter.all false
set_option maxRecDepth 100000
set_option maxHeartbeats 1000000
namespace Ev
open PySem PySem.Spec PyProof.Rows L2
def isLow (c : Nat) : Bool := Nat.ble c 2
def xB (c : Nat) : String := if isLow c then "LookupError" else "ValueError"
def xNew (c : Nat) : String := if isLow c then "LookupError.__new__" else "ValueError.__new__"
def xIni (c : Nat) : String := if isLow c then "LookupError.__init__" else "ValueError.__init__"
def xBm (c : Nat) : List Value := if isLow c then [.type "LookupError", .type "Exception", .type "BaseException", .type "object"] else [.type "ValueError", .type "Exception", .type "BaseException", .type "object"]
theorem xFB (c : Nat) : ExcBaseFacts (xB c) (xNew c) (xIni c) (xBm c) := by
  unfold xB xNew xIni xBm
  cases isLow c
  · exact PySem.F.excBase_ValueError
  · exact PySem.F.excBase_LookupError
theorem xSF (c : Nat) : StoreFacts (xB c) (xBm c) "object.__setattr__" "object" := by
  unfold xB xBm
  cases isLow c
  · exact PySem.F.store_ValueError
  · exact PySem.F.store_LookupError
theorem xKF (c : Nat) : PySem.W.KxsFacts (xB c) (xIni c) := by
  unfold xB xIni
  cases isLow c
  · exact PySem.W.kxs_ValueError
  · exact PySem.W.kxs_LookupError
def fIA (K : PySem.W.Frag) (c : Nat) : Addr := He.ma K (cvA K c) "__init__"
def exkB (K : PySem.W.Frag) (c : Nat) : Bool :=
  decide (PySem.W.findIn K (cvK K c) "__getattribute__" = some (some (.builtin "BaseException.__getattribute__"))) && (decide (PySem.W.findIn K (cvK K c) "__getattr__" = some none) && (decide (PySem.W.subIn K (cvK K c) (.type "BaseException") = some true) && (PySem.W.hasDictIn K (cvA K c) &&
  (decide (PySem.W.findIn K (cvK K c) "__class__" = some (some (.builtin "object.__class__"))) && (decide (PySem.W.specialIn K (.builtin "object.__class__") "__get__" = some (some (.builtin "getset_descriptor.__get__"))) && (decide (PySem.W.takesIn K (.builtin "object.__class__") = some true) &&
  (decide (PySem.W.mroIn K (cvA K c) (.type "object") = some true) && (decide (PySem.W.findIn K (cvK K c) (xF c) = some none) && (decide (PySem.W.kitOne K (cvK K c) (.type "LookupError") = some (Nat.ble c 2)) && (decide (PySem.W.kitOne K (cvK K c) (.type "ValueError") = some (Nat.ble 3 c)) &&
  (List.range 8).all fun j => !xIn K j || decide (PySem.W.exmOne K (cvK K c) (cvK K j) = some (Nat.beq c j))))))))))))
theorem exk_of {K : PySem.W.Frag} {c : Nat} (h : exkB K c = true) : ExK K c := by
  unfold exkB at h
  simp only [Bool.and_eq_true, decide_eq_true_eq] at h
  obtain ⟨h1, h2, h3, h4, h5, h6, h7, h8, h9, h10, h11, h12⟩ := h
  refine ⟨⟨h1, h2, h3, h4, h5, h6, h7, h8⟩, ⟨h1, h2, h3, h4⟩, h9, h10, h11, fun j hj hx => ?_⟩
  have := List.all_eq_true.mp h12 j (List.mem_range.mpr hj)
  rw [hx] at this
  simpa using this
/-- __init__'s function: its code, its cell -/
def iniB (K : PySem.W.Frag) (file q : Str) (c : Nat) : Bool := match K.lookup (fIA K c) with
  | some ⟨_, _, .func fd, _⟩ => (match fd.closure, fd.code with
    | [(_, cc)], .ref cda => PySem.W.codeIn K (.ref cda) q && ((match K.lookup cc with
      | some ⟨_, _, .cell (some (.ref D)), _⟩ => D == cvA K c
      | _ => false) && (match K.lookup cda with
      | some ⟨_, _, .fields vs, _⟩ => (match (vs : Array Value)[2]? with
        | some (Value.str f2 _) => file == f2
        | _ => false)
      | _ => false))
    | _, _ => false)
  | _ => false
def supB (K : PySem.W.Frag) (file q : Str) (c : Nat) : Bool :=
  PySem.W.excInitIn K (cvA K c) (xBm c) (xNew c) && (PySem.W.excOver K (cvA K c) (xBm c) && (decide (PySem.W.findIn K (cvK K c) "__setattr__" = some (some (.builtin "object.__setattr__"))) && (decide (PySem.W.takerIn K (cvA K c) (xF c) = some none) && (PySem.W.hasDictIn K (cvA K c) &&
  (decide (PySem.W.findIn K (cvK K c) "__init__" = some (some (.ref (fIA K c)))) && (decide (PySem.W.typeIn K (.ref (fIA K c)) = some (.type "function")) && (decide (PySem.W.ks_superIn K (cvA K c) (cvA K c) "__init__" = some (some (.builtin (xIni c)))) && (decide (PySem.W.subIn K (cvK K c) (.type (xB c)) = some true) &&
  (decide (PySem.W.mroIn K (cvA K c) (cvK K c) = some true) && (decide (PySem.W.nsIn K cStatics "thirdparty.any" = some none) && (He.eqO (PySem.W.nsIn K mainGlobals "super") (some none) && iniB K file q c)))))))))))
def xcB (K : PySem.W.Frag) (file q : Str) (c : Nat) : Bool :=
  xIn K c && (PySem.W.keepIn K (cvK K c) && (decide (PySem.W.subIn K (cvK K c) (.type "BaseException") = some true) && (decide (PySem.W.typeIn K (cvK K c) = some (.type "type")) && (exkB K c && (match xKind c with
  | none => PySem.W.excIn K (cvA K c) (xBm c) (xNew c)
  | some _ => supB K file q c)))))
def parC (f : Str) (a : Arguments) : Bool := match a with
  | ⟨[], [⟨s, none, _⟩, ⟨g, none, _⟩], none, [], [], none, []⟩ => decide (s = Str.ofString "self") && decide (g = f)
  | _ => false
theorem parC_ok {f : Str} {a : Arguments} (h : parC f a = true) : ∃ p1 p2, a = sPar f p1 p2 := by
  unfold parC at h
  split at h
  · simp only [Bool.and_eq_true, decide_eq_true_eq] at h
    obtain ⟨rfl, rfl⟩ := h
    exact ⟨_, _, rfl⟩
  · cases h
def bodC (f : Str) (b : List Stmt) : Bool := match b with
  | [.Expr (.Call (.Attribute (.Call (.Name s _) [] [] _) i q3) [.Name g _] [] q5) _, .Assign [.Attribute (.Name se _) g2 _] (.Name g3 _) _] => decide (s = Str.ofString "super") && (decide (i = Str.ofString "__init__") && (decide (g = f) && (decide (se = Str.ofString "self") && (decide (g2 = f) && (decide (g3 = f) && (q3.endLine == q5.line))))))
  | _ => false
theorem bodC_ok {f : Str} {b : List Stmt} (h : bodC f b = true) : ∃ q1 q2 q3 q4 q5 q6 q7 q8 q9 q10, b = sBody f q1 q2 q3 q4 q5 q6 q7 q8 q9 q10 ∧ (q3.endLine == q5.line) = true := by
  unfold bodC at h
  split at h
  · simp only [Bool.and_eq_true, decide_eq_true_eq] at h
    obtain ⟨rfl, rfl, rfl, rfl, rfl, rfl, h7⟩ := h
    exact ⟨_, _, _, _, _, _, _, _, _, _, rfl, h7⟩
  · cases h
/-- the class's number, the qualified name of its __init__, the text -/
structure IniD where
  c : Nat
  q : Str
  st : Stmt
def clsBody (s : Stmt) : List Stmt := match s with
  | .ClassDef _ _ _ b _ _ _ _ _ _ _ => b
  | _ => []
def iniC (d : IniD) : Bool := parC (xF d.c) (defArgs d.st) && (bodC (xF d.c) (defBody d.st) && decide (defScope d.st = sSc (xF d.c)))
abbrev XFn : Type := Option (Str × Str × Arguments × FuncBody × Scope × Addr × List Str × Value × Addr)
def xfObs (K : PySem.W.Frag) (c : Nat) : XFn := match K.lookup (fIA K c) with
  | some ⟨_, _, .func fd, _⟩ => some (fd.name, fd.qualname, fd.params, fd.body, fd.scope, fd.globals, fd.closure.map (·.1), fd.defaults, fd.builtins)
  | _ => none
def xfVal (d : IniD) : XFn := some (Str.ofString "__init__", d.q, defArgs d.st, .stmts (defBody d.st), defScope d.st, mainGlobals, [Str.ofString "__class__"], .none, builtinsNs)
def qOf (is : List IniD) (c : Nat) : Str := match is.find? fun d => Nat.beq d.c c with
  | some d => d.q
  | none => Str.empty
section
variable {K : PySem.W.Frag} {mg : Str → Option Value} {prog : Program} {h : Heap}
theorem xF_two (c : Nat) : xF c = "name" ∨ xF c = "number" := by
  unfold xF
  split
  · exact .inr rfl
  · exact .inl rfl
theorem sup_of {d : IniD} (hB : supB K prog.main.file d.q d.c = true) (ho : xfObs K d.c = xfVal d) (hi : iniC d = true) (top : (prog.main.scope.names.lookup ("super" : Str)).isSome = false) :
    SupT K prog (xF d.c) (cvA K d.c) (fIA K d.c) (xB d.c) (xNew d.c) (xIni d.c) (xBm d.c) := by
  unfold supB at hB
  simp only [Bool.and_eq_true, decide_eq_true_eq] at hB
  obtain ⟨h1, h2, h3, h4, h5, h6, h7, h8, h9, h10, h11, h12, h13⟩ := hB
  refine ⟨xF_two _, xFB _, xSF _, xKF _, h1, h2, h3, h4, h5, h6, h7, h8, h9, h10, h11, top, ?_⟩
  unfold iniC at hi
  simp only [Bool.and_eq_true, decide_eq_true_eq] at hi
  obtain ⟨i1, i2, i3⟩ := hi
  obtain ⟨p1, p2, e1⟩ := parC_ok i1
  obtain ⟨q1, q2, q3, q4, q5, q6, q7, q8, q9, q10, e2, hl⟩ := bodC_ok i2
  unfold iniB at h13
  unfold xfObs at ho
  cases q : K.lookup (fIA K d.c) with
  | none => rw [q] at h13; cases h13
  | some o =>
    obtain ⟨oc, od, dt, osl⟩ := o
    rw [q] at h13 ho
    cases dt with
    | func fd =>
      obtain ⟨n1, n2, n3, n4, n5, n6, n7, n8, n9, n10, n11, n12, n13, n14, n15⟩ := fd
      have ho2 : (some (n1, n2, n3, n4, n5, n6, n7.map (·.1), n8, n15) : XFn) = xfVal d := ho
      unfold xfVal at ho2
      simp only [Option.some.injEq, Prod.mk.injEq] at ho2
      obtain ⟨r1, r2, r3, r4, r5, r6, r7, r8, r9⟩ := ho2
      subst r1 r2 r3 r4 r5 r6 r8 r9
      dsimp only at h13
      split at h13
      · rename_i nm cc cda
        simp only [List.map_cons, List.map_nil, List.cons.injEq, and_true] at r7
        subst r7
        simp only [Bool.and_eq_true] at h13
        obtain ⟨g1, g2, g3⟩ := h13
        refine ⟨oc, od, osl, d.q, p1, p2, q1, q2, q3, q4, q5, q6, q7, q8, q9, q10, _, _, _, _, _, cda, cc, by rw [e1, e2, i3], g1, hl, ?_, ?_⟩
        · split at g2
          · rename_i cl cld D csl hc
            rw [beq_iff_eq] at g2
            subst g2
            exact ⟨_, _, _, hc⟩
          · cases g2
        · split at g3
          · rename_i ccl cdd vs ccs hc
            split at g3
            · rename_i f2 tf hv
              exact ⟨_, _, _, _, _, _, hc, hv, g3⟩
            · cases g3
          · cases g3
      · cases h13
    | _ => cases h13
theorem xc_of {is : List IniD} {c : Nat} (X : K.In h) (G : h.Ns mainGlobals mg) (h8 : c < 8) (hb : xcB K prog.main.file (qOf is c) c = true) (ho : ∀ d ∈ is, xfObs K d.c = xfVal d) (hi : is.all iniC = true) (hc : (xKind c).isSome = true → ∃ d ∈ is, d.c = c ∧ d.q = qOf is c)
    (top : (prog.main.scope.names.lookup ("super" : Str)).isSome = false) : XCm K mg prog c := by
  unfold xcB at hb
  simp only [Bool.and_eq_true, decide_eq_true_eq] at hb
  obtain ⟨h1, h2, h3, h4, h5, h6⟩ := hb
  refine ⟨h8, h1, PySem.W.mg_of X G (He.eqO_ok h1), h2, h3, h4, exk_of h5, fun e => ?_, fun e => ?_, fun e => ?_⟩
  · rw [e] at h6
    exact ⟨_, _, _, _, xFB c, h6⟩
  · obtain ⟨d, hd, rfl, hq⟩ := hc e
    obtain ⟨k, ek⟩ := Option.isSome_iff_exists.mp e
    rw [ek] at h6
    rw [← hq] at h6
    exact ⟨_, _, _, _, _, sup_of h6 (ho d hd) (List.all_eq_true.mp hi d hd) top⟩
  · obtain ⟨k, ek⟩ := Option.isSome_iff_exists.mp e
    rw [ek] at h6
    unfold supB at h6
    simp only [Bool.and_eq_true, decide_eq_true_eq] at h6
    exact PySem.W.mg_none_of X G (He.eqO_ok h6.2.2.2.2.2.2.2.2.2.2.2.1)
end
def refsX (o : Obj) : List Addr := He.refsO o ++ match o.data with
  | .func fd => fd.closure.map (·.2)
  | _ => []
def growX (g : Addr → Option Obj) (as : List Addr) : List Addr := (as ++ as.flatMap fun a => match g a with
  | some o => refsX o
  | none => []).eraseDups
def asX (g : Addr → Option Obj) : Nat → List Addr
  | 0 => [mainGlobals]
  | n + 1 => growX g (asX g n)
structure Facts where
  fa : List He.Fa
  fn : List He.FnD
  file : Str
  xs : List Nat
  is : List IniD
abbrev AlX : Type := He.Al × Bool × List XFn
def obX (T : Facts) (K : PySem.W.Frag) : AlX := (He.obsE T.fa T.fn K, T.xs.all (fun c => xcB K T.file (qOf T.is c) c), T.is.map fun d => xfObs K d.c)
def vaX (T : Facts) : AlX := (He.valE T.fn, true, T.is.map xfVal)
def obsX (n : Nat) (T : Facts) (g : Addr → Option Obj) : AlX := obX T (He.frG g (cStatics :: asX g n))
def hookX (n : Nat) (T : Facts) : PySem.W.Hook where
  α := AlX
  obs := fun s => obsX n T s.heap.get?
  val := fun _ => vaX T
  says := fun _ h => ∃ K : PySem.W.Frag, K.In h ∧ obX T K = vaX T
  of := fun _ _ e => ⟨_, He.frG_in, e⟩
  keeps := fun _ _ _ ⟨K, hK, c⟩ k => ⟨K, PySem.W.Frag.In.keeps hK k, c⟩
theorem obsX_eq {n : Nat} {T : Facts} {g : Addr → Option Obj} {s : Shared} (h : ∀ a, g a = s.heap.get? a) : obsX n T g = (hookX n T).obs s := by
  have e : g = s.heap.get? := funext h
  rw [e] <;> rfl
end Ev
end
section
set_option Elab.async false
set_option linter.all false
set_option maxRecDepth 100000
set_option maxHeartbeats 1000000
namespace Ev
open PySem PySem.Spec L2 StX
/-- the facts: each def by its name, the built-in names free -/
def faOf (ds : List DefD) (bi : List Str) (gs : List (Str × List Nat)) : List He.Fa := ds.map (fun d => .glo d.x) ++ (ds.map (fun d => .keep d.x) ++ (bi.map .free ++ gs.map fun x => .str x.1 (toS x.2)))
def fnD (d : DefD) : He.FnD := ⟨(d.x, none), d.x, d.qual, defArgs d.st, defBody d.st, defScope d.st⟩
def fnOf (ds : List DefD) : List He.FnD := ds.map fnD
def facOf (ds : List DefD) (bi : List Str) (gs : List (Str × List Nat)) (file : Str) (xs : List Nat) (is : List IniD) : Facts := ⟨faOf ds bi gs, fnOf ds, file, xs, is⟩
/-- each class has its text -/
def xsC (xs : List Nat) (is : List IniD) : Bool := xs.all (fun c => Nat.blt c 8 && ((xKind c).isNone || is.any fun d => Nat.beq d.c c && decide (d.q = qOf is c))) && is.all iniC
section
variable {K : PySem.W.Frag} {h : Heap} {mg : Str → Option Value} {ds : List DefD} {bi : List Str} {gs : List (Str × List Nat)} {xs : List Nat} {is : List IniD} {file : Str}
theorem fact_in (c : He.SaysE (faOf ds bi gs) (fnOf ds) K) {f : He.Fa} (hf : f ∈ faOf ds bi gs) : f.ok K = true := by
  obtain ⟨i, hi, e⟩ := List.getElem_of_mem hf
  exact c.fact i (by rw [List.getElem?_eq_getElem hi, e])
theorem modOk {prog : Program} (X : K.In h) (G : h.Ns mainGlobals mg) (c : obX (facOf ds bi gs prog.main.file xs is) K = vaX (facOf ds bi gs prog.main.file xs is)) (hx : xsC xs is = true) (top : (prog.main.scope.names.lookup ("super" : Str)).isSome = false) : ModOk K mg prog ds bi gs xs := by
  have c1 : He.SaysE (faOf ds bi gs) (fnOf ds) K := congrArg (fun z : AlX => z.1) c
  have c2 : xs.all (fun c => xcB K prog.main.file (qOf is c) c) = true := congrArg (fun z : AlX => z.2.1) c
  have c3 : is.map (fun d => xfObs K d.c) = is.map xfVal := congrArg (fun z : AlX => z.2.2) c
  unfold xsC at hx
  rw [Bool.and_eq_true] at hx
  refine ⟨fun f d hd => ?_, fun x hx => ?_, fun x s hx => ?_, fun k hk => ?_⟩
  · have md := List.mem_of_getElem? hd
    have g := fact_in c1 (f := .glo d.x) (List.mem_append_left _ (List.mem_map_of_mem md))
    have k := fact_in c1 (f := .keep d.x) (List.mem_append_right _ (List.mem_append_left _ (List.mem_map_of_mem md)))
    obtain ⟨oc, od, osl, kV, doc, pm, an, cdv, ct, lk, cd⟩ := c1.def_ f (d := fnD d) (by
      unfold fnOf
      rw [List.getElem?_map, hd]
      rfl)
    exact ⟨_, _, fun_mk lk cd (He.keep_ok k), He.glo_ok X G g⟩
  · exact He.free_ok X G (fact_in c1 (f := .free x) (List.mem_append_right _ (List.mem_append_right _ (List.mem_append_left _ (List.mem_map_of_mem hx)))))
  · exact He.str_ok X G (fact_in c1 (f := .str x (toS s)) (List.mem_append_right _ (List.mem_append_right _ (List.mem_append_right _ (List.mem_map_of_mem (f := fun x => He.Fa.str x.1 (toS x.2)) hx)))))
  · have hk2 := List.all_eq_true.mp hx.1 k hk
    simp only [Bool.and_eq_true, Bool.or_eq_true] at hk2
    refine xc_of (is := is) X G (Nat.blt_eq.mp hk2.1) (List.all_eq_true.mp c2 k hk) (fun d hd => ?_) hx.2 (fun e => ?_) top
    · obtain ⟨i, hi, rfl⟩ := List.getElem_of_mem hd
      have := congrArg (fun l => l[i]?) c3
      simpa [hi] using this
    · rcases hk2.2 with q | q
      · rw [Option.isNone_iff_eq_none] at q
        rw [q] at e
        cases e
      · obtain ⟨d, hd, q⟩ := List.any_eq_true.mp q
        rw [Bool.and_eq_true] at q
        exact ⟨d, hd, Nat.eq_of_beq_eq_true q.1, of_decide_eq_true q.2⟩
theorem law_sp {cf : CallF} {cv : Nat → Value} {f : Nat} {ns : List Int} {ρ : Env} (hl : cf f [.sh (.fz ns)] = .ok (.sh (.bl true)) ρ) {H : Hp} {a : Addr} (ho : Only H) (hs : SqL K H a (ns.map V.int)) : spF K cf cv f 1 [.ref a] H (fun v _ => v = .bl true) fun _ _ _ => False := by
  refine ⟨rfl, fun _ => False, fun _ => [], [.sh (.fz ns)], ⟨rfl, fun _ h => h.elim, fun i r e => ?_, fun _ _ => rfl, fun _ => .nil, fun _ _ _ h => by simp at h, fun _ _ h => by simp at h⟩, ?_⟩
  · cases i with
    | succ i => simp at e
    | zero =>
      simp at e
      subst e
      refine ⟨.ref a, rfl, rfl, ?_⟩
      unfold Rp
      refine ⟨a, rfl, ?_⟩
      rcases hs with hs | hs
      · refine .inl ?_
        rcases hs with hs | ⟨o, hs⟩
        · rcases ho a with q | ⟨o, xs, q⟩
          · rw [hs] at q; cases q
          · rw [hs] at q; cases q
        · exact ⟨o, hs, fun q => q.elim id fun ⟨i, q⟩ => by simp at q⟩
      · exact .inr hs
  · rw [hl]
    refine ⟨rfl, fun F2 H2 v fp e => ?_⟩
    have := e.rr.2
    unfold R.t Rp at this
    exact this
theorem walk_ev {l : PySem.W.OpenLaw} {q : Program} {loose : List Str} {XP : (Str → Option Value) → Heap → Prop} {d : DefRec} {N f n : Nat} {dl : DefD} {x : Str}
    (hn : l.most = some 63) (hdf : d.params.defaults = []) (hr : Room N callerA) (hc : ds.all (defC ds bi gs xs) = true) (hfile : l.prog.main.file = file) (hxs : xsC xs is = true) (htop : (l.prog.main.scope.names.lookup ("super" : Str)).isSome = false) (hf : ds[f]? = some dl) (hx : dl.ps = [x]) (hname : d.name = dl.x)
    (law : ∀ ns : List Int, ns.length ≤ 63 → ∃ ρ, run (ds.map (·.fn)) N f [.sh (.fz ns)] = .ok (.sh (.bl true)) ρ) :
    PySem.W.WalkO q loose XP (hookX n (facOf ds bi gs file xs is)).says l.row.toRowW d [] (fun f vs => PySem.call f vs) := by
  subst hfile
  refine Att.attach_call hn hdf fun w s0 s1 mg mb fa o pm cd doc a vs ns G Y ho hd hcd hmg hobj hints hlen hg => ?_
  obtain ⟨K, KX, c⟩ := Y
  have M := modOk (prog := l.prog) KX G.T.g c hxs htop
  obtain ⟨fa1, fd1, F1, m1⟩ := M.defs f dl hf
  have hfa : fa1 = fa := by
    rw [hname, m1] at hmg
    cases hmg
    rfl
  subst hfa
  have bp := binds_p F1 (def_ps hc hf)
  obtain ⟨ρ, run⟩ := law ns hlen
  rw [hx] at bp
  refine law_call (x := x) (fd := fd1) (CX := CX l.prog w) (sp := spF K (Ev.run (ds.map (·.fn)) N) (cvK K) f 1) KX G.T.g G.T.b G.T.builtins G.T.nolimit hg hobj hints (Nat.le_trans hlen (by decide)) hr (fun base _ _ => ?_) (fun s u => .of_eq ?_) (fun H hO hS => law_sp run hO hS) fun H e s' ⟨_, _, _, _, _, _, _, _, _, _, _, _, q⟩ => q
  · have := all_okF (P := l.prog) (w := w) (base := base) (cv := cvK K) rfl M hc N f dl hf fa1 fd1 F1
    rw [hx] at this
    exact this
  · have := bp.kw 1 [] [0] (by
      unfold kwOk
      simp [placed]) [u] [] rfl rfl
    simpa [pick] using this
end
end Ev
end
section
set_option linter.all false
set_option maxRecDepth 100000
namespace Ev.K64
open Ev
def f_tupled : Fn := ⟨1, 2, [false], [.ret (.ifx (.op (.isi [.list, .tuple]) [.var 0]) (.op .toTup [.lc [1] (.v 1) .seq [.var 0] [] (.call 0 [.var 1])]) (.var 0))]⟩
def f_set_of : Fn := ⟨1, 1, [false], [.ret (.op .toTup [.op .sset [.var 0]])]⟩
def f_blocks : Fn := ⟨1, 4, [false], [.ret (.call 1 [.lc2 [2, 3, 1] (.t [.v 2, .v 3]) .seq [.call 0 [.var 0]] [1] (.v 1) .seq [.var 2] [] (.var 1)])]⟩
def f_check_alike : Fn := ⟨2, 2, [false, false], [.ifs (.op .ne [.call 2 [.var 0], .call 2 [.var 1]]) [.raise 3 []] []]⟩
def f_check_block : Fn := ⟨2, 2, [false, false], [.ifs (.op .nin [.var 1, .call 2 [.var 0]]) [.raise 0 [.var 1]] []]⟩
def f_room_of : Fn := ⟨2, 3, [false, false], [.expr (.call 4 [.var 0, .var 1]),
  .ret (.op .idx [.lc [2] (.v 2) .seq [.call 0 [.var 0]] [.op .in_ [.var 1, .op .idx [.var 2, .cst (.int 0)]]] (.var 2), .cst (.int 0)])]⟩
def f_homes_of : Fn := ⟨1, 3, [false], [.ret (.dc2 [1, 2] (.v 1) .seq [.call 0 [.var 0]] [2] (.v 2) .seq [.op .idx [.var 1, .cst (.int 0)]] [] (.var 2) (.var 1))]⟩
def f_strange_to : Fn := ⟨3, 4, [false, false, false], [.ret (.op .len [.lc [3] (.v 3) .seq [.op .idx [.op .idx [.var 1, .var 2], .cst (.int 0)]] [.op .nin [.var 3, .op .idx [.op .idx [.var 0, .var 2], .cst (.int 0)]]] (.var 3)])]⟩
def f_outside : Fn := ⟨3, 5, [false, false, false], [.expr (.call 3 [.var 0, .var 1]),
  .asg false 3 (.op .idx [.call 5 [.var 0, .var 2], .cst (.int 0)]),
  .ret (.op .len [.lc [4] (.v 4) .seq [.op .idx [.call 5 [.var 1, .var 2], .cst (.int 0)]] [.op .nin [.var 4, .var 3]] (.var 4)])]⟩
def f_spare : Fn := ⟨3, 3, [false, false, false], [.expr (.call 3 [.var 0, .var 1]),
  .ret (.op .sub [.op .idx [.call 5 [.var 1, .var 2], .cst (.int 1)], .op .idx [.call 5 [.var 0, .var 2], .cst (.int 1)]])]⟩
def f_against : Fn := ⟨2, 8, [false, false], [.expr (.call 3 [.var 0, .var 1]),
  .asgT [.v 3, .v 4, .o 5] [.call 6 [.var 0], .call 6 [.var 1], .op .lst []],
  .for_ (.v 2) .seq [.op .sorted [.var 4]] [.asgP [.v 6, .v 7] (.op .idx [.var 4, .var 2]), .ifs (.and_ (.op .gt [.op .len [.var 6], .var 7]) (.op .gt [.call 7 [.var 3, .var 4, .var 2], .op .sub [.var 7, .op .idx [.op .idx [.var 3, .var 2], .cst (.int 1)]]])) [.app 5 (.var 2)] []],
  .ret (.op .toTup [.brw 5])]⟩
def f__law_box : Fn := ⟨2, 3, [false, false], [.asg false 2 (.ifx (.op .lt [.var 1, .op .len [.var 0]]) (.op .idx [.var 0, .var 1]) (.cst (.int 0))),
  .ret (.op .lst [.op .mul [.op .abs [.var 2], .op .toInt [.op .ge [.op .abs [.var 2], .op .pow [.cst (.int 10), .cst (.int 18)]]]], .op .add [.op .add [.op .mod [.op .toInt [.var 2], .cst (.int 2305843009213693951)], .op .mul [.cst (.int 39373), .var 1]], .cst (.int 2303)], .cst (.int 0)])]⟩
def f__law_take : Fn := ⟨2, 6, [true, false], [.ifs (.op .gt [.op .idx [.brw 0, .cst (.int 0)], .cst (.int 0)]) [.asg false 5 (.op .mod [.op .toInt [.op .idx [.brw 0, .cst (.int 0)]], .var 1]), .setI 0 (.cst (.int 0)) (.op .fdiv [.op .idx [.brw 0, .cst (.int 0)], .var 1]), .retV 5] [],
  .setI 0 (.cst (.int 2)) (.op .add [.op .idx [.brw 0, .cst (.int 2)], .cst (.int 1)]),
  .asg false 2 (.op .mod [.op .toInt [.op .mul [.op .add [.op .idx [.brw 0, .cst (.int 1)], .op .mul [.cst (.int 48271), .op .idx [.brw 0, .cst (.int 2)]]], .op .add [.cst (.int 39373), .op .idx [.brw 0, .cst (.int 2)]]]], .cst (.int 2147483647)]),
  .asg false 3 (.op .add [.op .mod [.op .toInt [.var 2], .cst (.int 40009)], .cst (.int 7)]),
  .asg false 4 (.op .mod [.op .toInt [.op .mul [.op .add [.op .add [.var 2, .op .idx [.brw 0, .cst (.int 2)]], .op .fdiv [.op .idx [.brw 0, .cst (.int 1)], .cst (.int 1000003)]], .var 3]], .cst (.int 2147483629)]),
  .ret (.op .mod [.op .toInt [.op .fdiv [.op .mod [.op .toInt [.op .add [.op .mul [.var 4, .cst (.int 48271)], .var 2]], .cst (.int 2147483587)], .cst (.int 64)]], .var 1])]⟩
def f__law_cells : Fn := ⟨2, 6, [false, false], [.asg true 2 (.or_ (.op .toLst [.op (.sl false true) [.var 0, .var 1]]) (.op .lst [.cst (.int 0)])),
  .for_ (.t [.v 3, .v 4]) .enum [.op (.sl true true) [.var 0, .var 1, .cst (.int 63)]] [.asg false 5 (.op .mod [.op .toInt [.var 3], .var 1]), .setI 2 (.var 5) (.op .add [.op .idx [.brw 2, .var 5], .op .mul [.var 4, .op .add [.var 3, .cst (.int 2)]]])],
  .retV 2]⟩
def f__law_lists : Fn := ⟨1, 2, [false], [.ret (.ifx (.op (.isi [.list, .tuple]) [.var 0]) (.lc [1] (.v 1) .seq [.var 0] [] (.call 14 [.var 1])) (.var 0))]⟩
def f__law_same : Fn := ⟨2, 5, [false, false], [.ifs (.op (.isi [.list, .tuple]) [.var 1]) [.ifs (.or_ (.op .ne [.op (.isi [.list]) [.var 0], .op (.isi [.list]) [.var 1]]) (.op .ne [.op (.isi [.tuple]) [.var 0], .op (.isi [.tuple]) [.var 1]])) [.ret (.cst (.bl false))] [], .ret (.and_ (.op .eq [.op .len [.var 0], .op .len [.var 1]]) (.op .all [.lc [3, 4] (.t [.v 3, .v 4]) .zip [.var 0, .var 1] [] (.call 15 [.var 3, .var 4])]))] [],
  .ifs (.op (.isi [.dict]) [.var 1]) [.ifs (.or_ (.op .not_ [.op (.isi [.dict]) [.var 0]]) (.op .ne [.op .sorted [.var 0], .op .sorted [.var 1]])) [.ret (.cst (.bl false))] [], .ret (.op .all [.lc [2] (.v 2) .seq [.var 1] [] (.call 15 [.op .idx [.var 0, .var 2], .op .idx [.var 1, .var 2]])])] [],
  .ifs (.or_ (.op .isN [.var 1]) (.op (.isi [.bool, .str]) [.var 1])) [.ret (.and_ (.op .eq [.var 0, .var 1]) (.and_ (.op .eq [.op (.isi [.bool]) [.var 0], .op (.isi [.bool]) [.var 1]]) (.op .eq [.op .isN [.var 0], .op .isN [.var 1]])))] [],
  .ret (.and_ (.op (.isi [.int]) [.var 0]) (.and_ (.op .not_ [.op (.isi [.bool]) [.var 0]]) (.op .eq [.var 0, .var 1])))]⟩
def f__law_tags : Fn := ⟨1, 2, [false], [.ret (.op (.sl false true) [.lc [1] (.v 1) .seq [.cst (.str [97, 98, 99, 100, 101, 102, 103, 104, 105, 106, 107, 108, 109, 110, 111, 112, 113, 114, 115, 116, 117, 118, 119, 120])] [] (.op .add [.cst (.str [98]), .var 1]), .var 0])]⟩
def f__law_shelf : Fn := ⟨3, 7, [true, false, false], [.asg true 3 (.op .lst []),
  .for_ (.v 4) .seq [.var 1] [.asg false 5 (.call 12 [.brw 0, .op .add [.lenV 3, .cst (.int 1)]]), .ifs (.op .eq [.var 5, .lenV 3]) [.app2 3 (.op .lst [.var 4])] [.appAt 3 5 4]],
  .ret (.op .toTup [.op .sorted [.lc [6] (.v 6) .seq [.var 3] [] (.op .tup [.op .toTup [.var 6], .op .add [.cst (.int 1), .call 12 [.brw 0, .var 2]]])]])]⟩
def f__law_lot : Fn := ⟨2, 3, [false, false], [.ret (.op .idx [.lc [2] (.v 2) .seq [.var 0] [.op .in_ [.var 1, .op .idx [.var 2, .cst (.int 0)]]] (.var 2), .cst (.int 0)])]⟩
def f__law_two : Fn := ⟨3, 4, [true, false, false], [.asg false 3 (.call 16 [.op .add [.cst (.int 1), .call 12 [.brw 0, .var 1]]]),
  .ret (.op .tup [.call 17 [.brw 0, .var 3, .var 2], .call 17 [.brw 0, .var 3, .var 2], .var 3])]⟩
def f__law_strange : Fn := ⟨3, 5, [false, false, false], [.asg false 3 (.op .idx [.call 18 [.var 0, .var 2], .cst (.int 0)]),
  .ret (.op .len [.lc [4] (.v 4) .seq [.op .idx [.call 18 [.var 1, .var 2], .cst (.int 0)]] [.op .nin [.var 4, .var 3]] (.var 4)])]⟩
def f__law_bad : Fn := ⟨2, 7, [false, false], [.asg true 2 (.op .lst []),
  .for_ (.v 3) .seq [.op .sorted [.op .sumL [.lc [5] (.v 5) .seq [.var 0] [] (.op .toLst [.op .idx [.var 5, .cst (.int 0)]]), .op .lst []]]] [.asgT [.t [.v 5, .v 6], .v 4] [.call 18 [.var 1, .var 3], .call 18 [.var 0, .var 3]], .ifs (.and_ (.op .gt [.op .len [.var 5], .var 6]) (.op .gt [.call 20 [.var 0, .var 1, .var 3], .op .sub [.var 6, .op .idx [.var 4, .cst (.int 1)]]])) [.app 2 (.var 3)] []],
  .ret (.op .toTup [.brw 2])]⟩
def f__law_hand : Fn := ⟨0, 2, [], [.asg false 0 (.op .toTup [.cst (.str [97, 98, 99, 100, 101, 102])]),
  .asg false 1 (.op .tup [.op .tup [.op (.sl false true) [.var 0, .cst (.int 3)], .cst (.int 2)], .op .tup [.op (.sl true false) [.var 0, .cst (.int 3)], .cst (.int 2)]]),
  .ret (.op .tup [.var 1, .op .tup [.op .tup [.var 0, .cst (.int 4)]], .op .tup [.op .tup [.var 0, .cst (.int 5)]], .op .tup [.op .tup [.op .tup [.cst (.str [97]), .cst (.str [100])], .cst (.int 1)], .op .tup [.op .tup [.cst (.str [98]), .cst (.str [101])], .cst (.int 1)], .op .tup [.op .tup [.cst (.str [99]), .cst (.str [102])], .cst (.int 1)]]])]⟩
def f__law_heard : Fn := ⟨4, 7, [false, false, false, false], [.asgP [.v 5, .v 6] (.op .tup [.cst (.non), .cst (.non)]),
  .try2 [.ifs (.op .eq [.var 0, .cst (.int 2)]) [.asg false 6 (.call 10 [.var 1, .var 2])] [.asg false 6 (.ifx (.op .eq [.var 0, .cst (.int 0)]) (.call 8 [.var 1, .var 2, .var 3]) (.call 9 [.var 1, .var 2, .var 3]))]] 0 (some 4) [.asg false 5 (.op .lst [.op (.attr false) [.var 4], .op (.isi [.lookE]) [.var 4]])] 3 (some 4) [.asg false 5 (.op .lst [.cst (.str [117, 110, 108, 105, 107, 101]), .op (.isi [.valE]) [.var 4]])],
  .ret (.ifx (.op .isN [.var 5]) (.var 6) (.var 5))]⟩
def f__law_by_hand_right : Fn := ⟨0, 13, [], [.asgP [.v 5, .v 6, .v 7, .v 8] (.call 22 []),
  .asg false 0 (.op .lst [.lc [11] (.v 11) .seq [.cst (.str [97, 98, 102])] [] (.call 8 [.var 5, .var 6, .var 11])]),
  .asg false 0 (.op .add [.var 0, .op .lst [.lc [11] (.v 11) .seq [.cst (.str [97, 100])] [] (.call 8 [.var 5, .var 8, .var 11])]]),
  .asg false 0 (.op .add [.var 0, .op .lst [.lc [11] (.v 11) .seq [.cst (.str [97, 100])] [] (.call 8 [.var 6, .var 5, .var 11]), .call 8 [.var 5, .var 5, .cst (.str [101])]]]),
  .asg false 1 (.op .lst [.op .lst [.cst (.int 3), .cst (.int 3), .cst (.int 3)], .op .lst [.cst (.int 1), .cst (.int 1)], .op .lst [.cst (.int 0), .cst (.int 0)], .cst (.int 0)]),
  .asg false 0 (.op .add [.var 0, .op .lst [.call 9 [.var 5, .var 6, .cst (.str [97])], .call 9 [.var 6, .var 5, .cst (.str [102])], .call 9 [.var 5, .var 8, .cst (.str [99])]]]),
  .asg false 0 (.op .add [.var 0, .op .lst [.call 9 [.var 5, .var 5, .cst (.str [99])]]]),
  .asg false 1 (.op .add [.var 1, .op .lst [.cst (.int 2), .op .neg [.cst (.int 2)], .op .neg [.cst (.int 1)], .cst (.int 0)]]),
  .asg false 0 (.op .add [.var 0, .op .lst [.call 10 [.var 5, .var 6], .call 10 [.var 5, .var 7], .call 10 [.var 6, .var 5], .call 10 [.var 5, .var 8]]]),
  .asg false 0 (.op .add [.var 0, .op .lst [.call 10 [.var 8, .var 5], .call 10 [.var 5, .var 5]]]),
  .asg false 1 (.op .add [.var 1, .op .lst [.op .toTup [.cst (.str [97, 98, 99, 100, 101, 102])], .op .tup [], .op .toTup [.cst (.str [97, 98, 99, 100, 101, 102])], .op .toTup [.cst (.str [97, 98, 99, 100, 101, 102])], .op .toTup [.cst (.str [97, 98, 99, 100, 101, 102])], .op .tup []]]),
  .asg false 2 (.op .tup [.op .tup [.op .tup [.cst (.str [97]), .cst (.str [98]), .cst (.str [99])], .cst (.int 3)], .op .tup [.op .tup [.cst (.str [100]), .cst (.str [101]), .cst (.str [102])], .cst (.int 9)]]),
  .asg false 3 (.op .tup [.op .tup [.op .tup [.cst (.str [97]), .cst (.str [98]), .cst (.str [99]), .cst (.str [100])], .cst (.int 3)], .op .tup [.op .tup [.cst (.str [101])], .cst (.int 1)], .op .tup [.op .tup [.cst (.str [102])], .cst (.int 1)]]),
  .asg false 0 (.op .add [.var 0, .op .lst [.call 10 [.var 5, .var 2], .call 10 [.var 2, .var 5], .call 10 [.var 5, .var 3], .call 10 [.var 3, .var 5]]]),
  .asg false 0 (.op .add [.var 0, .op .lst [.call 10 [.op .tup [.op .tup [.op .tup [.cst (.str [97])], .cst (.int 1)]], .op .tup [.op .tup [.op .tup [.cst (.str [97])], .cst (.int 7)]]]]]),
  .asg false 1 (.op .add [.var 1, .op .lst [.op .tup [], .op .toTup [.cst (.str [97, 98, 99, 100, 101, 102])], .op .tup [.cst (.str [100])], .op .toTup [.cst (.str [97, 98, 99, 100, 101, 102])], .op .tup []]]),
  .asgT [.v 9, .v 10] [.op .toTup [.call 16 [.cst (.int 24)]], .op .pow [.cst (.int 10), .cst (.int 40)]],
  .asg false 4 (.op .tup [.op .tup [.op (.sl false true) [.var 9, .cst (.int 12)], .cst (.int 11)], .op .tup [.op (.sl true false) [.var 9, .cst (.int 12)], .var 10]]),
  .asg false 0 (.op .add [.var 0, .op .lst [.call 8 [.var 4, .op .tup [.op .tup [.var 9, .cst (.int 23)]], .cst (.str [98, 97])], .call 9 [.var 4, .op .tup [.op .tup [.var 9, .var 10]], .cst (.str [98, 120])]]]),
  .asg false 0 (.op .add [.var 0, .op .lst [.call 9 [.var 4, .op .tup [.op .tup [.var 9, .var 10]], .cst (.str [98, 97])], .call 9 [.op .tup [.op .tup [.var 9, .var 10]], .var 4, .cst (.str [98, 97])]]]),
  .asg false 0 (.op .add [.var 0, .op .lst [.op .eq [.call 10 [.var 4, .op .tup [.op .tup [.var 9, .cst (.int 23)]]], .op (.sl true false) [.var 9, .cst (.int 12)]], .op .eq [.call 10 [.var 4, .op .tup [.op .tup [.var 9, .cst (.int 22)]]], .var 9]]]),
  .asg false 0 (.op .add [.var 0, .op .lst [.call 10 [.var 4, .op .tup [.op .tup [.var 9, .cst (.int 24)]]]]]),
  .asg false 1 (.op .add [.var 1, .op .lst [.cst (.int 12), .cst (.int 0), .op .sub [.var 10, .cst (.int 11)], .op .sub [.cst (.int 11), .var 10], .cst (.bl true), .cst (.bl true), .op .tup []]]),
  .asg false 0 (.op .add [.op .add [.var 0, .lc [12] (.v 12) .seq [.op .tup [.cst (.int 0), .cst (.int 1)]] [] (.call 23 [.var 12, .var 5, .var 6, .cst (.str [120])])], .lc [12] (.v 12) .range [.cst (.int 3)] [] (.call 23 [.var 12, .var 5, .op (.sl false true) [.var 3, .cst (.int 2)], .cst (.str [120])])]),
  .asg false 1 (.op .add [.op .add [.var 1, .op .mul [.op .lst [.op .lst [.cst (.str [120]), .cst (.bl true)]], .cst (.int 2)]], .op .mul [.op .lst [.op .lst [.cst (.str [117, 110, 108, 105, 107, 101]), .cst (.bl true)]], .cst (.int 3)]]),
  .asg false 0 (.op .add [.var 0, .op .lst [.callk 8 [.cst (.str [97]), .call 14 [.var 6], .call 14 [.var 5]] [2, 1, 0]]]),
  .asg false 0 (.op .add [.var 0, .op .lst [.callk 9 [.cst (.str [97]), .call 14 [.var 6], .call 14 [.var 5]] [2, 1, 0]]]),
  .asg false 0 (.op .add [.var 0, .op .lst [.callk 10 [.call 14 [.var 6], .call 14 [.var 5]] [1, 0]]]),
  .ret (.call 15 [.var 0, .op .add [.var 1, .op .lst [.cst (.int 3), .cst (.int 2), .op .toTup [.cst (.str [97, 98, 99, 100, 101, 102])]]]])]⟩
def f__law_case_right : Fn := ⟨1, 7, [true], [.asgP [.v 3, .v 4, .v 5] (.call 19 [.brw 0, .cst (.int 12), .cst (.int 6)]),
  .asg false 1 (.op .lst [.lc [6] (.v 6) .seq [.var 5] [] (.call 8 [.var 3, .var 4, .var 6]), .lc [6] (.v 6) .seq [.var 5] [] (.call 9 [.var 3, .var 4, .var 6])]),
  .asg false 1 (.op .add [.var 1, .op .lst [.call 10 [.var 3, .var 4], .call 10 [.call 14 [.var 3], .call 14 [.var 4]]]]),
  .asg false 2 (.op .lst [.lc [6] (.v 6) .seq [.var 5] [] (.call 20 [.var 3, .var 4, .var 6])]),
  .asg false 2 (.op .add [.var 2, .op .lst [.lc [6] (.v 6) .seq [.var 5] [] (.op .sub [.op .idx [.call 18 [.var 4, .var 6], .cst (.int 1)], .op .idx [.call 18 [.var 3, .var 6], .cst (.int 1)]])]]),
  .asg false 2 (.op .add [.var 2, .op .lst [.call 21 [.var 3, .var 4], .call 21 [.var 3, .var 4]]]),
  .asg false 1 (.op .add [.var 1, .op .lst [.call 23 [.cst (.int 0), .var 3, .var 4, .cst (.str [122, 122])], .call 23 [.cst (.int 0), .var 3, .op .add [.var 4, .op .tup [.op .tup [.op .tup [.cst (.str [122, 122])], .cst (.int 1)]]], .cst (.str [122, 121])]]]),
  .asg false 1 (.op .add [.var 1, .op .lst [.call 23 [.cst (.int 2), .op .add [.var 3, .op .tup [.op .tup [.op .tup [.cst (.str [122, 122])], .cst (.int 1)]]], .var 4, .cst (.str [122, 121])]]]),
  .ret (.call 15 [.var 1, .op .add [.var 2, .op .lst [.op .lst [.cst (.str [122, 122]), .cst (.bl true)], .op .lst [.cst (.str [117, 110, 108, 105, 107, 101]), .cst (.bl true)], .op .lst [.cst (.str [117, 110, 108, 105, 107, 101]), .cst (.bl true)]]]])]⟩
def f__law_right : Fn := ⟨1, 2, [true], [.ret (.op .all [.lc [1] (.v 1) .range [.cst (.int 10)] [] (.call 25 [.brw 0])])]⟩
def f_law : Fn := ⟨1, 3, [false], [.ifs (.op .not_ [.call 24 []]) [.ret (.cst (.bl false))] [],
  .asg false 1 (.call 13 [.var 0, .cst (.int 3)]),
  .ret (.op .all [.lc [2] (.v 2) .range [.op .len [.var 1]] [] (.call 26 [.call 11 [.var 1, .var 2]])])]⟩
def fns : List Fn := [f_tupled, f_set_of, f_blocks, f_check_alike, f_check_block, f_room_of, f_homes_of, f_strange_to, f_outside, f_spare, f_against, f__law_box, f__law_take, f__law_cells, f__law_lists, f__law_same, f__law_tags, f__law_shelf, f__law_lot, f__law_two, f__law_strange, f__law_bad, f__law_hand, f__law_heard, f__law_by_hand_right, f__law_case_right, f__law_right, f_law]
end Ev.K64
end
section
set_option linter.all false
set_option maxRecDepth 100000
namespace Ev
section
variable {α β : Type}
@[simp] theorem bind_ok (a : α) (ρ : Env) (f : α → Env → Out β) : (Out.ok a ρ).bind f = f a ρ := rfl
@[simp] theorem fl_ok (a : α) (ρ : Env) (f : α → Env → Fl) : (Out.ok a ρ).fl f = f a ρ := rfl
@[simp] theorem tru_bl (b : Bool) (ρ : Env) : tru (.ok (.sh (.bl b)) ρ) = .ok b ρ := rfl
@[simp] theorem tru_own (ts : List T) (ρ : Env) : tru (.ok (.own ts) ρ) = .ok (!ts.isEmpty) ρ := rfl
@[simp] theorem tru_lst (ts : List T) (ρ : Env) : tru (.ok (.sh (.lst ts)) ρ) = .ok (!ts.isEmpty) ρ := rfl
@[simp] theorem tru_tup (ts : List T) (ρ : Env) : tru (.ok (.sh (.tup ts)) ρ) = .ok (!ts.isEmpty) ρ := rfl
@[simp] theorem truth_bl (b : Bool) : truth (.bl b) = some b := rfl
@[simp] theorem truth_lst (ts : List T) : truth (.lst ts) = some (!ts.isEmpty) := rfl
@[simp] theorem truth_tup (ts : List T) : truth (.tup ts) = some (!ts.isEmpty) := rfl
@[simp] theorem getR_0 (a : Option R) (ρ : Env) : getR (a :: ρ) 0 = a := by cases a <;> rfl
@[simp] theorem getR_s (a : Option R) (ρ : Env) (i : Nat) : getR (a :: ρ) (i + 1) = getR ρ i := by simp [getR]
@[simp] theorem setR_0 (a : Option R) (ρ : Env) (r : R) : setR (a :: ρ) 0 r = some r :: ρ := rfl
@[simp] theorem setR_s (a : Option R) (ρ : Env) (i : Nat) (r : R) : setR (a :: ρ) (i + 1) r = a :: setR ρ i r := rfl
@[simp] theorem t_sh (t : T) : (R.sh t).t = t := rfl
@[simp] theorem t_own (ts : List T) : (R.own ts).t = .lst ts := rfl
@[simp] theorem t_box (ts : List T) : (R.box ts).t = .lst ts := rfl
@[simp] theorem b_sh (t : T) : (R.sh t).isBox = false := rfl
@[simp] theorem b_own (ts : List T) : (R.own ts).isBox = false := rfl
@[simp] theorem b_own2 (ts : List (List T)) : (R.own2 ts).isBox = false := rfl
@[simp] theorem b_ownD (a b : List T) : (R.ownD a b).isBox = false := rfl
@[simp] theorem b_box (ts : List T) : (R.box ts).isBox = true := rfl
@[simp] theorem share_of {ρ : Env} {i : Nat} {t : T} (h : getR ρ i = some (.sh t)) : share ρ i = .ok (.sh t) ρ := by simp [share, h]
@[simp] theorem argTs_nil (ρ : Env) : argTs ρ [] = some [] := rfl
@[simp] theorem argTs_val (ρ : Env) (r : R) (as : List Arg) : argTs ρ (.val r :: as) = (argTs ρ as).map (r.t :: ·) := rfl
@[simp] theorem argTs_star (ρ : Env) (ts : List T) (as : List Arg) : argTs ρ (.star ts :: as) = (argTs ρ as).map (ts ++ ·) := rfl
@[simp] theorem argTs_slot (ρ : Env) (i : Nat) (as : List Arg) : argTs ρ (.slot i :: as) = (Arg.t ρ (.slot i)).bind fun xs => (argTs ρ as).map (xs ++ ·) := rfl
@[simp] theorem argt_own {ρ : Env} {i : Nat} {ts : List T} (h : getR ρ i = some (.own ts)) : Arg.t ρ (.slot i) = some [.lst ts] := by simp [Arg.t, h]
@[simp] theorem argt_box {ρ : Env} {i : Nat} {ts : List T} (h : getR ρ i = some (.box ts)) : Arg.t ρ (.slot i) = some [.lst ts] := by simp [Arg.t, h]
@[simp] theorem argt_sh {ρ : Env} {i : Nat} {t : T} (h : getR ρ i = some (.sh t)) : Arg.t ρ (.slot i) = some [t] := by simp [Arg.t, h]
@[simp] theorem argt_dct {ρ : Env} {i : Nat} {a b : List T} (h : getR ρ i = some (.ownD a b)) : Arg.t ρ (.slot i) = some [.dct a b] := by simp [Arg.t, h]
@[simp] theorem fin_some (r : R) (ρ : Env) : fin (some r) ρ = .ok r ρ := rfl
@[simp] theorem opt'_some (ρ : Env) : opt' (some ρ) = .nx ρ := rfl
/-- a slot that holds nothing, or something shared -/
def gS (o : Option T) : Option R := o.map .sh
def boxO : Option R → Bool
  | some (.box _) => true
  | _ => false
@[simp] theorem boxO_g (o : Option T) : boxO (gS o) = false := by cases o <;> rfl
@[simp] theorem boxO_n : boxO none = false := rfl
@[simp] theorem boxO_s (t : T) : boxO (some (.sh t)) = false := rfl
@[simp] theorem boxO_o (ts : List T) : boxO (some (.own ts)) = false := rfl
@[simp] theorem boxO_o2 (ts : List (List T)) : boxO (some (.own2 ts)) = false := rfl
@[simp] theorem boxO_d (a b : List T) : boxO (some (.ownD a b)) = false := rfl
@[simp] theorem boxO_b (ts : List T) : boxO (some (.box ts)) = true := rfl
@[simp] theorem obox_g (o : Option T) : obox (gS o) = none := by cases o <;> rfl
@[simp] theorem put1_0 (a : Option R) (ρ : Env) (r : R) : put1 (a :: ρ) 0 r = if boxO a || r.isBox then none else some (some r :: ρ) := by
  unfold put1
  cases a with
  | none => cases h : r.isBox <;> simp [h, boxO]
  | some x => cases x <;> cases h : r.isBox <;> simp [h, boxO]
@[simp] theorem put1_s (a : Option R) (ρ : Env) (i : Nat) (r : R) : put1 (a :: ρ) (i + 1) r = (put1 ρ i r).map (a :: ·) := by
  unfold put1
  simp only [List.getElem?_cons_succ, List.set_cons_succ]
  cases ρ[i]? with
  | none => rfl
  | some x =>
    cases x with
    | none => cases h : r.isBox <;> simp
    | some y => cases y <;> cases h : r.isBox <;> simp
def calmB : Option R → Bool
  | none => true
  | some (.sh _) => true
  | _ => false
@[simp] theorem calmB_n : calmB none = true := rfl
@[simp] theorem calmB_s (t : T) : calmB (some (.sh t)) = true := rfl
@[simp] theorem calmB_g (o : Option T) : calmB (gS o) = true := by cases o <;> rfl
@[simp] theorem calmAt_0 (a : Option R) (ρ : Env) : calmAt (a :: ρ) 0 = calmB a := by
  unfold calmAt
  rw [getR_0]
  cases a with
  | none => rfl
  | some x => cases x <;> rfl
@[simp] theorem calmAt_s (a : Option R) (ρ : Env) (i : Nat) : calmAt (a :: ρ) (i + 1) = calmAt ρ i := by
  unfold calmAt
  rw [getR_s]
end
theorem forL_inv {put : T → Env → Option Env} {body : Env → Fl} (P : List T → Env → Prop) : ∀ (xs : List T) (ρ : Env), P xs ρ →
    (∀ x xs ρ, P (x :: xs) ρ → ∃ ρ1 ρ2, put x ρ = some ρ1 ∧ (body ρ1 = .nx ρ2 ∨ body ρ1 = .ct ρ2) ∧ P xs ρ2) → ∃ ρ', forL put body xs ρ = .nx ρ' ∧ P [] ρ'
  | [], ρ, h, _ => ⟨ρ, rfl, h⟩
  | x :: xs, ρ, h, st => by
    obtain ⟨ρ1, ρ2, h1, h2, h3⟩ := st x xs ρ h
    obtain ⟨ρ', k1, k2⟩ := forL_inv P xs ρ2 h3 st
    refine ⟨ρ', ?_, k2⟩
    unfold forL
    rw [h1]
    rcases h2 with h2 | h2 <;> (simp only [h2]; exact k1)
/-- a comprehension that changes nothing -/
theorem compL_map {f : T → Env → Out (List T)} {g : T → List T} {ρ : Env} : ∀ (xs acc : List T), (∀ x ∈ xs, f x ρ = .ok (g x) ρ) → (acc ++ xs.flatMap g).length ≤ line → compL f xs acc ρ = .ok (acc ++ xs.flatMap g) ρ
  | [], acc, _, _ => by simp [compL]
  | x :: xs, acc, h, hl => by
    unfold compL
    rw [h x List.mem_cons_self]
    rw [List.flatMap_cons, ← List.append_assoc] at hl
    have : (acc ++ g x).length ≤ line := by
      rw [List.length_append] at hl
      omega
    simp only [if_pos this]
    rw [compL_map xs (acc ++ g x) (fun y hy => h y (List.mem_cons_of_mem _ hy)) hl, List.flatMap_cons, List.append_assoc]
/-- one that carries something on -/
theorem compL_inv {f : T → Env → Out (List T)} (P : List T → List T → Env → Prop) : ∀ (xs acc : List T) (ρ : Env), P xs acc ρ →
    (∀ x xs acc ρ, P (x :: xs) acc ρ → ∃ ys ρ1, f x ρ = .ok ys ρ1 ∧ (acc ++ ys).length ≤ line ∧ P xs (acc ++ ys) ρ1) → ∃ ys ρ', compL f xs acc ρ = .ok ys ρ' ∧ P [] ys ρ'
  | [], acc, ρ, h, _ => ⟨acc, ρ, rfl, h⟩
  | x :: xs, acc, ρ, h, st => by
    obtain ⟨ys, ρ1, h1, h2, h3⟩ := st x xs acc ρ h
    obtain ⟨zs, ρ', k1, k2⟩ := compL_inv P xs (acc ++ ys) ρ1 h3 st
    refine ⟨zs, ρ', ?_, k2⟩
    unfold compL
    rw [h1]
    simp only [if_pos h2]
    exact k1
mutual
/-- no list in it is too long -/
def szT : T → Bool
  | .tup ts => Nat.ble ts.length 16000000 && szTs ts
  | .lst ts => Nat.ble ts.length 16000000 && szTs ts
  | _ => true
def szTs : List T → Bool
  | [] => true
  | t :: ts => szT t && szTs ts
end
/-- shallow and small -/
def okD (n : Nat) (t : T) : Prop := fit n t = true ∧ szT t = true
theorem fits_all {n : Nat} : ∀ {ts : List T}, fits n ts = true ↔ ∀ t ∈ ts, fit n t = true
  | [] => by simp [fits]
  | t :: ts => by simp [fits, fits_all (ts := ts)]
theorem szTs_all : ∀ {ts : List T}, szTs ts = true ↔ ∀ t ∈ ts, szT t = true
  | [] => by simp [szTs]
  | t :: ts => by simp [szTs, szTs_all (ts := ts)]
theorem okD_tup {n : Nat} {ts : List T} : okD (n + 1) (.tup ts) ↔ ts.length ≤ 16000000 ∧ ∀ t ∈ ts, okD n t := by
  unfold okD
  simp only [fit, szT, Bool.and_eq_true, fits_all, szTs_all, Nat.ble_eq]
  constructor
  · rintro ⟨h1, h2, h3⟩
    exact ⟨h2, fun t ht => ⟨h1 t ht, h3 t ht⟩⟩
  · rintro ⟨h2, h⟩
    exact ⟨fun t ht => (h t ht).1, h2, fun t ht => (h t ht).2⟩
theorem okD_lst {n : Nat} {ts : List T} : okD (n + 1) (.lst ts) ↔ ts.length ≤ 16000000 ∧ ∀ t ∈ ts, okD n t := by
  unfold okD
  simp only [fit, szT, Bool.and_eq_true, fits_all, szTs_all, Nat.ble_eq]
  constructor
  · rintro ⟨h1, h2, h3⟩
    exact ⟨h2, fun t ht => ⟨h1 t ht, h3 t ht⟩⟩
  · rintro ⟨h2, h⟩
    exact ⟨fun t ht => (h t ht).1, h2, fun t ht => (h t ht).2⟩
theorem okD_str {n : Nat} {s : List Nat} : okD n (.str s) := ⟨by cases n <;> rfl, rfl⟩
theorem okD_int {n : Nat} {i : Int} : okD n (.int i) := ⟨by cases n <;> rfl, rfl⟩
theorem okD_bl {n : Nat} {b : Bool} : okD n (.bl b) := ⟨by cases n <;> rfl, rfl⟩
theorem okD_non {n : Nat} : okD n .non := ⟨by cases n <;> rfl, rfl⟩
theorem tcmp_self : ∀ t : T, tcmp t t = .eq := fun t => by
  have s := tcmp_sw t t
  cases q : tcmp t t <;> rw [q] at s <;> first | rfl | cases s
theorem teq_self (t : T) : teq t t = true := by
  unfold teq
  rw [tcmp_self]
  rfl
end Ev
end
section
set_option linter.all false
set_option maxRecDepth 100000
namespace Ev
def takeFn : Fn := ⟨2, 6, [true, false], [.ifs (.op .gt [.op .idx [.brw 0, .cst (.int 0)], .cst (.int 0)]) [.asg false 5 (.op .mod [.op .toInt [.op .idx [.brw 0, .cst (.int 0)]], .var 1]), .setI 0 (.cst (.int 0)) (.op .fdiv [.op .idx [.brw 0, .cst (.int 0)], .var 1]), .retV 5] [],
  .setI 0 (.cst (.int 2)) (.op .add [.op .idx [.brw 0, .cst (.int 2)], .cst (.int 1)]),
  .asg false 2 (.op .mod [.op .toInt [.op .mul [.op .add [.op .idx [.brw 0, .cst (.int 1)], .op .mul [.cst (.int 48271), .op .idx [.brw 0, .cst (.int 2)]]], .op .add [.cst (.int 39373), .op .idx [.brw 0, .cst (.int 2)]]]], .cst (.int 2147483647)]),
  .asg false 3 (.op .add [.op .mod [.op .toInt [.var 2], .cst (.int 40009)], .cst (.int 7)]),
  .asg false 4 (.op .mod [.op .toInt [.op .mul [.op .add [.op .add [.var 2, .op .idx [.brw 0, .cst (.int 2)]], .op .fdiv [.op .idx [.brw 0, .cst (.int 1)], .cst (.int 1000003)]], .var 3]], .cst (.int 2147483629)]),
  .ret (.op .mod [.op .toInt [.op .fdiv [.op .mod [.op .toInt [.op .add [.op .mul [.var 4, .cst (.int 48271)], .var 2]], .cst (.int 2147483587)], .cst (.int 64)]], .var 1])]⟩
/-- the source of draws, good for k more -/
def Tin (k : Nat) (ts : List T) : Prop := ∃ a b c : Int, ts = [.int a, .int b, .int c] ∧ 0 ≤ a ∧ 0 ≤ c ∧ c + k ≤ 2 ^ 60
theorem Tin.le {k j : Nat} {ts : List T} (h : Tin k ts) (l : j ≤ k) : Tin j ts := by
  obtain ⟨a, b, c, e, h1, h2, h3⟩ := h
  exact ⟨a, b, c, e, h1, h2, by omega⟩
theorem log_small {j : Int} (h0 : 0 ≤ j) (h : j < 2 ^ 200) : j.natAbs.log2 < 9000 := by
  by_cases z : j.natAbs = 0
  · rw [z]; decide
  · exact Nat.lt_trans ((Nat.log2_lt z).mpr (show j.natAbs < 2 ^ 200 by omega)) (by decide)
theorem mul_r {i j : Int} (h : j.natAbs < 2 ^ 64) : o_mul [.int i, .int j] = some (.sh (.int (i * j))) := by
  simp [o_mul, h, shI]
theorem mul_l {i j : Int} (h : i.natAbs < 2 ^ 64) : o_mul [.int i, .int j] = some (.sh (.int (i * j))) := by
  simp [o_mul, h, shI]
theorem take_ok {fns : List Fn} {n i k : Nat} {ts : List T} {top : Int} (hf : fns[i]? = some takeFn) (h : Tin (k + 1) ts) (h0 : 0 < top) (h1 : top < 2 ^ 200) :
    ∃ v us, run fns (n + 1) i [.box ts, .sh (.int top)] = .ok (.sh (.int v)) [some (.box us), none] ∧ 0 ≤ v ∧ v < top ∧ Tin k us := by
  obtain ⟨a, b, c, rfl, ha, hc, hk⟩ := h
  have lg := log_small (Int.le_of_lt h0) h1
  have e0 : run fns (n + 1) i [.box [.int a, .int b, .int c], .sh (.int top)] = outF 2 (exs (run fns n) takeFn.body [some (.box [.int a, .int b, .int c]), some (.sh (.int top)), none, none, none, none]) := by
    simp only [run, hf]
    rfl
  rw [e0]
  by_cases q : 0 < a
  · refine ⟨a % top, [.int (a / top), .int b, .int c], ?_, Int.emod_nonneg _ (by omega), Int.emod_lt_of_pos _ h0, _, _, _, rfl, Int.ediv_nonneg ha (by omega), hc, by omega⟩
    simp [takeFn, exs, ex, ev, evs, evOp, o_gt, o_idx, o_toInt, o_mod, o_fdiv, atI, ixN, shI, shB, q, h0, lg, isOwn, outF, obox]
  · have q' : ¬ a > 0 := q
    have m1 : (39373 + (c + 1)).natAbs < 2 ^ 64 := by omega
    have m2 : ∀ z : Int, (z % 40009 + 7).natAbs < 2 ^ 64 := fun z => by
      have h1 := Int.emod_nonneg z (show (40009 : Int) ≠ 0 by decide)
      have h2 := Int.emod_lt_of_pos z (show (0 : Int) < 40009 by decide)
      omega
    refine ⟨(((((b + 48271 * (c + 1)) * (39373 + (c + 1)) % 2147483647 + (c + 1) + b / 1000003) * ((b + 48271 * (c + 1)) * (39373 + (c + 1)) % 2147483647 % 40009 + 7) % 2147483629 * 48271 + (b + 48271 * (c + 1)) * (39373 + (c + 1)) % 2147483647) % 2147483587) / 64) % top, [.int a, .int b, .int (c + 1)], ?_, Int.emod_nonneg _ (by omega), Int.emod_lt_of_pos _ h0, _, _, _, rfl, ha, by omega, by omega⟩
    have k1 : (48271 : Int).natAbs < 2 ^ 64 := by decide
    have l1 : Nat.log2 1000003 < 9000 := by decide +kernel
    have l2 : Nat.log2 64 < 9000 := by decide +kernel
    simp [takeFn, exs, ex, ev, evs, evOp, o_gt, o_idx, o_toInt, o_mod, o_fdiv, o_add, mul_r m1, mul_r (m2 _), mul_l k1, mul_r k1, l1, l2, atI, ixN, shI, shB, q, h0, lg, isOwn, outF, obox]
/-- a call that lends the list at slot j -/
theorem lend_ok {cf : CallF} {f : Nat} {ρ : Env} {j : Nat} {ts us : List T} {x : R} {r : R} {z : Option R} (h : getR ρ j = some (.own ts) ∨ getR ρ j = some (.box ts)) (hx : x.isBox = false) (hr : r.isBox = false) (hc : cf f [.box ts, x] = .ok r [some (.box us), z]) :
    callF cf f [.slot j, .val x] ρ = .ok r (setR ρ j (match getR ρ j with
      | some (.own _) => .own us
      | _ => .box us)) := by
  rcases h with h | h <;> simp [callF, argRs, lentAt, h, hx, hr, hc]
theorem val1_ok {cf : CallF} {f : Nat} {ρ ρ1 : Env} {x r : R} (hx : x.isBox = false) (hr : r.isBox = false) (hc : cf f [x] = .ok r ρ1) : callF cf f [.val x] ρ = .ok r ρ := by
  simp [callF, argRs, lentAt, hx, hr, hc]
theorem val2_ok {cf : CallF} {f : Nat} {ρ ρ1 : Env} {x y r : R} (hx : x.isBox = false) (hy : y.isBox = false) (hr : r.isBox = false) (hc : cf f [x, y] = .ok r ρ1) : callF cf f [.val x, .val y] ρ = .ok r ρ := by
  simp [callF, argRs, lentAt, hx, hy, hr, hc]
def tagsFn : Fn := ⟨1, 2, [false], [.ret (.op (.sl false true) [.lc [1] (.v 1) .seq [.cst (.str [97, 98, 99, 100, 101, 102, 103, 104, 105, 106, 107, 108, 109, 110, 111, 112, 113, 114, 115, 116, 117, 118, 119, 120])] [] (.op .add [.cst (.str [98]), .var 1]), .var 0])]⟩
def tagsL : List (List Nat) := (List.range 24).map fun i => [98, 97 + i]
theorem tags_ok {fns : List Fn} {n i : Nat} {m : Nat} (hf : fns[i]? = some tagsFn) (hm : m ≤ 24) : run fns (n + 1) i [.sh (.int m)] = .ok (.own ((tagsL.take m).map .str)) [none] := by
  have e0 : run fns (n + 1) i [.sh (.int m)] = outF 1 (exs (run fns n) tagsFn.body [some (.sh (.int m)), none]) := by
    simp only [run, hf]
    rfl
  rw [e0]
  have key : ev (run fns n) (.lc [1] (.v 1) .seq [.cst (.str [97, 98, 99, 100, 101, 102, 103, 104, 105, 106, 107, 108, 109, 110, 111, 112, 113, 114, 115, 116, 117, 118, 119, 120])] [] (.op .add [.cst (.str [98]), .var 1])) [some (.sh (.int m)), none] = .ok (.own (tagsL.map .str)) [some (.sh (.int m)), none] := by
    simp only [ev, evs, bind_ok, argTs_val, argTs_nil, Option.map_some, t_sh, walk, seqOf]
    rw [compL_map (g := fun x => match x with
      | .str s => [.str (98 :: s)]
      | _ => [])]
    · simp [tagsL, List.range_succ]
    · intro x hx
      simp only [List.map_cons, List.map_nil] at hx
      obtain ⟨c, rfl⟩ : ∃ c, x = .str [c] := by
        simp only [List.mem_cons, List.not_mem_nil, or_false] at hx
        rcases hx with h | h | h | h | h | h | h | h | h | h | h | h | h | h | h | h | h | h | h | h | h | h | h | h <;> exact ⟨_, h⟩
      simp [hide, wipe, putP, evc, ev, evs, evOp, o_add, line, unwipe]
    · simp [line]
  have cutt : cut (tagsL.map T.str) none (some (m : Int)) = (tagsL.take m).map T.str := by
    have l24 : (tagsL.map T.str).length = 24 := by simp [tagsL]
    unfold cut
    simp only [sIx, l24]
    have h0 : ¬ ((m : Int) < 0) := by omega
    simp only [h0, if_false, Int.toNat_natCast, List.drop_zero, Nat.sub_zero]
    rw [Nat.min_eq_left hm, List.map_take]
  simp only [tagsFn, exs, ex]
  rw [show ev (run fns n) (.op (.sl false true) [.lc [1] (.v 1) .seq [.cst (.str [97, 98, 99, 100, 101, 102, 103, 104, 105, 106, 107, 108, 109, 110, 111, 112, 113, 114, 115, 116, 117, 118, 119, 120])] [] (.op .add [.cst (.str [98]), .var 1]), .var 0]) [some (.sh (.int m)), none] = .ok (.own ((tagsL.take m).map .str)) [some (.sh (.int m)), none] by
    rw [ev, evs]
    · rw [key]
      simp [ev, evs, evOp, o_sl, opt, cutt]
    all_goals (intros; simp_all)]
  simp [outF, obox]
def sameFn (j : Nat) : Fn := ⟨2, 5, [false, false], [.ifs (.op (.isi [.list, .tuple]) [.var 1]) [.ifs (.or_ (.op .ne [.op (.isi [.list]) [.var 0], .op (.isi [.list]) [.var 1]]) (.op .ne [.op (.isi [.tuple]) [.var 0], .op (.isi [.tuple]) [.var 1]])) [.ret (.cst (.bl false))] [], .ret (.and_ (.op .eq [.op .len [.var 0], .op .len [.var 1]]) (.op .all [.lc [3, 4] (.t [.v 3, .v 4]) .zip [.var 0, .var 1] [] (.call j [.var 3, .var 4])]))] [],
  .ifs (.op (.isi [.dict]) [.var 1]) [.ifs (.or_ (.op .not_ [.op (.isi [.dict]) [.var 0]]) (.op .ne [.op .sorted [.var 0], .op .sorted [.var 1]])) [.ret (.cst (.bl false))] [], .ret (.op .all [.lc [2] (.v 2) .seq [.var 1] [] (.call j [.op .idx [.var 0, .var 2], .op .idx [.var 1, .var 2]])])] [],
  .ifs (.or_ (.op .isN [.var 1]) (.op (.isi [.bool, .str]) [.var 1])) [.ret (.and_ (.op .eq [.var 0, .var 1]) (.and_ (.op .eq [.op (.isi [.bool]) [.var 0], .op (.isi [.bool]) [.var 1]]) (.op .eq [.op .isN [.var 0], .op .isN [.var 1]])))] [],
  .ret (.and_ (.op (.isi [.int]) [.var 0]) (.and_ (.op .not_ [.op (.isi [.bool]) [.var 0]]) (.op .eq [.var 0, .var 1])))]⟩
theorem run2_sh {fns : List Fn} {n i : Nat} {d : Fn} {x y : R} (hf : fns[i]? = some d) (hm : d.ms = [false, false]) (hx : x.isBox = false) (hy : y.isBox = false) : run fns (n + 1) i [x, y] = run fns (n + 1) i [.sh x.t, .sh y.t] := by
  simp [run, hf, hm, entry, hx, hy]
theorem pairs_self : ∀ ts : List T, pairs ts ts = ts.map fun t => .tup [t, t]
  | [] => rfl
  | t :: ts => by simp [pairs, pairs_self ts]
theorem flat1 {α β : Type} (f : α → β) : ∀ xs : List α, xs.flatMap (fun x => [f x]) = xs.map f
  | [] => rfl
  | x :: xs => by simp [List.flatMap_cons, flat1 f xs]
theorem bools_rep {ts : List T} : boolsT (ts.flatMap fun _ => [T.bl true]) = some (ts.map fun _ => true) := by
  induction ts with
  | nil => rfl
  | cons t ts ih => simp [List.flatMap_cons, boolsT, ih]
theorem same_list {fns : List Fn} {n i : Nat} {ts : List T} (hf : fns[i]? = some (sameFn i)) (hl : ts.length ≤ 16000000) (ih : ∀ t ∈ ts, run fns n i [.sh t, .sh t] = .ok (.sh (.bl true)) [none, none]) (a b : T) (hab : (a = .tup ts ∧ b = .tup ts) ∨ (a = .lst ts ∧ b = .lst ts)) :
    ev (run fns n) (.op .all [.lc [3, 4] (.t [.v 3, .v 4]) .zip [.var 0, .var 1] [] (.call i [.var 3, .var 4])]) [some (.sh a), some (.sh b), none, none, none] = .ok (.sh (.bl true)) [some (.sh a), some (.sh b), none, none, none] := by
  have key : ev (run fns n) (.lc [3, 4] (.t [.v 3, .v 4]) .zip [.var 0, .var 1] [] (.call i [.var 3, .var 4])) [some (.sh a), some (.sh b), none, none, none] = .ok (.own (ts.flatMap fun _ => [T.bl true])) [some (.sh a), some (.sh b), none, none, none] := by
    have hw : walk .zip [a, b] = some (ts.map fun t => .tup [t, t]) := by
      rcases hab with ⟨rfl, rfl⟩ | ⟨rfl, rfl⟩ <;> simp [walk, pairs_self]
    simp only [ev, evs, bind_ok, share_of (getR_0 _ _), share_of (show getR [some (R.sh a), some (R.sh b), none, none, none] 1 = some (.sh b) from rfl), argTs_val, argTs_nil, Option.map_some, t_sh, hw]
    rw [compL_map (g := fun _ => [T.bl true])]
    · simp [List.flatMap_map]
    · intro x hx
      obtain ⟨t, ht, rfl⟩ := List.mem_map.mp hx
      simp [hide, wipe, putP, putPs, evc, ev, evs, unwipe, val2_ok (ρ1 := [none, none]) rfl rfl rfl (ih t ht)]
    · rw [flat1]
      simp only [List.nil_append, List.length_map]
      exact Nat.le_trans hl (by decide)
  rw [ev, evs]
  · rw [key]
    simp [evs, evOp, o_all, bools_rep, shB]
  all_goals (intros; simp_all)
theorem same_ok {fns : List Fn} {i : Nat} (hf : fns[i]? = some (sameFn i)) : ∀ (d n : Nat) (t : T), d ≤ 59 → okD d t → run fns (n + d + 1) i [.sh t, .sh t] = .ok (.sh (.bl true)) [none, none] := by
  intro d
  induction d with
  | zero =>
    intro n t hd h
    have e0 : run fns (n + 0 + 1) i [.sh t, .sh t] = outF 2 (exs (run fns n) (sameFn i).body [some (.sh t), some (.sh t), none, none, none]) := by
      simp only [Nat.add_zero, run, hf]
      rfl
    rw [e0]
    obtain ⟨h1, h2⟩ := h
    cases t <;> simp [fit] at h1 <;> simp [sameFn, exs, ex, ev, evs, evOp, o_isi, isTy, shB, o_isN, isNon, o_eq, fit, teq_self, o_not_, outF, obox]
  | succ d ihd =>
    intro n t hd h
    have e0 : run fns (n + (d + 1) + 1) i [.sh t, .sh t] = outF 2 (exs (run fns (n + d + 1)) (sameFn i).body [some (.sh t), some (.sh t), none, none, none]) := by
      rw [show n + (d + 1) + 1 = (n + d + 1) + 1 by omega]
      simp only [run, hf]
      rfl
    rw [e0]
    have ih := fun t => ihd n t (by omega)
    cases t with
    | tup ts =>
      obtain ⟨hl, hs⟩ := okD_tup.mp h
      have key := same_list (n := n + d + 1) hf hl (fun t ht => ih t (hs t ht)) (.tup ts) (.tup ts) (.inl ⟨rfl, rfl⟩)
      simp [sameFn, exs, ex, ev, evs, evOp, o_isi, isTy, shB, o_ne, o_eq, o_len, shI, fit, teq_self] at key ⊢
      simp [key, outF, obox]
    | lst ts =>
      obtain ⟨hl, hs⟩ := okD_lst.mp h
      have key := same_list (n := n + d + 1) hf hl (fun t ht => ih t (hs t ht)) (.lst ts) (.lst ts) (.inr ⟨rfl, rfl⟩)
      simp [sameFn, exs, ex, ev, evs, evOp, o_isi, isTy, shB, o_ne, o_eq, o_len, shI, fit, teq_self] at key ⊢
      simp [key, outF, obox]
    | dct a b => exact absurd h.1 (by simp [fit])
    | fz a => exact absurd h.1 (by simp [fit])
    | err a b => exact absurd h.1 (by simp [fit])
    | _ => simp [sameFn, exs, ex, ev, evs, evOp, o_isi, isTy, shB, o_isN, isNon, o_eq, fit, teq_self, o_not_, outF, obox]
end Ev
end
section
set_option linter.all false
set_option maxRecDepth 100000
namespace Ev
mutual
def tupT : T → T
  | .tup ts => .tup (tupTs ts)
  | .lst ts => .tup (tupTs ts)
  | t => t
def tupTs : List T → List T
  | [] => []
  | t :: ts => tupT t :: tupTs ts
end
mutual
def lstT : T → T
  | .tup ts => .lst (lstTs ts)
  | .lst ts => .lst (lstTs ts)
  | t => t
def lstTs : List T → List T
  | [] => []
  | t :: ts => lstT t :: lstTs ts
end
theorem tupTs_map : ∀ ts : List T, tupTs ts = ts.map tupT
  | [] => rfl
  | t :: ts => by simp [tupTs, tupTs_map ts]
theorem lstTs_map : ∀ ts : List T, lstTs ts = ts.map lstT
  | [] => rfl
  | t :: ts => by simp [lstTs, lstTs_map ts]
def tupledFn (j : Nat) : Fn := ⟨1, 2, [false], [.ret (.ifx (.op (.isi [.list, .tuple]) [.var 0]) (.op .toTup [.lc [1] (.v 1) .seq [.var 0] [] (.call j [.var 1])]) (.var 0))]⟩
def listsFn (j : Nat) : Fn := ⟨1, 2, [false], [.ret (.ifx (.op (.isi [.list, .tuple]) [.var 0]) (.lc [1] (.v 1) .seq [.var 0] [] (.call j [.var 1])) (.var 0))]⟩
/-- [f(x) for x in t] -/
theorem map_call {cf : CallF} {j : Nat} {t : T} {ts : List T} {g : T → T} (ht : seqOf t = some ts) (hl : ts.length ≤ 16000000) (h : ∀ x ∈ ts, ∃ r ρ, cf j [.sh x] = .ok r ρ ∧ r.isBox = false ∧ r.t = g x) :
    ev cf (.lc [1] (.v 1) .seq [.var 0] [] (.call j [.var 1])) [some (.sh t), none] = .ok (.own (ts.map g)) [some (.sh t), none] := by
  simp only [ev, evs, bind_ok, share_of (getR_0 _ _), argTs_val, argTs_nil, Option.map_some, t_sh, walk, ht]
  rw [compL_map (g := fun x => [g x])]
  · simp [flat1]
  · intro x hx
    obtain ⟨r, ρ, h1, h2, h3⟩ := h x hx
    simp [hide, wipe, putP, evc, ev, evs, unwipe, val1_ok rfl h2 h1, h2, h3]
  · rw [flat1]
    simp only [List.nil_append, List.length_map]
    exact Nat.le_trans hl (by decide)
theorem tupled_ok {fns : List Fn} {i : Nat} (hf : fns[i]? = some (tupledFn i)) : ∀ (d n : Nat) (t : T), okD d t → run fns (n + d + 1) i [.sh t] = .ok (.sh (tupT t)) [none] := by
  intro d
  induction d with
  | zero =>
    intro n t h
    have e0 : run fns (n + 0 + 1) i [.sh t] = outF 1 (exs (run fns n) (tupledFn i).body [some (.sh t), none]) := by
      simp only [Nat.add_zero, run, hf]
      rfl
    rw [e0]
    obtain ⟨h1, h2⟩ := h
    cases t <;> simp [fit] at h1 <;> simp [tupledFn, exs, ex, ev, evs, evOp, o_isi, isTy, shB, outF, obox, tupT]
  | succ d ihd =>
    intro n t h
    have e0 : run fns (n + (d + 1) + 1) i [.sh t] = outF 1 (exs (run fns (n + d + 1)) (tupledFn i).body [some (.sh t), none]) := by
      rw [show n + (d + 1) + 1 = (n + d + 1) + 1 by omega]
      simp only [run, hf]
      rfl
    rw [e0]
    cases t with
    | tup ts =>
      obtain ⟨hl, hs⟩ := okD_tup.mp h
      have key := map_call (t := .tup ts) (g := tupT) rfl hl fun x hx => ⟨_, _, ihd n x (hs x hx), rfl, rfl⟩
      simp [tupledFn, exs, ex, ev, evs, evOp, o_isi, isTy, shB, tupT, tupTs_map, o_toTup, seqL, shT, outF, obox] at key ⊢
      simp [key, seqL, shT, obox]
    | lst ts =>
      obtain ⟨hl, hs⟩ := okD_lst.mp h
      have key := map_call (t := .lst ts) (g := tupT) rfl hl fun x hx => ⟨_, _, ihd n x (hs x hx), rfl, rfl⟩
      simp [tupledFn, exs, ex, ev, evs, evOp, o_isi, isTy, shB, tupT, tupTs_map, o_toTup, seqL, shT, outF, obox] at key ⊢
      simp [key, seqL, shT, obox]
    | dct a b => exact absurd h.1 (by simp [fit])
    | fz a => exact absurd h.1 (by simp [fit])
    | err a b => exact absurd h.1 (by simp [fit])
    | _ => simp [tupledFn, exs, ex, ev, evs, evOp, o_isi, isTy, shB, outF, obox, tupT]
theorem lists_ok {fns : List Fn} {i : Nat} (hf : fns[i]? = some (listsFn i)) : ∀ (d n : Nat) (t : T), okD d t → ∃ r, run fns (n + d + 1) i [.sh t] = .ok r [none] ∧ r.isBox = false ∧ r.t = lstT t := by
  intro d
  induction d with
  | zero =>
    intro n t h
    have e0 : run fns (n + 0 + 1) i [.sh t] = outF 1 (exs (run fns n) (listsFn i).body [some (.sh t), none]) := by
      simp only [Nat.add_zero, run, hf]
      rfl
    rw [e0]
    obtain ⟨h1, h2⟩ := h
    refine ⟨.sh t, ?_, rfl, ?_⟩
    · cases t <;> simp [fit] at h1 <;> simp [listsFn, exs, ex, ev, evs, evOp, o_isi, isTy, shB, outF, obox]
    · cases t <;> simp [fit] at h1 <;> rfl
  | succ d ihd =>
    intro n t h
    have e0 : run fns (n + (d + 1) + 1) i [.sh t] = outF 1 (exs (run fns (n + d + 1)) (listsFn i).body [some (.sh t), none]) := by
      rw [show n + (d + 1) + 1 = (n + d + 1) + 1 by omega]
      simp only [run, hf]
      rfl
    rw [e0]
    cases t with
    | tup ts =>
      obtain ⟨hl, hs⟩ := okD_tup.mp h
      have key := map_call (cf := run fns (n + d + 1)) (j := i) (t := .tup ts) (g := lstT) rfl hl fun x hx => by
        obtain ⟨r, h1, h2⟩ := ihd n x (hs x hx)
        exact ⟨r, _, h1, h2⟩
      refine ⟨.own (ts.map lstT), ?_, rfl, by simp [lstT, lstTs_map]⟩
      simp [listsFn, exs, ex, ev, evs, evOp, o_isi, isTy, shB, outF, obox] at key ⊢
      simp [key, obox]
    | lst ts =>
      obtain ⟨hl, hs⟩ := okD_lst.mp h
      have key := map_call (cf := run fns (n + d + 1)) (j := i) (t := .lst ts) (g := lstT) rfl hl fun x hx => by
        obtain ⟨r, h1, h2⟩ := ihd n x (hs x hx)
        exact ⟨r, _, h1, h2⟩
      refine ⟨.own (ts.map lstT), ?_, rfl, by simp [lstT, lstTs_map]⟩
      simp [listsFn, exs, ex, ev, evs, evOp, o_isi, isTy, shB, outF, obox] at key ⊢
      simp [key, obox]
    | dct a b => exact absurd h.1 (by simp [fit])
    | fz a => exact absurd h.1 (by simp [fit])
    | err a b => exact absurd h.1 (by simp [fit])
    | _ => exact ⟨.sh _, by simp [listsFn, exs, ex, ev, evs, evOp, o_isi, isTy, shB, outF, obox], rfl, rfl⟩
def cellsFn : Fn := ⟨2, 6, [false, false], [.asg true 2 (.or_ (.op .toLst [.op (.sl false true) [.var 0, .var 1]]) (.op .lst [.cst (.int 0)])),
  .for_ (.t [.v 3, .v 4]) .enum [.op (.sl true true) [.var 0, .var 1, .cst (.int 63)]] [.asg false 5 (.op .mod [.op .toInt [.var 3], .var 1]), .setI 2 (.var 5) (.op .add [.op .idx [.brw 2, .var 5], .op .mul [.var 4, .op .add [.var 3, .cst (.int 2)]]])],
  .retV 2]⟩
theorem enum_mem : ∀ {ts : List T} {i : Int} {x : T}, x ∈ enumF i ts → ∃ k t, x = .tup [.int k, t] ∧ i ≤ k ∧ k < i + ts.length ∧ t ∈ ts
  | [], i, x, h => by simp [enumF] at h
  | t :: ts, i, x, h => by
    simp only [enumF, List.mem_cons] at h
    rcases h with rfl | h
    · exact ⟨i, t, rfl, by omega, by simp only [List.length_cons]; omega, List.mem_cons_self⟩
    · obtain ⟨k, u, e, h1, h2, h3⟩ := enum_mem h
      exact ⟨k, u, e, by omega, by simp only [List.length_cons]; omega, List.mem_cons_of_mem _ h3⟩
theorem cells_ok {fns : List Fn} {n i : Nat} {ns : List Int} {m : Nat} (hf : fns[i]? = some cellsFn) (hm : 0 < m) (hm2 : m ≤ 60) (hl : ns.length ≤ 63) : ∃ cs : List Int, run fns (n + 1) i [.sh (.fz ns), .sh (.int m)] = .ok (.own (cs.map .int)) [none, none] ∧ 0 < cs.length ∧ cs.length ≤ m := by
  have e0 : run fns (n + 1) i [.sh (.fz ns), .sh (.int m)] = outF 2 (exs (run fns n) cellsFn.body [some (.sh (.fz ns)), some (.sh (.int m)), none, none, none, none]) := by
    simp only [run, hf]
    rfl
  rw [e0]
  -- the first ones
  obtain ⟨cs, hc, c1, c2⟩ : ∃ cs : List Int, ex (run fns n) (.asg true 2 (.or_ (.op .toLst [.op (.sl false true) [.var 0, .var 1]]) (.op .lst [.cst (.int 0)]))) [some (.sh (.fz ns)), some (.sh (.int m)), none, none, none, none] = .nx [some (.sh (.fz ns)), some (.sh (.int m)), some (.own (cs.map .int)), none, none, none] ∧ (∀ k : Nat, k < m → ns.length ≤ k ∨ k < cs.length) ∧ 0 < cs.length ∧ cs.length ≤ m := by
    by_cases q : cut ns none (some (m : Int)) = []
    · have q2 : ns = [] := by
        cases ns with
        | nil => rfl
        | cons a r =>
          exfalso
          unfold cut at q
          simp only [sIx] at q
          have h0 : ¬ ((m : Int) < 0) := by omega
          simp only [h0, if_false, Int.toNat_natCast, List.drop_zero, Nat.sub_zero] at q
          have hmm : 0 < min m (a :: r).length := by simp; omega
          cases e : min m (a :: r).length with
          | zero => omega
          | succ z => rw [e] at q; simp at q
      refine ⟨[0], ?_, fun k hk => .inl (by simp [q2]), by simp, hm⟩
      subst q2
      simp [ex, ev, evs, evOp, o_sl, opt, o_toLst, seqL, q, o_lst, small, line]
    · refine ⟨cut ns none (some (m : Int)), ?_, ?_, List.length_pos_iff.mpr q, ?_⟩
      · have q' : (cut ns none (some (m : Int))).isEmpty = false := by
          cases e : cut ns none (some (m : Int)) with
          | nil => exact absurd e q
          | cons a r => rfl
        have q2 : ((cut ns none (some (m : Int))).map T.int).isEmpty = false := by rw [List.isEmpty_map]; exact q'
        simp [ex, ev, evs, evOp, o_sl, opt, o_toLst, seqL, q', q]
      · intro k hk
        unfold cut
        have h0 : ¬ ((m : Int) < 0) := by omega
        simp only [sIx, h0, if_false, Int.toNat_natCast, List.drop_zero, Nat.sub_zero, List.length_take]
        omega
      · unfold cut
        have h0 : ¬ ((m : Int) < 0) := by omega
        simp only [sIx, h0, if_false, Int.toNat_natCast, List.drop_zero, Nat.sub_zero, List.length_take]
        omega
  -- the later ones added
  have hw : ∃ rest : List Int, ev (run fns n) (.op (.sl true true) [.var 0, .var 1, .cst (.int 63)]) [some (.sh (.fz ns)), some (.sh (.int m)), some (.own (cs.map .int)), none, none, none] = .ok (.own (rest.map .int)) [some (.sh (.fz ns)), some (.sh (.int m)), some (.own (cs.map .int)), none, none, none] ∧ (rest = [] ∨ m < ns.length) ∧ rest.length ≤ 63 := by
    refine ⟨cut ns (some (m : Int)) (some 63), ?_, ?_, ?_⟩
    · simp [ev, evs, evOp, o_sl, opt]
    · by_cases q : m < ns.length
      · exact .inr q
      · refine .inl ?_
        unfold cut
        have h0 : ¬ ((m : Int) < 0) := by omega
        simp only [sIx, h0, if_false, Int.toNat_natCast]
        apply List.eq_nil_of_length_eq_zero
        simp only [List.length_take, List.length_drop]
        omega
    · unfold cut
      simp only [List.length_take, List.length_drop]
      omega
  obtain ⟨rest, hr, hrm, hrl⟩ := hw
  have full : rest = [] ∨ cs.length = m := by
    rcases hrm with h | h
    · exact .inl h
    · refine .inr ?_
      have := c1 (m - 1) (by omega)
      omega
  have loop := forL_inv (put := putP (.t [.v 3, .v 4])) (body := exs (run fns n) [.asg false 5 (.op .mod [.op .toInt [.var 3], .var 1]), .setI 2 (.var 5) (.op .add [.op .idx [.brw 2, .var 5], .op .mul [.var 4, .op .add [.var 3, .cst (.int 2)]]])])
    (fun xs ρ => (∀ x ∈ xs, ∃ (k g : Int), x = .tup [.int k, .int g] ∧ 0 ≤ k ∧ k < 2 ^ 62 ∧ cs.length = m) ∧ ∃ (ds : List Int) (a b c : Option T), ρ = [some (.sh (.fz ns)), some (.sh (.int m)), some (.own (ds.map .int)), gS a, gS b, gS c] ∧ ds.length = cs.length)
    (enumF 0 (rest.map .int)) [some (.sh (.fz ns)), some (.sh (.int m)), some (.own (cs.map .int)), none, none, none] ⟨fun x hx => ?_, cs, none, none, none, rfl, rfl⟩ ?_
  · obtain ⟨ρ', h1, _, ds, a, b, c, rfl, h3⟩ := loop
    refine ⟨ds, ?_, by omega, by omega⟩
    simp only [cellsFn, exs, hc]
    simp only [ex, evs, hr, bind_ok, argTs_val, argTs_nil, Option.map_some, t_own, walk, fl_ok, h1]
    simp [getR, outF, obox]
  · obtain ⟨k, t, rfl, k1, k2, k3⟩ := enum_mem hx
    obtain ⟨g, hg, rfl⟩ := List.mem_map.mp k3
    refine ⟨k, g, rfl, k1, ?_, ?_⟩
    · rw [List.length_map] at k2
      omega
    · rcases full with h | h
      · rw [h] at hg; simp at hg
      · exact h
  · rintro x xs ρ ⟨hx, ds, a, b, c, rfl, hd⟩
    obtain ⟨k, g, rfl, k1, k2, k3⟩ := hx x List.mem_cons_self
    have hmod : 0 ≤ k % (m : Int) ∧ k % (m : Int) < m := ⟨Int.emod_nonneg _ (by omega), Int.emod_lt_of_pos _ (by omega)⟩
    obtain ⟨j, hj⟩ : ∃ j : Nat, k % (m : Int) = j := ⟨(k % (m : Int)).toNat, by omega⟩
    have hjl : j < ds.length := by omega
    have mm : (k + 2).natAbs < 2 ^ 64 := by omega
    have hm0 : (0 : Int) < m := by omega
    have hix : (ds.map T.int)[j]? = some (.int (ds[j])) := by simp [hjl]
    refine ⟨[some (.sh (.fz ns)), some (.sh (.int m)), some (.own (ds.map .int)), some (.sh (.int k)), some (.sh (.int g)), gS c], [some (.sh (.fz ns)), some (.sh (.int m)), some (.own ((ds.set j (ds[j] + g * (k + 2))).map .int)), some (.sh (.int k)), some (.sh (.int g)), some (.sh (.int j))], ?_, .inl ?_, fun y hy => hx y (List.mem_cons_of_mem _ hy), ds.set j (ds[j] + g * (k + 2)), some (.int k), some (.int g), some (.int j), rfl, by simp [hd]⟩
    · cases a <;> cases b <;> simp_all [putP, putPs]
    · simp [exs, ex, ev, evs, evOp, o_toInt, o_mod, hm0, hm, shI, hj, isOwn, o_idx, atI, ixN, hjl, hix, mul_r mm, o_add]
def boxFn (A B : Int) : Fn := ⟨2, 3, [false, false], [.asg false 2 (.ifx (.op .lt [.var 1, .op .len [.var 0]]) (.op .idx [.var 0, .var 1]) (.cst (.int 0))),
  .ret (.op .lst [.op .mul [.op .abs [.var 2], .op .toInt [.op .ge [.op .abs [.var 2], .op .pow [.cst (.int 10), .cst (.int 18)]]]], .op .add [.op .add [.op .mod [.op .toInt [.var 2], .cst (.int 2305843009213693951)], .op .mul [.cst (.int A), .var 1]], .cst (.int B)], .cst (.int 0)])]⟩
theorem box_ok {fns : List Fn} {n i : Nat} {A B : Int} {cs : List Int} {k : Nat} (hf : fns[i]? = some (boxFn A B)) (hA : A.natAbs < 2 ^ 64) (hk : k < cs.length) (hl : cs.length ≤ 63) : ∃ ts, run fns (n + 1) i [.own (cs.map .int), .sh (.int k)] = .ok (.own ts) [none, none] ∧ Tin (2 ^ 59) ts := by
  have e0 : run fns (n + 1) i [.own (cs.map .int), .sh (.int k)] = outF 2 (exs (run fns n) (boxFn A B).body [some (.sh (.lst (cs.map .int))), some (.sh (.int k)), none]) := by
    simp only [run, hf]
    rfl
  rw [e0]
  have h1 : (cs.map T.int)[k]? = some (.int cs[k]) := by simp [hk]
  have p : (10 : Int).natAbs < 2 ^ 64 := by decide
  have m1 : ∀ b : Bool, (b2z b).natAbs < 2 ^ 64 := fun b => by cases b <;> decide
  refine ⟨[.int ((if cs[k] < 0 then -cs[k] else cs[k]) * b2z (decide (10 ^ 18 ≤ if cs[k] < 0 then -cs[k] else cs[k]))), .int (cs[k] % 2305843009213693951 + A * k + B), .int 0], ?_, _, _, _, rfl, ?_, by omega, by decide⟩
  · simp [boxFn, exs, ex, ev, evs, evOp, o_lt, o_len, shI, shB, hk, o_idx, atI, ixN, h1, o_abs, o_pow, o_ge, o_toInt, mul_r (m1 _), o_mod, mul_l hA, o_add, o_lst, small, line, outF, obox]
  · refine Int.mul_nonneg (by split <;> omega) ?_
    cases decide (10 ^ 18 ≤ if cs[k] < 0 then -cs[k] else cs[k]) <;> decide
end Ev
end
section
set_option linter.all false
set_option maxRecDepth 100000
namespace Ev
abbrev Nm := List Nat
abbrev Rm := List Nm × Int
def nsT (ns : List Nm) : List T := ns.map .str
def rT (r : Rm) : T := .tup [.tup (nsT r.1), .int r.2]
def cT (c : List Rm) : T := .tup (c.map rT)
theorem nsT_fits (ns : List Nm) : fits 58 (nsT ns) = true := fits_all.mpr fun t ht => by
  obtain ⟨s, _, rfl⟩ := List.mem_map.mp ht
  rfl
theorem nsT_alike : ∀ a b : List Nm, alikeTs (nsT a) (nsT b) = true
  | [], _ => by simp [nsT, alikeTs]
  | _ :: _, [] => by simp [nsT, alikeTs]
  | x :: a, y :: b => by
    have := nsT_alike a b
    simp only [nsT, List.map_cons, alikeTs, alikeT, Bool.true_and] at this ⊢
    exact this
theorem rT_alike (a b : Rm) : alikeT (rT a) (rT b) = true := by
  simp [rT, alikeT, alikeTs, nsT_alike]
theorem rT_fit (a : Rm) : fit 60 (rT a) = true := by
  simp [rT, fit, fits, nsT_fits]
theorem sortOk_rooms (rs : List Rm) : sortOk (rs.map rT) = true := by
  unfold sortOk
  simp only [Bool.and_eq_true, Bool.or_eq_true]
  refine ⟨⟨fits_all.mpr fun t ht => ?_, ?_⟩, .inl ?_⟩
  · obtain ⟨r, _, rfl⟩ := List.mem_map.mp ht
    exact rT_fit r
  · refine List.all_eq_true.mpr fun x hx => List.all_eq_true.mpr fun y hy => ?_
    obtain ⟨r, _, rfl⟩ := List.mem_map.mp hx
    obtain ⟨s, _, rfl⟩ := List.mem_map.mp hy
    exact rT_alike r s
  · refine List.all_eq_true.mpr fun x hx => ?_
    obtain ⟨r, _, rfl⟩ := List.mem_map.mp hx
    rfl
/-- a rearrangement of images is the image of a rearrangement -/
theorem perm_map_inv {α β : Type} {f : α → β} : ∀ {l : List β} {m : List α}, l.Perm (m.map f) → ∃ c : List α, c.Perm m ∧ l = c.map f := by
  intro l m h
  generalize e : m.map f = k at h
  induction h generalizing m with
  | nil =>
    rw [List.map_eq_nil_iff] at e
    exact ⟨[], by rw [e], rfl⟩
  | cons x h ih =>
    cases m with
    | nil => simp at e
    | cons a m =>
      simp only [List.map_cons, List.cons.injEq] at e
      obtain ⟨c, c1, rfl⟩ := ih e.2
      exact ⟨a :: c, c1.cons a, by simp [e.1]⟩
  | swap x y l =>
    match m, e with
    | a :: b :: m, e =>
      simp only [List.map_cons, List.cons.injEq] at e
      exact ⟨b :: a :: m, .swap _ _ _, by simp [e]⟩
    | [], e => simp at e
    | [_], e => simp at e
  | trans h1 h2 ih1 ih2 =>
    obtain ⟨c, c1, rfl⟩ := ih2 e
    obtain ⟨d, d1, rfl⟩ := ih1 rfl
    exact ⟨d, d1.trans c1, rfl⟩
theorem tins_perm (x : T) : ∀ m : List T, (tins x m).Perm (x :: m)
  | [] => .refl _
  | y :: m => by
    unfold tins
    split
    · exact ((tins_perm x m).cons y).trans (.swap _ _ _)
    · exact .refl _
theorem tsort_prm : ∀ l : List T, (tsort l).Perm l
  | [] => .refl _
  | x :: l => (tins_perm x (tsort l)).trans ((tsort_prm l).cons x)
def lotR : List (List T) → R
  | [] => .own []
  | l => .own2 l
@[simp] theorem lotR_box (l : List (List T)) : (lotR l).isBox = false := by cases l <;> rfl
@[simp] theorem boxO_lot (l : List (List T)) : boxO (some (lotR l)) = false := by cases l <;> rfl
@[simp] theorem lotR_t (l : List (List T)) : (lotR l).t = .lst (l.map .lst) := by cases l <;> rfl
/-- a parting of these names, each lot in their order -/
structure Part (lots : List (List Nm)) (ns : List Nm) : Prop where
  perm : lots.flatten.Perm ns
  ok : ∀ l ∈ lots, l ≠ [] ∧ l.Sublist ns
theorem Part.nil : Part [] [] := ⟨.refl _, fun l h => by simp at h⟩
theorem Part.len {lots : List (List Nm)} {ns : List Nm} (h : Part lots ns) : lots.length ≤ ns.length := by
  rw [← h.perm.length_eq]
  have := h.ok
  clear h
  induction lots with
  | nil => simp
  | cons l lots ih =>
    have h1 := (this l List.mem_cons_self).1
    have ih := ih fun l hl => ⟨(this l (List.mem_cons_of_mem _ hl)).1, (this l (List.mem_cons_of_mem _ hl)).2⟩
    have := List.length_pos_iff.mpr h1
    simp only [List.flatten_cons, List.length_append, List.length_cons]
    omega
theorem Part.new {lots : List (List Nm)} {ns : List Nm} (h : Part lots ns) (x : Nm) : Part (lots ++ [[x]]) (ns ++ [x]) := by
  refine ⟨?_, fun l hl => ?_⟩
  · rw [List.flatten_append]
    simp only [List.flatten_cons, List.flatten_nil, List.append_nil]
    exact h.perm.append_right [x]
  · rcases List.mem_append.mp hl with hl | hl
    · exact ⟨(h.ok l hl).1, (h.ok l hl).2.trans (List.sublist_append_left _ _)⟩
    · rw [List.mem_singleton.mp hl]
      exact ⟨by simp, List.sublist_append_right _ _⟩
theorem flat_set (x : Nm) : ∀ (lots : List (List Nm)) (j : Nat) (h : j < lots.length), (lots.set j (lots[j] ++ [x])).flatten.Perm (lots.flatten ++ [x])
  | [], j, h => by simp at h
  | l :: lots, 0, h => by
    simp only [List.set_cons_zero, List.getElem_cons_zero, List.flatten_cons, List.append_assoc]
    exact List.Perm.append_left _ List.perm_append_comm
  | l :: lots, j + 1, h => by
    have := flat_set x lots j (by simpa using h)
    simp only [List.set_cons_succ, List.getElem_cons_succ, List.flatten_cons, List.append_assoc]
    exact this.append_left _
theorem Part.grow {lots : List (List Nm)} {ns : List Nm} (h : Part lots ns) (x : Nm) (j : Nat) (hj : j < lots.length) : Part (lots.set j (lots[j] ++ [x])) (ns ++ [x]) := by
  refine ⟨(flat_set x lots j hj).trans (h.perm.append_right _), fun l hl => ?_⟩
  rcases List.mem_or_eq_of_mem_set hl with hl | rfl
  · exact ⟨(h.ok l hl).1, (h.ok l hl).2.trans (List.sublist_append_left _ _)⟩
  · exact ⟨by simp, (h.ok _ (List.getElem_mem hj)).2.append (.refl _)⟩
def lcStep (cf : CallF) (own : List Nat) (p : Pat) (cs : List E) (e : E) (x : T) (ρ2 : Env) : Out (List T) :=
  match (hide ρ2 own).bind (putP p x) with
  | none => .bad
  | some ρ3 => (evc cf cs ρ3).bind fun b ρ4 => if b then (ev cf e ρ4).bind fun r ρ5 => if r.isBox then .bad else .ok [r.t] (unwipe ρ2 ρ5 own) else .ok [] (unwipe ρ2 ρ4 own)
theorem lc_inv {cf : CallF} {own : List Nat} {p : Pat} {k : ItK} {es cs : List E} {e : E} {ρ ρ1 : Env} {as : List Arg} {ts xs : List T} (h1 : evs cf es ρ = .ok as ρ1) (h2 : argTs ρ1 as = some ts) (h3 : walk k ts = some xs) (P : List T → List T → Env → Prop) (h0 : P xs [] ρ1)
    (st : ∀ x xs acc ρ, P (x :: xs) acc ρ → ∃ ys ρ', lcStep cf own p cs e x ρ = .ok ys ρ' ∧ (acc ++ ys).length ≤ line ∧ P xs (acc ++ ys) ρ') : ∃ ys ρ', ev cf (.lc own p k es cs e) ρ = .ok (.own ys) ρ' ∧ P [] ys ρ' := by
  obtain ⟨ys, ρ', k1, k2⟩ := compL_inv P xs [] ρ1 h0 st
  refine ⟨ys, ρ', ?_, k2⟩
  have e1 : ev cf (.lc own p k es cs e) ρ = (evs cf es ρ).bind fun as ρ1 => match argTs ρ1 as with
    | none => .bad
    | some ts => match walk k ts with
      | none => .bad
      | some xs => match compL (lcStep cf own p cs e) xs [] ρ1 with
        | .ok ys ρ2 => .ok (.own ys) ρ2
        | _ => .bad := by
    rw [ev]
    rfl
  rw [e1, h1]
  simp only [bind_ok, h2, h3, k1]
def shelfFn (t : Nat) : Fn := ⟨3, 7, [true, false, false], [.asg true 3 (.op .lst []),
  .for_ (.v 4) .seq [.var 1] [.asg false 5 (.call t [.brw 0, .op .add [.lenV 3, .cst (.int 1)]]), .ifs (.op .eq [.var 5, .lenV 3]) [.app2 3 (.op .lst [.var 4])] [.appAt 3 5 4]],
  .ret (.op .toTup [.op .sorted [.lc [6] (.v 6) .seq [.var 3] [] (.op .tup [.op .toTup [.var 6], .op .add [.cst (.int 1), .call t [.brw 0, .var 2]]])]])]⟩
def shelfLoop (t : Nat) : List S := [.asg false 5 (.call t [.brw 0, .op .add [.lenV 3, .cst (.int 1)]]), .ifs (.op .eq [.var 5, .lenV 3]) [.app2 3 (.op .lst [.var 4])] [.appAt 3 5 4]]
theorem shelf_step {fns : List Fn} {n t k : Nat} (ht : fns[t]? = some takeFn) {tg ms : T} {x : Nm} {ts : List T} {lots : List (List Nm)} {done : List Nm} {b : Option T} (hd : done.length ≤ 16000000) (hT : Tin (k + 1) ts) (hp : Part lots done) :
    ∃ us, ∃ c : T, ∃ lots', exs (run fns (n + 1)) (shelfLoop t) [some (.box ts), some (.sh tg), some (.sh ms), some (lotR (lots.map nsT)), some (.sh (.str x)), gS b, none] = .nx [some (.box us), some (.sh tg), some (.sh ms), some (lotR (lots'.map nsT)), some (.sh (.str x)), some (.sh c), none] ∧ Tin k us ∧ Part lots' (done ++ [x]) := by
  have hl := hp.len
  have l1 : 1 ≤ line := by decide
  obtain ⟨v, us, hc, v0, v1, hU⟩ := take_ok (n := n) (top := (lots.length : Int) + 1) ht hT (by omega) (by omega)
  by_cases q : v = lots.length
  · subst q
    refine ⟨us, (.int lots.length), lots ++ [[x]], ?_, hU, hp.new x⟩
    have f1 : fit 60 (.int (lots.length : Int)) = true := rfl
    cases lots with
    | nil =>
      have hc' : run fns (n + 1) t [.box ts, .sh (.int 1)] = .ok (.sh (.int 0)) [some (.box us), none] := by simpa using hc
      have lk := fun ρ h => lend_ok (cf := run fns (n + 1)) (f := t) (ρ := ρ) (j := 0) (ts := ts) h (b_sh _) (b_sh _) hc'
      simp [shelfLoop, lotR, exs, ex, ev, evs, evOp, o_add, o_eq, shI, shB, lk, fit, teq_self, isOwn, o_lst, small, l1, nsT]
    | cons l ls =>
      have lk := fun ρ h => lend_ok (cf := run fns (n + 1)) (f := t) (ρ := ρ) (j := 0) (ts := ts) h (b_sh _) (b_sh _) hc
      have hl' : ls.length + 1 < line := by
        simp only [List.length_cons] at hl
        have : line = 16777216 := rfl
        omega
      simp at lk
      simp [shelfLoop, lotR, exs, ex, ev, evs, evOp, o_add, o_eq, shI, shB, lk, fit, teq_self, isOwn, o_lst, small, l1, nsT, hl']
  · obtain ⟨j, rfl⟩ : ∃ j : Nat, v = j := ⟨v.toNat, by omega⟩
    have hj : j < lots.length := by omega
    refine ⟨us, (.int j), lots.set j (lots[j] ++ [x]), ?_, hU, hp.grow x j hj⟩
    cases lots with
    | nil => simp at hj
    | cons l ls =>
      have lk := fun ρ h => lend_ok (cf := run fns (n + 1)) (f := t) (ρ := ρ) (j := 0) (ts := ts) h (b_sh _) (b_sh _) hc
      have ne : teq (.int (j : Int)) (.int ((ls.length : Int) + 1)) = false := by
        have : ¬ (j : Int) = (ls.length : Int) + 1 := by simpa using q
        unfold teq tcmp icmp
        split <;> rfl
      have hs : ((l :: ls)[j]).length < line := by
        have h1 := (hp.ok _ (List.getElem_mem hj)).2.length_le
        have : line = 16777216 := rfl
        omega
      have hj' : (j : Int) < (ls.length : Int) + 1 := by simp only [List.length_cons] at hj; omega
      simp at lk
      have hx2 : (nsT l :: ls.map nsT)[j]? = some (nsT (l :: ls)[j]) := by
        have := List.getElem?_map (f := nsT) (l := l :: ls) (i := j)
        rw [List.getElem?_eq_getElem hj] at this
        exact this
      have hn : (nsT (l :: ls)[j]).length < line := by simpa [nsT] using hs
      have hj2 : j < ls.length + 1 := by simpa using hj
      simp [shelfLoop, lotR, exs, ex, ev, evs, evOp, o_add, o_eq, shI, shB, lk, fit, ne, isOwn, ixN, hj', hx2, hn, hj2]
      have hx3 : (nsT l :: ls.map nsT)[j]'(by simpa using hj) = nsT (l :: ls)[j] := by
        have := hx2
        rw [List.getElem?_eq_getElem (by simpa using hj)] at this
        exact Option.some.inj this
      rw [hx3, if_pos hn]
      simp [nsT]
theorem shelf_ok {fns : List Fn} {n i t k : Nat} (hf : fns[i]? = some (shelfFn t)) (ht : fns[t]? = some takeFn) {names : List Nm} (hn : names.length ≤ 1000000) {ts : List T} (hT : Tin (k + 2 * names.length) ts) {most : Int} (m0 : 0 < most) (m1 : most < 2 ^ 200) :
    ∃ rooms : List Rm, ∃ us, run fns (n + 2) i [.box ts, .own (nsT names), .sh (.int most)] = .ok (.sh (.tup (tsort (rooms.map rT)))) [some (.box us), none, none] ∧ Tin k us ∧ Part (rooms.map (·.1)) names ∧ ∀ r ∈ rooms, 1 ≤ r.2 ∧ r.2 ≤ most := by
  have e0 : run fns (n + 2) i [.box ts, .own (nsT names), .sh (.int most)] = outF 3 (exs (run fns (n + 1)) (shelfFn t).body [some (.box ts), some (.sh (.lst (nsT names))), some (.sh (.int most)), none, none, none, none]) := by
    simp only [run, hf]
    rfl
  have loop := forL_inv (put := putP (.v 4)) (body := exs (run fns (n + 1)) (shelfLoop t))
    (fun xs ρ => ∃ done todo lots us a b, names = done ++ todo ∧ xs = nsT todo ∧ ρ = [some (.box us), some (.sh (.lst (nsT names))), some (.sh (.int most)), some (lotR (lots.map nsT)), gS a, gS b, none] ∧ Tin (k + names.length + todo.length) us ∧ Part lots done)
    (nsT names) [some (.box ts), some (.sh (.lst (nsT names))), some (.sh (.int most)), some (.own []), none, none, none] ⟨[], names, [], ts, none, none, rfl, rfl, rfl, hT.le (by omega), .nil⟩ ?_
  · obtain ⟨ρ', h1, done, todo, lots, us, a, b, e1, e2, rfl, h3, h4⟩ := loop
    have : todo = [] := by
      cases todo with
      | nil => rfl
      | cons x y => simp [nsT] at e2
    subst this
    rw [List.append_nil] at e1
    subst e1
    have hlen := h4.len
    have hlot : ev (run fns (n + 1)) (.var 3) [some (.box us), some (.sh (.lst (nsT names))), some (.sh (.int most)), some (lotR (lots.map nsT)), gS a, gS b, none] = .ok (.sh (.lst (lots.map fun l => .lst (nsT l)))) [some (.box us), some (.sh (.lst (nsT names))), some (.sh (.int most)), some (.sh (.lst (lots.map fun l => .lst (nsT l)))), gS a, gS b, none] := by
      cases lots <;> simp [ev, share, lotR, R.t]
    have comp := lc_inv (cf := run fns (n + 1)) (own := [6]) (p := .v 6) (k := .seq) (es := [.var 3]) (cs := []) (e := .op .tup [.op .toTup [.var 6], .op .add [.cst (.int 1), .call t [.brw 0, .var 2]]]) (ρ := [some (.box us), some (.sh (.lst (nsT names))), some (.sh (.int most)), some (lotR (lots.map nsT)), gS a, gS b, none]) (ρ1 := [some (.box us), some (.sh (.lst (nsT names))), some (.sh (.int most)), some (.sh (.lst (lots.map fun l => .lst (nsT l)))), gS a, gS b, none]) (as := [.val (.sh (.lst (lots.map fun l => .lst (nsT l))))]) (ts := [.lst (lots.map fun l => .lst (nsT l))]) (xs := lots.map fun l => .lst (nsT l)) (by rw [evs, hlot]; rfl; all_goals (intros; contradiction)) rfl rfl
      (fun xs acc ρ => ∃ don todo us, ∃ rs : List Rm, lots = don ++ todo ∧ xs = todo.map (fun l => .lst (nsT l)) ∧ acc = rs.map rT ∧ rs.map (·.1) = don ∧ (∀ r ∈ rs, 1 ≤ r.2 ∧ r.2 ≤ most) ∧ ρ = [some (.box us), some (.sh (.lst (nsT names))), some (.sh (.int most)), some (.sh (.lst (lots.map fun l => .lst (nsT l)))), gS a, gS b, none] ∧ Tin (k + todo.length) us)
      ⟨[], lots, us, [], rfl, rfl, rfl, rfl, by simp, rfl, h3.le (by omega)⟩ ?_
    · obtain ⟨ys, ρ', k1, don, todo, vs, rs, k2, k3, k4, k5, k6, rfl, k7⟩ := comp
      have : todo = [] := by
        cases todo with
        | nil => rfl
        | cons x y => simp at k3
      subst this
      rw [List.append_nil] at k2
      refine ⟨rs, vs, ?_, k7, by rw [k5, ← k2]; exact h4, k6⟩
      rw [e0]
      have hlc : ev (run fns (n + 1)) (.lc [6] (.v 6) .seq [.var 3] [] (.op .tup [.op .toTup [.var 6], .op .add [.cst (.int 1), .call t [.brw 0, .var 2]]])) [some (.box us), some (.sh (.lst (nsT names))), some (.sh (.int most)), some (lotR (lots.map nsT)), gS a, gS b, none] = .ok (.own (rs.map rT)) [some (.box vs), some (.sh (.lst (nsT names))), some (.sh (.int most)), some (.sh (.lst (lots.map fun l => .lst (nsT l)))), gS a, gS b, none] := by
        rw [k1, k4]
      have hret : ev (run fns (n + 1)) (.op .toTup [.op .sorted [.lc [6] (.v 6) .seq [.var 3] [] (.op .tup [.op .toTup [.var 6], .op .add [.cst (.int 1), .call t [.brw 0, .var 2]]])]]) [some (.box us), some (.sh (.lst (nsT names))), some (.sh (.int most)), some (lotR (lots.map nsT)), gS a, gS b, none] = .ok (.sh (.tup (tsort (rs.map rT)))) [some (.box vs), some (.sh (.lst (nsT names))), some (.sh (.int most)), some (.sh (.lst (lots.map fun l => .lst (nsT l)))), gS a, gS b, none] := by
        rw [ev, evs, ev, evs, hlc]
        · simp [evs, evOp, o_sorted, sortOk_rooms, o_toTup, seqL, shT]
        all_goals (intros; contradiction)
      have hw : walk .seq [.lst (nsT names)] = some (nsT names) := rfl
      have hfor : ex (run fns (n + 1)) (.for_ (.v 4) .seq [.var 1] (shelfLoop t)) [some (.box ts), some (.sh (.lst (nsT names))), some (.sh (.int most)), some (.own []), none, none, none] = .nx [some (.box us), some (.sh (.lst (nsT names))), some (.sh (.int most)), some (lotR (lots.map nsT)), gS a, gS b, none] := by
        have : evs (run fns (n + 1)) [.var 1] [some (.box ts), some (.sh (.lst (nsT names))), some (.sh (.int most)), some (.own []), none, none, none] = .ok [.val (.sh (.lst (nsT names)))] [some (.box ts), some (.sh (.lst (nsT names))), some (.sh (.int most)), some (.own []), none, none, none] := rfl
        rw [ex, this]
        simp only [fl_ok, argTs_val, argTs_nil, Option.map_some, t_sh, hw, h1]
      simp only [shelfFn, exs]
      have has : ex (run fns (n + 1)) (.asg true 3 (.op .lst [])) [some (.box ts), some (.sh (.lst (nsT names))), some (.sh (.int most)), none, none, none, none] = .nx [some (.box ts), some (.sh (.lst (nsT names))), some (.sh (.int most)), some (.own []), none, none, none] := by
        simp [ex, ev, evs, evOp, o_lst, small]
      rw [has]
      simp only [shelfLoop] at hfor
      simp only [hfor]
      rw [ex, hret]
      simp [outF, obox]
    · rintro x xs acc ρ ⟨don, todo, us, rs, k2, k3, k4, k5, k6, rfl, k7⟩
      cases todo with
      | nil => simp at k3
      | cons y todo =>
        simp only [List.map_cons, List.cons.injEq] at k3
        obtain ⟨rfl, rfl⟩ := k3
        obtain ⟨v, vs, hc, v0, v1, hU⟩ := take_ok (n := n) (k := k + todo.length) (top := most) ht (k7.le (by simp only [List.length_cons]; omega)) m0 m1
        have lk := fun ρ h => lend_ok (cf := run fns (n + 1)) (f := t) (ρ := ρ) (j := 0) (ts := us) h (b_sh _) (b_sh _) hc
        have l2 : 2 ≤ line := by decide
        refine ⟨[rT (y, 1 + v)], [some (.box vs), some (.sh (.lst (nsT names))), some (.sh (.int most)), some (.sh (.lst (lots.map fun l => .lst (nsT l)))), gS a, gS b, none], ?_, ?_, don ++ [y], todo, vs, rs ++ [(y, 1 + v)], by simp [k2], rfl, by simp [k4], by simp [k5], ?_, rfl, hU⟩
        · simp [lcStep, hide, wipe, putP, evc, ev, evs, evOp, o_toTup, seqL, shT, o_add, shI, lk, o_tup, small, l2, unwipe, rT]
        · have h1 : rs.length = don.length := by rw [← k5, List.length_map]
          have h2 : don.length ≤ lots.length := by rw [k2]; simp
          have : line = 16777216 := rfl
          rw [k4]
          simp only [List.length_append, List.length_map, List.length_cons, List.length_nil]
          omega
        · intro r hr
          rcases List.mem_append.mp hr with hr | hr
          · exact k6 r hr
          · rw [List.mem_singleton.mp hr]
            exact ⟨by show 1 ≤ 1 + v; omega, by show 1 + v ≤ most; omega⟩
  · rintro x xs ρ ⟨done, todo, lots, us, a, b, e1, e2, rfl, h3, h4⟩
    cases todo with
    | nil => simp [nsT] at e2
    | cons y todo =>
      simp only [nsT, List.map_cons, List.cons.injEq] at e2
      obtain ⟨rfl, rfl⟩ := e2
      have hd : done.length ≤ 16000000 := by
        rw [e1] at hn
        simp at hn
        omega
      obtain ⟨vs, c, lots', s1, s2, s3⟩ := shelf_step (n := n) (tg := .lst (nsT names)) (ms := .int most) (x := y) (b := b) ht hd (h3.le (show k + names.length + todo.length + 1 ≤ _ by simp only [List.length_cons]; omega)) h4
      exact ⟨_, _, by simp [putP], .inl s1, done ++ [y], todo, lots', vs, some (.str y), some c, by simp [e1], rfl, rfl, s2, s3⟩
end Ev
end
section
set_option linter.all false
set_option maxRecDepth 100000
namespace Ev
theorem lc_map {cf : CallF} {own : List Nat} {p : Pat} {k : ItK} {es cs : List E} {e : E} {ρ ρ1 : Env} {as : List Arg} {ts xs : List T} (g : T → List T) (h1 : evs cf es ρ = .ok as ρ1) (h2 : argTs ρ1 as = some ts) (h3 : walk k ts = some xs)
    (st : ∀ x ∈ xs, lcStep cf own p cs e x ρ1 = .ok (g x) ρ1) (hl : (xs.flatMap g).length ≤ line) : ev cf (.lc own p k es cs e) ρ = .ok (.own (xs.flatMap g)) ρ1 := by
  have e1 : ev cf (.lc own p k es cs e) ρ = (evs cf es ρ).bind fun as ρ1 => match argTs ρ1 as with
    | none => .bad
    | some ts => match walk k ts with
      | none => .bad
      | some xs => match compL (lcStep cf own p cs e) xs [] ρ1 with
        | .ok ys ρ2 => .ok (.own ys) ρ2
        | _ => .bad := by
    rw [ev]
    rfl
  have e2 := compL_map (f := lcStep cf own p cs e) (g := g) xs [] st (by simpa using hl)
  rw [List.nil_append] at e2
  rw [e1, h1]
  simp only [bind_ok, h2, h3, e2]
def lc2Step (cf : CallF) (own : List Nat) (p : Pat) (own1 : List Nat) (p1 : Pat) (k1 : ItK) (es1 cs : List E) (e : E) (x : T) (ρ2 : Env) : Out (List T) :=
  match (hide ρ2 own).bind (putP p x) with
  | none => .bad
  | some ρ3 => (evs cf es1 ρ3).bind fun bs ρ4 => match argTs ρ4 bs with
    | none => .bad
    | some us => match walk k1 us with
      | none => .bad
      | some ys => match compL (lcStep cf own1 p1 cs e) ys [] ρ4 with
        | .ok zs ρ9 => .ok zs (unwipe ρ2 ρ9 own)
        | _ => .bad
theorem val0_ok {cf : CallF} {f : Nat} {ρ ρ1 : Env} {r : R} (hr : r.isBox = false) (hc : cf f [] = .ok r ρ1) : callF cf f [] ρ = .ok r ρ := by
  simp [callF, argRs, lentAt, hr, hc]
theorem for_ok {cf : CallF} {p : Pat} {k : ItK} {es : List E} {body : List S} {ρ ρ1 : Env} {as : List Arg} {ts xs : List T} {f : Fl} (h1 : evs cf es ρ = .ok as ρ1) (h2 : argTs ρ1 as = some ts) (h3 : walk k ts = some xs) (h4 : forL (putP p) (exs cf body) xs ρ1 = f) : ex cf (.for_ p k es body) ρ = f := by
  rw [ex, h1]
  simp only [fl_ok, h2, h3, h4]
theorem range_ok {n : Nat} (hl : n ≤ 1000000) : walk .range [.int (n : Int)] = some (upTo 0 n) := by
  have h : (2 : Int) ^ 62 = 4611686018427387904 := by decide
  have hr : inRange (n : Int) = true := by
    unfold inRange
    rw [h]
    exact decide_eq_true ⟨by omega, by omega⟩
  have e : ∀ i : Int, inRange i = true → walk .range [.int i] = some (upTo 0 i.toNat) := fun i h => by simp only [walk, h, if_true]
  rw [e _ hr, Int.toNat_natCast]
/-- yes -/
def yes : Out R → Bool
  | .ok (.sh (.bl true)) _ => true
  | _ => false
theorem of_yes {x : Out R} (h : yes x = true) : ∃ ρ, x = .ok (.sh (.bl true)) ρ := by
  unfold yes at h
  split at h
  · exact ⟨_, rfl⟩
  · cases h
theorem pscmp_self : ∀ x : List Nat, scmp x x = .eq := fun x => by
  have := tcmp_self (.str x)
  simpa [tcmp] using this
theorem pscmp_eq : ∀ {x y : List Nat}, scmp x y = .eq → x = y
  | [], [], _ => rfl
  | [], _ :: _, h => by simp [scmp] at h
  | _ :: _, [], h => by simp [scmp] at h
  | a :: x, b :: y, h => by
    unfold scmp at h
    split at h
    · rename_i q
      unfold ncmp at q
      split at q
      · cases q
      · split at q
        · rename_i e
          rw [Nat.eq_of_beq_eq_true e, pscmp_eq h]
        · cases q
    · rename_i o q
      rw [h] at q
      exact absurd rfl q
theorem pteq_str (x y : List Nat) : teq (.str x) (.str y) = decide (x = y) := by
  unfold teq tcmp
  by_cases q : x = y
  · subst q
    rw [pscmp_self]
    simp [oEq]
  · cases h : scmp x y with
    | eq => exact absurd (pscmp_eq h) q
    | _ => simp [oEq, q]
theorem tmem_str (x : Nm) (l : List Nm) : tmem (.str x) (nsT l) = decide (x ∈ l) := by
  unfold tmem nsT
  induction l with
  | nil => simp
  | cons y l ih =>
    simp only [List.map_cons, List.any_cons, ih, pteq_str, List.mem_cons, Bool.decide_or]
    rw [show decide (y = x) = decide (x = y) by simp [eq_comm]]
theorem setOk_ns {l : List Nm} (h : l.length ≤ 4000) : setOk (nsT l) = true := by
  simp [setOk, nsT, h, isStr]
end Ev
end
section
set_option linter.all false
set_option maxRecDepth 100000
set_option maxHeartbeats 400000
namespace Ev
@[simp] theorem share_own {ρ : Env} {i : Nat} {ts : List T} (h : getR ρ i = some (.own ts)) : share ρ i = .ok (.sh (.lst ts)) (setR ρ i (.sh (.lst ts))) := by simp [share, h]
@[simp] theorem share_dct {ρ : Env} {i : Nat} {ks vs : List T} (h : getR ρ i = some (.ownD ks vs)) : share ρ i = .ok (.sh (.dct ks vs)) (setR ρ i (.sh (.dct ks vs))) := by simp [share, h, R.t]
def sq (b : Bool) (ts : List T) : T := if b then .lst ts else .tup ts
@[simp] theorem seqOf_sq (b : Bool) (ts : List T) : seqOf (sq b ts) = some ts := by cases b <;> rfl
@[simp] theorem walk_sq (b : Bool) (ts : List T) : walk .seq [sq b ts] = some ts := by cases b <;> rfl
@[simp] theorem enum_sq (b : Bool) (ts : List T) : walk .enum [sq b ts] = some (enumF 0 ts) := by cases b <;> rfl
@[simp] theorem idx_sq (b : Bool) (ts : List T) (i : Int) : o_idx [sq b ts, .int i] = (atI ts i).map .sh := by cases b <;> rfl
@[simp] theorem len_sq (b : Bool) (ts : List T) : o_len [sq b ts] = shI ts.length := by cases b <;> rfl
@[simp] theorem putP_v (i : Nat) (t : T) (ρ : Env) : putP (.v i) t ρ = put1 ρ i (.sh t) := by unfold putP; rfl
@[simp] theorem putP_o (i : Nat) (t : T) (ρ : Env) : putP (.o i) t ρ = put1 ρ i (.sh t) := by unfold putP; rfl
@[simp] theorem putP_tt (ps : List Pat) (ts : List T) (ρ : Env) : putP (.t ps) (.tup ts) ρ = putPs ps ts ρ := by rw [putP]
@[simp] theorem putP_tl (ps : List Pat) (ts : List T) (ρ : Env) : putP (.t ps) (.lst ts) ρ = putPs ps ts ρ := by rw [putP]
@[simp] theorem putPs_n (ρ : Env) : putPs [] [] ρ = some ρ := by unfold putPs; rfl
@[simp] theorem putPs_c (p : Pat) (ps : List Pat) (t : T) (ts : List T) (ρ : Env) : putPs (p :: ps) (t :: ts) ρ = (putP p t ρ).bind fun ρ1 => putPs ps ts ρ1 := by rw [putPs]
@[simp] theorem put_sq (b : Bool) (ps : List Pat) (ts : List T) (ρ : Env) : putP (.t ps) (sq b ts) ρ = putPs ps ts ρ := by cases b <;> simp [sq]
def rS (b : Bool) (r : Rm) : T := sq b [sq b (nsT r.1), .int r.2]
def cS (b : Bool) (c : List Rm) : T := sq b (c.map (rS b))
/-- every name of a cache -/
def namesOf (c : List Rm) : List Nm := c.flatMap (·.1)
theorem dput_new {k : Nm} {v : T} {ks : List Nm} {vs : List T} (h : k ∉ ks) : dput (.str k) v (nsT ks) vs = (nsT (ks ++ [k]), vs ++ [v]) := by
  have : (nsT ks).any (fun k' => teq k' (.str k)) = false := by
    rw [List.any_eq_false]
    intro x hx
    obtain ⟨y, hy, rfl⟩ := List.mem_map.mp hx
    rw [pteq_str]
    simp only [decide_eq_true_eq]
    rintro rfl
    exact h hy
  unfold dput
  rw [this]
  simp [nsT]
theorem compD_names {f : T → List T → List T → Env → Out (List T × List T)} {ρ : Env} {v : T} (hf : ∀ (y : Nm) (ks vs : List T), ks.length < line → f (.str y) ks vs ρ = .ok (dput (.str y) v ks vs) ρ) : ∀ (names ks : List Nm) (vs : List T), (ks ++ names).Nodup → (ks ++ names).length ≤ 16000000 → compD f (nsT names) (nsT ks) vs ρ = .ok (nsT (ks ++ names), vs ++ names.map fun _ => v) ρ
  | [], ks, vs, _, _ => by simp [nsT, compD]
  | x :: names, ks, vs, nd, hl => by
    have nx : x ∉ ks := fun q => (List.nodup_append.mp nd).2.2 x q x List.mem_cons_self rfl
    have ll : line = 16777216 := rfl
    have h1 := hf x (nsT ks) vs (by simp [nsT]; simp at hl; omega)
    rw [dput_new nx] at h1
    show compD f (.str x :: nsT names) _ _ _ = _
    unfold compD
    rw [h1]
    have := compD_names hf names (ks ++ [x]) (vs ++ [v]) (by simpa using nd) (by simpa using hl)
    simpa using this
end Ev
end
section
set_option linter.all false
set_option maxRecDepth 100000
set_option maxHeartbeats 1000000
namespace Ev
theorem compL_filter {β : Type} {f : T → Env → Out (List T)} {ρ : Env} (q : β → Bool) (inj out : β → T) {l : List β} (h : ∀ x ∈ l, f (inj x) ρ = .ok (if q x then [out x] else []) ρ) (hl : l.length ≤ line) : compL f (l.map inj) [] ρ = .ok ((l.filter q).map out) ρ := by
  have e : ∀ l : List β, (l.map inj).flatMap (fun _ => []) = ([] : List T) := fun l => by induction l <;> simp_all
  have go : ∀ (l : List β) (acc : List T), (∀ x ∈ l, f (inj x) ρ = .ok (if q x then [out x] else []) ρ) → (acc.length + l.length ≤ line) → compL f (l.map inj) acc ρ = .ok (acc ++ (l.filter q).map out) ρ := by
    intro l
    induction l with
    | nil => intro acc _ _; simp [compL]
    | cons x l ih =>
      intro acc h hl
      simp only [List.map_cons]
      unfold compL
      rw [h x List.mem_cons_self]
      simp only [List.length_cons] at hl
      have h1 : (acc ++ if q x then [out x] else []).length ≤ line := by
        rw [List.length_append]
        split <;> simp <;> omega
      simp only [if_pos h1]
      rw [ih _ (fun y hy => h y (List.mem_cons_of_mem _ hy)) (by rw [List.length_append]; split <;> simp <;> omega)]
      cases hq : q x <;> simp [List.filter_cons, hq]
  simpa using go l [] h (by simpa using hl)
theorem compL_all {β : Type} {f : T → Env → Out (List T)} {ρ : Env} (inj out : β → T) {l : List β} (h : ∀ x ∈ l, f (inj x) ρ = .ok [out x] ρ) (hl : l.length ≤ line) : compL f (l.map inj) [] ρ = .ok (l.map out) ρ := by
  have := compL_filter (fun _ => true) inj out (fun x hx => by simpa using h x hx) hl
  rwa [List.filter_eq_self.mpr fun _ _ => rfl] at this
theorem look_app {k : T} : ∀ (ks : List T) (vs : List T) (ks' vs' : List T), ks.length = vs.length → look k (ks ++ ks') (vs ++ vs') = (look k ks vs).or (look k ks' vs')
  | [], [], _, _, _ => by simp [look]
  | x :: ks, v :: vs, ks', vs', h => by
    simp only [List.cons_append, look]
    rw [look_app ks vs ks' vs' (by simpa using h)]
    split <;> rfl
  | [], _ :: _, _, _, h => by simp at h
  | _ :: _, [], _, _, h => by simp at h
theorem look_same {a : Nm} {v : T} : ∀ l : List Nm, look (.str a) (nsT l) (l.map fun _ => v) = if a ∈ l then some v else none
  | [] => rfl
  | x :: l => by
    have := look_same (a := a) (v := v) l
    show (if teq (.str x) (.str a) then some v else look (.str a) (nsT l) (l.map fun _ => v)) = _
    rw [this, pteq_str]
    by_cases h : x = a
    · subst h; simp
    · have : a ≠ x := Ne.symm h
      simp [h, this]
@[simp] theorem in_dct (a : Nm) (l : List Nm) (vs : List T) : o_in_ [.str a, .dct (nsT l) vs] = shB (decide (a ∈ l)) := by
  unfold o_in_
  cases a with
  | nil => simp [isKey, tmem_str]
  | cons x a => cases a <;> simp [isKey, tmem_str]
@[simp] theorem nin_dct (a : Nm) (l : List Nm) (vs : List T) : o_nin [.str a, .dct (nsT l) vs] = shB (!decide (a ∈ l)) := by
  unfold o_nin
  cases a with
  | nil => simp [isKey, tmem_str]
  | cons x a => cases a <;> simp [isKey, tmem_str]
theorem nsT_fits60 (ns : List Nm) : fits 60 (nsT ns) = true := fits_all.mpr fun t ht => by
  obtain ⟨s, _, rfl⟩ := List.mem_map.mp ht
  rfl
@[simp] theorem in_sq (a : Nm) (b : Bool) (l : List Nm) : o_in_ [.str a, sq b (nsT l)] = shB (decide (a ∈ l)) := by
  have := nsT_fits60 l
  cases b <;> cases a with
  | nil => simp [sq, o_in_, fit, this, tmem_str]
  | cons x a => cases a <;> simp [sq, o_in_, fit, this, tmem_str]
@[simp] theorem in_lst (a : Nm) (l : List Nm) : o_in_ [.str a, .lst (nsT l)] = shB (decide (a ∈ l)) := in_sq a true l
@[simp] theorem in_tup (a : Nm) (l : List Nm) : o_in_ [.str a, .tup (nsT l)] = shB (decide (a ∈ l)) := in_sq a false l
theorem atI_nat {α : Type} {l : List α} {i : Nat} (h : i < l.length) : atI l (i : Int) = some l[i] := by
  unfold atI ixN
  simp [h]
end Ev
end
section
set_option linter.all false
set_option maxRecDepth 100000
set_option maxHeartbeats 2000000
namespace Ev
def rz : S := .raise 0 [.var 3]
/-- a cache that is fit to be run -/
structure Fits (c : List Rm) : Prop where
  nd : (namesOf c).Nodup
  ln : (namesOf c).length ≤ 1000000
  wy : ∀ r ∈ c, 1 ≤ r.2
  lc : c.length ≤ 100000
theorem pteq_int (a b : Int) : teq (.int a) (.int b) = decide (a = b) := by
  unfold teq tcmp icmp
  by_cases h : a < b
  · simp [h, oEq]
    omega
  · by_cases q : a = b
    · simp [q, oEq]
    · simp [h, q, oEq]
theorem nsT_len (l : List Nm) : (nsT l).length = l.length := by simp [nsT]
end Ev
end
section
set_option linter.all false
set_option maxRecDepth 100000
set_option maxHeartbeats 2000000
namespace Ev
end Ev
end
section
set_option linter.all false
set_option maxRecDepth 100000
set_option maxHeartbeats 2000000
namespace Ev
/-- an operator, by parts (no number of the operator's own is looked at) -/
theorem ev_op {cf : CallF} {o : Op} {es : List E} {ρ ρ1 : Env} {as : List Arg} {ts : List T} {r : R} (h : evs cf es ρ = .ok as ρ1) (h2 : argTs ρ1 as = some ts) (h3 : evOp o ts = some r) : ev cf (.op o es) ρ = .ok r ρ1 := by
  rw [ev, h]
  simp only [bind_ok, h2]
  rw [h3]
  rfl
end Ev
end
section
set_option linter.all false
set_option maxRecDepth 100000
set_option maxHeartbeats 2000000
namespace Ev
theorem shelf_c {fns : List Fn} {n i t k : Nat} (hf : fns[i]? = some (shelfFn t)) (ht : fns[t]? = some takeFn) {names : List Nm} (hn : names.length ≤ 1000000) {ts : List T} (hT : Tin (k + 2 * names.length) ts) {most : Int} (m0 : 0 < most) (m1 : most < 2 ^ 200) :
    ∃ c : List Rm, ∃ us, run fns (n + 2) i [.box ts, .sh (.lst (nsT names)), .sh (.int most)] = .ok (.sh (cS false c)) [some (.box us), none, none] ∧ Tin k us ∧ (namesOf c).Perm names ∧ (∀ r ∈ c, 1 ≤ r.2 ∧ r.2 ≤ most) ∧ c.length ≤ names.length ∧ (∀ r ∈ c, r.1 ≠ []) := by
  obtain ⟨rooms, us, h1, h2, h3, h4⟩ := shelf_ok (n := n) hf ht hn hT m0 m1
  have e : run fns (n + 2) i [.box ts, .sh (.lst (nsT names)), .sh (.int most)] = run fns (n + 2) i [.box ts, .own (nsT names), .sh (.int most)] := by
    simp only [run, hf]
    rfl
  obtain ⟨c, hc, hs⟩ := perm_map_inv (tsort_prm (rooms.map rT))
  have hp := hc.map (fun r : Rm => r.1)
  refine ⟨c, us, by rw [e, h1, hs]; rfl, h2, ?_, fun r hr => h4 r (hc.subset hr), ?_, fun r hr => ?_⟩
  · have := (hp.flatten).trans h3.1
    unfold namesOf
    rwa [List.flatMap_def]
  · have := h3.len
    rw [hc.length_eq]
    simpa using this
  · exact (h3.ok _ (List.mem_map.mpr ⟨r, hc.subset hr, rfl⟩)).1
theorem upToN : ∀ (m : Nat) (i : Int), (upTo i m).length = m
  | 0, i => rfl
  | m + 1, i => by simp [upTo, upToN m]
end Ev
end
section
set_option linter.all false
set_option maxRecDepth 100000
set_option maxHeartbeats 2000000
namespace Ev
def lawFn (hand cells right box : Nat) (m : Int) : Fn := ⟨1, 3, [false], [.ifs (.op .not_ [.call hand []]) [.ret (.cst (.bl false))] [],
  .asg false 1 (.call cells [.var 0, .cst (.int m)]),
  .ret (.op .all [.lc [2] (.v 2) .range [.op .len [.var 1]] [] (.call right [.call box [.var 1, .var 2]])])]⟩
theorem upTo_map : ∀ (m : Nat) (i : Nat), upTo (i : Int) m = (List.range' i m).map fun j : Nat => .int (j : Int)
  | 0, i => rfl
  | m + 1, i => by
    have := upTo_map m (i + 1)
    simp only [upTo, List.range'_succ, List.map_cons]
    rw [← this]
    simp
theorem upTo_map0 (m : Nat) : upTo 0 m = (List.range m).map fun j : Nat => .int (j : Int) := by
  rw [List.range_eq_range']
  exact upTo_map m 0
theorem boolsT_bl (bs : List Bool) : boolsT (bs.map .bl) = some bs := by
  induction bs with
  | nil => rfl
  | cons b bs ih => simp [boolsT, ih]
theorem all_true {α : Type} (l : List α) : o_all [.lst (l.map fun _ => .bl true)] = some (.sh (.bl true)) := by
  have : (l.map fun _ => T.bl true) = (l.map fun _ => true).map .bl := by simp
  rw [this]
  unfold o_all
  dsimp only
  rw [boolsT_bl]
  simp [shB]
theorem exs_cons {cf : CallF} {s : S} {ss : List S} {ρ ρ1 : Env} {f : Fl} (h : ex cf s ρ = .nx ρ1) (h2 : exs cf ss ρ1 = f) : exs cf (s :: ss) ρ = f := by
  simp only [exs, h, h2]
theorem exs_rt {cf : CallF} {s : S} {ss : List S} {ρ ρ1 : Env} {r : R} (h : ex cf s ρ = .rt r ρ1) : exs cf (s :: ss) ρ = .rt r ρ1 := by
  simp only [exs, h]
theorem law_frame {fns : List Fn} {n i hand cells right box : Nat} {A B : Int} (hf : fns[i]? = some (lawFn hand cells right box 3)) (hb : fns[box]? = some (boxFn A B)) (hA : A.natAbs < 2 ^ 64) (hc : fns[cells]? = some cellsFn) (hy : yes (run fns (n + 1) hand []) = true)
    (hr : ∀ ts, Tin (2 ^ 59) ts → run fns (n + 1) right [.own ts] = .ok (.sh (.bl true)) [none]) (ns : List Int) (hl : ns.length ≤ 63) : ∃ ρ, run fns (n + 2) i [.sh (.fz ns)] = .ok (.sh (.bl true)) ρ := by
  obtain ⟨ρh, hh⟩ := of_yes hy
  have e0 : run fns (n + 2) i [.sh (.fz ns)] = outF 1 (exs (run fns (n + 1)) (lawFn hand cells right box 3).body [some (.sh (.fz ns)), none, none]) := by
    simp only [run, hf]
    rfl
  obtain ⟨cs, c1, c2, c3⟩ := cells_ok (fns := fns) (n := n) (i := cells) (m := 3) hc (by decide) (by decide) hl
  have c1' : run fns (n + 1) cells [.sh (.fz ns), .sh (.int 3)] = .ok (.own (cs.map .int)) [none, none] := c1
  have k1 := fun ρ => val0_ok (ρ := ρ) (b_sh _) hh
  have k2 := fun ρ => val2_ok (ρ := ρ) (b_sh _) (b_sh _) (b_own _) c1'
  have s1 : ex (run fns (n + 1)) (.ifs (.op .not_ [.call hand []]) [.ret (.cst (.bl false))] []) [some (.sh (.fz ns)), none, none] = .nx [some (.sh (.fz ns)), none, none] := by
    simp [ex, exs, ev, evs, evOp, k1, o_not_, shB]
  have s2 : ex (run fns (n + 1)) (.asg false 1 (.call cells [.var 0, .cst (.int 3)])) [some (.sh (.fz ns)), none, none] = .nx [some (.sh (.fz ns)), some (.sh (.lst (cs.map .int))), none] := by
    simp [ex, ev, evs, k2]
  have ll : line = 16777216 := rfl
  have h3 : evs (run fns (n + 1)) [.op .len [.var 1]] [some (.sh (.fz ns)), some (.sh (.lst (cs.map .int))), none] = .ok [.val (.sh (.int (cs.length : Int)))] [some (.sh (.fz ns)), some (.sh (.lst (cs.map .int))), none] := by
    simp [evs, ev, evOp, Arg.t, o_len, shI]
  have s3 : ev (run fns (n + 1)) (.lc [2] (.v 2) .range [.op .len [.var 1]] [] (.call right [.call box [.var 1, .var 2]])) [some (.sh (.fz ns)), some (.sh (.lst (cs.map .int))), none] = .ok (.own ((upTo 0 cs.length).flatMap fun _ => [.bl true])) [some (.sh (.fz ns)), some (.sh (.lst (cs.map .int))), none] := by
    refine lc_map (fun _ => [.bl true]) h3 rfl (range_ok (by omega)) (fun x hx => ?_) (by rw [flat1, List.length_map, upToN]; omega)
    rw [upTo_map0] at hx
    obtain ⟨j, hj, rfl⟩ := List.mem_map.mp hx
    have hj := List.mem_range.mp hj
    obtain ⟨ts, b1, b2⟩ := box_ok (fns := fns) (n := n) (i := box) (A := A) (B := B) (cs := cs) (k := j) hb hA hj (by omega)
    have b1' : run fns (n + 1) box [.sh (.lst (cs.map .int)), .sh (.int j)] = .ok (.own ts) [none, none] := by
      rw [← b1, run2_sh (fns := fns) (n := n) (i := box) (x := .own (cs.map .int)) hb rfl rfl rfl]
      rfl
    have k3 := fun ρ => val2_ok (ρ := ρ) (b_sh _) (b_sh _) (b_own _) b1'
    have k4 := fun ρ => val1_ok (ρ := ρ) (b_own ts) (b_sh _) (hr ts b2)
    simp [lcStep, hide, wipe, evc, ev, evs, k3, k4, unwipe]
  have s4 : ev (run fns (n + 1)) (.op .all [.lc [2] (.v 2) .range [.op .len [.var 1]] [] (.call right [.call box [.var 1, .var 2]])]) [some (.sh (.fz ns)), some (.sh (.lst (cs.map .int))), none] = .ok (.sh (.bl true)) [some (.sh (.fz ns)), some (.sh (.lst (cs.map .int))), none] := by
    refine ev_op (as := [.val (.own ((upTo 0 cs.length).flatMap fun _ => [.bl true]))]) ?_ rfl ?_
    · simp only [evs, s3, bind_ok]
    · rw [flat1]
      exact all_true _
  rw [e0]
  have s5 : ex (run fns (n + 1)) (.ret (.op .all [.lc [2] (.v 2) .range [.op .len [.var 1]] [] (.call right [.call box [.var 1, .var 2]])])) [some (.sh (.fz ns)), some (.sh (.lst (cs.map .int))), none] = .rt (.sh (.bl true)) [some (.sh (.fz ns)), some (.sh (.lst (cs.map .int))), none] := by
    rw [ex, s4]
    rfl
  refine ⟨[none], ?_⟩
  rw [show exs (run fns (n + 1)) (lawFn hand cells right box 3).body [some (.sh (.fz ns)), none, none] = _ from exs_cons s1 (exs_cons s2 (exs_rt s5))]
  rfl
end Ev
end
section
set_option linter.all false
set_option maxRecDepth 100000
set_option maxHeartbeats 2000000
namespace Ev
/-- a drawn cache -/
structure Drawn (c : List Rm) (most : Int) : Prop where
  nd : (namesOf c).Nodup
  sub : ∀ a ∈ namesOf c, a ∈ tagsL
  ln : (namesOf c).length ≤ 24
  lc : c.length ≤ 24
  wy : ∀ r ∈ c, 1 ≤ r.2 ∧ r.2 ≤ most
  ne : ∀ r ∈ c, r.1 ≠ []
  n0 : namesOf c ≠ []
theorem Drawn.fits {c : List Rm} {m : Int} (h : Drawn c m) : Fits c := ⟨h.nd, by have := h.ln; omega, fun r hr => (h.wy r hr).1, by have := h.lc; omega⟩
theorem tagsL_nd : tagsL.Nodup := by decide
theorem tagsL_len : tagsL.length = 24 := by decide
theorem drawn_of {c : List Rm} {most : Int} {k : Nat} (hk : 0 < k) (hk2 : k ≤ 24) (hp : (namesOf c).Perm (tagsL.take k)) (hw : ∀ r ∈ c, 1 ≤ r.2 ∧ r.2 ≤ most) (hl : c.length ≤ (tagsL.take k).length) (hn : ∀ r ∈ c, r.1 ≠ []) : Drawn c most := by
  have l : (tagsL.take k).length = k := by rw [List.length_take, tagsL_len]; omega
  refine ⟨hp.nodup_iff.mpr (List.Sublist.nodup (List.take_sublist _ _) tagsL_nd), fun a ha => List.mem_of_mem_take (hp.subset ha), by rw [hp.length_eq, l]; exact hk2, by omega, hw, hn, fun q => ?_⟩
  have := hp.length_eq
  rw [q, l] at this
  simp at this
  omega
end Ev
end
section
set_option linter.all false
set_option maxRecDepth 100000
set_option maxHeartbeats 2000000
namespace Ev
@[simp] theorem bind_exc {α β : Type} (c : Nat) (fs : List T) (ρ : Env) (f : α → Env → Out β) : (Out.exc c fs ρ : Out α).bind f = .exc c fs ρ := rfl
@[simp] theorem fl_exc {α : Type} (c : Nat) (fs : List T) (ρ : Env) (f : α → Env → Fl) : (Out.exc c fs ρ : Out α).fl f = .exc c fs ρ := rfl
theorem lstT_str (s : List Nat) : lstT (.str s) = .str s := by unfold lstT; rfl
theorem lstT_ns (l : List Nm) : lstTs (nsT l) = nsT l := by
  rw [lstTs_map]
  simp [nsT, lstT_str]
theorem lstT_c (b : Bool) (c : List Rm) : lstT (cS b c) = cS true c := by
  have e : ∀ (b : Bool) (ts : List T), lstT (sq b ts) = .lst (ts.map lstT) := fun b ts => by
    cases b <;> (unfold sq; simp only [Bool.false_eq_true, if_false, if_true]; unfold lstT; rw [lstTs_map])
  have e2 : lstT (.int 0) = .int 0 := by unfold lstT; rfl
  have e3 : ∀ i, lstT (.int i) = .int i := fun i => by unfold lstT; rfl
  have r : ∀ r : Rm, lstT (rS b r) = rS true r := fun r => by
    unfold rS
    rw [e, List.map_cons, List.map_cons, List.map_nil, e, e3, ← lstTs_map, lstT_ns]
    rfl
  unfold cS
  rw [e]
  simp [r, sq]
theorem okD_ns {n : Nat} {l : List Nm} : ∀ t ∈ nsT l, okD n t := fun t ht => by
  obtain ⟨s, _, rfl⟩ := List.mem_map.mp ht
  exact okD_str
theorem okD_sq {n : Nat} {b : Bool} {ts : List T} (hl : ts.length ≤ 16000000) (h : ∀ t ∈ ts, okD n t) : okD (n + 1) (sq b ts) := by
  cases b
  · exact okD_tup.mpr ⟨hl, h⟩
  · exact okD_lst.mpr ⟨hl, h⟩
theorem okD_c {n : Nat} {b : Bool} {c : List Rm} (h : Fits c) : okD (n + 3) (cS b c) := by
  refine okD_sq (by have := h.lc; simp; omega) fun t ht => ?_
  obtain ⟨r, hr, rfl⟩ := List.mem_map.mp ht
  refine okD_sq (by simp) fun t ht => ?_
  simp only [List.mem_cons, List.not_mem_nil, or_false] at ht
  rcases ht with rfl | rfl
  · refine okD_sq ?_ okD_ns
    rw [nsT_len]
    have : r.1.length ≤ (namesOf c).length := by
      rw [namesOf, List.flatMap_def]
      exact List.Sublist.length_le (List.sublist_flatten_of_mem (List.mem_map.mpr ⟨r, hr, rfl⟩))
    have := h.ln
    omega
  · exact okD_int
end Ev
end
section
set_option linter.all false
set_option maxRecDepth 100000
set_option maxHeartbeats 1000000
namespace Ev
structure Ve (cf : CallF) (e : E) (ρ : Env) (o : Out R) : Prop where
  h : ev cf e ρ = o
structure Vs (cf : CallF) (es : List E) (ρ : Env) (o : Out (List Arg)) : Prop where
  h : evs cf es ρ = o
structure Vc (cf : CallF) (cs : List E) (ρ : Env) (o : Out Bool) : Prop where
  h : evc cf cs ρ = o
/-- what a suite does is so -/
structure W (cf : CallF) (ss : List S) (ρ : Env) (Q : Fl → Prop) : Prop where
  h : Q (exs cf ss ρ)
structure Vg (ρ : Env) (i : Nat) (r : R) : Prop where
  h : getR ρ i = some r
structure Vwr (ρ : Env) (i : Nat) (r : R) (ρ' : Env) : Prop where
  h : setR ρ i r = ρ'
structure Vp (ρ : Env) (i : Nat) (r : R) (ρ' : Env) : Prop where
  h : put1 ρ i r = some ρ'
structure Vn (ρ : Env) (i : Nat) (a : Option R) (ρ' : Env) : Prop where
  h : ρ.set i a = ρ'
structure Vd (ρ : Env) (i : Nat) (a : Option R) : Prop where
  h : ρ.getD i none = a
structure Vr (r : R) (t : T) : Prop where
  h : r.t = t
  b : r.isBox = false
structure Va (ρ : Env) (as : List Arg) (ts : List T) : Prop where
  h : argTs ρ as = some ts
structure Vop (o : Op) (ts : List T) (r : R) : Prop where
  h : evOp o ts = some r
structure Vk (k : ItK) (ts xs : List T) : Prop where
  h : walk k ts = some xs
structure Vpat (p : Pat) (t : T) (ρ ρ' : Env) : Prop where
  h : putP p t ρ = some ρ'
structure Vpats (ps : List Pat) (ts : List T) (ρ ρ' : Env) : Prop where
  h : putPs ps ts ρ = some ρ'
structure Vhide (ρ : Env) (own : List Nat) (ρ' : Env) : Prop where
  h : hide ρ own = some ρ'
structure Vun (old ρ : Env) (own : List Nat) (ρ' : Env) : Prop where
  h : unwipe old ρ own = ρ'
structure Vcalm (a : Option R) : Prop where
  h : calmB a = true
structure Vcm (ρ : Env) (i : Nat) : Prop where
  h : calmAt ρ i = true
structure Vnb (a : Option R) : Prop where
  h : boxO a = false
structure Vsh (r : R) (ρ : Env) (i : Nat) (o : Out R) : Prop where
  h : getR ρ i = some r → share ρ i = o
structure Vtr (t : T) (b : Bool) : Prop where
  h : truth t = some b
structure Vsq (t : T) (ts : List T) : Prop where
  h : seqL t = some ts
/-- arguments that lend nothing -/
structure Vas (as : List Arg) (ts : List T) : Prop where
  h : ∃ rs : List R, as = rs.map .val ∧ rs.map R.t = ts ∧ rs.all (fun r => !r.isBox) = true
theorem Vg.z {r : R} {ρ : Env} : Vg (some r :: ρ) 0 r := ⟨getR_0 _ _⟩
theorem Vg.s {a : Option R} {r : R} {ρ : Env} {i : Nat} (h : Vg ρ i r) : Vg (a :: ρ) (i + 1) r := ⟨by rw [getR_s]; exact h.h⟩
theorem Vwr.z {a : Option R} {r : R} {ρ : Env} : Vwr (a :: ρ) 0 r (some r :: ρ) := ⟨rfl⟩
theorem Vwr.s {a : Option R} {r : R} {ρ ρ' : Env} {i : Nat} (h : Vwr ρ i r ρ') : Vwr (a :: ρ) (i + 1) r (a :: ρ') := ⟨by rw [setR_s, h.h]⟩
theorem Vnb.n : Vnb none := ⟨rfl⟩
theorem Vnb.g {o : Option T} : Vnb (gS o) := ⟨boxO_g o⟩
theorem Vnb.sh {t : T} : Vnb (some (.sh t)) := ⟨rfl⟩
theorem Vnb.o {ts : List T} : Vnb (some (.own ts)) := ⟨rfl⟩
theorem Vp.z {a : Option R} {r : R} {ρ : Env} {t : T} (h : Vnb a) (hr : Vr r t) : Vp (a :: ρ) 0 r (some r :: ρ) := ⟨by rw [put1_0, h.h, hr.b]; rfl⟩
theorem Vp.s {a : Option R} {r : R} {ρ ρ' : Env} {i : Nat} (h : Vp ρ i r ρ') : Vp (a :: ρ) (i + 1) r (a :: ρ') := ⟨by rw [put1_s, h.h]; rfl⟩
theorem Vn.z {a b : Option R} {ρ : Env} : Vn (a :: ρ) 0 b (b :: ρ) := ⟨rfl⟩
theorem Vn.s {a b : Option R} {ρ ρ' : Env} {i : Nat} (h : Vn ρ i b ρ') : Vn (a :: ρ) (i + 1) b (a :: ρ') := ⟨by rw [List.set_cons_succ, h.h]⟩
theorem Vd.z {a : Option R} {ρ : Env} : Vd (a :: ρ) 0 a := ⟨rfl⟩
theorem Vd.s {a b : Option R} {ρ : Env} {i : Nat} (h : Vd ρ i b) : Vd (a :: ρ) (i + 1) b := ⟨by rw [List.getD_cons_succ]; exact h.h⟩
theorem Vcalm.n : Vcalm none := ⟨rfl⟩
theorem Vcalm.s {t : T} : Vcalm (some (.sh t)) := ⟨rfl⟩
theorem Vcalm.g {o : Option T} : Vcalm (gS o) := ⟨calmB_g o⟩
theorem Vcm.z {a : Option R} {ρ : Env} (h : Vcalm a) : Vcm (a :: ρ) 0 := ⟨by rw [calmAt_0]; exact h.h⟩
theorem Vcm.s {a : Option R} {ρ : Env} {i : Nat} (h : Vcm ρ i) : Vcm (a :: ρ) (i + 1) := ⟨by rw [calmAt_s]; exact h.h⟩
theorem Vhide.nil {ρ : Env} : Vhide ρ [] ρ := ⟨rfl⟩
theorem Vhide.cons {ρ ρ1 ρ2 : Env} {i : Nat} {is : List Nat} (h : Vhide ρ is ρ1) (hc : Vcm ρ i) (hn : Vn ρ1 i none ρ2) : Vhide ρ (i :: is) ρ2 := by
  have h1 := h.h
  unfold hide at h1
  split at h1
  · rename_i q
    refine ⟨?_⟩
    unfold hide
    rw [List.all_cons, hc.h, q]
    simp only [Bool.and_self, if_true, wipe]
    rw [Option.some.inj h1, hn.h]
  · cases h1
theorem Vun.nil {old ρ : Env} : Vun old ρ [] ρ := ⟨rfl⟩
theorem Vun.cons {old ρ ρ1 ρ2 : Env} {i : Nat} {a : Option R} {is : List Nat} (h : Vun old ρ is ρ1) (hd : Vd old i a) (hn : Vn ρ1 i a ρ2) : Vun old ρ (i :: is) ρ2 := ⟨by
  simp only [unwipe]
  rw [h.h, hd.h, hn.h]⟩
theorem Vr.sh {t : T} : Vr (.sh t) t := ⟨rfl, rfl⟩
theorem Vr.own {ts : List T} : Vr (.own ts) (.lst ts) := ⟨rfl, rfl⟩
theorem Vr.own2 {tss : List (List T)} : Vr (.own2 tss) (.lst (tss.map .lst)) := ⟨rfl, rfl⟩
theorem Vr.ownD {ks vs : List T} : Vr (.ownD ks vs) (.dct ks vs) := ⟨rfl, rfl⟩
theorem Vtr.bl {b : Bool} : Vtr (.bl b) b := ⟨rfl⟩
theorem Vtr.non : Vtr .non false := ⟨rfl⟩
theorem Vtr.int {i : Int} : Vtr (.int i) (i != 0) := ⟨rfl⟩
theorem Vtr.lstM {α : Type} {f : α → T} {l : List α} : Vtr (.lst (l.map f)) (!l.isEmpty) := ⟨by simp [truth]⟩
theorem Vtr.lst {ts : List T} : Vtr (.lst ts) (!ts.isEmpty) := ⟨rfl⟩
theorem Vtr.tup {ts : List T} : Vtr (.tup ts) (!ts.isEmpty) := ⟨rfl⟩
theorem Vsq.tup {ts : List T} : Vsq (.tup ts) ts := ⟨rfl⟩
theorem Vsq.lst {ts : List T} : Vsq (.lst ts) ts := ⟨rfl⟩
theorem Vas.nil : Vas [] [] := ⟨[], rfl, rfl, rfl⟩
theorem Vas.cons {r : R} {t : T} {as : List Arg} {ts : List T} (h : Vr r t) (h2 : Vas as ts) : Vas (.val r :: as) (t :: ts) := by
  obtain ⟨rs, rfl, rfl, q⟩ := h2
  exact ⟨r :: rs, rfl, by rw [List.map_cons, h.h], by rw [List.all_cons, h.b, q]; rfl⟩
theorem Va.nil {ρ : Env} : Va ρ [] [] := ⟨rfl⟩
theorem Va.val {ρ : Env} {r : R} {t : T} {as : List Arg} {ts : List T} (h : Vr r t) (h2 : Va ρ as ts) : Va ρ (.val r :: as) (t :: ts) := ⟨by rw [argTs_val, h2.h, h.h]; rfl⟩
theorem Va.star {ρ : Env} {us ts : List T} {as : List Arg} (h2 : Va ρ as ts) : Va ρ (.star us :: as) (us ++ ts) := ⟨by rw [argTs_star, h2.h]; rfl⟩
structure VrB (r : R) (t : T) : Prop where
  h : ∀ ρ i, getR ρ i = some r → Arg.t ρ (.slot i) = some [t]
theorem VrB.sh {t : T} : VrB (.sh t) t := ⟨fun ρ i h => by simp [Arg.t, h]⟩
theorem VrB.own {ts : List T} : VrB (.own ts) (.lst ts) := ⟨fun ρ i h => by simp [Arg.t, h]⟩
theorem VrB.box {ts : List T} : VrB (.box ts) (.lst ts) := ⟨fun ρ i h => by simp [Arg.t, h]⟩
theorem VrB.ownD {ks vs : List T} : VrB (.ownD ks vs) (.dct ks vs) := ⟨fun ρ i h => by simp [Arg.t, h]⟩
theorem Va.slot {ρ : Env} {i : Nat} {r : R} {t : T} {as : List Arg} {ts : List T} (hg : Vg ρ i r) (h : VrB r t) (h2 : Va ρ as ts) : Va ρ (.slot i :: as) (t :: ts) := ⟨by
  rw [argTs_slot, h.h ρ i hg.h, h2.h]; rfl⟩
theorem Ve.cst {cf : CallF} {t : T} {ρ : Env} : Ve cf (.cst t) ρ (.ok (.sh t) ρ) := ⟨by rw [ev]⟩
theorem Ve.glb {cf : CallF} {k : Nat} {t : T} {ρ : Env} : Ve cf (.glb k t) ρ (.ok (.sh t) ρ) := ⟨by rw [ev]⟩
theorem Vsh.sh {t : T} {ρ : Env} {i : Nat} : Vsh (.sh t) ρ i (.ok (.sh t) ρ) := ⟨share_of⟩
theorem Vsh.own {ts : List T} {ρ ρ' : Env} {i : Nat} (h : Vwr ρ i (.sh (.lst ts)) ρ') : Vsh (.own ts) ρ i (.ok (.sh (.lst ts)) ρ') := ⟨fun q => by rw [share_own q, h.h]⟩
theorem Vsh.own2 {tss : List (List T)} {ρ ρ' : Env} {i : Nat} (h : Vwr ρ i (.sh (.lst (tss.map .lst))) ρ') : Vsh (.own2 tss) ρ i (.ok (.sh (.lst (tss.map .lst))) ρ') := ⟨fun q => by simp [share, q, R.t, h.h]⟩
theorem Vsh.ownD {ks vs : List T} {ρ ρ' : Env} {i : Nat} (h : Vwr ρ i (.sh (.dct ks vs)) ρ') : Vsh (.ownD ks vs) ρ i (.ok (.sh (.dct ks vs)) ρ') := ⟨fun q => by rw [share_dct q, h.h]⟩
theorem Ve.var {cf : CallF} {i : Nat} {ρ : Env} {r : R} {o : Out R} (h : Vg ρ i r) (h2 : Vsh r ρ i o) : Ve cf (.var i) ρ o := ⟨by rw [ev]; exact h2.h h.h⟩
structure VL (r : R) (n : Int) : Prop where
  h : ∀ cf ρ i, getR ρ i = some r → ev cf (.lenV i) ρ = .ok (.sh (.int n)) ρ
theorem VL.own {ts : List T} : VL (.own ts) ts.length := ⟨fun cf ρ i h => by rw [ev]; simp [h]⟩
theorem VL.box {ts : List T} : VL (.box ts) ts.length := ⟨fun cf ρ i h => by rw [ev]; simp [h]⟩
theorem VL.own2 {tss : List (List T)} : VL (.own2 tss) tss.length := ⟨fun cf ρ i h => by rw [ev]; simp [h]⟩
theorem Ve.lenV {cf : CallF} {i : Nat} {ρ : Env} {r : R} {n : Int} (h : Vg ρ i r) (h2 : VL r n) : Ve cf (.lenV i) ρ (.ok (.sh (.int n)) ρ) := ⟨h2.h cf ρ i h.h⟩
structure VopK (o : Op) (x : Out (List Arg)) (y : Out R) : Prop where
  h : (x.bind fun as ρ1 => match argTs ρ1 as with
    | some ts => fin (evOp o ts) ρ1
    | none => .bad) = y
theorem VopK.ok {o : Op} {as : List Arg} {ρ : Env} {ts : List T} {r : R} (h : Va ρ as ts) (h2 : Vop o ts r) : VopK o (.ok as ρ) (.ok r ρ) := ⟨by
  rw [bind_ok, h.h]
  simp only [h2.h]
  rfl⟩
theorem VopK.exc {o : Op} {c : Nat} {fs : List T} {ρ : Env} : VopK o (.exc c fs ρ) (.exc c fs ρ) := ⟨rfl⟩
theorem Ve.op {cf : CallF} {o : Op} {es : List E} {ρ : Env} {x : Out (List Arg)} {y : Out R} (h : Vs cf es ρ x) (h2 : VopK o x y) : Ve cf (.op o es) ρ y := ⟨by
  rw [ev, h.h]
  exact h2.h⟩
structure Vcl (cf : CallF) (f : Nat) (as : List Arg) (ρ : Env) (y : Out R) : Prop where
  h : callF cf f as ρ = y
structure VcK (cf : CallF) (f : Nat) (x : Out (List Arg)) (y : Out R) : Prop where
  h : (x.bind fun as ρ1 => callF cf f as ρ1) = y
theorem VcK.ok {cf : CallF} {f : Nat} {as : List Arg} {ρ : Env} {y : Out R} (h : Vcl cf f as ρ y) : VcK cf f (.ok as ρ) y := ⟨h.h⟩
theorem VcK.exc {cf : CallF} {f : Nat} {c : Nat} {fs : List T} {ρ : Env} : VcK cf f (.exc c fs ρ) (.exc c fs ρ) := ⟨rfl⟩
theorem Ve.call {cf : CallF} {f : Nat} {es : List E} {ρ : Env} {x : Out (List Arg)} {y : Out R} (h : Vs cf es ρ x) (h2 : VcK cf f x y) : Ve cf (.call f es) ρ y := ⟨by
  rw [ev, h.h]
  exact h2.h⟩
structure Vnth (as : List Arg) (k : Nat) (a : Arg) : Prop where
  h : as.getD k (.val (.sh .non)) = a
structure Vord (as : List Arg) (ks : List Nat) (bs : List Arg) : Prop where
  h : (ks.map fun k => as.getD k (.val (.sh .non))) = bs
theorem Vord.nil {as : List Arg} : Vord as [] [] := ⟨rfl⟩
theorem Vord.cons {as bs : List Arg} {a : Arg} {k : Nat} {ks : List Nat} (h : Vnth as k a) (h2 : Vord as ks bs) : Vord as (k :: ks) (a :: bs) := ⟨by rw [List.map_cons, h.h, h2.h]⟩
structure VkK (cf : CallF) (f : Nat) (ks : List Nat) (x : Out (List Arg)) (y : Out R) : Prop where
  h : (x.bind fun as ρ1 => if as.length = ks.length then callF cf f (ks.map fun k => as.getD k (.val (.sh .non))) ρ1 else .bad) = y
theorem VkK.ok {cf : CallF} {f : Nat} {ks : List Nat} {as bs : List Arg} {ρ : Env} {y : Out R} (h0 : Vord as ks bs) (hl : as.length = ks.length) (h : Vcl cf f bs ρ y) : VkK cf f ks (.ok as ρ) y := ⟨by
  rw [bind_ok, if_pos hl, h0.h]
  exact h.h⟩
theorem Ve.callk {cf : CallF} {f : Nat} {es : List E} {ks : List Nat} {ρ : Env} {x : Out (List Arg)} {y : Out R} (h : Vs cf es ρ x) (h2 : VkK cf f ks x y) : Ve cf (.callk f es ks) ρ y := ⟨by
  rw [ev, h.h]
  exact h2.h⟩
/-- a call by values alone -/
structure CallT (cf : CallF) (f : Nat) (ts : List T) (r : R) : Prop where
  h : ∀ as ρ, Vas as ts → callF cf f as ρ = .ok r ρ
structure ThrowT (cf : CallF) (f : Nat) (ts : List T) (c : Nat) (fs : List T) : Prop where
  h : ∀ as ρ, Vas as ts → callF cf f as ρ = .exc c fs ρ
/-- a call that lends the list of the slot, its first argument -/
structure LendT (cf : CallF) (f : Nat) (xs : List T) (ts : List T) (us : List T) (r : R) : Prop where
  h : ∀ as ρ i, Vas as ts → (getR ρ i = some (.own xs) → callF cf f (.slot i :: as) ρ = .ok r (setR ρ i (.own us))) ∧ (getR ρ i = some (.box xs) → callF cf f (.slot i :: as) ρ = .ok r (setR ρ i (.box us)))
theorem Vcl.call {cf : CallF} {f : Nat} {as : List Arg} {ts : List T} {ρ : Env} {r : R} (h : Vas as ts) (h2 : CallT cf f ts r) : Vcl cf f as ρ (.ok r ρ) := ⟨h2.h as ρ h⟩
structure VlB (r : R) (xs us : List T) (q : R) : Prop where
  h : (r = .own xs ∧ q = .own us) ∨ (r = .box xs ∧ q = .box us)
theorem VlB.own {xs us : List T} : VlB (.own xs) xs us (.own us) := ⟨.inl ⟨rfl, rfl⟩⟩
theorem VlB.box {xs us : List T} : VlB (.box xs) xs us (.box us) := ⟨.inr ⟨rfl, rfl⟩⟩
theorem Vcl.lend {cf : CallF} {f i : Nat} {as : List Arg} {xs ts us : List T} {ρ ρ' : Env} {r r0 q : R} (h : Vas as ts) (hg : Vg ρ i r0) (h2 : LendT cf f xs ts us r) (hb : VlB r0 xs us q) (hw : Vwr ρ i q ρ') : Vcl cf f (.slot i :: as) ρ (.ok r ρ') := by
  obtain ⟨a, b⟩ := h2.h as ρ i h
  refine ⟨?_⟩
  have hg := hg.h
  rcases hb.h with ⟨rfl, rfl⟩ | ⟨rfl, rfl⟩
  · rw [a hg, hw.h]
  · rw [b hg, hw.h]
theorem argRs_vals (ρ : Env) : ∀ rs : List R, rs.all (fun r => !r.isBox) = true → argRs ρ (rs.map .val) = some rs ∧ ∀ j, lentAt (rs.map .val) j = []
  | [], _ => ⟨rfl, fun _ => rfl⟩
  | r :: rs, h => by
    simp only [List.all_cons, Bool.and_eq_true, Bool.not_eq_true'] at h
    obtain ⟨h1, h2⟩ := argRs_vals ρ rs h.2
    refine ⟨by simp [argRs, h.1, h1], fun j => ?_⟩
    simp only [List.map_cons, lentAt]
    exact h2 _
theorem entry_t : ∀ rs : List R, rs.all (fun r => !r.isBox) = true → entry (rs.map fun _ => false) rs = some (rs.map fun r => some (.sh r.t))
  | [], _ => rfl
  | r :: rs, h => by
    simp only [List.all_cons, Bool.and_eq_true, Bool.not_eq_true'] at h
    simp [entry, h.1, entry_t rs h.2]
theorem entry_sh (ts : List T) : entry (ts.map fun _ => false) (ts.map .sh) = some (ts.map fun t => some (.sh t)) := by
  have := entry_t (ts.map .sh) (by simp)
  simpa [Function.comp_def] using this
theorem run_t {fns : List Fn} {n f : Nat} {d : Fn} {rs : List R} {ts : List T} (hf : fns[f]? = some d) (hm : d.ms = ts.map fun _ => false) (e : rs.map R.t = ts) (hb : rs.all (fun r => !r.isBox) = true) : run fns (n + 1) f rs = run fns (n + 1) f (ts.map .sh) := by
  subst e
  have h1 := entry_t rs hb
  have h2 := entry_sh (rs.map R.t)
  simp only [List.map_map] at h2 hm
  have e1 : ((fun x => false) ∘ R.t : R → Bool) = fun _ => false := rfl
  rw [e1] at h2 hm
  simp only [run, hf, hm, h1]
  simp only [List.map_map]
  rw [h2]
  rfl
theorem CallT.of {fns : List Fn} {n f : Nat} {d : Fn} {ts : List T} {r : R} {ρ1 : Env} (hf : fns[f]? = some d) (hm : d.ms = ts.map fun _ => false) (hr : r.isBox = false) (h : run fns (n + 1) f (ts.map .sh) = .ok r ρ1) : CallT (run fns (n + 1)) f ts r := ⟨fun as ρ ha => by
  obtain ⟨rs, rfl, e, hb⟩ := ha.h
  obtain ⟨h1, h2⟩ := argRs_vals ρ rs hb
  unfold callF
  rw [h1, h2]
  simp only
  rw [run_t hf hm e hb, h]
  simp [hr]⟩
theorem ThrowT.of {fns : List Fn} {n f : Nat} {d : Fn} {ts : List T} {c : Nat} {fs : List T} (hf : fns[f]? = some d) (hm : d.ms = ts.map fun _ => false) (h : ∃ ρ1, run fns (n + 1) f (ts.map .sh) = .exc c fs ρ1) : ThrowT (run fns (n + 1)) f ts c fs := ⟨fun as ρ ha => by
  obtain ⟨rs, rfl, e, hb⟩ := ha.h
  obtain ⟨h1, h2⟩ := argRs_vals ρ rs hb
  obtain ⟨ρ1, h⟩ := h
  unfold callF
  rw [h1, h2]
  simp only
  rw [run_t hf hm e hb, h]⟩
theorem LendT.of {fns : List Fn} {n f : Nat} {d : Fn} {xs ts us : List T} {r : R} {ρ1 : Env} (hf : fns[f]? = some d) (hm : d.ms = true :: ts.map fun _ => false) (hr : r.isBox = false) (h : run fns (n + 1) f (.box xs :: ts.map .sh) = .ok r (some (.box us) :: ρ1)) : LendT (run fns (n + 1)) f xs ts us r := ⟨fun as ρ i ha => by
  obtain ⟨rs, rfl, e, hb⟩ := ha.h
  obtain ⟨h1, h2⟩ := argRs_vals ρ rs hb
  have e2 : run fns (n + 1) f (.box xs :: rs) = run fns (n + 1) f (.box xs :: ts.map .sh) := by
    subst e
    have h1 := entry_t rs hb
    have h2 := entry_sh (rs.map R.t)
    simp only [List.map_map] at h2 hm
    have e1 : ((fun x => false) ∘ R.t : R → Bool) = fun _ => false := rfl
    rw [e1] at h2 hm
    simp only [run, hf, hm, entry, h1]
    simp only [List.map_map]
    rw [h2]
    rfl
  constructor <;> intro hg
  · have ea : argRs ρ (.slot i :: rs.map .val) = some (.box xs :: rs) := by simp [argRs, hg, h1]
    have el : lentAt (.slot i :: rs.map .val) 0 = [(0, i)] := by simp [lentAt, h2]
    unfold callF
    rw [ea, el]
    simp only
    rw [e2, h]
    simp [hr, hg]
  · have ea : argRs ρ (.slot i :: rs.map .val) = some (.box xs :: rs) := by simp [argRs, hg, h1]
    have el : lentAt (.slot i :: rs.map .val) 0 = [(0, i)] := by simp [lentAt, h2]
    unfold callF
    rw [ea, el]
    simp only
    rw [e2, h]
    simp [hr, hg]⟩
structure VtK (x : Out R) (y : Out Bool) : Prop where
  h : tru x = y
theorem VtK.ok {r : R} {t : T} {b : Bool} {ρ : Env} (h : Vr r t) (h2 : Vtr t b) : VtK (.ok r ρ) (.ok b ρ) := ⟨by simp only [tru, h.h, h2.h]⟩
theorem VtK.exc {c : Nat} {fs : List T} {ρ : Env} : VtK (.exc c fs ρ) (.exc c fs ρ) := ⟨rfl⟩
structure VifK (cf : CallF) (a b : E) (x : Out Bool) (y : Out R) : Prop where
  h : (x.bind fun t ρ1 => if t then ev cf a ρ1 else ev cf b ρ1) = y
theorem VifK.t {cf : CallF} {a b : E} {ρ : Env} {y : Out R} (h : Ve cf a ρ y) : VifK cf a b (.ok true ρ) y := ⟨h.h⟩
theorem VifK.f {cf : CallF} {a b : E} {ρ : Env} {y : Out R} (h : Ve cf b ρ y) : VifK cf a b (.ok false ρ) y := ⟨h.h⟩
theorem VifK.exc {cf : CallF} {a b : E} {c : Nat} {fs : List T} {ρ : Env} : VifK cf a b (.exc c fs ρ) (.exc c fs ρ) := ⟨rfl⟩
theorem Ve.ifx {cf : CallF} {c a b : E} {ρ : Env} {x : Out R} {x2 : Out Bool} {y : Out R} (h : Ve cf c ρ x) (h2 : VtK x x2) (h3 : VifK cf a b x2 y) : Ve cf (.ifx c a b) ρ y := ⟨by
  rw [ev, h.h, h2.h]
  exact h3.h⟩
structure VaB (cf : CallF) (b : E) (p : Bool) (r : R) (ρ : Env) (y : Out R) : Prop where
  h : (if p then ev cf b ρ else .ok r ρ) = y
theorem VaB.t {cf : CallF} {b : E} {r : R} {ρ : Env} {y : Out R} (h : Ve cf b ρ y) : VaB cf b true r ρ y := ⟨h.h⟩
theorem VaB.f {cf : CallF} {b : E} {r : R} {ρ : Env} : VaB cf b false r ρ (.ok r ρ) := ⟨rfl⟩
theorem VaB.sym {cf : CallF} {b : E} {p q : Bool} {ρ : Env} (h : p = true → Ve cf b ρ (.ok (.sh (.bl q)) ρ)) : VaB cf b p (.sh (.bl p)) ρ (.ok (.sh (.bl (p && q))) ρ) := by
  cases p
  · exact ⟨rfl⟩
  · exact ⟨(h rfl).h⟩
structure VanK (cf : CallF) (b : E) (x y : Out R) : Prop where
  h : (x.bind fun r ρ1 => match truth r.t with
    | some true => ev cf b ρ1
    | some false => .ok r ρ1
    | none => .bad) = y
theorem VanK.ok {cf : CallF} {b : E} {r : R} {t : T} {p : Bool} {ρ : Env} {y : Out R} (h : Vr r t) (h2 : Vtr t p) (h3 : VaB cf b p r ρ y) : VanK cf b (.ok r ρ) y := ⟨by
  have := h3.h
  simp only [bind_ok, h.h, h2.h]
  cases p <;> simpa using this⟩
theorem VanK.exc {cf : CallF} {b : E} {c : Nat} {fs : List T} {ρ : Env} : VanK cf b (.exc c fs ρ) (.exc c fs ρ) := ⟨rfl⟩
theorem Ve.and_ {cf : CallF} {a b : E} {ρ : Env} {x y : Out R} (h : Ve cf a ρ x) (h2 : VanK cf b x y) : Ve cf (.and_ a b) ρ y := ⟨by
  rw [ev, h.h]
  exact h2.h⟩
structure VoB (cf : CallF) (b : E) (p : Bool) (r : R) (ρ : Env) (y : Out R) : Prop where
  h : (if p then .ok r ρ else ev cf b ρ) = y
theorem VoB.f {cf : CallF} {b : E} {r : R} {ρ : Env} {y : Out R} (h : Ve cf b ρ y) : VoB cf b false r ρ y := ⟨h.h⟩
theorem VoB.t {cf : CallF} {b : E} {r : R} {ρ : Env} : VoB cf b true r ρ (.ok r ρ) := ⟨rfl⟩
structure VorK (cf : CallF) (b : E) (x y : Out R) : Prop where
  h : (x.bind fun r ρ1 => match truth r.t with
    | some true => .ok r ρ1
    | some false => ev cf b ρ1
    | none => .bad) = y
theorem VorK.ok {cf : CallF} {b : E} {r : R} {t : T} {p : Bool} {ρ : Env} {y : Out R} (h : Vr r t) (h2 : Vtr t p) (h3 : VoB cf b p r ρ y) : VorK cf b (.ok r ρ) y := ⟨by
  have := h3.h
  simp only [bind_ok, h.h, h2.h]
  cases p <;> simpa using this⟩
theorem VorK.exc {cf : CallF} {b : E} {c : Nat} {fs : List T} {ρ : Env} : VorK cf b (.exc c fs ρ) (.exc c fs ρ) := ⟨rfl⟩
theorem Ve.or_ {cf : CallF} {a b : E} {ρ : Env} {x y : Out R} (h : Ve cf a ρ x) (h2 : VorK cf b x y) : Ve cf (.or_ a b) ρ y := ⟨by
  rw [ev, h.h]
  exact h2.h⟩
structure VhB (cf : CallF) (o2 : Op) (c : E) (tb : T) (p : Bool) (ρ : Env) (y : Out R) : Prop where
  h : (if p then (ev cf c ρ).bind fun rc ρ3 => fin (evOp o2 [tb, rc.t]) ρ3 else .ok (.sh (.bl false)) ρ) = y
theorem VhB.t {cf : CallF} {o2 : Op} {c : E} {tb tc : T} {ρ ρ3 : Env} {rc r : R} (h : Ve cf c ρ (.ok rc ρ3)) (h2 : Vr rc tc) (h3 : Vop o2 [tb, tc] r) : VhB cf o2 c tb true ρ (.ok r ρ3) := ⟨by
  simp only [if_true, h.h, bind_ok, h2.h, h3.h]
  rfl⟩
theorem VhB.f {cf : CallF} {o2 : Op} {c : E} {tb : T} {ρ : Env} : VhB cf o2 c tb false ρ (.ok (.sh (.bl false)) ρ) := ⟨rfl⟩
theorem Ve.chain {cf : CallF} {o1 o2 : Op} {a b c : E} {ρ ρ1 ρ2 : Env} {ra rb : R} {ta tb : T} {p : Bool} {y : Out R} (h : Ve cf a ρ (.ok ra ρ1)) (h1 : Vr ra ta) (h2 : Ve cf b ρ1 (.ok rb ρ2)) (h3 : Vr rb tb) (h4 : Vop o1 [ta, tb] (.sh (.bl p))) (h5 : VhB cf o2 c tb p ρ2 y) : Ve cf (.chain o1 o2 a b c) ρ y := ⟨by
  have := h5.h
  rw [ev, h.h, bind_ok, h2.h, bind_ok, h1.h, h3.h, h4.h]
  cases p <;> simpa using this⟩
def plnE : E → Bool
  | .brw _ => false
  | .star _ => false
  | _ => true
structure VsA (a : Arg) (x y : Out (List Arg)) : Prop where
  h : (x.bind fun as ρ => .ok (a :: as) ρ) = y
theorem VsA.ok {a : Arg} {as : List Arg} {ρ : Env} : VsA a (.ok as ρ) (.ok (a :: as) ρ) := ⟨rfl⟩
theorem VsA.exc {a : Arg} {c : Nat} {fs : List T} {ρ : Env} : VsA a (.exc c fs ρ) (.exc c fs ρ) := ⟨rfl⟩
theorem Vs.nil {cf : CallF} {ρ : Env} : Vs cf [] ρ (.ok [] ρ) := ⟨by rw [evs]⟩
theorem Vs.brw {cf : CallF} {i : Nat} {es : List E} {ρ : Env} {r : R} {x y : Out (List Arg)} (h : Vg ρ i r) (h2 : Vs cf es ρ x) (h3 : VsA (.slot i) x y) : Vs cf (.brw i :: es) ρ y := ⟨by
  rw [evs, h.h]
  simp only
  rw [h2.h]
  exact h3.h⟩
structure VstK (cf : CallF) (es : List E) (x : Out R) (y : Out (List Arg)) : Prop where
  h : (x.bind fun r ρ1 => match seqL r.t with
    | some ts => (evs cf es ρ1).bind fun as ρ2 => .ok (.star ts :: as) ρ2
    | none => .bad) = y
theorem VstK.ok {cf : CallF} {es : List E} {r : R} {t : T} {ts : List T} {ρ : Env} {x y : Out (List Arg)} (h : Vr r t) (h1 : Vsq t ts) (h2 : Vs cf es ρ x) (h3 : VsA (.star ts) x y) : VstK cf es (.ok r ρ) y := ⟨by
  rw [bind_ok, h.h, h1.h]
  simp only
  rw [h2.h]
  exact h3.h⟩
theorem VstK.exc {cf : CallF} {es : List E} {c : Nat} {fs : List T} {ρ : Env} : VstK cf es (.exc c fs ρ) (.exc c fs ρ) := ⟨rfl⟩
theorem Vs.star {cf : CallF} {e : E} {es : List E} {ρ : Env} {x : Out R} {y : Out (List Arg)} (h : Ve cf e ρ x) (h2 : VstK cf es x y) : Vs cf (.star e :: es) ρ y := ⟨by
  rw [evs, h.h]
  exact h2.h⟩
structure VsK (cf : CallF) (es : List E) (x : Out R) (y : Out (List Arg)) : Prop where
  h : (x.bind fun r ρ1 => (evs cf es ρ1).bind fun as ρ2 => .ok (.val r :: as) ρ2) = y
theorem VsK.ok {cf : CallF} {es : List E} {r : R} {ρ : Env} {x y : Out (List Arg)} (h2 : Vs cf es ρ x) (h3 : VsA (.val r) x y) : VsK cf es (.ok r ρ) y := ⟨by
  rw [bind_ok, h2.h]
  exact h3.h⟩
theorem VsK.exc {cf : CallF} {es : List E} {c : Nat} {fs : List T} {ρ : Env} : VsK cf es (.exc c fs ρ) (.exc c fs ρ) := ⟨rfl⟩
theorem Vs.cons {cf : CallF} {e : E} {es : List E} {ρ : Env} {x : Out R} {y : Out (List Arg)} (hp : plnE e = true) (h : Ve cf e ρ x) (h2 : VsK cf es x y) : Vs cf (e :: es) ρ y := ⟨by
  have := h2.h
  rw [← h.h] at this
  cases e <;> first | (simp only [evs]; exact this) | (simp [plnE] at hp)⟩
structure VcsK (cf : CallF) (cs : List E) (x : Out Bool) (y : Out Bool) : Prop where
  h : (x.bind fun b ρ1 => if b then evc cf cs ρ1 else .ok false ρ1) = y
theorem VcsK.one {cf : CallF} {p : Bool} {ρ : Env} : VcsK cf [] (.ok p ρ) (.ok p ρ) := ⟨by cases p <;> simp [evc]⟩
theorem VcsK.t {cf : CallF} {cs : List E} {ρ : Env} {y : Out Bool} (h : Vc cf cs ρ y) : VcsK cf cs (.ok true ρ) y := ⟨h.h⟩
theorem VcsK.f {cf : CallF} {cs : List E} {ρ : Env} : VcsK cf cs (.ok false ρ) (.ok false ρ) := ⟨rfl⟩
theorem Vc.nil {cf : CallF} {ρ : Env} : Vc cf [] ρ (.ok true ρ) := ⟨by rw [evc]⟩
theorem Vc.cons {cf : CallF} {e : E} {cs : List E} {ρ : Env} {x : Out R} {x2 y : Out Bool} (h : Ve cf e ρ x) (h2 : VtK x x2) (h3 : VcsK cf cs x2 y) : Vc cf (e :: cs) ρ y := ⟨by
  rw [evc, h.h, h2.h]
  exact h3.h⟩
structure VlS (cf : CallF) (own : List Nat) (p : Pat) (cs : List E) (e : E) (x : T) (ρ : Env) (y : Out (List T)) : Prop where
  h : lcStep cf own p cs e x ρ = y
structure VlE (cf : CallF) (e : E) (own : List Nat) (b : Bool) (ρ ρ4 : Env) (ys : List T) (ρ5 : Env) : Prop where
  h : (if b then (ev cf e ρ4).bind fun r ρ5 => if r.isBox then .bad else .ok [r.t] (unwipe ρ ρ5 own) else .ok [] (unwipe ρ ρ4 own)) = .ok ys ρ5
theorem VlE.t {cf : CallF} {e : E} {own : List Nat} {ρ ρ4 ρ5 ρ6 : Env} {r : R} {t : T} (h : Ve cf e ρ4 (.ok r ρ5)) (h2 : Vr r t) (h3 : Vun ρ ρ5 own ρ6) : VlE cf e own true ρ ρ4 [t] ρ6 := ⟨by
  simp only [if_true, h.h, bind_ok, h2.b, h2.h, h3.h]
  rfl⟩
theorem VlE.f {cf : CallF} {e : E} {own : List Nat} {ρ ρ4 ρ6 : Env} (h3 : Vun ρ ρ4 own ρ6) : VlE cf e own false ρ ρ4 [] ρ6 := ⟨by rw [← h3.h]; rfl⟩
theorem VlE.sym {cf : CallF} {e : E} {own : List Nat} {b : Bool} {ρ ρ4 ρ6 : Env} {r : R} {t : T} (h : b = true → Ve cf e ρ4 (.ok r ρ4)) (h2 : Vr r t) (h3 : Vun ρ ρ4 own ρ6) : VlE cf e own b ρ ρ4 (if b then [t] else []) ρ6 := by
  cases b
  · exact ⟨by rw [← h3.h]; rfl⟩
  · exact VlE.t (h rfl) h2 h3
theorem VlS.mk' {cf : CallF} {own : List Nat} {p : Pat} {cs : List E} {e : E} {x : T} {ρ ρ2 ρ3 ρ4 ρ5 : Env} {b : Bool} {ys : List T} (h : Vhide ρ own ρ2) (h2 : Vpat p x ρ2 ρ3) (h3 : Vc cf cs ρ3 (.ok b ρ4)) (h4 : VlE cf e own b ρ ρ4 ys ρ5) : VlS cf own p cs e x ρ (.ok ys ρ5) := ⟨by
  unfold lcStep
  rw [h.h, Option.bind_some, h2.h]
  simp only [h3.h, bind_ok]
  exact h4.h⟩
theorem Ve.lcM {cf : CallF} {own : List Nat} {p : Pat} {k : ItK} {es : List E} {e : E} {ρ ρ1 : Env} {as : List Arg} {ts : List T} {β : Type} {l : List β} {inj out : β → T} (h1 : Vs cf es ρ (.ok as ρ1)) (h2 : Va ρ1 as ts) (h3 : Vk k ts (l.map inj)) (h4 : ∀ x ∈ l, VlS cf own p [] e (inj x) ρ1 (.ok [out x] ρ1)) (h5 : l.length ≤ line) : Ve cf (.lc own p k es [] e) ρ (.ok (.own (l.map out)) ρ1) := ⟨by
  have e1 : ev cf (.lc own p k es [] e) ρ = (evs cf es ρ).bind fun as ρ1 => match argTs ρ1 as with
    | none => .bad
    | some ts => match walk k ts with
      | none => .bad
      | some xs => match compL (lcStep cf own p [] e) xs [] ρ1 with
        | .ok ys ρ2 => .ok (.own ys) ρ2
        | _ => .bad := by
    rw [ev]
    rfl
  rw [e1, h1.h]
  simp only [bind_ok, h2.h, h3.h]
  rw [compL_all inj out (fun x hx => (h4 x hx).h) h5]⟩
theorem Ve.lcF {cf : CallF} {own : List Nat} {p : Pat} {k : ItK} {es cs : List E} {e : E} {ρ ρ1 : Env} {as : List Arg} {ts : List T} {β : Type} {l : List β} {inj out : β → T} {q : β → Bool} (h1 : Vs cf es ρ (.ok as ρ1)) (h2 : Va ρ1 as ts) (h3 : Vk k ts (l.map inj)) (h4 : ∀ x ∈ l, VlS cf own p cs e (inj x) ρ1 (.ok (if q x then [out x] else []) ρ1)) (h5 : l.length ≤ line) : Ve cf (.lc own p k es cs e) ρ (.ok (.own ((l.filter q).map out)) ρ1) := ⟨by
  have e1 : ev cf (.lc own p k es cs e) ρ = (evs cf es ρ).bind fun as ρ1 => match argTs ρ1 as with
    | none => .bad
    | some ts => match walk k ts with
      | none => .bad
      | some xs => match compL (lcStep cf own p cs e) xs [] ρ1 with
        | .ok ys ρ2 => .ok (.own ys) ρ2
        | _ => .bad := by
    rw [ev]
    rfl
  rw [e1, h1.h]
  simp only [bind_ok, h2.h, h3.h]
  rw [compL_filter q inj out (fun x hx => (h4 x hx).h) h5]⟩
structure Vl2 (cf : CallF) (own : List Nat) (p : Pat) (own1 : List Nat) (p1 : Pat) (k1 : ItK) (es1 cs : List E) (e : E) (x : T) (ρ : Env) (y : Out (List T)) : Prop where
  h : lc2Step cf own p own1 p1 k1 es1 cs e x ρ = y
theorem Vl2.mM {cf : CallF} {own : List Nat} {p : Pat} {own1 : List Nat} {p1 : Pat} {k1 : ItK} {es1 : List E} {e : E} {x : T} {ρ ρ2 ρ3 ρ4 ρ5 : Env} {bs : List Arg} {us : List T} {γ : Type} {l : List γ} {inj out : γ → T} (h : Vhide ρ own ρ2) (hp : Vpat p x ρ2 ρ3) (h1 : Vs cf es1 ρ3 (.ok bs ρ4)) (h2 : Va ρ4 bs us) (h3 : Vk k1 us (l.map inj)) (h4 : ∀ y ∈ l, VlS cf own1 p1 [] e (inj y) ρ4 (.ok [out y] ρ4)) (h5 : Vun ρ ρ4 own ρ5) (h6 : l.length ≤ line) : Vl2 cf own p own1 p1 k1 es1 [] e x ρ (.ok (l.map out) ρ5) := ⟨by
  unfold lc2Step
  rw [h.h, Option.bind_some, hp.h]
  simp only [h1.h, bind_ok, h2.h, h3.h]
  rw [compL_all inj out (fun x hx => (h4 x hx).h) h6]
  simp only [h5.h]⟩
theorem compL_flat {β : Type} {f : T → Env → Out (List T)} {ρ : Env} (inj : β → T) (g : β → List T) : ∀ (l : List β) (acc : List T), (∀ x ∈ l, f (inj x) ρ = .ok (g x) ρ) → (acc ++ l.flatMap g).length ≤ line → compL f (l.map inj) acc ρ = .ok (acc ++ l.flatMap g) ρ
  | [], acc, _, _ => by simp [compL]
  | x :: l, acc, h, hl => by
    simp only [List.map_cons, List.flatMap_cons] at hl ⊢
    unfold compL
    rw [h x List.mem_cons_self]
    have h1 : (acc ++ g x).length ≤ line := by
      rw [← List.append_assoc, List.length_append] at hl
      omega
    simp only [if_pos h1]
    rw [compL_flat inj g l _ (fun y hy => h y (List.mem_cons_of_mem _ hy)) (by rw [List.append_assoc]; exact hl), List.append_assoc]
theorem Ve.lc2 {cf : CallF} {own : List Nat} {p : Pat} {k : ItK} {es : List E} {own1 : List Nat} {p1 : Pat} {k1 : ItK} {es1 cs : List E} {e : E} {ρ ρ1 : Env} {as : List Arg} {ts : List T} {β : Type} {l : List β} {inj : β → T} {g : β → List T} (h1 : Vs cf es ρ (.ok as ρ1)) (h2 : Va ρ1 as ts) (h3 : Vk k ts (l.map inj)) (h4 : ∀ x ∈ l, Vl2 cf own p own1 p1 k1 es1 cs e (inj x) ρ1 (.ok (g x) ρ1)) (h5 : (l.flatMap g).length ≤ line) : Ve cf (.lc2 own p k es own1 p1 k1 es1 cs e) ρ (.ok (.own (l.flatMap g)) ρ1) := ⟨by
  have e1 : ev cf (.lc2 own p k es own1 p1 k1 es1 cs e) ρ = (evs cf es ρ).bind fun as ρ1 => match argTs ρ1 as with
    | none => .bad
    | some ts => match walk k ts with
      | none => .bad
      | some xs => match compL (lc2Step cf own p own1 p1 k1 es1 cs e) xs [] ρ1 with
        | .ok ys ρ2 => .ok (.own ys) ρ2
        | _ => .bad := by
    rw [ev]
    rfl
  rw [e1, h1.h]
  simp only [bind_ok, h2.h, h3.h]
  rw [compL_flat inj g l [] (fun x hx => (h4 x hx).h) (by simpa using h5)]
  rfl⟩
theorem Vpat.v {i : Nat} {t : T} {ρ ρ' : Env} (h : Vp ρ i (.sh t) ρ') : Vpat (.v i) t ρ ρ' := ⟨by rw [putP_v]; exact h.h⟩
theorem Vpat.o {i : Nat} {t : T} {ρ ρ' : Env} (h : Vp ρ i (.sh t) ρ') : Vpat (.o i) t ρ ρ' := ⟨by rw [putP_o]; exact h.h⟩
theorem Vpat.t {ps : List Pat} {t : T} {ts : List T} {ρ ρ' : Env} (h : Vsq t ts) (h2 : Vpats ps ts ρ ρ') : Vpat (.t ps) t ρ ρ' := ⟨by
  have := h.h
  unfold seqL at this
  split at this
  · cases this; rw [putP_tt]; exact h2.h
  · cases this; rw [putP_tl]; exact h2.h
  · cases this⟩
theorem Vpats.nil {ρ : Env} : Vpats [] [] ρ ρ := ⟨putPs_n ρ⟩
theorem Vpats.cons {p : Pat} {ps : List Pat} {t : T} {ts : List T} {ρ ρ1 ρ2 : Env} (h : Vpat p t ρ ρ1) (h2 : Vpats ps ts ρ1 ρ2) : Vpats (p :: ps) (t :: ts) ρ ρ2 := ⟨by rw [putPs_c, h.h]; exact h2.h⟩
end Ev
end
section
set_option linter.all false
set_option maxRecDepth 100000
set_option maxHeartbeats 1000000
namespace Ev
/-- what a statement's end does to the rest -/
def seqF (f : Fl) (k : Env → Fl) : Fl := match f with
  | .nx ρ => k ρ
  | f => f
theorem exs_seq (cf : CallF) (s : S) (ss : List S) (ρ : Env) : exs cf (s :: ss) ρ = seqF (ex cf s ρ) (exs cf ss) := by
  rw [exs]
  cases ex cf s ρ <;> rfl
/-- a flow is as wanted -/
structure Wq (Q : Fl → Prop) (f : Fl) : Prop where
  h : Q f
/-- a suite's end, then the rest -/
def Qs (cf : CallF) (ss : List S) (Q : Fl → Prop) : Fl → Prop := fun f => Q (seqF f (exs cf ss))
theorem Wq.qnx {cf : CallF} {ss : List S} {Q : Fl → Prop} {ρ : Env} (h : W cf ss ρ Q) : Wq (Qs cf ss Q) (.nx ρ) := ⟨h.h⟩
theorem Wq.qrt {cf : CallF} {ss : List S} {Q : Fl → Prop} {ρ : Env} {r : R} (h : Wq Q (.rt r ρ)) : Wq (Qs cf ss Q) (.rt r ρ) := ⟨h.h⟩
theorem Wq.qexc {cf : CallF} {ss : List S} {Q : Fl → Prop} {ρ : Env} {c : Nat} {fs : List T} (h : Wq Q (.exc c fs ρ)) : Wq (Qs cf ss Q) (.exc c fs ρ) := ⟨h.h⟩
theorem W.nil {cf : CallF} {ρ : Env} {Q : Fl → Prop} (h : Wq Q (.nx ρ)) : W cf [] ρ Q := ⟨by rw [exs]; exact h.h⟩
theorem W.of {cf : CallF} {s : S} {ss : List S} {ρ : Env} {f : Fl} {Q : Fl → Prop} (e : ex cf s ρ = f) (h : Wq (Qs cf ss Q) f) : W cf (s :: ss) ρ Q := ⟨by
  rw [exs_seq, e]
  exact h.h⟩
structure WaK (own : Bool) (i : Nat) (x : Out R) (Q : Fl → Prop) : Prop where
  h : Q (x.fl fun r ρ1 => opt' (put1 ρ1 i (if own then r else .sh r.t)))
theorem WaK.sh {i : Nat} {r : R} {t : T} {ρ ρ1 : Env} {Q : Fl → Prop} (h : Vr r t) (h2 : Vp ρ i (.sh t) ρ1) (h3 : Wq Q (.nx ρ1)) : WaK false i (.ok r ρ) Q := ⟨by
  simp only [fl_ok, h.h, Bool.false_eq_true, if_false, h2.h]
  exact h3.h⟩
theorem WaK.own {i : Nat} {r : R} {ρ ρ1 : Env} {Q : Fl → Prop} (h2 : Vp ρ i r ρ1) (h3 : Wq Q (.nx ρ1)) : WaK true i (.ok r ρ) Q := ⟨by
  simp only [fl_ok, if_true, h2.h]
  exact h3.h⟩
theorem WaK.exc {own : Bool} {i c : Nat} {fs : List T} {ρ : Env} {Q : Fl → Prop} (h3 : Wq Q (.exc c fs ρ)) : WaK own i (.exc c fs ρ) Q := ⟨h3.h⟩
theorem W.asg {cf : CallF} {own : Bool} {i : Nat} {e : E} {ss : List S} {ρ : Env} {x : Out R} {Q : Fl → Prop} (h : Ve cf e ρ x) (h2 : WaK own i x (Qs cf ss Q)) : W cf (.asg own i e :: ss) ρ Q := W.of rfl ⟨by
  rw [ex, h.h]
  exact h2.h⟩
structure WpK (ps : List Pat) (x : Out R) (Q : Fl → Prop) : Prop where
  h : Q (x.fl fun r ρ1 => (match r.t with
    | .tup ts => opt' (putPs ps ts ρ1)
    | .lst ts => opt' (putPs ps ts ρ1)
    | _ => .bad))
theorem WpK.ok {ps : List Pat} {r : R} {t : T} {ts : List T} {ρ ρ1 : Env} {Q : Fl → Prop} (h : Vr r t) (h1 : Vsq t ts) (h2 : Vpats ps ts ρ ρ1) (h3 : Wq Q (.nx ρ1)) : WpK ps (.ok r ρ) Q := ⟨by
  have q := h1.h
  simp only [fl_ok, h.h]
  unfold seqL at q
  split at q
  · cases q; simp only [h2.h]; exact h3.h
  · cases q; simp only [h2.h]; exact h3.h
  · cases q⟩
theorem WpK.exc {ps : List Pat} {c : Nat} {fs : List T} {ρ : Env} {Q : Fl → Prop} (h3 : Wq Q (.exc c fs ρ)) : WpK ps (.exc c fs ρ) Q := ⟨h3.h⟩
theorem W.asgP {cf : CallF} {ps : List Pat} {e : E} {ss : List S} {ρ : Env} {x : Out R} {Q : Fl → Prop} (h : Ve cf e ρ x) (h2 : WpK ps x (Qs cf ss Q)) : W cf (.asgP ps e :: ss) ρ Q := W.of rfl ⟨by
  rw [ex, h.h]
  exact h2.h⟩
/-- values to targets -/
structure VpT (ps : List Pat) (as : List Arg) (ρ ρ' : Env) : Prop where
  h : ∃ rs, argVs as = some rs ∧ putT ps rs ρ = some ρ' ∧ rs.length = ps.length
theorem VpT.nil {ρ : Env} : VpT [] [] ρ ρ := ⟨[], rfl, by simp [putT], rfl⟩
theorem VpT.v {i : Nat} {ps : List Pat} {as : List Arg} {r : R} {t : T} {ρ ρ1 ρ2 : Env} (h : Vr r t) (h2 : Vp ρ i (.sh t) ρ1) (h3 : VpT ps as ρ1 ρ2) : VpT (.v i :: ps) (.val r :: as) ρ ρ2 := by
  obtain ⟨rs, a, b, c⟩ := h3.h
  exact ⟨r :: rs, by simp [argVs, h.b, a], by rw [putT, h.h, h2.h, Option.bind_some]; exact b, by simp [c]⟩
theorem VpT.o {i : Nat} {ps : List Pat} {as : List Arg} {r : R} {t : T} {ρ ρ1 ρ2 : Env} (h : Vr r t) (h2 : Vp ρ i r ρ1) (h3 : VpT ps as ρ1 ρ2) : VpT (.o i :: ps) (.val r :: as) ρ ρ2 := by
  obtain ⟨rs, a, b, c⟩ := h3.h
  exact ⟨r :: rs, by simp [argVs, h.b, a], by rw [putT, h2.h, Option.bind_some]; exact b, by simp [c]⟩
theorem VpT.t {qs ps : List Pat} {as : List Arg} {r : R} {t : T} {ρ ρ1 ρ2 : Env} (h : Vr r t) (h2 : Vpat (.t qs) t ρ ρ1) (h3 : VpT ps as ρ1 ρ2) : VpT (.t qs :: ps) (.val r :: as) ρ ρ2 := by
  obtain ⟨rs, a, b, c⟩ := h3.h
  exact ⟨r :: rs, by simp [argVs, h.b, a], by rw [putT, h.h, h2.h, Option.bind_some]; exact b, by simp [c]⟩
structure WtK (ps : List Pat) (x : Out (List Arg)) (Q : Fl → Prop) : Prop where
  h : Q (x.fl fun as ρ1 => (match argVs as with
    | some rs => if rs.length ≤ line then opt' (putT ps rs ρ1) else .bad
    | none => .bad))
theorem WtK.ok {ps : List Pat} {as : List Arg} {ρ ρ1 : Env} {Q : Fl → Prop} (h : VpT ps as ρ ρ1) (hl : Nat.ble ps.length 1000 = true) (h3 : Wq Q (.nx ρ1)) : WtK ps (.ok as ρ) Q := ⟨by
  obtain ⟨rs, a, b, c⟩ := h.h
  have : line = 16777216 := rfl
  have hl := Nat.ble_eq.mp hl
  simp only [fl_ok, a, if_pos (show rs.length ≤ line by omega), b]
  exact h3.h⟩
theorem WtK.exc {ps : List Pat} {c : Nat} {fs : List T} {ρ : Env} {Q : Fl → Prop} (h3 : Wq Q (.exc c fs ρ)) : WtK ps (.exc c fs ρ) Q := ⟨h3.h⟩
theorem W.asgT {cf : CallF} {ps : List Pat} {es : List E} {ss : List S} {ρ : Env} {x : Out (List Arg)} {Q : Fl → Prop} (h : Vs cf es ρ x) (h2 : WtK ps x (Qs cf ss Q)) : W cf (.asgT ps es :: ss) ρ Q := W.of rfl ⟨by
  rw [ex, h.h]
  exact h2.h⟩
/-- a list that can grow -/
structure VoB1 (r : R) : Prop where
  h : (∃ ts, r = .own ts) ∨ (∃ ts, r = .own2 ts) ∨ (∃ ts, r = .box ts)
theorem VoB1.own {ts : List T} : VoB1 (.own ts) := ⟨.inl ⟨_, rfl⟩⟩
theorem VoB1.own2 {ts : List (List T)} : VoB1 (.own2 ts) := ⟨.inr (.inl ⟨_, rfl⟩)⟩
theorem VoB1.box {ts : List T} : VoB1 (.box ts) := ⟨.inr (.inr ⟨_, rfl⟩)⟩
theorem isOwn_of {ρ : Env} {i : Nat} {r : R} (h : Vg ρ i r) (h2 : VoB1 r) : isOwn ρ i = true := by
  unfold isOwn
  rw [h.h]
  rcases h2.h with ⟨ts, rfl⟩ | ⟨ts, rfl⟩ | ⟨ts, rfl⟩ <;> rfl
structure WgR (r : R) (t : T) (r' : R) (n : Nat) : Prop where
  h : (∃ ts, r = .own ts ∧ r' = .own (ts ++ [t]) ∧ ts.length = n) ∨ (∃ ts, r = .box ts ∧ r' = .box (ts ++ [t]) ∧ ts.length = n)
theorem WgR.ownM {α : Type} {f : α → T} {l : List α} {t : T} : WgR (.own (l.map f)) t (.own (l.map f ++ [t])) l.length := ⟨.inl ⟨_, rfl, rfl, by simp⟩⟩
theorem WgR.own {ts : List T} {t : T} : WgR (.own ts) t (.own (ts ++ [t])) ts.length := ⟨.inl ⟨_, rfl, rfl, rfl⟩⟩
theorem WgR.box {ts : List T} {t : T} : WgR (.box ts) t (.box (ts ++ [t])) ts.length := ⟨.inr ⟨_, rfl, rfl, rfl⟩⟩
theorem W.app {cf : CallF} {i n : Nat} {e : E} {ss : List S} {ρ ρ1 ρ2 : Env} {r0 r r1 r2 : R} {t : T} {Q : Fl → Prop} (h : Vg ρ i r0) (ho : VoB1 r0) (h1 : Ve cf e ρ (.ok r ρ1)) (hr : Vr r t) (hg : Vg ρ1 i r1) (h2 : WgR r1 t r2 n) (hw : Vwr ρ1 i r2 ρ2) (hl : n < line) (h3 : W cf ss ρ2 Q) : W cf (.app i e :: ss) ρ Q := W.of (by
  rw [ex, isOwn_of h ho, h1.h]
  simp only [Bool.not_true, Bool.false_eq_true, if_false, fl_ok, hr.b, hg.h]
  have e := hw.h
  rcases h2.h with ⟨ts, rfl, rfl, q⟩ | ⟨ts, rfl, rfl, q⟩
  · simp only [hr.h, if_pos (show ts.length < line by omega), e]
  · simp only [hr.h, if_pos (show ts.length < line by omega), e]) (.qnx h3)
structure WxR (r : R) (us : List T) (r' : R) (n : Nat) : Prop where
  h : (∃ ts, r = .own ts ∧ r' = .own (ts ++ us) ∧ ts.length = n)
theorem WxR.own {ts us : List T} : WxR (.own ts) us (.own (ts ++ us)) ts.length := ⟨⟨_, rfl, rfl, rfl⟩⟩
theorem W.ext {cf : CallF} {i n : Nat} {e : E} {ss : List S} {ρ ρ1 ρ2 : Env} {r r1 r2 : R} {us : List T} {Q : Fl → Prop} (h1 : Ve cf e ρ (.ok r ρ1)) (hr : Vr r (.lst us)) (hg : Vg ρ1 i r1) (h2 : WxR r1 us r2 n) (hw : Vwr ρ1 i r2 ρ2) (hl : n + us.length ≤ line) (h3 : W cf ss ρ2 Q) : W cf (.ext i e :: ss) ρ Q := W.of (by
  rw [ex, h1.h]
  simp only [fl_ok, hr.h, hg.h]
  have e := hw.h
  obtain ⟨ts, rfl, rfl, q⟩ := h2.h
  simp only [if_pos (show ts.length + us.length ≤ line by omega), e]) (.qnx h3)
structure WsR (r : R) (j : Nat) (t : T) (n : Nat) (r' : R) : Prop where
  h : (∃ ts, r = .own ts ∧ r' = .own (ts.set j t) ∧ ts.length = n) ∨ (∃ ts, r = .box ts ∧ r' = .box (ts.set j t) ∧ ts.length = n)
theorem WsR.own {ts : List T} {j : Nat} {t : T} : WsR (.own ts) j t ts.length (.own (ts.set j t)) := ⟨.inl ⟨_, rfl, rfl, rfl⟩⟩
theorem WsR.box {ts : List T} {j : Nat} {t : T} : WsR (.box ts) j t ts.length (.box (ts.set j t)) := ⟨.inr ⟨_, rfl, rfl, rfl⟩⟩
theorem W.setI {cf : CallF} {i n j : Nat} {z : Int} {k e : E} {ss : List S} {ρ ρ1 ρ2 ρ3 : Env} {r0 r r1 r2 : R} {t : T} {Q : Fl → Prop} (h : Vg ρ i r0) (ho : VoB1 r0) (h1 : Ve cf e ρ (.ok r ρ1)) (hr : Vr r t) (hk : Ve cf k ρ1 (.ok (.sh (.int z)) ρ2)) (hg : Vg ρ2 i r1) (h2 : WsR r1 j t n r2) (hi : ixN n z = some j) (hw : Vwr ρ2 i r2 ρ3) (h3 : W cf ss ρ3 Q) : W cf (.setI i k e :: ss) ρ Q := W.of (by
  rw [ex, isOwn_of h ho, h1.h]
  simp only [Bool.not_true, Bool.false_eq_true, if_false, fl_ok, hr.b, hk.h, hg.h]
  have e := hw.h
  rcases h2.h with ⟨ts, rfl, rfl, q⟩ | ⟨ts, rfl, rfl, q⟩
  · simp only [q, hi, hr.h, e]
  · simp only [q, hi, hr.h, e]) (.qnx h3)
structure WeK (x : Out R) (Q : Fl → Prop) : Prop where
  h : Q (x.fl fun _ ρ1 => .nx ρ1)
theorem WeK.ok {r : R} {ρ : Env} {Q : Fl → Prop} (h : Wq Q (.nx ρ)) : WeK (.ok r ρ) Q := ⟨h.h⟩
theorem WeK.exc {c : Nat} {fs : List T} {ρ : Env} {Q : Fl → Prop} (h3 : Wq Q (.exc c fs ρ)) : WeK (.exc c fs ρ) Q := ⟨h3.h⟩
theorem W.expr {cf : CallF} {e : E} {ss : List S} {ρ : Env} {x : Out R} {Q : Fl → Prop} (h : Ve cf e ρ x) (h2 : WeK x (Qs cf ss Q)) : W cf (.expr e :: ss) ρ Q := W.of rfl ⟨by
  rw [ex, h.h]
  exact h2.h⟩
structure WrK (x : Out R) (Q : Fl → Prop) : Prop where
  h : Q (x.fl fun r ρ1 => if r.isBox then .bad else .rt r ρ1)
theorem WrK.ok {r : R} {t : T} {ρ : Env} {Q : Fl → Prop} (hr : Vr r t) (h : Wq Q (.rt r ρ)) : WrK (.ok r ρ) Q := ⟨by
  simp only [fl_ok, hr.b]
  exact h.h⟩
theorem WrK.exc {c : Nat} {fs : List T} {ρ : Env} {Q : Fl → Prop} (h3 : Wq Q (.exc c fs ρ)) : WrK (.exc c fs ρ) Q := ⟨h3.h⟩
theorem W.ret {cf : CallF} {e : E} {ss : List S} {ρ : Env} {x : Out R} {Q : Fl → Prop} (h : Ve cf e ρ x) (h2 : WrK x (Qs cf ss Q)) : W cf (.ret e :: ss) ρ Q := W.of rfl ⟨by
  rw [ex, h.h]
  exact h2.h⟩
theorem W.retV {cf : CallF} {i : Nat} {ss : List S} {ρ ρ1 : Env} {r : R} {t : T} {Q : Fl → Prop} (h : Vg ρ i r) (hr : Vr r t) (hn : Vn ρ i none ρ1) (h2 : Wq (Qs cf ss Q) (.rt r ρ1)) : W cf (.retV i :: ss) ρ Q := W.of (by
  rw [ex, h.h]
  have e := hn.h
  have b := hr.b
  cases r <;> simp only [e] <;> simp [R.isBox] at b) h2
theorem W.retN {cf : CallF} {ss : List S} {ρ : Env} {Q : Fl → Prop} (h2 : Wq (Qs cf ss Q) (.rt (.sh .non) ρ)) : W cf (.retN :: ss) ρ Q := W.of (by rw [ex]) h2
/-- one of two ways -/
structure WB (b : Bool) (A B : Prop) : Prop where
  h : if b then A else B
theorem WB.t {A B : Prop} (h : A) : WB true A B := ⟨h⟩
theorem WB.f {A B : Prop} (h : B) : WB false A B := ⟨h⟩
theorem WB.et {b : Bool} {A B : Prop} (q : b = true) (h : A) : WB b A B := by subst q; exact ⟨h⟩
theorem WB.ef {b : Bool} {A B : Prop} (q : b = false) (h : B) : WB b A B := by subst q; exact ⟨h⟩
theorem WB.both {b : Bool} {A B : Prop} (h : b = true → A) (h2 : b = false → B) : WB b A B := by
  cases b
  · exact ⟨h2 rfl⟩
  · exact ⟨h rfl⟩
structure WiK (cf : CallF) (a b : List S) (x : Out Bool) (Q : Fl → Prop) : Prop where
  h : Q (x.fl fun t ρ1 => if t then exs cf a ρ1 else exs cf b ρ1)
theorem WiK.ok {cf : CallF} {a b : List S} {p : Bool} {ρ : Env} {Q : Fl → Prop} (h : WB p (W cf a ρ Q) (W cf b ρ Q)) : WiK cf a b (.ok p ρ) Q := ⟨by
  have := h.h
  cases p
  · exact this.h
  · exact this.h⟩
theorem WiK.exc {cf : CallF} {a b : List S} {c : Nat} {fs : List T} {ρ : Env} {Q : Fl → Prop} (h3 : Wq Q (.exc c fs ρ)) : WiK cf a b (.exc c fs ρ) Q := ⟨h3.h⟩
theorem W.ifs {cf : CallF} {c : E} {a b ss : List S} {ρ : Env} {x : Out R} {x2 : Out Bool} {Q : Fl → Prop} (h : Ve cf c ρ x) (h2 : VtK x x2) (h3 : WiK cf a b x2 (Qs cf ss Q)) : W cf (.ifs c a b :: ss) ρ Q := W.of rfl ⟨by
  rw [ex, h.h, h2.h]
  exact h3.h⟩
theorem W.pass {cf : CallF} {ss : List S} {ρ : Env} {Q : Fl → Prop} (h : W cf ss ρ Q) : W cf (.pass :: ss) ρ Q := W.of (by rw [ex]) (.qnx h)
theorem W.brk {cf : CallF} {ss : List S} {ρ : Env} {Q : Fl → Prop} (h : Wq (Qs cf ss Q) (.bk ρ)) : W cf (.brk :: ss) ρ Q := W.of (by rw [ex]) h
theorem W.cont {cf : CallF} {ss : List S} {ρ : Env} {Q : Fl → Prop} (h : Wq (Qs cf ss Q) (.ct ρ)) : W cf (.cont :: ss) ρ Q := W.of (by rw [ex]) h
theorem W.raise {cf : CallF} {c : Nat} {es : List E} {ss : List S} {ρ ρ1 : Env} {as : List Arg} {ts : List T} {Q : Fl → Prop} (h : Vs cf es ρ (.ok as ρ1)) (h1 : Va ρ1 as ts) (h2 : (ts.all flat && (Nat.beq ts.length (if (xKind c).isSome then 1 else 0) && Nat.blt c 8)) = true) (h3 : Wq (Qs cf ss Q) (.exc c ts ρ1)) : W cf (.raise c es :: ss) ρ Q := W.of (by
  rw [ex, h.h, fl_ok, h1.h]
  simp only [h2]
  rfl) h3
structure WyE (cf : CallF) (i : Option Nat) (c : Nat) (fs : List T) (ρ : Env) (b : List S) (Q : Fl → Prop) : Prop where
  h : Q (suiteF (exs cf b) i c fs ρ)
/-- the end of a clause with a name -/
def Qe (j : Nat) (Q : Fl → Prop) : Fl → Prop := fun f => Q (endF (some j) f)
def Qe0 (Q : Fl → Prop) : Fl → Prop := fun f => Q (endF none f)
theorem WyE.n {cf : CallF} {c : Nat} {fs : List T} {ρ : Env} {b : List S} {Q : Fl → Prop} (h : W cf b ρ (Qe0 Q)) : WyE cf none c fs ρ b Q := ⟨h.h⟩
theorem WyE.s {cf : CallF} {j c : Nat} {fs : List T} {ρ ρ1 : Env} {b : List S} {Q : Fl → Prop} (hp : Vp ρ j (.sh (.err c fs)) ρ1) (h : W cf b ρ1 (Qe j Q)) : WyE cf (some j) c fs ρ b Q := ⟨by
  simp only [suiteF, hp.h]
  exact h.h⟩
theorem Wq.enx {j : Nat} {Q : Fl → Prop} {ρ ρ1 : Env} (hh : Vhide ρ [j] ρ1) (h : Wq Q (.nx ρ1)) : Wq (Qe j Q) (.nx ρ) := ⟨by
  unfold Qe
  simp only [endF, offR, hh.h, opt'_some]
  exact h.h⟩
def Qt1 (cf : CallF) (c : Nat) (i : Option Nat) (b : List S) (Q : Fl → Prop) : Fl → Prop := fun f => Q (f.catch fun c' fs ρ1 => if Nat.beq c' c then suiteF (exs cf b) i c' fs ρ1 else .exc c' fs ρ1)
theorem W.try1 {cf : CallF} {body : List S} {c : Nat} {i : Option Nat} {b ss : List S} {ρ : Env} {Q : Fl → Prop} (h : W cf body ρ (Qt1 cf c i b (Qs cf ss Q))) : W cf (.try1 body c i b :: ss) ρ Q := W.of rfl ⟨by
  rw [ex]
  exact h.h⟩
def Qt2 (cf : CallF) (c : Nat) (i : Option Nat) (b : List S) (c2 : Nat) (i2 : Option Nat) (b2 : List S) (Q : Fl → Prop) : Fl → Prop := fun f => Q (f.catch fun c' fs ρ1 => if Nat.beq c' c then suiteF (exs cf b) i c' fs ρ1 else if Nat.beq c' c2 then suiteF (exs cf b2) i2 c' fs ρ1 else .exc c' fs ρ1)
theorem W.try2 {cf : CallF} {body : List S} {c c2 : Nat} {i i2 : Option Nat} {b b2 ss : List S} {ρ : Env} {Q : Fl → Prop} (h : W cf body ρ (Qt2 cf c i b c2 i2 b2 (Qs cf ss Q))) : W cf (.try2 body c i b c2 i2 b2 :: ss) ρ Q := W.of rfl ⟨by
  rw [ex]
  exact h.h⟩
theorem Wq.t2hit1 {cf : CallF} {c c2 : Nat} {i i2 : Option Nat} {b b2 : List S} {Q : Fl → Prop} {ρ : Env} {fs : List T} (h : WyE cf i c fs ρ b Q) : Wq (Qt2 cf c i b c2 i2 b2 Q) (.exc c fs ρ) := ⟨by
  unfold Qt2
  simp only [Fl.catch, Nat.beq_refl, if_true]
  exact h.h⟩
theorem Wq.t2hit2 {cf : CallF} {c c2 : Nat} {i i2 : Option Nat} {b b2 : List S} {Q : Fl → Prop} {ρ : Env} {fs : List T} (e : Nat.beq c2 c = false) (h : WyE cf i2 c2 fs ρ b2 Q) : Wq (Qt2 cf c i b c2 i2 b2 Q) (.exc c2 fs ρ) := ⟨by
  unfold Qt2
  simp only [Fl.catch, e, Nat.beq_refl, if_true]
  exact h.h⟩
/-- what a turn must end with: on with the rest, or out -/
def QL (cf : CallF) (ss : List S) (Q : Fl → Prop) (P : Env → Prop) : Fl → Prop
  | .nx ρ => P ρ
  | .ct ρ => P ρ
  | .bk ρ => W cf ss ρ Q
  | .rt r ρ => Q (.rt r ρ)
  | .exc c fs ρ => Q (.exc c fs ρ)
  | .bad => False
/-- a turn: its target, then its suite -/
structure WT (cf : CallF) (p : Pat) (body : List S) (x : T) (ρ : Env) (Q : Fl → Prop) : Prop where
  h : ∃ ρ1, putP p x ρ = some ρ1 ∧ Q (exs cf body ρ1)
theorem WT.mk' {cf : CallF} {p : Pat} {body : List S} {x : T} {ρ ρ1 : Env} {Q : Fl → Prop} (h : Vpat p x ρ ρ1) (h2 : W cf body ρ1 Q) : WT cf p body x ρ Q := ⟨ρ1, h.h, h2.h⟩
theorem forL_w {cf : CallF} {p : Pat} {body ss : List S} {Q : Fl → Prop} {β : Type} {inj : β → T} (I : List β → List β → Env → Prop) (st : ∀ done x todo ρ, I done (x :: todo) ρ → WT cf p body (inj x) ρ (QL cf ss Q (I (done ++ [x]) todo))) (en : ∀ done ρ, I done [] ρ → W cf ss ρ Q) : ∀ (todo done : List β) (ρ : Env), I done todo ρ → Qs cf ss Q (forL (putP p) (exs cf body) (todo.map inj) ρ)
  | [], done, ρ, h => (en done ρ h).h
  | x :: todo, done, ρ, h => by
    obtain ⟨ρ1, e1, e2⟩ := (st done x todo ρ h).h
    simp only [List.map_cons]
    unfold forL
    rw [e1]
    simp only
    revert e2
    cases exs cf body ρ1 with
    | nx ρ2 => exact fun q => forL_w I st en todo _ ρ2 q
    | ct ρ2 => exact fun q => forL_w I st en todo _ ρ2 q
    | bk ρ2 => exact fun q => q.h
    | rt r ρ2 => exact fun q => q
    | exc c fs ρ2 => exact fun q => q
    | bad => exact fun q => q.elim
theorem W.for_ {cf : CallF} {p : Pat} {k : ItK} {es : List E} {body ss : List S} {ρ ρ1 : Env} {as : List Arg} {ts : List T} {Q : Fl → Prop} {β : Type} {inj : β → T} {l : List β} (I : List β → List β → Env → Prop) (h1 : Vs cf es ρ (.ok as ρ1)) (h2 : Va ρ1 as ts) (h3 : Vk k ts (l.map inj)) (h0 : I [] l ρ1) (st : ∀ done x todo ρ, done ++ x :: todo = l → I done (x :: todo) ρ → WT cf p body (inj x) ρ (QL cf ss Q (I (done ++ [x]) todo))) (en : ∀ ρ, I l [] ρ → W cf ss ρ Q) : W cf (.for_ p k es body :: ss) ρ Q := W.of (for_ok h1.h h2.h h3.h rfl) ⟨by
  refine forL_w (inj := inj) (fun done todo ρ => done ++ todo = l ∧ I done todo ρ) (fun done x todo ρ h => ?_) (fun done ρ h => ?_) l [] ρ1 ⟨rfl, h0⟩
  · obtain ⟨ρ2, a, b⟩ := (st done x todo ρ h.1 h.2).h
    refine ⟨ρ2, a, ?_⟩
    revert b
    cases exs cf body ρ2 with
    | nx ρ3 => exact fun q => ⟨by rw [List.append_assoc]; exact h.1, q⟩
    | ct ρ3 => exact fun q => ⟨by rw [List.append_assoc]; exact h.1, q⟩
    | bk ρ3 => exact fun q => q
    | rt r ρ3 => exact fun q => q
    | exc c fs ρ3 => exact fun q => q
    | bad => exact fun q => q
  · obtain ⟨a, b⟩ := h
    rw [List.append_nil] at a
    subst a
    exact en ρ b⟩
/-- a loop that goes on as long as its test says, at most m times -/
theorem whileL_w {cf : CallF} {c : E} {body ss : List S} {Q : Fl → Prop} (I : Nat → Env → Prop) (st : ∀ m ρ, I m ρ → ∃ b ρ1, tru (ev cf c ρ) = .ok b ρ1 ∧ (b = false → W cf ss ρ1 Q) ∧ (b = true → W cf body ρ1 (QL cf ss Q (fun ρ2 => ∃ m', m' < m ∧ I m' ρ2)))) : ∀ (n m : Nat) (ρ : Env), m < n → I m ρ → Qs cf ss Q (whileL (fun ρ1 => tru (ev cf c ρ1)) (exs cf body) n ρ)
  | 0, m, ρ, hm, _ => by omega
  | n + 1, m, ρ, hm, hi => by
    obtain ⟨b, ρ1, e1, a, e2⟩ := st m ρ hi
    unfold whileL
    rw [e1]
    simp only [fl_ok]
    cases b
    · exact (a rfl).h
    · have e2 := (e2 rfl).h
      simp only [if_true]
      revert e2
      cases exs cf body ρ1 with
      | nx ρ2 =>
        rintro ⟨m', hm', q⟩
        exact whileL_w I st n m' ρ2 (by omega) q
      | ct ρ2 =>
        rintro ⟨m', hm', q⟩
        exact whileL_w I st n m' ρ2 (by omega) q
      | bk ρ2 => exact fun q => q.h
      | rt r ρ2 => exact fun q => q
      | exc c fs ρ2 => exact fun q => q
      | bad => exact fun q => q.elim
theorem W.while_ {cf : CallF} {c : E} {body ss : List S} {ρ : Env} {Q : Fl → Prop} (m : Nat) (I : Nat → Env → Prop) (hm : m < 1000000) (h0 : I m ρ) (st : ∀ m ρ, I m ρ → ∃ b ρ1, tru (ev cf c ρ) = .ok b ρ1 ∧ (b = false → W cf ss ρ1 Q) ∧ (b = true → W cf body ρ1 (QL cf ss Q (fun ρ2 => ∃ m', m' < m ∧ I m' ρ2)))) : W cf (.while_ c body :: ss) ρ Q := W.of rfl ⟨by
  rw [ex]
  exact whileL_w I st turns m ρ hm h0⟩
structure Ven (ms : List Bool) (rs : List R) (k : Nat) (ρ : Env) : Prop where
  h : ∃ ρ1, entry ms rs = some ρ1 ∧ ρ = ρ1 ++ List.replicate k none
theorem Ven.z : Ven [] [] 0 [] := ⟨[], rfl, rfl⟩
theorem Ven.s {k : Nat} {ρ : Env} (h : Ven [] [] k ρ) : Ven [] [] (k + 1) (none :: ρ) := by
  obtain ⟨ρ1, a, rfl⟩ := h.h
  simp only [entry] at a
  cases a
  exact ⟨[], rfl, by simp [List.replicate_succ]⟩
theorem Ven.f {ms : List Bool} {r : R} {t : T} {rs : List R} {k : Nat} {ρ : Env} (hr : Vr r t) (h : Ven ms rs k ρ) : Ven (false :: ms) (r :: rs) k (some (.sh t) :: ρ) := by
  obtain ⟨ρ1, a, rfl⟩ := h.h
  exact ⟨some (.sh t) :: ρ1, by simp [entry, hr.b, hr.h, a], rfl⟩
theorem Ven.t {ms : List Bool} {r : R} {rs : List R} {k : Nat} {ρ : Env} (h : Ven ms rs k ρ) : Ven (true :: ms) (r :: rs) k (some r :: ρ) := by
  obtain ⟨ρ1, a, rfl⟩ := h.h
  exact ⟨some r :: ρ1, by simp [entry, a], rfl⟩
theorem run_w {fns : List Fn} {n i : Nat} {d : Fn} {rs : List R} {ρ : Env} {P : Out R → Prop} (hf : fns[i]? = some d) (he : Ven d.ms rs (d.ns - d.np) ρ) (h : W (run fns n) d.body ρ fun f => P (outF d.np f)) : P (run fns (n + 1) i rs) := by
  obtain ⟨ρ1, a, rfl⟩ := he.h
  have := h.h
  simp only [run, hf, a]
  exact this
/-- the end of a def: what it returns -/
def Qr (np : Nat) (o : Out R) : Fl → Prop := fun f => outF np f = o
theorem run_o {fns : List Fn} {n i : Nat} {d : Fn} {rs : List R} {ρ : Env} {o : Out R} (hf : fns[i]? = some d) (he : Ven d.ms rs (d.ns - d.np) ρ) (h : W (run fns n) d.body ρ (Qr d.np o)) : run fns (n + 1) i rs = o := run_w (P := fun x => x = o) hf he h
theorem Wq.ret {np : Nat} {o : Out R} {r : R} {ρ : Env} (h : Out.ok r ((ρ.take np).map obox) = o) : Wq (Qr np o) (.rt r ρ) := ⟨h⟩
theorem Wq.ret0 {np : Nat} {o : Out R} {ρ : Env} (h : Out.ok (.sh .non) ((ρ.take np).map obox) = o) : Wq (Qr np o) (.nx ρ) := ⟨h⟩
theorem Wq.exc {np : Nat} {o : Out R} {ρ : Env} {c : Nat} {fs : List T} (h : Out.exc c fs ρ = o) : Wq (Qr np o) (.exc c fs ρ) := ⟨h⟩
/-- the end of a def that raises -/
def Qx (np c : Nat) (fs : List T) : Fl → Prop := fun f => ∃ ρ, outF np f = .exc c fs ρ
theorem run_x {fns : List Fn} {n i : Nat} {d : Fn} {rs : List R} {ρ : Env} {c : Nat} {fs : List T} (hf : fns[i]? = some d) (he : Ven d.ms rs (d.ns - d.np) ρ) (h : W (run fns n) d.body ρ (Qx d.np c fs)) : ∃ ρ, run fns (n + 1) i rs = .exc c fs ρ := run_w (P := fun x => ∃ ρ, x = .exc c fs ρ) hf he h
theorem Wq.excx {np : Nat} {ρ : Env} {c : Nat} {fs : List T} : Wq (Qx np c fs) (.exc c fs ρ) := ⟨⟨ρ, rfl⟩⟩
end Ev
end
section
set_option linter.all false
set_option maxRecDepth 100000
set_option maxHeartbeats 1000000
namespace Ev
theorem lt_line {n : Nat} (h : n < 16777216) : n < line := h
theorem le_line {n : Nat} (h : n ≤ 16777216) : n ≤ line := h
/-- a size that is shown later -/
structure Sz (P : Prop) : Prop where
  h : P
theorem Sz.le {n m : Nat} (h : Sz (n ≤ m)) : n ≤ m := h.h
theorem Sz.lt {n m : Nat} (h : Sz (n < m)) : n < m := h.h
/-- a call by what is known of it -/
structure VcT (cf : CallF) (f : Nat) (ts : List T) (ρ : Env) (y : Out R) : Prop where
  h : ∀ as, Vas as ts → callF cf f as ρ = y
theorem VcT.call {cf : CallF} {f : Nat} {ts : List T} {ρ : Env} {r : R} (h : CallT cf f ts r) : VcT cf f ts ρ (.ok r ρ) := ⟨fun as ha => h.h as ρ ha⟩
theorem VcT.throw {cf : CallF} {f : Nat} {ts : List T} {ρ : Env} {c : Nat} {fs : List T} (h : ThrowT cf f ts c fs) : VcT cf f ts ρ (.exc c fs ρ) := ⟨fun as ha => h.h as ρ ha⟩
theorem Vcl.val {cf : CallF} {f : Nat} {as : List Arg} {ts : List T} {ρ : Env} {y : Out R} (h : Vas as ts) (h2 : VcT cf f ts ρ y) : Vcl cf f as ρ y := ⟨h2.h as h⟩
structure VlT (cf : CallF) (f : Nat) (r0 : R) (ts : List T) (r q : R) : Prop where
  h : ∃ xs us, LendT cf f xs ts us r ∧ VlB r0 xs us q
theorem VlT.own {cf : CallF} {f : Nat} {xs ts us : List T} {r : R} (h : LendT cf f xs ts us r) : VlT cf f (.own xs) ts r (.own us) := ⟨xs, us, h, .own⟩
theorem VlT.box {cf : CallF} {f : Nat} {xs ts us : List T} {r : R} (h : LendT cf f xs ts us r) : VlT cf f (.box xs) ts r (.box us) := ⟨xs, us, h, .box⟩
theorem Vcl.lend' {cf : CallF} {f i : Nat} {as : List Arg} {ts : List T} {ρ ρ' : Env} {r r0 q : R} (h : Vas as ts) (hg : Vg ρ i r0) (h2 : VlT cf f r0 ts r q) (hw : Vwr ρ i q ρ') : Vcl cf f (.slot i :: as) ρ (.ok r ρ') := by
  obtain ⟨xs, us, a, b⟩ := h2.h
  exact .lend h hg a b hw
theorem Vop.not_ {t : T} {b : Bool} (h : Vtr t b) : Vop .not_ [t] (.sh (.bl (!b))) := ⟨by simp only [evOp, o_not_, h.h]; rfl⟩
theorem Vop.isN {t : T} : Vop .isN [t] (.sh (.bl (isNon t))) := ⟨rfl⟩
theorem Vop.notN {t : T} : Vop .notN [t] (.sh (.bl (!isNon t))) := ⟨rfl⟩
theorem Vop.eqN {a b : Nat} : Vop .eq [.int (a : Int), .int (b : Int)] (.sh (.bl (decide (a = b)))) := ⟨by simp [evOp, o_eq, fit, pteq_int, shB, Int.ofNat_inj]⟩
theorem Vop.gtI {a b : Int} : Vop .gt [.int a, .int b] (.sh (.bl (decide (b < a)))) := ⟨rfl⟩
theorem Vop.addI {a b : Int} : Vop .add [.int a, .int b] (.sh (.int (a + b))) := ⟨rfl⟩
theorem Vop.subI {a b : Int} : Vop .sub [.int a, .int b] (.sh (.int (a - b))) := ⟨rfl⟩
theorem Vop.min2 {a b : Int} : Vop .min2 [.int a, .int b] (.sh (.int (min a b))) := ⟨by
  show shI (if b < a then b else a) = _
  unfold shI
  rw [show (if b < a then b else a) = min a b by simp only [Int.min_def]; split <;> split <;> omega]⟩
theorem Vop.max2 {a b : Int} : Vop .max2 [.int a, .int b] (.sh (.int (max a b))) := ⟨by
  show shI (if b > a then b else a) = _
  unfold shI
  rw [show (if b > a then b else a) = max a b by simp only [Int.max_def]; split <;> split <;> omega]⟩
theorem Vop.addT {x y : List T} (h : x.length + y.length ≤ line) : Vop .add [.tup x, .tup y] (.sh (.tup (x ++ y))) := ⟨by
  simp only [evOp]
  simp only [o_add, if_pos h]
  rfl⟩
theorem Vop.addL {x y : List T} (h : x.length + y.length ≤ line) : Vop .add [.lst x, .lst y] (.own (x ++ y)) := ⟨by
  simp only [evOp]
  simp only [o_add, if_pos h]⟩
theorem Vop.lst {ts : List T} (h : small ts = true) : Vop .lst ts (.own ts) := ⟨by
  show (if small ts then _ else _) = _
  rw [h]
  rfl⟩
theorem Vop.tup {ts : List T} (h : small ts = true) : Vop .tup ts (.sh (.tup ts)) := ⟨by
  show (if small ts then _ else _) = _
  rw [h]
  rfl⟩
theorem Vop.toTup {t : T} {ts : List T} (h : Vsq t ts) : Vop .toTup [t] (.sh (.tup ts)) := ⟨by
  simp only [evOp]
  have q := h.h
  unfold seqL at q
  split at q
  · cases q; rfl
  · cases q; rfl
  · cases q⟩
theorem Vop.toLst {t : T} {ts : List T} (h : Vsq t ts) : Vop .toLst [t] (.own ts) := ⟨by
  show (seqL t).map R.own = _
  rw [h.h]
  rfl⟩
theorem Vop.isiEL {c : Nat} {fs : List T} : Vop (.isi [.lookE]) [.err c fs] (.sh (.bl (Nat.ble c 2))) := ⟨rfl⟩
theorem Vop.isiEV {c : Nat} {fs : List T} : Vop (.isi [.valE]) [.err c fs] (.sh (.bl (Nat.ble 3 c))) := ⟨rfl⟩
theorem Vop.attr0 {t : T} : Vop (.attr false) [.err 0 [t]] (.sh t) := ⟨rfl⟩
theorem Vop.lenTM {α : Type} {f : α → T} {l : List α} : Vop .len [.tup (l.map f)] (.sh (.int (l.length : Int))) := ⟨by simp [evOp, o_len, shI]⟩
theorem Vop.lenLM {α : Type} {f : α → T} {l : List α} : Vop .len [.lst (l.map f)] (.sh (.int (l.length : Int))) := ⟨by simp [evOp, o_len, shI]⟩
theorem Vop.lenL {l : List T} : Vop .len [.lst l] (.sh (.int (l.length : Int))) := ⟨rfl⟩
theorem Vop.idxQ {s : Bool} {l : List T} {j : Nat} {t : T} (h : l[j]? = some t) : Vop .idx [sq s l, .int (j : Int)] (.sh t) := ⟨by
  obtain ⟨hl, rfl⟩ := List.getElem?_eq_some_iff.mp h
  simp only [evOp]
  rw [idx_sq, atI_nat hl]
  rfl⟩
theorem Vop.idxL {l : List T} {j : Nat} {t : T} (h : l[j]? = some t) : Vop .idx [.lst l, .int (j : Int)] (.sh t) := idxQ (s := true) h
theorem Vop.idxT {l : List T} {j : Nat} {t : T} (h : l[j]? = some t) : Vop .idx [.tup l, .int (j : Int)] (.sh t) := idxQ (s := false) h
theorem Vop.ix0T {a : T} {l : List T} : Vop .idx [.tup (a :: l), .int 0] (.sh a) := idxT (j := 0) rfl
theorem Vop.ix0L {a : T} {l : List T} : Vop .idx [.lst (a :: l), .int 0] (.sh a) := idxL (j := 0) rfl
theorem Vop.ix1T {a b : T} {l : List T} : Vop .idx [.tup (a :: b :: l), .int 1] (.sh b) := idxT (j := 1) rfl
theorem Vop.ix0Q {s : Bool} {a : T} {l : List T} : Vop .idx [sq s (a :: l), .int 0] (.sh a) := idxQ (j := 0) rfl
theorem Vop.inQ {a : Nm} {b : Bool} {l : List Nm} : Vop .in_ [.str a, sq b (nsT l)] (.sh (.bl (decide (a ∈ l)))) := ⟨in_sq a b l⟩
theorem Vop.ninQ {a : Nm} {b : Bool} {l : List Nm} : Vop .nin [.str a, sq b (nsT l)] (.sh (.bl (!decide (a ∈ l)))) := ⟨by
  simp only [evOp]
  have := nsT_fits60 l
  cases b <;> cases a with
  | nil => simp [sq, o_nin, fit, this, tmem_str, shB]
  | cons x a => cases a <;> simp [sq, o_nin, fit, this, tmem_str, shB]⟩
theorem Vop.ninT {a : Nm} {l : List Nm} : Vop .nin [.str a, .tup (nsT l)] (.sh (.bl (!decide (a ∈ l)))) := ninQ (b := false)
theorem intsT_int (ns : List Int) : intsT (ns.map .int) = some ns := by
  induction ns with
  | nil => rfl
  | cons n ns ih => simp [intsT, ih]
theorem Vop.sumM {α : Type} {p : α → Int} {l : List α} : Vop .sum [.lst (l.map fun x => .int (p x))] (.sh (.int (l.map p).sum)) := ⟨by
  simp only [evOp]
  have : (l.map fun x => T.int (p x)) = (l.map p).map .int := by simp
  rw [this]
  unfold o_sum
  dsimp only
  rw [intsT_int]
  rfl⟩
theorem Vop.slr {l : List T} : Vop .slr [.tup l] (.sh (.tup l.reverse)) := ⟨rfl⟩
theorem Vk.lst {xs : List T} : Vk .seq [.lst xs] xs := ⟨rfl⟩
theorem Vk.tup {xs : List T} : Vk .seq [.tup xs] xs := ⟨rfl⟩
theorem Vk.sq {b : Bool} {xs : List T} : Vk .seq [sq b xs] xs := ⟨by cases b <;> rfl⟩
theorem Vk.keys {xs vs : List T} : Vk .keys [.dct xs vs] xs := ⟨rfl⟩
theorem Vk.range {n : Nat} (h : n ≤ 1000000) : Vk .range [.int (n : Int)] ((List.range n).map fun j : Nat => .int (j : Int)) := ⟨by rw [range_ok h, upTo_map0]⟩
theorem Vk.rangeZ {z : Int} (h : 0 ≤ z ∧ z ≤ 1000000) : Vk .range [.int z] ((List.range z.toNat).map fun j : Nat => .int (j : Int)) := by
  have := Vk.range (n := z.toNat) (by omega)
  rwa [show ((z.toNat : Nat) : Int) = z by omega] at this
def dcStep (cf : CallF) (own1 : List Nat) (p1 : Pat) (cs : List E) (ek ev1 : E) (y : T) (ks vs : List T) (ρ5 : Env) : Out (List T × List T) :=
  match (hide ρ5 own1).bind (putP p1 y) with
  | none => .bad
  | some ρ6 => (evc cf cs ρ6).bind fun b ρ7 => if b then (ev cf ek ρ7).bind fun rk ρ8 => (ev cf ev1 ρ8).bind fun rv ρ9 => if isKeyT rk && !rv.isBox && Nat.blt ks.length line then .ok (dput rk.t rv.t ks vs) (unwipe ρ5 ρ9 own1) else .bad else .ok (ks, vs) (unwipe ρ5 ρ7 own1)
def dc2Step (cf : CallF) (own : List Nat) (p : Pat) (own1 : List Nat) (p1 : Pat) (k1 : ItK) (es1 cs : List E) (ek ev1 : E) (x : T) (ks0 vs0 : List T) (ρ2 : Env) : Out (List T × List T) :=
  match (hide ρ2 own).bind (putP p x) with
  | none => .bad
  | some ρ3 => (evs cf es1 ρ3).bind fun bs ρ4 => match argTs ρ4 bs with
    | none => .bad
    | some us => match walk k1 us with
      | none => .bad
      | some ys => match compD (dcStep cf own1 p1 cs ek ev1) ys ks0 vs0 ρ4 with
        | .ok zs ρ9 => .ok zs (unwipe ρ2 ρ9 own)
        | _ => .bad
structure VdS (cf : CallF) (own : List Nat) (p : Pat) (own1 : List Nat) (p1 : Pat) (k1 : ItK) (es1 cs : List E) (ek ev1 : E) (x : T) (ks vs : List T) (ρ : Env) (y : Out (List T × List T)) : Prop where
  h : dc2Step cf own p own1 p1 k1 es1 cs ek ev1 x ks vs ρ = y
/-- a key and its value -/
structure VdI (cf : CallF) (own1 : List Nat) (p1 : Pat) (ek ev1 : E) (y : T) (ρ : Env) (key : Nm) (v : T) : Prop where
  h : ∀ ks vs : List T, ks.length < line → dcStep cf own1 p1 [] ek ev1 y ks vs ρ = .ok (dput (.str key) v ks vs) ρ
theorem VdI.mk' {cf : CallF} {own1 : List Nat} {p1 : Pat} {ek ev1 : E} {y v : T} {ρ ρ5 ρ6 ρ7 ρ8 : Env} {key : Nm} {rv : R} (a1 : Vhide ρ own1 ρ5) (a2 : Vpat p1 y ρ5 ρ6) (a3 : Ve cf ek ρ6 (.ok (.sh (.str key)) ρ7)) (a4 : Ve cf ev1 ρ7 (.ok rv ρ8)) (a6 : Vr rv v) (a5 : Vun ρ ρ8 own1 ρ) : VdI cf own1 p1 ek ev1 y ρ key v := ⟨fun ks vs hk => by
  have hk2 : Nat.blt ks.length line = true := Nat.ble_eq.mpr hk
  unfold dcStep
  rw [a1.h, Option.bind_some, a2.h]
  simp only [evc, bind_ok, if_true, a3.h, a4.h, a5.h, a6.h, a6.b, isKeyT, isKey, hk2, Bool.not_false, Bool.and_self, t_sh]⟩
theorem VdS.mk' {cf : CallF} {own : List Nat} {p : Pat} {own1 : List Nat} {p1 : Pat} {k1 : ItK} {es1 : List E} {ek ev1 : E} {x v : T} {ks : List Nm} {vs : List T} {ρ ρ2 ρ3 ρ4 : Env} {bs : List Arg} {us : List T} {names : List Nm} (h : Vhide ρ own ρ2) (hp : Vpat p x ρ2 ρ3) (h1 : Vs cf es1 ρ3 (.ok bs ρ4)) (h2 : Va ρ4 bs us) (h3 : Vk k1 us (nsT names))
    (h4 : ∀ y : Nm, VdI cf own1 p1 ek ev1 (.str y) ρ4 y v) (h5 : Vun ρ ρ4 own ρ) (nd : (ks ++ names).Nodup) (hl : (ks ++ names).length ≤ 16000000) : VdS cf own p own1 p1 k1 es1 [] ek ev1 x (nsT ks) vs ρ (.ok (nsT (ks ++ names), vs ++ names.map fun _ => v) ρ) := ⟨by
  unfold dc2Step
  rw [h.h, Option.bind_some, hp.h]
  simp only [h1.h, bind_ok, h2.h, h3.h]
  have e := compD_names (f := dcStep cf own1 p1 [] ek ev1) (ρ := ρ4) (v := v) (fun y ks2 vs2 hk => (h4 y).h ks2 vs2 hk) names ks vs nd hl
  rw [e]
  simp only [h5.h]⟩
theorem compD_gen {f : T → List T → List T → Env → Out (List T × List T)} {ρ : Env} {β : Type} {inj : β → T} {N : β → List Nm} {V : β → T} : ∀ (c : List β) (ks : List Nm) (vs : List T), (∀ (r : β) (ks : List Nm) (vs : List T), r ∈ c → (ks ++ N r).Nodup → (ks ++ N r).length ≤ 16000000 → f (inj r) (nsT ks) vs ρ = .ok (nsT (ks ++ N r), vs ++ (N r).map fun _ => V r) ρ) → (ks ++ c.flatMap N).Nodup → (ks ++ c.flatMap N).length ≤ 16000000 → compD f (c.map inj) (nsT ks) vs ρ = .ok (nsT (ks ++ c.flatMap N), vs ++ c.flatMap fun r => (N r).map fun _ => V r) ρ
  | [], ks, vs, _, _, _ => by simp [compD]
  | r :: c, ks, vs, hf, nd, hl => by
    simp only [List.flatMap_cons, ← List.append_assoc] at nd hl ⊢
    have h1 := hf r ks vs List.mem_cons_self (List.nodup_append.mp nd).1 (by simp at hl ⊢; omega)
    simp only [List.map_cons]
    unfold compD
    rw [h1]
    exact compD_gen c (ks ++ N r) (vs ++ (N r).map fun _ => V r) (fun r ks vs hr => hf r ks vs (List.mem_cons_of_mem _ hr)) nd hl
theorem Ve.dc2 {cf : CallF} {own : List Nat} {p : Pat} {k : ItK} {es : List E} {own1 : List Nat} {p1 : Pat} {k1 : ItK} {es1 : List E} {ek ev1 : E} {ρ ρ1 : Env} {as : List Arg} {ts : List T} {β : Type} {l : List β} {inj : β → T} (N : β → List Nm) (V : β → T) (h1 : Vs cf es ρ (.ok as ρ1)) (h2 : Va ρ1 as ts) (h3 : Vk k ts (l.map inj)) (nd : (l.flatMap N).Nodup) (hl : (l.flatMap N).length ≤ 16000000)
    (h4 : ∀ (r : β) (ks : List Nm) (vs : List T), r ∈ l → (ks ++ N r).Nodup → (ks ++ N r).length ≤ 16000000 → VdS cf own p own1 p1 k1 es1 [] ek ev1 (inj r) (nsT ks) vs ρ1 (.ok (nsT (ks ++ N r), vs ++ (N r).map fun _ => V r) ρ1)) : Ve cf (.dc2 own p k es own1 p1 k1 es1 [] ek ev1) ρ (.ok (.ownD (nsT (l.flatMap N)) (l.flatMap fun r => (N r).map fun _ => V r)) ρ1) := ⟨by
  have e1 : ev cf (.dc2 own p k es own1 p1 k1 es1 [] ek ev1) ρ = (evs cf es ρ).bind fun as ρ1 => match argTs ρ1 as with
    | none => .bad
    | some ts => match walk k ts with
      | none => .bad
      | some xs => match compD (dc2Step cf own p own1 p1 k1 es1 [] ek ev1) xs [] [] ρ1 with
        | .ok (ks, vs) ρ2 => .ok (.ownD ks vs) ρ2
        | _ => .bad := by
    rw [ev]
    rfl
  have e2 : compD (dc2Step cf own p own1 p1 k1 es1 [] ek ev1) (l.map inj) [] [] ρ1 = _ := compD_gen (ρ := ρ1) (inj := inj) (N := N) (V := V) l [] [] (fun r ks vs hr n1 n2 => (h4 r ks vs hr n1 n2).h) (by simpa using nd) (by simpa using hl)
  rw [e1, h1.h]
  simp only [bind_ok, h2.h, h3.h]
  rw [e2]
  rfl⟩
end Ev
end
section
set_option linter.all false
set_option maxRecDepth 100000
namespace Ev
theorem Ve.id {cf : CallF} {e : E} {ρ : Env} {o : Out R} (h : Ve cf e ρ o) : Ve cf e ρ o := h
theorem Vs.id {cf : CallF} {es : List E} {ρ : Env} {o : Out (List Arg)} (h : Vs cf es ρ o) : Vs cf es ρ o := h
theorem Vc.id {cf : CallF} {cs : List E} {ρ : Env} {o : Out Bool} (h : Vc cf cs ρ o) : Vc cf cs ρ o := h
theorem Vg.id {ρ : Env} {i : Nat} {r : R} (h : Vg ρ i r) : Vg ρ i r := h
theorem Vsh.id {r : R} {ρ : Env} {i : Nat} {o : Out R} (h : Vsh r ρ i o) : Vsh r ρ i o := h
theorem VsA.id {a : Arg} {x y : Out (List Arg)} (h : VsA a x y) : VsA a x y := h
theorem VsK.id {cf : CallF} {es : List E} {x : Out R} {y : Out (List Arg)} (h : VsK cf es x y) : VsK cf es x y := h
theorem VopK.id {o : Op} {x : Out (List Arg)} {y : Out R} (h : VopK o x y) : VopK o x y := h
theorem Va.id {ρ : Env} {as : List Arg} {ts : List T} (h : Va ρ as ts) : Va ρ as ts := h
theorem Vr.id {r : R} {t : T} (h : Vr r t) : Vr r t := h
theorem VrB.id {r : R} {t : T} (h : VrB r t) : VrB r t := h
theorem Vop.id {o : Op} {ts : List T} {r : R} (h : Vop o ts r) : Vop o ts r := h
theorem VcK.id {cf : CallF} {f : Nat} {x : Out (List Arg)} {y : Out R} (h : VcK cf f x y) : VcK cf f x y := h
theorem VkK.id {cf : CallF} {f : Nat} {ks : List Nat} {x : Out (List Arg)} {y : Out R} (h : VkK cf f ks x y) : VkK cf f ks x y := h
theorem Vord.id {as : List Arg} {ks : List Nat} {bs : List Arg} (h : Vord as ks bs) : Vord as ks bs := h
theorem Vnth.id {as : List Arg} {k : Nat} {a : Arg} (h : Vnth as k a) : Vnth as k a := h
theorem Vcl.id {cf : CallF} {f : Nat} {as : List Arg} {ρ : Env} {y : Out R} (h : Vcl cf f as ρ y) : Vcl cf f as ρ y := h
theorem Vas.id {as : List Arg} {ts : List T} (h : Vas as ts) : Vas as ts := h
theorem VcT.id {cf : CallF} {f : Nat} {ts : List T} {ρ : Env} {y : Out R} (h : VcT cf f ts ρ y) : VcT cf f ts ρ y := h
theorem VlT.id {cf : CallF} {f : Nat} {r0 : R} {ts : List T} {r q : R} (h : VlT cf f r0 ts r q) : VlT cf f r0 ts r q := h
theorem Vwr.id {ρ : Env} {i : Nat} {r : R} {ρ' : Env} (h : Vwr ρ i r ρ') : Vwr ρ i r ρ' := h
theorem Vp.id {ρ : Env} {i : Nat} {r : R} {ρ' : Env} (h : Vp ρ i r ρ') : Vp ρ i r ρ' := h
theorem Vnb.id {a : Option R} (h : Vnb a) : Vnb a := h
theorem VL.id {r : R} {n : Int} (h : VL r n) : VL r n := h
theorem VtK.id {x : Out R} {y : Out Bool} (h : VtK x y) : VtK x y := h
theorem Vtr.id {t : T} {b : Bool} (h : Vtr t b) : Vtr t b := h
theorem VifK.id {cf : CallF} {a b : E} {x : Out Bool} {y : Out R} (h : VifK cf a b x y) : VifK cf a b x y := h
theorem VanK.id {cf : CallF} {b : E} {x y : Out R} (h : VanK cf b x y) : VanK cf b x y := h
theorem VaB.id {cf : CallF} {b : E} {p : Bool} {r : R} {ρ : Env} {y : Out R} (h : VaB cf b p r ρ y) : VaB cf b p r ρ y := h
theorem VorK.id {cf : CallF} {b : E} {x y : Out R} (h : VorK cf b x y) : VorK cf b x y := h
theorem VoB.id {cf : CallF} {b : E} {p : Bool} {r : R} {ρ : Env} {y : Out R} (h : VoB cf b p r ρ y) : VoB cf b p r ρ y := h
theorem VhB.id {cf : CallF} {o2 : Op} {c : E} {tb : T} {p : Bool} {ρ : Env} {y : Out R} (h : VhB cf o2 c tb p ρ y) : VhB cf o2 c tb p ρ y := h
theorem VstK.id {cf : CallF} {es : List E} {x : Out R} {y : Out (List Arg)} (h : VstK cf es x y) : VstK cf es x y := h
theorem Vsq.id {t : T} {ts : List T} (h : Vsq t ts) : Vsq t ts := h
theorem VcsK.id {cf : CallF} {cs : List E} {x : Out Bool} {y : Out Bool} (h : VcsK cf cs x y) : VcsK cf cs x y := h
theorem VlS.id {cf : CallF} {own : List Nat} {p : Pat} {cs : List E} {e : E} {x : T} {ρ : Env} {y : Out (List T)} (h : VlS cf own p cs e x ρ y) : VlS cf own p cs e x ρ y := h
theorem Vl2.id {cf : CallF} {own : List Nat} {p : Pat} {own1 : List Nat} {p1 : Pat} {k1 : ItK} {es1 cs : List E} {e : E} {x : T} {ρ : Env} {y : Out (List T)} (h : Vl2 cf own p own1 p1 k1 es1 cs e x ρ y) : Vl2 cf own p own1 p1 k1 es1 cs e x ρ y := h
theorem VlE.id {cf : CallF} {e : E} {own : List Nat} {b : Bool} {ρ ρ4 : Env} {ys : List T} {ρ5 : Env} (h : VlE cf e own b ρ ρ4 ys ρ5) : VlE cf e own b ρ ρ4 ys ρ5 := h
theorem Vhide.id {ρ : Env} {own : List Nat} {ρ' : Env} (h : Vhide ρ own ρ') : Vhide ρ own ρ' := h
theorem Vcm.id {ρ : Env} {i : Nat} (h : Vcm ρ i) : Vcm ρ i := h
theorem Vcalm.id {a : Option R} (h : Vcalm a) : Vcalm a := h
theorem Vn.id {ρ : Env} {i : Nat} {a : Option R} {ρ' : Env} (h : Vn ρ i a ρ') : Vn ρ i a ρ' := h
theorem Vun.id {old ρ : Env} {own : List Nat} {ρ' : Env} (h : Vun old ρ own ρ') : Vun old ρ own ρ' := h
theorem Vd.id {ρ : Env} {i : Nat} {a : Option R} (h : Vd ρ i a) : Vd ρ i a := h
theorem Vpat.id {p : Pat} {t : T} {ρ ρ' : Env} (h : Vpat p t ρ ρ') : Vpat p t ρ ρ' := h
theorem Vpats.id {ps : List Pat} {ts : List T} {ρ ρ' : Env} (h : Vpats ps ts ρ ρ') : Vpats ps ts ρ ρ' := h
theorem Vk.id {k : ItK} {ts xs : List T} (h : Vk k ts xs) : Vk k ts xs := h
theorem W.id {cf : CallF} {ss : List S} {ρ : Env} {Q : Fl → Prop} (h : W cf ss ρ Q) : W cf ss ρ Q := h
theorem WaK.id {own : Bool} {i : Nat} {x : Out R} {Q : Fl → Prop} (h : WaK own i x Q) : WaK own i x Q := h
theorem WpK.id {ps : List Pat} {x : Out R} {Q : Fl → Prop} (h : WpK ps x Q) : WpK ps x Q := h
theorem WtK.id {ps : List Pat} {x : Out (List Arg)} {Q : Fl → Prop} (h : WtK ps x Q) : WtK ps x Q := h
theorem VpT.id {ps : List Pat} {as : List Arg} {ρ ρ' : Env} (h : VpT ps as ρ ρ') : VpT ps as ρ ρ' := h
theorem VoB1.id {r : R} (h : VoB1 r) : VoB1 r := h
theorem WgR.id {r : R} {t : T} {r' : R} {n : Nat} (h : WgR r t r' n) : WgR r t r' n := h
theorem WxR.id {r : R} {us : List T} {r' : R} {n : Nat} (h : WxR r us r' n) : WxR r us r' n := h
theorem WsR.id {r : R} {j : Nat} {t : T} {n : Nat} {r' : R} (h : WsR r j t n r') : WsR r j t n r' := h
theorem WeK.id {x : Out R} {Q : Fl → Prop} (h : WeK x Q) : WeK x Q := h
theorem WrK.id {x : Out R} {Q : Fl → Prop} (h : WrK x Q) : WrK x Q := h
theorem WiK.id {cf : CallF} {a b : List S} {x : Out Bool} {Q : Fl → Prop} (h : WiK cf a b x Q) : WiK cf a b x Q := h
theorem WB.id {b : Bool} {A B : Prop} (h : WB b A B) : WB b A B := h
theorem Wq.id {Q : Fl → Prop} {f : Fl} (h : Wq Q f) : Wq Q f := h
theorem WyE.id {cf : CallF} {i : Option Nat} {c : Nat} {fs : List T} {ρ : Env} {b : List S} {Q : Fl → Prop} (h : WyE cf i c fs ρ b Q) : WyE cf i c fs ρ b Q := h
theorem WT.id {cf : CallF} {p : Pat} {body : List S} {x : T} {ρ : Env} {Q : Fl → Prop} (h : WT cf p body x ρ Q) : WT cf p body x ρ Q := h
theorem VdI.id {cf : CallF} {own1 : List Nat} {p1 : Pat} {ek ev1 : E} {y : T} {ρ : Env} {key : Nm} {v : T} (h : VdI cf own1 p1 ek ev1 y ρ key v) : VdI cf own1 p1 ek ev1 y ρ key v := h
theorem Ven.id {ms : List Bool} {rs : List R} {k : Nat} {ρ : Env} (h : Ven ms rs k ρ) : Ven ms rs k ρ := h
end Ev
end
section
set_option linter.all false
set_option maxRecDepth 100000
set_option maxHeartbeats 1000000
namespace Ev
local macro_rules | `(tactic| trivial) => `(tactic| repeat (first | (apply Ve.id; first | assumption | apply Ve.var | apply Ve.op | apply Ve.call | apply Ve.lc2) | (apply Vs.id; first | apply Vs.nil | apply Vs.cons) | (apply Vc.id; first | apply Vc.nil) | (apply Vg.id; first | apply Vg.z | apply Vg.s) | (apply Vsh.id; first | apply Vsh.sh) | (apply VsA.id; first | apply VsA.ok) | (apply VsK.id; first | apply VsK.ok) | (apply VopK.id; first | apply VopK.ok) | (apply Va.id; first | apply Va.nil | apply Va.val) | (apply Vr.id; first | apply Vr.sh | apply Vr.own | assumption) | (apply Vop.id; first | assumption | apply Vop.toTup | apply_assumption -exfalso -symm) | (apply VcK.id; first | apply VcK.ok) | (apply Vcl.id; first | apply Vcl.val) | (apply Vas.id; first | apply Vas.nil | apply Vas.cons) | (apply VcT.id; first | (apply VcT.call; assumption) | (apply VcT.call; apply_assumption -exfalso -symm)) | (apply Vp.id; first | apply Vp.z | apply Vp.s) | (apply Vnb.id; first | assumption | apply Vnb.n) | (apply Vsq.id; first | apply Vsq.tup | apply Vsq.lst) | (apply VlS.id; first | apply VlS.mk') | (apply Vl2.id; first | apply Vl2.mM) | (apply VlE.id; first | apply VlE.t) | (apply Vhide.id; first | apply Vhide.nil | apply Vhide.cons) | (apply Vcm.id; first | apply Vcm.z | apply Vcm.s) | (apply Vcalm.id; first | assumption | apply Vcalm.n) | (apply Vn.id; first | apply Vn.z | apply Vn.s) | (apply Vun.id; first | apply Vun.nil | apply Vun.cons) | (apply Vd.id; first | apply Vd.z | apply Vd.s) | (apply Vpat.id; first | apply Vpat.v | apply Vpat.t) | (apply Vpats.id; first | apply Vpats.nil | apply Vpats.cons) | (apply Vk.id; first | assumption | apply Vk.tup) | (apply W.id; first | apply W.ret) | (apply WrK.id; first | apply WrK.ok) | (apply Wq.id; first | apply Wq.qrt | (apply Wq.ret; rfl)) | (apply Ven.id; first | apply Ven.z | apply Ven.s | apply Ven.f) | exact lt_line (by omega) | exact le_line (by omega) | exact Nat.le_of_ble_eq_true rfl | omega | (apply Sz.le; rotate_left) | (apply okD.id; first | assumption | apply okD_nilL | apply okD_nilT | exact okD_str | exact okD_int | exact okD_bl | exact okD_non | apply okD_tupN | apply okD_lstN | apply okD_cN | apply okD_apL | apply okD_apT | apply okD_consL | apply okD_consT | apply okD_lstM | apply okD_tupM | apply okD_r | apply okD_sq) | rfl | assumption | (intro x hx) | (intro hx)))
def nle (x y : Nm) : Prop := tlt (.str y) (.str x) = false
theorem nle_tr {a b c : Nm} (h1 : nle a b) (h2 : nle b c) : nle a c := tlt_tr _ _ _ h1 h2
theorem nle_anti {a b : Nm} (h1 : nle a b) (h2 : nle b a) : a = b := by
  unfold nle tlt at h1 h2
  have s := tcmp_sw (.str a) (.str b)
  have e : tcmp (.str a) (.str b) = scmp a b := by simp [tcmp]
  cases q : tcmp (.str a) (.str b) with
  | eq => rw [e] at q; exact pscmp_eq q
  | lt => rw [q] at h2; simp [oLt] at h2
  | gt =>
    rw [q] at s
    simp [Ordering.swap] at s
    rw [s] at h1
    simp [oLt] at h1
def ins1 (x : Nm) : List Nm → List Nm
  | [] => [x]
  | y :: ys => if tlt (.str y) (.str x) then y :: ins1 x ys else x :: y :: ys
def srt : List Nm → List Nm
  | [] => []
  | x :: xs => ins1 x (srt xs)
theorem ins1_T (x : Nm) : ∀ l : List Nm, tins (.str x) (nsT l) = nsT (ins1 x l)
  | [] => rfl
  | y :: l => by
    have := ins1_T x l
    simp only [nsT, List.map_cons] at this ⊢
    unfold tins ins1
    rw [this]
    split <;> simp
theorem tsort_ns : ∀ l : List Nm, tsort (nsT l) = nsT (srt l)
  | [] => rfl
  | x :: l => by
    have := tsort_ns l
    simp only [nsT, List.map_cons] at this ⊢
    unfold tsort srt
    rw [this]
    exact ins1_T x _
theorem ins1_perm (x : Nm) : ∀ l : List Nm, (ins1 x l).Perm (x :: l)
  | [] => .refl _
  | y :: l => by
    unfold ins1
    split
    · exact ((ins1_perm x l).cons y).trans (.swap x y l)
    · exact .refl _
theorem srt_perm : ∀ l : List Nm, (srt l).Perm l
  | [] => .refl _
  | x :: l => (ins1_perm x (srt l)).trans ((srt_perm l).cons x)
theorem ins1_sorted {x : Nm} : ∀ {l : List Nm}, l.Pairwise nle → (ins1 x l).Pairwise nle
  | [], _ => by simp [ins1]
  | y :: l, h => by
    obtain ⟨h1, h2⟩ := List.pairwise_cons.mp h
    unfold ins1
    split
    · rename_i q
      refine List.pairwise_cons.mpr ⟨fun z hz => ?_, ins1_sorted h2⟩
      rcases List.mem_cons.mp ((ins1_perm x l).subset hz) with rfl | hz
      · exact tlt_asym _ _ q
      · exact h1 z hz
    · rename_i q
      have q : nle x y := by unfold nle; simpa using q
      refine List.pairwise_cons.mpr ⟨fun z hz => ?_, h⟩
      rcases List.mem_cons.mp hz with rfl | hz
      · exact q
      · exact nle_tr q (h1 z hz)
theorem srt_sorted : ∀ l : List Nm, (srt l).Pairwise nle
  | [] => .nil
  | x :: l => ins1_sorted (srt_sorted l)
theorem srt_of {l m : List Nm} (h : l.Pairwise nle) (p : l.Perm m) : srt m = l :=
  ((srt_perm m).trans p.symm).eq_of_pairwise (fun _ _ _ _ => nle_anti) (srt_sorted m) h
theorem srt_eq {l m : List Nm} (p : l.Perm m) : srt l = srt m := (srt_of (srt_sorted m) ((srt_perm m).trans p.symm))
theorem srt_mem {l : List Nm} {a : Nm} : a ∈ srt l ↔ a ∈ l := (srt_perm l).mem_iff
theorem srt_len (l : List Nm) : (srt l).length = l.length := (srt_perm l).length_eq
/-- without the later ones' doubles -/
def ddup : List Nm → List Nm
  | [] => []
  | x :: l => if x ∈ l then ddup l else x :: ddup l
theorem dedup_ns : ∀ l : List Nm, dedup (nsT l) = nsT (ddup l)
  | [] => rfl
  | x :: l => by
    have ih := dedup_ns l
    have m := tmem_str x l
    simp only [nsT, List.map_cons] at ih m ⊢
    unfold dedup ddup
    rw [m, ih]
    by_cases q : x ∈ l <;> simp [q]
theorem ddup_id : ∀ {l : List Nm}, l.Nodup → ddup l = l
  | [], _ => rfl
  | x :: l, h => by
    obtain ⟨h1, h2⟩ := List.nodup_cons.mp h
    unfold ddup
    rw [if_neg h1, ddup_id h2]
theorem Vop.sset {l : List Nm} (h : l.length ≤ 4000) : Vop .sset [.lst (nsT l)] (.own (nsT (srt (ddup l)))) := ⟨by
  simp only [evOp, o_sset, seqL, Option.bind_some, setOk_ns h, if_true, dedup_ns, tsort_ns]⟩
theorem sortOk_ns (l : List Nm) : sortOk (nsT l) = true := by
  have h1 := nsT_fits60 l
  have h2 : (nsT l).all (fun x => (nsT l).all fun y => alikeT x y) = true := by
    simp [nsT, alikeT]
  have h3 : (nsT l).all notTup = true := by simp [nsT, notTup]
  unfold sortOk
  rw [h1, h2, h3]
  simp
theorem Vop.sortL {l : List Nm} : Vop .sorted [.lst (nsT l)] (.own (nsT (srt l))) := ⟨by
  simp only [evOp, o_sorted, sortOk_ns, if_true, tsort_ns]⟩
theorem Vop.sortD {l : List Nm} {vs : List T} (h : l.length < 64) : Vop .sorted [.dct (nsT l) vs] (.own (nsT (srt l))) := ⟨by
  have h1 : (nsT l).all isStr = true := by simp [nsT, isStr]
  have h2 : Nat.blt (nsT l).length 64 = true := by rw [nsT_len]; exact Nat.ble_eq.mpr h
  simp only [evOp, o_sorted, h1, h2, Bool.and_self, if_true, tsort_ns]⟩
theorem tcmps_str : ∀ {l m : List Nm}, tcmps (nsT l) (nsT m) = .eq → l = m
  | [], [], _ => rfl
  | [], _ :: _, h => by simp [nsT, tcmps] at h
  | _ :: _, [], h => by simp [nsT, tcmps] at h
  | a :: l, b :: m, h => by
    simp only [nsT, List.map_cons] at h
    unfold tcmps at h
    split at h
    · rename_i q
      unfold tcmp at q
      rw [pscmp_eq q, tcmps_str h]
    · rename_i o q
      rw [h] at q
      exact absurd rfl q
theorem pteq_ns (l m : List Nm) : teq (.tup (nsT l)) (.tup (nsT m)) = decide (l = m) := by
  by_cases q : l = m
  · subst q
    rw [teq_self]
    simp
  · unfold teq
    cases h : tcmp (.tup (nsT l)) (.tup (nsT m)) with
    | eq =>
      unfold tcmp at h
      exact absurd (tcmps_str h) q
    | _ => simp [oEq, q]
theorem fit_ns {l : List Nm} : fit 60 (.tup (nsT l)) = true := by
  have : fits 59 (nsT l) = true := fits_all.mpr fun t ht => by
    obtain ⟨s, _, rfl⟩ := List.mem_map.mp ht
    rfl
  simpa [fit] using this
theorem Vop.neNs {l m : List Nm} : Vop .ne [.tup (nsT l), .tup (nsT m)] (.sh (.bl (!decide (l = m)))) := ⟨by
  simp only [evOp, o_ne, fit_ns, Bool.and_self, if_true, pteq_ns, shB]⟩
theorem tupT_ns (l : List Nm) : tupTs (nsT l) = nsT l := by
  rw [tupTs_map]
  simp only [nsT, List.map_map]
  exact List.map_congr_left fun s _ => by simp [tupT]
theorem tupT_sq (b : Bool) (ts : List T) : tupT (sq b ts) = .tup (ts.map tupT) := by
  cases b <;> (unfold sq; simp only [Bool.false_eq_true, if_false, if_true]; unfold tupT; rw [tupTs_map])
theorem tupT_r (b : Bool) (r : Rm) : tupT (rS b r) = rS false r := by
  unfold rS
  rw [tupT_sq, List.map_cons, List.map_cons, List.map_nil, tupT_sq, ← tupTs_map, tupT_ns]
  simp only [tupT]
  rfl
theorem tupT_c (b : Bool) (c : List Rm) : tupT (cS b c) = cS false c := by
  unfold cS
  rw [tupT_sq]
  simp only [List.map_map]
  rw [show tupT ∘ rS b = rS false from funext fun r => tupT_r b r]
  rfl
theorem tupled_c {fns : List Fn} {n i : Nat} {b : Bool} {c : List Rm} (hf : fns[i]? = some (tupledFn i)) (hc : Fits c) : run fns (n + 4) i [.sh (cS b c)] = .ok (.sh (cS false c)) [none] := by
  rw [show n + 4 = n + 3 + 1 by rfl, tupled_ok hf 3 n _ (okD_c (n := 0) hc), tupT_c]
def setFn : Fn := ⟨1, 1, [false], [.ret (.op .toTup [.op .sset [.var 0]])]⟩
theorem set_ns {fns : List Fn} {n i : Nat} {l : List Nm} (hf : fns[i]? = some setFn) (h : l.length ≤ 4000) : run fns (n + 1) i [.sh (.lst (nsT l))] = .ok (.sh (.tup (nsT (srt (ddup l))))) [none] := by
  have o := Vop.sset h
  apply run_o hf
  trivial
def blk (c : List Rm) : List Nm := srt (namesOf c)
theorem blk_mem {c : List Rm} {a : Nm} : a ∈ blk c ↔ a ∈ namesOf c := srt_mem
def blocksFn (s t : Nat) : Fn := ⟨1, 4, [false], [.ret (.call s [.lc2 [2, 3, 1] (.t [.v 2, .v 3]) .seq [.call t [.var 0]] [1] (.v 1) .seq [.var 2] [] (.var 1)])]⟩
theorem namesT (c : List Rm) : (c.flatMap fun r => r.1.map T.str) = nsT (namesOf c) := by
  unfold nsT namesOf
  rw [List.map_flatMap]
/-- a cache that is small enough -/
structure Small (c : List Rm) : Prop extends Fits c where
  l4 : (namesOf c).length ≤ 4000
theorem room_len {c : List Rm} {r : Rm} (h : r ∈ c) : r.1.length ≤ (namesOf c).length := by
  rw [namesOf, List.flatMap_def]
  exact List.Sublist.length_le (List.sublist_flatten_of_mem (List.mem_map.mpr ⟨r, h, rfl⟩))
theorem blocks_c {fns : List Fn} {n i s t : Nat} {b : Bool} {c : List Rm} (hf : fns[i]? = some (blocksFn s t)) (hs : fns[s]? = some setFn) (ht : fns[t]? = some (tupledFn t)) (hc : Fits c) (hl : (namesOf c).length ≤ 4000) : run fns (n + 5) i [.sh (cS b c)] = .ok (.sh (.tup (nsT (blk c)))) [none] := by
  have c1 : CallT (run fns (n + 4)) t [cS b c] (.sh (cS false c)) := .of ht rfl rfl (tupled_c (n := n) ht hc)
  have c2 : CallT (run fns (n + 4)) s [.lst (c.flatMap fun r => r.1.map T.str)] (.sh (.tup (nsT (blk c)))) := .of hs rfl rfl (by
    rw [namesT]
    have := set_ns (n := n + 3) hs hl
    rw [ddup_id hc.nd] at this
    exact this)
  apply run_o hf
  trivial
  · rename_i r hr
    have := room_len hr
    exact ⟨le_line (by omega)⟩
  · refine ⟨le_line ?_⟩
    rw [namesT, nsT_len]
    omega
end Ev
end
section
set_option linter.all false
set_option maxRecDepth 100000
set_option maxHeartbeats 1000000
namespace Ev
local macro_rules | `(tactic| trivial) => `(tactic| repeat (first | (apply Ve.id; first | assumption | apply Ve.var | apply Ve.cst | apply Ve.op | apply Ve.call | apply Ve.lcF) | (apply Vs.id; first | apply Vs.nil | apply Vs.cons) | (apply Vc.id; first | apply Vc.cons) | (apply Vg.id; first | apply Vg.z | apply Vg.s) | (apply Vsh.id; first | apply Vsh.sh) | (apply VsA.id; first | apply VsA.ok) | (apply VsK.id; first | apply VsK.ok) | (apply VopK.id; first | apply VopK.ok) | (apply Va.id; first | apply Va.nil | apply Va.val) | (apply Vr.id; first | apply Vr.sh | apply Vr.own | assumption) | (apply Vop.id; first | assumption | apply Vop.ix0T | apply Vop.ix0L | apply Vop.ix0Q | apply Vop.inQ | apply Vop.ninT | apply_assumption -exfalso -symm) | (apply VcK.id; first | apply VcK.ok) | (apply Vcl.id; first | apply Vcl.val) | (apply Vas.id; first | apply Vas.nil | apply Vas.cons) | (apply VcT.id; first | (apply VcT.call; assumption) | (apply VcT.throw; assumption) | (apply VcT.call; apply_assumption -exfalso -symm) | (apply VcT.throw; apply_assumption -exfalso -symm)) | (apply Vp.id; first | apply Vp.z | apply Vp.s) | (apply Vnb.id; first | assumption | apply Vnb.n) | (apply VtK.id; first | apply VtK.ok) | (apply Vtr.id; first | apply Vtr.bl) | (apply VcsK.id; first | apply VcsK.one) | (apply VlS.id; first | apply VlS.mk') | (apply VlE.id; first | apply VlE.sym) | (apply Vhide.id; first | apply Vhide.nil | apply Vhide.cons) | (apply Vcm.id; first | apply Vcm.z | apply Vcm.s) | (apply Vcalm.id; first | assumption | apply Vcalm.n) | (apply Vn.id; first | apply Vn.z | apply Vn.s) | (apply Vun.id; first | apply Vun.nil | apply Vun.cons) | (apply Vd.id; first | apply Vd.z | apply Vd.s) | (apply Vpat.id; first | apply Vpat.v) | (apply Vk.id; first | assumption | apply Vk.tup | apply Vk.sq) | (apply W.id; first | apply W.ret | apply W.ifs | apply W.nil | apply W.expr | apply W.raise) | (apply WeK.id; first | apply WeK.ok | apply WeK.exc) | (apply WrK.id; first | apply WrK.ok) | (apply WiK.id; first | apply WiK.ok) | (apply WB.id; first | (apply WB.et; assumption) | (apply WB.ef; assumption)) | (apply Wq.id; first | apply Wq.qnx | apply Wq.qrt | apply Wq.qexc | apply Wq.excx | (apply Wq.ret; rfl) | (apply Wq.ret0; rfl)) | (apply Ven.id; first | apply Ven.z | apply Ven.s | apply Ven.f) | exact lt_line (by omega) | exact le_line (by omega) | exact Nat.le_of_ble_eq_true rfl | omega | (apply okD.id; first | assumption | apply okD_nilL | apply okD_nilT | exact okD_str | exact okD_int | exact okD_bl | exact okD_non | apply okD_tupN | apply okD_lstN | apply okD_cN | apply okD_apL | apply okD_apT | apply okD_consL | apply okD_consT | apply okD_lstM | apply okD_tupM | apply okD_r | apply okD_sq) | rfl | assumption | (intro x hx) | (intro hx)))
def checkAlikeFn (bl : Nat) (z : S) : Fn := ⟨2, 2, [false, false], [.ifs (.op .ne [.call bl [.var 0], .call bl [.var 1]]) [z] []]⟩
def checkBlockFn (bl : Nat) (z : S) : Fn := ⟨2, 2, [false, false], [.ifs (.op .nin [.var 1, .call bl [.var 0]]) [z] []]⟩
/-- the blocks are told right -/
structure Bl (fns : List Fn) (n i : Nat) : Prop where
  h : ∀ b c, Small c → CallT (run fns (n + 5)) i [cS b c] (.sh (.tup (nsT (blk c))))
theorem Bl.of {fns : List Fn} {i s t : Nat} (hf : fns[i]? = some (blocksFn s t)) (hs : fns[s]? = some setFn) (ht : fns[t]? = some (tupledFn t)) (n : Nat) : Bl fns n i :=
  ⟨fun b c hc => .of hf rfl rfl (blocks_c (n := n) hf hs ht hc.toFits hc.l4)⟩
theorem alike_c {fns : List Fn} {n i bl : Nat} {z : S} {b d : Bool} {c e : List Rm} (hf : fns[i]? = some (checkAlikeFn bl z)) (hb : Bl fns n bl) (hc : Small c) (he : Small e) (h : blk c = blk e) : run fns (n + 6) i [.sh (cS b c), .sh (cS d e)] = .ok (.sh .non) [none, none] := by
  have c1 := hb.h b c hc
  have c2 := hb.h d e he
  have o := Vop.neNs (l := blk c) (m := blk e)
  have q : (!decide (blk c = blk e)) = false := by simp [h]
  apply run_o hf
  trivial
theorem unlike_c {fns : List Fn} {n i bl : Nat} {b d : Bool} {c e : List Rm} (hf : fns[i]? = some (checkAlikeFn bl (.raise 3 []))) (hb : Bl fns n bl) (hc : Small c) (he : Small e) (h : blk c ≠ blk e) : ∃ ρ, run fns (n + 6) i [.sh (cS b c), .sh (cS d e)] = .exc 3 [] ρ := by
  have c1 := hb.h b c hc
  have c2 := hb.h d e he
  have o := Vop.neNs (l := blk c) (m := blk e)
  have q : (!decide (blk c = blk e)) = true := by simp [h]
  apply run_x hf
  trivial
theorem block_c {fns : List Fn} {n i bl : Nat} {z : S} {b : Bool} {c : List Rm} {a : Nm} (hf : fns[i]? = some (checkBlockFn bl z)) (hb : Bl fns n bl) (hc : Small c) (h : a ∈ namesOf c) : run fns (n + 6) i [.sh (cS b c), .sh (.str a)] = .ok (.sh .non) [none, none] := by
  have c1 := hb.h b c hc
  have q : (!decide (a ∈ blk c)) = false := by simp [blk_mem, h]
  apply run_o hf
  trivial
theorem noblock_c {fns : List Fn} {n i bl : Nat} {b : Bool} {c : List Rm} {a : Nm} (hf : fns[i]? = some (checkBlockFn bl (.raise 0 [.var 1]))) (hb : Bl fns n bl) (hc : Small c) (h : a ∉ namesOf c) : ∃ ρ, run fns (n + 6) i [.sh (cS b c), .sh (.str a)] = .exc 0 [.str a] ρ := by
  have c1 := hb.h b c hc
  have q : (!decide (a ∈ blk c)) = true := by simp [blk_mem, h]
  apply run_x hf
  trivial
def homeOf (c : List Rm) (a : Nm) : Rm := (c.find? fun r => decide (a ∈ r.1)).getD ([], 0)
theorem home_some {c : List Rm} {a : Nm} (h : a ∈ namesOf c) : c.find? (fun r => decide (a ∈ r.1)) = some (homeOf c a) := by
  obtain ⟨r, hr, ha⟩ := List.mem_flatMap.mp h
  have : (c.find? fun r => decide (a ∈ r.1)).isSome := List.find?_isSome.mpr ⟨r, hr, by simpa using ha⟩
  obtain ⟨x, hx⟩ := Option.isSome_iff_exists.mp this
  unfold homeOf
  rw [hx]
  rfl
theorem home_mem {c : List Rm} {a : Nm} (h : a ∈ namesOf c) : homeOf c a ∈ c := List.mem_of_find?_eq_some (home_some h)
theorem Vop.head {α : Type} {f : α → T} {q : α → Bool} {l : List α} {x : α} (h : l.find? q = some x) : Vop .idx [.lst ((l.filter q).map f), .int 0] (.sh (f x)) := by
  rw [← List.head?_filter] at h
  cases e : l.filter q with
  | nil => rw [e] at h; simp at h
  | cons y r =>
    rw [e] at h
    simp only [List.head?_cons, Option.some.injEq] at h
    subst h
    exact Vop.ix0L
theorem Vop.home {c : List Rm} {a : Nm} (h : a ∈ namesOf c) (b : Bool) : Vop .idx [.lst ((c.filter fun r => decide (a ∈ r.1)).map (rS b)), .int 0] (.sh (rS b (homeOf c a))) := .head (home_some h)
def roomOfFn (cb t : Nat) : Fn := ⟨2, 3, [false, false], [.expr (.call cb [.var 0, .var 1]),
  .ret (.op .idx [.lc [2] (.v 2) .seq [.call t [.var 0]] [.op .in_ [.var 1, .op .idx [.var 2, .cst (.int 0)]]] (.var 2), .cst (.int 0)])]⟩
/-- the room of a block is told right -/
structure Ro (fns : List Fn) (n i : Nat) : Prop where
  h : ∀ b c a, Small c → a ∈ namesOf c → CallT (run fns (n + 7)) i [cS b c, .str a] (.sh (rS false (homeOf c a)))
theorem room_c {fns : List Fn} {n i cb bl t : Nat} {z : S} {b : Bool} {c : List Rm} {a : Nm} (hf : fns[i]? = some (roomOfFn cb t)) (hcb : fns[cb]? = some (checkBlockFn bl z)) (hb : Bl fns n bl) (ht : fns[t]? = some (tupledFn t)) (hc : Small c) (h : a ∈ namesOf c) : run fns (n + 7) i [.sh (cS b c), .sh (.str a)] = .ok (.sh (rS false (homeOf c a))) [none, none] := by
  have c1 : CallT (run fns (n + 6)) t [cS b c] (.sh (cS false c)) := .of ht rfl rfl (tupled_c (n := n + 2) ht hc.toFits)
  have c2 : CallT (run fns (n + 6)) cb [cS b c, .str a] (.sh .non) := .of hcb rfl rfl (block_c hcb hb hc h)
  have o := Vop.home h false
  have hl := hc.lc
  apply run_o hf
  trivial
theorem Ro.of {fns : List Fn} {i cb bl t : Nat} {z : S} (hf : fns[i]? = some (roomOfFn cb t)) (hcb : fns[cb]? = some (checkBlockFn bl z)) {n : Nat} (hb : Bl fns n bl) (ht : fns[t]? = some (tupledFn t)) : Ro fns n i := ⟨fun b c a hc h => .of hf rfl rfl (room_c hf hcb hb ht hc h)⟩
theorem noroom_c {fns : List Fn} {n i cb bl t : Nat} {b : Bool} {c : List Rm} {a : Nm} (hf : fns[i]? = some (roomOfFn cb t)) (hcb : fns[cb]? = some (checkBlockFn bl (.raise 0 [.var 1]))) (hb : Bl fns n bl) (hc : Small c) (h : a ∉ namesOf c) : ∃ ρ, run fns (n + 7) i [.sh (cS b c), .sh (.str a)] = .exc 0 [.str a] ρ := by
  have c2 : ThrowT (run fns (n + 6)) cb [cS b c, .str a] 0 [.str a] := .of hcb rfl (noblock_c hcb hb hc h)
  apply run_x hf
  trivial
def lotFn : Fn := ⟨2, 3, [false, false], [.ret (.op .idx [.lc [2] (.v 2) .seq [.var 0] [.op .in_ [.var 1, .op .idx [.var 2, .cst (.int 0)]]] (.var 2), .cst (.int 0)])]⟩
theorem lot_c {fns : List Fn} {n i : Nat} {b : Bool} {c : List Rm} {a : Nm} (hf : fns[i]? = some lotFn) (hc : c.length ≤ 100000) (h : a ∈ namesOf c) : run fns (n + 1) i [.sh (cS b c), .sh (.str a)] = .ok (.sh (rS b (homeOf c a))) [none, none] := by
  have o := Vop.home h b
  apply run_o hf
  trivial
end Ev
end
section
set_option linter.all false
set_option maxRecDepth 100000
set_option maxHeartbeats 1000000
namespace Ev
local macro_rules | `(tactic| trivial) => `(tactic| repeat (first | (apply Ve.id; first | assumption | apply Ve.var | apply Ve.cst | apply Ve.op | apply Ve.call | apply Ve.lcM | apply Ve.lcF) | (apply Vs.id; first | apply Vs.nil | apply Vs.cons) | (apply Vc.id; first | apply Vc.nil | apply Vc.cons) | (apply Vg.id; first | apply Vg.z | apply Vg.s) | (apply Vsh.id; first | apply Vsh.sh) | (apply VsA.id; first | apply VsA.ok) | (apply VsK.id; first | apply VsK.ok | apply VsK.exc) | (apply VopK.id; first | apply VopK.ok | apply VopK.exc) | (apply Va.id; first | apply Va.nil | apply Va.val) | (apply Vr.id; first | apply Vr.sh | apply Vr.own | apply Vr.ownD | assumption) | (apply Vop.id; first | assumption | apply Vop.gtI | apply Vop.toTup | apply Vop.lenTM | apply Vop.ix0T | apply Vop.ix1T | apply Vop.sumM | apply_assumption -exfalso -symm) | (apply VcK.id; first | apply VcK.ok) | (apply Vcl.id; first | apply Vcl.val) | (apply Vas.id; first | apply Vas.nil | apply Vas.cons) | (apply VcT.id; first | (apply VcT.call; assumption) | (apply VcT.throw; assumption) | (apply VcT.call; apply_assumption -exfalso -symm) | (apply VcT.throw; apply_assumption -exfalso -symm)) | (apply Vp.id; first | apply Vp.z | apply Vp.s) | (apply Vnb.id; first | assumption | apply Vnb.n) | (apply VtK.id; first | apply VtK.ok) | (apply Vtr.id; first | apply Vtr.bl) | (apply Vsq.id; first | apply Vsq.tup | apply Vsq.lst) | (apply VcsK.id; first | apply VcsK.one) | (apply VlS.id; first | apply VlS.mk') | (apply VlE.id; first | apply VlE.t | apply VlE.sym) | (apply Vhide.id; first | apply Vhide.nil | apply Vhide.cons) | (apply Vcm.id; first | apply Vcm.z | apply Vcm.s) | (apply Vcalm.id; first | assumption | apply Vcalm.n) | (apply Vn.id; first | apply Vn.z | apply Vn.s) | (apply Vun.id; first | apply Vun.nil | apply Vun.cons) | (apply Vd.id; first | apply Vd.z | apply Vd.s) | (apply Vpat.id; first | apply Vpat.v | apply Vpat.t) | (apply Vpats.id; first | apply Vpats.nil | apply Vpats.cons) | (apply Vk.id; first | assumption | apply Vk.tup) | (apply W.id; first | apply W.ret) | (apply WrK.id; first | apply WrK.ok | apply WrK.exc) | (apply Wq.id; first | apply Wq.qrt | apply Wq.qexc | apply Wq.excx | (apply Wq.ret; rfl)) | (apply VdI.id; first | apply VdI.mk') | (apply Ven.id; first | apply Ven.z | apply Ven.s | apply Ven.f) | exact lt_line (by omega) | exact le_line (by omega) | exact Nat.le_of_ble_eq_true rfl | omega | (apply okD.id; first | assumption | apply okD_nilL | apply okD_nilT | exact okD_str | exact okD_int | exact okD_bl | exact okD_non | apply okD_tupN | apply okD_lstN | apply okD_cN | apply okD_apL | apply okD_apT | apply okD_consL | apply okD_consT | apply okD_lstM | apply okD_tupM | apply okD_r | apply okD_sq) | rfl | assumption | (intro x hx) | (intro hx)))
def homesFn (t : Nat) : Fn := ⟨1, 3, [false], [.ret (.dc2 [1, 2] (.v 1) .seq [.call t [.var 0]] [2] (.v 2) .seq [.op .idx [.var 1, .cst (.int 0)]] [] (.var 2) (.var 1))]⟩
def homesV (c : List Rm) : List T := c.flatMap fun r => r.1.map fun _ => rS false r
theorem homes_c {fns : List Fn} {n i t : Nat} {b : Bool} {c : List Rm} (hf : fns[i]? = some (homesFn t)) (ht : fns[t]? = some (tupledFn t)) (hc : Fits c) : run fns (n + 5) i [.sh (cS b c)] = .ok (.ownD (nsT (namesOf c)) (homesV c)) [none] := by
  have c1 : CallT (run fns (n + 4)) t [cS b c] (.sh (cS false c)) := .of ht rfl rfl (tupled_c (n := n) ht hc)
  have hn := hc.ln
  have e : Ve (run fns (n + 4)) (.dc2 [1, 2] (.v 1) .seq [.call t [.var 0]] [2] (.v 2) .seq [.op .idx [.var 1, .cst (.int 0)]] [] (.var 2) (.var 1)) [some (.sh (cS b c)), none, none] (.ok (.ownD (nsT (namesOf c)) (homesV c)) [some (.sh (cS b c)), none, none]) := by
    apply Ve.dc2 (l := c) (inj := rS false) (fun r => r.1) (fun r => rS false r)
    case nd => exact hc.nd
    case hl => exact Nat.le_trans hn (by decide)
    case h4 =>
      intro r ks vs hr n1 n2
      apply VdS.mk' (names := r.1)
      case nd => exact n1
      case hl => exact n2
      trivial
    trivial
  apply run_o hf
  trivial
end Ev
end
section
set_option linter.all false
set_option maxRecDepth 100000
set_option maxHeartbeats 1000000
namespace Ev
local macro_rules | `(tactic| trivial) => `(tactic| repeat (first | (apply Ve.id; first | assumption | apply Ve.var | apply Ve.cst | apply Ve.op | apply Ve.call) | (apply Vs.id; first | apply Vs.nil | apply Vs.brw | apply Vs.cons) | (apply Vc.id; first | apply Vc.nil) | (apply Vg.id; first | apply Vg.z | apply Vg.s) | (apply Vsh.id; first | apply Vsh.sh) | (apply VsA.id; first | apply VsA.ok) | (apply VsK.id; first | apply VsK.ok) | (apply VopK.id; first | apply VopK.ok) | (apply Va.id; first | apply Va.nil | apply Va.val) | (apply Vr.id; first | apply Vr.sh | apply Vr.own | assumption) | (apply Vop.id; first | assumption | apply Vop.addI | apply Vop.toTup | apply Vop.lenL | apply_assumption -exfalso -symm) | (apply VcK.id; first | apply VcK.ok) | (apply Vcl.id; first | apply Vcl.lend') | (apply Vas.id; first | apply Vas.nil | apply Vas.cons) | (apply VlT.id; first | (apply VlT.box; assumption)) | (apply Vwr.id; first | apply Vwr.z) | (apply Vp.id; first | apply Vp.z | apply Vp.s) | (apply Vnb.id; first | assumption | apply Vnb.n) | (apply Vsq.id; first | apply Vsq.lst) | (apply VlS.id; first | apply VlS.mk') | (apply VlE.id; first | apply VlE.t) | (apply Vhide.id; first | apply Vhide.nil | apply Vhide.cons) | (apply Vcm.id; first | apply Vcm.z | apply Vcm.s) | (apply Vcalm.id; first | assumption | apply Vcalm.n) | (apply Vn.id; first | apply Vn.z | apply Vn.s) | (apply Vun.id; first | apply Vun.nil | apply Vun.cons) | (apply Vd.id; first | apply Vd.z | apply Vd.s) | (apply Vpat.id; first | apply Vpat.v) | (apply W.id; first | apply W.ret) | (apply WrK.id; first | apply WrK.ok) | (apply Wq.id; first | apply Wq.qrt | (apply Wq.ret; rfl)) | (apply Ven.id; first | apply Ven.z | apply Ven.s | apply Ven.f | apply Ven.t) | exact lt_line (by omega) | exact le_line (by omega) | exact Nat.le_of_ble_eq_true rfl | omega | (apply okD.id; first | assumption | apply okD_nilL | apply okD_nilT | exact okD_str | exact okD_int | exact okD_bl | exact okD_non | apply okD_tupN | apply okD_lstN | apply okD_cN | apply okD_apL | apply okD_apT | apply okD_consL | apply okD_consT | apply okD_lstM | apply okD_tupM | apply okD_r | apply okD_sq) | rfl | assumption | (intro x hx) | (intro hx)))
theorem take_l {fns : List Fn} {n t k : Nat} {ts : List T} {top : Int} (ht : fns[t]? = some takeFn) (hT : Tin (k + 1) ts) (h0 : 0 < top) (h1 : top < 2 ^ 200) : ∃ (v : Nat) (us : List T), LendT (run fns (n + 1)) t ts [.int top] us (.sh (.int (v : Int))) ∧ (v : Int) < top ∧ Tin k us := by
  obtain ⟨v, us, c1, v0, v1, hV⟩ := take_ok (n := n) ht hT h0 h1
  obtain ⟨v, rfl⟩ : ∃ j : Nat, v = j := ⟨v.toNat, by omega⟩
  exact ⟨v, us, .of ht rfl rfl c1, v1, hV⟩
theorem tags_l {fns : List Fn} {n tg m : Nat} (htg : fns[tg]? = some tagsFn) (hm : m ≤ 24) : CallT (run fns (n + 1)) tg [.int (m : Int)] (.own (nsT (tagsL.take m))) := .of htg rfl rfl (tags_ok htg hm)
theorem drawn_small {c : List Rm} {m : Int} (h : Drawn c m) : Small c := ⟨h.fits, by have := h.ln; omega⟩
theorem taken {m : Nat} (hm : m ≤ 24) : (tagsL.take m).length = m := by rw [List.length_take, tagsL_len]; omega
theorem shelf_l {fns : List Fn} {n sh t k m : Nat} {ts : List T} {most : Int} (hsh : fns[sh]? = some (shelfFn t)) (ht : fns[t]? = some takeFn) (h0 : 0 < m) (hm : m ≤ 24) (hT : Tin (k + 2 * m) ts) (m0 : 0 < most) (m1 : most < 2 ^ 200) : ∃ c us, LendT (run fns (n + 2)) sh ts [.lst (nsT (tagsL.take m)), .int most] us (.sh (cS false c)) ∧ Tin k us ∧ Drawn c most ∧ (namesOf c).Perm (tagsL.take m) := by
  obtain ⟨c, us, c3, hV2, p1, p2, p3, p4⟩ := shelf_c (n := n) (names := tagsL.take m) (k := k) hsh ht (by rw [taken hm]; omega) (by rw [taken hm]; exact hT) m0 m1
  exact ⟨c, us, .of hsh rfl rfl c3, hV2, drawn_of h0 hm p1 p2 p3 p4, p1⟩
end Ev
end
section
set_option linter.all false
set_option maxRecDepth 100000
set_option maxHeartbeats 1000000
namespace Ev
local macro_rules | `(tactic| trivial) => `(tactic| repeat (first | exact lt_line (by omega) | exact le_line (by omega) | exact Nat.le_of_ble_eq_true rfl | omega | (apply okD.id; first | assumption | apply okD_nilL | apply okD_nilT | exact okD_str | exact okD_int | exact okD_bl | exact okD_non | apply okD_tupN | apply okD_lstN | apply okD_cN | apply okD_apL | apply okD_apT | apply okD_consL | apply okD_consT | apply okD_lstM | apply okD_tupM | apply okD_r | apply okD_sq) | rfl | assumption | (intro x hx) | (intro hx)))
theorem lists_l {fns : List Fn} {n li : Nat} {b : Bool} {c : List Rm} (hli : fns[li]? = some (listsFn li)) (hc : Fits c) : ∃ r, CallT (run fns (n + 4)) li [cS b c] r ∧ Vr r (cS true c) := by
  obtain ⟨r, l1, l2, l3⟩ := lists_ok hli 3 n (cS b c) (okD_c (n := 0) hc)
  rw [lstT_c] at l3
  exact ⟨r, .of (n := n + 3) hli rfl l2 l1, l3, l2⟩
theorem same_l {fns : List Fn} {n sm d : Nat} {t u : T} (hsm : fns[sm]? = some (sameFn sm)) (h : t = u) (hd : d ≤ 50) (ht : okD d u) : CallT (run fns (n + d + 1)) sm [t, u] (.sh (.bl true)) := by
  subst h
  exact .of (n := n + d) hsm rfl rfl (same_ok hsm d n t (by omega) ht)
theorem okD_tupN {n : Nat} {l : List Nm} (h : l.length ≤ 16000000) : okD (n + 1) (.tup (nsT l)) := okD_sq (b := false) (by rw [nsT_len]; exact h) okD_ns
theorem okD_lstN {n : Nat} {l : List Nm} (h : l.length ≤ 16000000) : okD (n + 1) (.lst (nsT l)) := okD_sq (b := true) (by rw [nsT_len]; exact h) okD_ns
theorem okD_tupM {n : Nat} {α : Type} {f : α → T} {l : List α} (h : l.length ≤ 16000000) (hf : ∀ x ∈ l, okD n (f x)) : okD (n + 1) (.tup (l.map f)) := okD_tup.mpr ⟨by simpa using h, fun t ht => by
  obtain ⟨x, hx, rfl⟩ := List.mem_map.mp ht
  exact hf x hx⟩
theorem okD_lstM {n : Nat} {α : Type} {f : α → T} {l : List α} (h : l.length ≤ 16000000) (hf : ∀ x ∈ l, okD n (f x)) : okD (n + 1) (.lst (l.map f)) := okD_lst.mpr ⟨by simpa using h, fun t ht => by
  obtain ⟨x, hx, rfl⟩ := List.mem_map.mp ht
  exact hf x hx⟩
theorem okD_nilL {n : Nat} : okD (n + 1) (.lst []) := okD_lst.mpr ⟨by simp, by simp⟩
theorem okD_nilT {n : Nat} : okD (n + 1) (.tup []) := okD_tup.mpr ⟨by simp, by simp⟩
theorem okD_consL {n : Nat} {t : T} {l : List T} (h : okD n t) (h2 : okD (n + 1) (.lst l)) (hl : l.length ≤ 100000) : okD (n + 1) (.lst (t :: l)) := by
  obtain ⟨a, b⟩ := okD_lst.mp h2
  refine okD_lst.mpr ⟨by simp; omega, fun x hx => ?_⟩
  rcases List.mem_cons.mp hx with rfl | hx
  · exact h
  · exact b x hx
theorem okD_consT {n : Nat} {t : T} {l : List T} (h : okD n t) (h2 : okD (n + 1) (.tup l)) (hl : l.length ≤ 100000) : okD (n + 1) (.tup (t :: l)) := by
  obtain ⟨a, b⟩ := okD_tup.mp h2
  refine okD_tup.mpr ⟨by simp; omega, fun x hx => ?_⟩
  rcases List.mem_cons.mp hx with rfl | hx
  · exact h
  · exact b x hx
theorem okD_r {n : Nat} {b : Bool} {r : Rm} (h : r.1.length ≤ 16000000) : okD (n + 2) (rS b r) := by
  refine okD_sq (by simp) fun t ht => ?_
  simp only [List.mem_cons, List.not_mem_nil, or_false] at ht
  rcases ht with rfl | rfl
  · exact okD_sq (by rw [nsT_len]; exact h) okD_ns
  · exact okD_int
theorem okD.id {n : Nat} {t : T} (h : okD n t) : okD n t := h
theorem okD_cN {n : Nat} {b : Bool} {c : List Rm} (h : Fits c) : okD (n + 3) (cS b c) := okD_c h
theorem okD_apL {n : Nat} {x y : List T} (h : okD (n + 1) (.lst x)) (h2 : okD (n + 1) (.lst y)) (hl : x.length + y.length ≤ 16000000) : okD (n + 1) (.lst (x ++ y)) := by
  obtain ⟨a, b⟩ := okD_lst.mp h
  obtain ⟨c, d⟩ := okD_lst.mp h2
  refine okD_lst.mpr ⟨by simpa using hl, fun t ht => ?_⟩
  rcases List.mem_append.mp ht with ht | ht
  · exact b t ht
  · exact d t ht
theorem okD_apT {n : Nat} {x y : List T} (h : okD (n + 1) (.tup x)) (h2 : okD (n + 1) (.tup y)) (hl : x.length + y.length ≤ 16000000) : okD (n + 1) (.tup (x ++ y)) := by
  obtain ⟨a, b⟩ := okD_tup.mp h
  obtain ⟨c, d⟩ := okD_tup.mp h2
  refine okD_tup.mpr ⟨by simpa using hl, fun t ht => ?_⟩
  rcases List.mem_append.mp ht with ht | ht
  · exact b t ht
  · exact d t ht
theorem tags_l1 {fns : List Fn} {n tg v : Nat} (htg : fns[tg]? = some tagsFn) (hm : 1 + v ≤ 24) : CallT (run fns (n + 1)) tg [.int (1 + (v : Int))] (.own (nsT (tagsL.take (1 + v)))) := by
  have := tags_l (n := n) htg hm
  rwa [show ((1 + v : Nat) : Int) = 1 + (v : Int) by omega] at this
end Ev
end
section
set_option linter.all false
set_option maxRecDepth 100000
set_option maxHeartbeats 1000000
namespace Ev
local macro_rules | `(tactic| trivial) => `(tactic| repeat (first | (apply Ve.id; first | assumption | apply Ve.var | apply Ve.cst | apply Ve.op | apply Ve.call | apply Ve.and_ | apply Ve.lcF) | (apply Vs.id; first | apply Vs.nil | apply Vs.brw | apply Vs.cons) | (apply Vc.id; first | apply Vc.cons) | (apply Vg.id; first | apply Vg.z | apply Vg.s) | (apply Vsh.id; first | apply Vsh.sh) | (apply VsA.id; first | apply VsA.ok) | (apply VsK.id; first | apply VsK.ok | apply VsK.exc) | (apply VopK.id; first | apply VopK.ok | apply VopK.exc) | (apply Va.id; first | apply Va.nil | apply Va.val | apply Va.slot) | (apply Vr.id; first | apply Vr.sh | apply Vr.own | apply Vr.ownD | assumption) | (apply VrB.id; first | apply VrB.own) | (apply Vop.id; first | assumption | apply Vop.gtI | apply Vop.subI | (apply Vop.lst; rfl) | apply Vop.toTup | apply Vop.lenTM | apply Vop.lenLM | apply Vop.ix0T | apply Vop.ix1T | apply Vop.ninQ | apply_assumption -exfalso -symm) | (apply VcK.id; first | apply VcK.ok) | (apply Vcl.id; first | apply Vcl.val) | (apply Vas.id; first | apply Vas.nil | apply Vas.cons) | (apply VcT.id; first | (apply VcT.call; assumption) | (apply VcT.throw; assumption) | (apply VcT.call; apply_assumption -exfalso -symm) | (apply VcT.throw; apply_assumption -exfalso -symm)) | (apply Vwr.id; first | apply Vwr.z | apply Vwr.s) | (apply Vp.id; first | apply Vp.z | apply Vp.s) | (apply Vnb.id; first | assumption | apply Vnb.sh | apply Vnb.n) | (apply VtK.id; first | apply VtK.ok) | (apply Vtr.id; first | apply Vtr.bl) | (apply VanK.id; first | apply VanK.ok) | (apply VaB.id; first | apply VaB.sym) | (apply Vsq.id; first | apply Vsq.tup | apply Vsq.lst) | (apply VcsK.id; first | apply VcsK.one) | (apply VlS.id; first | apply VlS.mk') | (apply VlE.id; first | apply VlE.sym) | (apply Vhide.id; first | apply Vhide.nil | apply Vhide.cons) | (apply Vcm.id; first | apply Vcm.z | apply Vcm.s) | (apply Vcalm.id; first | assumption | apply Vcalm.n) | (apply Vn.id; first | apply Vn.z | apply Vn.s) | (apply Vun.id; first | apply Vun.nil | apply Vun.cons) | (apply Vd.id; first | apply Vd.z | apply Vd.s) | (apply Vpat.id; first | apply Vpat.v) | (apply Vpats.id; first | apply Vpats.nil | apply Vpats.cons) | (apply Vk.id; first | assumption | apply Vk.lst | apply Vk.tup) | (apply W.id; first | apply W.asg | apply W.ret | apply W.ifs | apply W.asgT | apply W.asgP | apply W.nil | apply W.app | apply W.expr) | (apply WaK.id; first | apply WaK.sh | apply WaK.exc) | (apply WpK.id; first | apply WpK.ok) | (apply WtK.id; first | apply WtK.ok) | (apply VpT.id; first | apply VpT.nil | apply VpT.v | apply VpT.o) | (apply VoB1.id; first | apply VoB1.own) | (apply WgR.id; first | apply WgR.ownM) | (apply WeK.id; first | apply WeK.ok | apply WeK.exc) | (apply WrK.id; first | apply WrK.ok) | (apply WiK.id; first | apply WiK.ok) | (apply Wq.id; first | apply Wq.qnx | apply Wq.qrt | apply Wq.qexc | apply Wq.excx | (apply Wq.ret; rfl)) | (apply WT.id; first | apply WT.mk') | (apply Ven.id; first | apply Ven.z | apply Ven.s | apply Ven.f) | exact lt_line (by omega) | exact le_line (by omega) | exact Nat.le_of_ble_eq_true rfl | omega | (apply okD.id; first | assumption | apply okD_nilL | apply okD_nilT | exact okD_str | exact okD_int | exact okD_bl | exact okD_non | apply okD_tupN | apply okD_lstN | apply okD_cN | apply okD_apL | apply okD_apT | apply okD_consL | apply okD_consT | apply okD_lstM | apply okD_tupM | apply okD_r | apply okD_sq) | rfl | assumption | (intro x hx) | (intro hx)))
def homesD (c : List Rm) : T := .dct (nsT (namesOf c)) (homesV c)
theorem look_homes {a : Nm} : ∀ c : List Rm, a ∈ namesOf c → look (.str a) (nsT (namesOf c)) (homesV c) = some (rS false (homeOf c a))
  | [], h => by simp [namesOf] at h
  | r :: c, h => by
    have e : nsT (namesOf (r :: c)) = nsT r.1 ++ nsT (namesOf c) := by simp [nsT, namesOf]
    have e2 : homesV (r :: c) = (r.1.map fun _ => rS false r) ++ homesV c := by simp [homesV]
    rw [e, e2, look_app _ _ _ _ (by simp [nsT]), look_same]
    by_cases q : a ∈ r.1
    · simp [q, homeOf]
    · have h2 : a ∈ namesOf c := by simpa [namesOf, q] using h
      rw [if_neg q, Option.none_or, look_homes c h2]
      simp [homeOf, q]
theorem Vop.homeD {c : List Rm} {a : Nm} (h : a ∈ namesOf c) : Vop .idx [homesD c, .str a] (.sh (rS false (homeOf c a))) := ⟨by
  simp only [evOp, homesD, o_idx, isKey, if_true, look_homes c h]
  rfl⟩
def strangeN (c d : List Rm) (a : Nm) : Nat := ((homeOf d a).1.filter fun x => !decide (x ∈ (homeOf c a).1)).length
def strangeFn : Fn := ⟨3, 4, [false, false, false], [.ret (.op .len [.lc [3] (.v 3) .seq [.op .idx [.op .idx [.var 1, .var 2], .cst (.int 0)]] [.op .nin [.var 3, .op .idx [.op .idx [.var 0, .var 2], .cst (.int 0)]]] (.var 3)])]⟩
theorem strange_c {fns : List Fn} {n i : Nat} {c d : List Rm} {a : Nm} (hf : fns[i]? = some strangeFn) (hd : Small d) (h : a ∈ namesOf c) (h2 : a ∈ namesOf d) : CallT (run fns (n + 1)) i [homesD c, homesD d, .str a] (.sh (.int (strangeN c d a : Nat))) := by
  have o1 := Vop.homeD h
  have o2 := Vop.homeD h2
  have hl := hd.l4
  have hr := room_len (home_mem h2)
  refine .of (n := n) (ρ1 := [none, none, none]) hf rfl rfl ?_
  apply run_o hf
  trivial
/-- one check ahead -/
structure Al (fns : List Fn) (n i : Nat) : Prop where
  h : ∀ b d c e, Small c → Small e → blk c = blk e → CallT (run fns (n + 6)) i [cS b c, cS d e] (.sh .non)
theorem Al.of {fns : List Fn} {n i bl : Nat} {z : S} (hf : fns[i]? = some (checkAlikeFn bl z)) (hb : Bl fns n bl) : Al fns n i := ⟨fun b d c e hc he h => .of hf rfl rfl (alike_c hf hb hc he h)⟩
structure Ul (fns : List Fn) (n i : Nat) : Prop where
  h : ∀ b d c e, Small c → Small e → blk c ≠ blk e → ThrowT (run fns (n + 6)) i [cS b c, cS d e] 3 []
theorem Ul.of {fns : List Fn} {n i bl : Nat} (hf : fns[i]? = some (checkAlikeFn bl (.raise 3 []))) (hb : Bl fns n bl) : Ul fns n i := ⟨fun b d c e hc he h => .of hf rfl (unlike_c hf hb hc he h)⟩
def outsideFn (al ro : Nat) : Fn := ⟨3, 5, [false, false, false], [.expr (.call al [.var 0, .var 1]),
  .asg false 3 (.op .idx [.call ro [.var 0, .var 2], .cst (.int 0)]),
  .ret (.op .len [.lc [4] (.v 4) .seq [.op .idx [.call ro [.var 1, .var 2], .cst (.int 0)]] [.op .nin [.var 4, .var 3]] (.var 4)])]⟩
theorem blk_iff {c e : List Rm} (h : blk c = blk e) {a : Nm} : a ∈ namesOf c ↔ a ∈ namesOf e := by
  rw [← blk_mem, h, blk_mem]
theorem outside_c {fns : List Fn} {n i al ro : Nat} {b d : Bool} {c e : List Rm} {a : Nm} (hf : fns[i]? = some (outsideFn al ro)) (hal : Al fns (n + 1) al) (hro : Ro fns n ro) (hc : Small c) (he : Small e) (hb : blk c = blk e) (h : a ∈ namesOf c) : CallT (run fns (n + 8)) i [cS b c, cS d e, .str a] (.sh (.int (strangeN c e a : Nat))) := by
  have c1 := hal.h b d c e hc he hb
  have c2 := hro.h b c a hc h
  have c3 := hro.h d e a he ((blk_iff hb).mp h)
  have hl := he.l4
  have hr := room_len (home_mem ((blk_iff hb).mp h))
  refine .of (n := n + 7) (ρ1 := [none, none, none]) hf rfl rfl ?_
  apply run_o hf
  trivial
theorem outside_u {fns : List Fn} {n i al ro : Nat} {b d : Bool} {c e : List Rm} {t : T} (hf : fns[i]? = some (outsideFn al ro)) (hul : Ul fns (n + 1) al) (hc : Small c) (he : Small e) (hb : blk c ≠ blk e) : ThrowT (run fns (n + 8)) i [cS b c, cS d e, t] 3 [] := by
  have c1 := hul.h b d c e hc he hb
  refine .of (n := n + 7) hf rfl ?_
  apply run_x hf
  trivial
/-- no such room -/
structure Nr (fns : List Fn) (n i : Nat) : Prop where
  h : ∀ b c a, Small c → a ∉ namesOf c → ThrowT (run fns (n + 7)) i [cS b c, .str a] 0 [.str a]
theorem Nr.of {fns : List Fn} {n i cb bl t : Nat} (hf : fns[i]? = some (roomOfFn cb t)) (hcb : fns[cb]? = some (checkBlockFn bl (.raise 0 [.var 1]))) (hb : Bl fns n bl) : Nr fns n i := ⟨fun b c a hc h => .of hf rfl (noroom_c hf hcb hb hc h)⟩
theorem outside_n {fns : List Fn} {n i al ro : Nat} {b d : Bool} {c e : List Rm} {a : Nm} (hf : fns[i]? = some (outsideFn al ro)) (hal : Al fns (n + 1) al) (hnr : Nr fns n ro) (hc : Small c) (he : Small e) (hb : blk c = blk e) (h : a ∉ namesOf c) : ThrowT (run fns (n + 8)) i [cS b c, cS d e, .str a] 0 [.str a] := by
  have c1 := hal.h b d c e hc he hb
  have c2 := hnr.h b c a hc h
  refine .of (n := n + 7) hf rfl ?_
  apply run_x hf
  trivial
def spareFn (al ro : Nat) : Fn := ⟨3, 3, [false, false, false], [.expr (.call al [.var 0, .var 1]),
  .ret (.op .sub [.op .idx [.call ro [.var 1, .var 2], .cst (.int 1)], .op .idx [.call ro [.var 0, .var 2], .cst (.int 1)]])]⟩
theorem spare_c {fns : List Fn} {n i al ro : Nat} {b d : Bool} {c e : List Rm} {a : Nm} (hf : fns[i]? = some (spareFn al ro)) (hal : Al fns (n + 1) al) (hro : Ro fns n ro) (hc : Small c) (he : Small e) (hb : blk c = blk e) (h : a ∈ namesOf c) : CallT (run fns (n + 8)) i [cS b c, cS d e, .str a] (.sh (.int ((homeOf e a).2 - (homeOf c a).2))) := by
  have c1 := hal.h b d c e hc he hb
  have c2 := hro.h b c a hc h
  have c3 := hro.h d e a he ((blk_iff hb).mp h)
  refine .of (n := n + 7) (ρ1 := [none, none, none]) hf rfl rfl ?_
  apply run_o hf
  trivial
/-- homes are told right -/
structure Ho (fns : List Fn) (n i : Nat) : Prop where
  h : ∀ b c, Fits c → CallT (run fns (n + 5)) i [cS b c] (.ownD (nsT (namesOf c)) (homesV c))
theorem Ho.of {fns : List Fn} {i t : Nat} (hf : fns[i]? = some (homesFn t)) (ht : fns[t]? = some (tupledFn t)) (n : Nat) : Ho fns n i := ⟨fun b c hc => .of hf rfl rfl (homes_c hf ht hc)⟩
def agB (c d : List Rm) (a : Nm) : Bool := decide ((homeOf d a).2 < ((homeOf d a).1.length : Int)) && decide ((homeOf d a).2 - (homeOf c a).2 < (strangeN c d a : Int))
def againstFn (al ho st : Nat) : Fn := ⟨2, 8, [false, false], [.expr (.call al [.var 0, .var 1]),
  .asgT [.v 3, .v 4, .o 5] [.call ho [.var 0], .call ho [.var 1], .op .lst []],
  .for_ (.v 2) .seq [.op .sorted [.var 4]] [.asgP [.v 6, .v 7] (.op .idx [.var 4, .var 2]), .ifs (.and_ (.op .gt [.op .len [.var 6], .var 7]) (.op .gt [.call st [.var 3, .var 4, .var 2], .op .sub [.var 7, .op .idx [.op .idx [.var 3, .var 2], .cst (.int 1)]]])) [.app 5 (.var 2)] []],
  .ret (.op .toTup [.brw 5])]⟩
theorem against_c {fns : List Fn} {n i al ho st : Nat} {b d : Bool} {c e : List Rm} (hf : fns[i]? = some (againstFn al ho st)) (hal : Al fns (n + 1) al) (hho : Ho fns (n + 2) ho) (hst : fns[st]? = some strangeFn) (hc : Small c) (he : Small e) (hl : (namesOf e).length < 64) (hb : blk c = blk e) : CallT (run fns (n + 8)) i [cS b c, cS d e] (.sh (.tup (nsT ((blk e).filter (agB c e))))) := by
  have c1 := hal.h b d c e hc he hb
  have c2 := hho.h b c hc.toFits
  have c3 := hho.h d e he.toFits
  have o1 := Vop.sortD (l := namesOf e) (vs := homesV e) hl
  refine .of (n := n + 7) (ρ1 := [none, none]) hf rfl rfl ?_
  apply run_o hf
  trivial
  apply W.for_ (l := blk e) (inj := T.str) (fun done todo ρ => ∃ x y z, ρ = [some (.sh (cS b c)), some (.sh (cS d e)), x, some (.sh (homesD c)), some (.sh (homesD e)), some (.own (nsT (done.filter (agB c e)))), y, z] ∧ Vnb x ∧ Vnb y ∧ Vnb z)
  trivial
  case h0 => exact ⟨none, none, none, rfl, .n, .n, .n⟩
  case st =>
    rintro done a todo ρ hdt ⟨x, y, z, rfl, hx, hy, hz⟩
    have ma : a ∈ namesOf e := blk_mem.mp (by rw [← hdt]; simp)
    have mc : a ∈ namesOf c := (blk_iff hb).mpr ma
    have o2 := Vop.homeD ma
    have o3 := Vop.homeD mc
    have c4 := strange_c (n := n + 6) hst he mc ma
    have dl : done.length ≤ 64 := by
      have := srt_len (namesOf e)
      have h2 : (blk e).length = (namesOf e).length := this
      rw [← hdt] at h2
      simp at h2
      omega
    have fl := List.length_filter_le (agB c e) done
    have ef : (done ++ [a]).filter (agB c e) = done.filter (agB c e) ++ if agB c e a then [a] else [] := by
      rw [List.filter_append]
      simp only [List.filter_cons, List.filter_nil]
    trivial
    refine WB.both (fun q => ?_) (fun q => ?_)
    · have q : agB c e a = true := q
      have e9 : nsT ((done ++ [a]).filter (agB c e)) = nsT (done.filter (agB c e)) ++ [.str a] := by rw [ef, q]; simp [nsT]
      trivial
      exact ⟨⟨_, _, _, by rw [e9] <;> rfl, .sh, .sh, .sh⟩⟩
    · have q : agB c e a = false := q
      have e9 : nsT ((done ++ [a]).filter (agB c e)) = nsT (done.filter (agB c e)) := by rw [ef, q]; simp [nsT]
      trivial
      exact ⟨⟨_, _, _, by rw [e9] <;> rfl, .sh, .sh, .sh⟩⟩
  rintro ρ ⟨x, y, z, rfl, hx, hy, hz⟩
  trivial
theorem against_u {fns : List Fn} {n i al ho st : Nat} {b d : Bool} {c e : List Rm} (hf : fns[i]? = some (againstFn al ho st)) (hul : Ul fns (n + 1) al) (hc : Small c) (he : Small e) (hb : blk c ≠ blk e) : ThrowT (run fns (n + 8)) i [cS b c, cS d e] 3 [] := by
  have c1 := hul.h b d c e hc he hb
  refine .of (n := n + 7) hf rfl ?_
  apply run_x hf
  trivial
end Ev
end
section
set_option linter.all false
set_option maxRecDepth 100000
set_option maxHeartbeats 1000000
namespace Ev
local macro_rules | `(tactic| trivial) => `(tactic| repeat (first | (apply Ve.id; first | assumption | apply Ve.var | apply Ve.cst | apply Ve.op | apply Ve.call | apply Ve.or_) | (apply Vs.id; first | apply Vs.nil | apply Vs.brw | apply Vs.cons) | (apply Vc.id; first | apply Vc.nil) | (apply Vg.id; first | apply Vg.z | apply Vg.s) | (apply Vsh.id; first | apply Vsh.sh) | (apply VsA.id; first | apply VsA.ok) | (apply VsK.id; first | apply VsK.ok) | (apply VopK.id; first | apply VopK.ok) | (apply Va.id; first | apply Va.nil | apply Va.val) | (apply Vr.id; first | apply Vr.sh | apply Vr.own | assumption) | (apply Vop.id; first | assumption | apply Vop.not_ | apply Vop.lenLM | apply_assumption -exfalso -symm) | (apply VcK.id; first | apply VcK.ok) | (apply Vcl.id; first | apply Vcl.lend' | apply Vcl.val) | (apply Vas.id; first | apply Vas.nil | apply Vas.cons) | (apply VcT.id; first | (apply VcT.call; assumption) | (apply VcT.call; apply_assumption -exfalso -symm)) | (apply VlT.id; first | (apply VlT.own; assumption)) | (apply Vwr.id; first | apply Vwr.z | apply Vwr.s) | (apply Vp.id; first | apply Vp.z | apply Vp.s) | (apply Vnb.id; first | assumption | apply Vnb.sh | apply Vnb.n | apply Vnb.o) | (apply VtK.id; first | apply VtK.ok) | (apply Vtr.id; first | apply Vtr.bl) | (apply VorK.id; first | apply VorK.ok) | (apply VoB.id; first | apply VoB.f) | (apply VlS.id; first | apply VlS.mk') | (apply VlE.id; first | apply VlE.t) | (apply Vhide.id; first | apply Vhide.nil | apply Vhide.cons) | (apply Vcm.id; first | apply Vcm.z | apply Vcm.s) | (apply Vcalm.id; first | assumption | apply Vcalm.n) | (apply Vn.id; first | apply Vn.z | apply Vn.s) | (apply Vun.id; first | apply Vun.nil | apply Vun.cons) | (apply Vd.id; first | apply Vd.z | apply Vd.s) | (apply Vpat.id; first | apply Vpat.v) | (apply Vk.id; first | assumption | (apply Vk.range; omega) | (apply Vk.rangeZ; decide)) | (apply W.id; first | apply W.asg | apply W.ret | apply W.ifs | apply W.nil) | (apply WaK.id; first | apply WaK.sh | apply WaK.own) | (apply WrK.id; first | apply WrK.ok) | (apply WiK.id; first | apply WiK.ok) | (apply WB.id; first | apply WB.f) | (apply Wq.id; first | apply Wq.qnx | apply Wq.qrt | (apply Wq.ret; rfl)) | (apply WT.id; first | apply WT.mk') | (apply Ven.id; first | apply Ven.z | apply Ven.s | apply Ven.f | apply Ven.t) | exact lt_line (by omega) | exact le_line (by omega) | exact Nat.le_of_ble_eq_true rfl | omega | (apply okD.id; first | assumption | apply okD_nilL | apply okD_nilT | exact okD_str | exact okD_int | exact okD_bl | exact okD_non | apply okD_tupN | apply okD_lstN | apply okD_cN | apply okD_apL | apply okD_apT | apply okD_consL | apply okD_consT | apply okD_lstM | apply okD_tupM | apply okD_r | apply okD_sq) | rfl | assumption | (intro x hx) | (intro hx)))
/-- [f(tin) for _ in range(m)], all of them right -/
def allFn (f : Nat) (m : Int) : Fn := ⟨1, 2, [true], [.ret (.op .all [.lc [1] (.v 1) .range [.cst (.int m)] [] (.call f [.brw 0])])]⟩
theorem all_l {fns : List Fn} {n i f B : Nat} {m : Int} {ts : List T} (hf : fns[i]? = some (allFn f m)) (hm : 0 ≤ m ∧ m ≤ 1000) (hB : B ≤ 1000000) (hc : ∀ k us, Tin (k + B) us → ∃ vs, LendT (run fns n) f us [] vs (.sh (.bl true)) ∧ Tin k vs) (hT : Tin (2 ^ 59) ts) : run fns (n + 1) i [.own ts] = .ok (.sh (.bl true)) [none] := by
  have e1 : Vs (run fns n) [.cst (.int m)] [some (.own ts), none] (.ok [.val (.sh (.int m))] [some (.own ts), none]) := by trivial
  have hb : ∀ j : Nat, j ≤ 1000 → j * B ≤ 1000 * 1000000 := fun j hj => Nat.mul_le_mul hj hB
  obtain ⟨ys, ρ', e2, k, us, rfl, rfl, hk⟩ := lc_inv (own := [1]) (p := .v 1) (cs := []) (e := .call f [.brw 0]) e1.h (by rfl) ((Vk.rangeZ ⟨hm.1, by omega⟩).h) (fun xs acc ρ => ∃ (k : Nat) (us : List T), acc = (List.replicate k true).map .bl ∧ ρ = [some (.own us), none] ∧ Tin (xs.length * B) us ∧ k + xs.length = m.toNat) ⟨0, ts, rfl, rfl, hT.le (by
    simp only [List.length_map, List.length_range]
    have := hb m.toNat (by omega)
    omega), by simp⟩ (by
      rintro x xs acc ρ ⟨k, us, rfl, rfl, hU, hk⟩
      obtain ⟨vs, l1, hV⟩ := hc (xs.length * B) us (hU.le (by simp only [List.length_cons, Nat.add_mul]; omega))
      have st : VlS (run fns n) [1] (.v 1) [] (.call f [.brw 0]) x [some (.own us), none] (.ok [.bl true] [some (.own vs), none]) := by trivial
      refine ⟨_, _, st.h, ?_, k + 1, vs, by simp [List.replicate_succ'], rfl, hV, by simp at hk ⊢; omega⟩
      simp at hk ⊢
      exact le_line (by omega))
  have e3 : Ve (run fns n) (.lc [1] (.v 1) .range [.cst (.int m)] [] (.call f [.brw 0])) [some (.own ts), none] (.ok (.own ((List.replicate k true).map .bl)) [some (.own us), none]) := ⟨e2⟩
  have o1 : Vop .all [.lst ((List.replicate k true).map .bl)] (.sh (.bl true)) := ⟨by
    simp only [evOp]
    unfold o_all
    dsimp only
    rw [boolsT_bl]
    simp [shB]⟩
  apply run_o hf
  trivial
end Ev
end
section
set_option linter.all false
set_option maxRecDepth 100000
set_option maxHeartbeats 1000000
namespace Ev
local macro_rules | `(tactic| trivial) => `(tactic| repeat (first | (apply Ve.id; first | assumption | apply Ve.var | apply Ve.cst | apply Ve.op | apply Ve.call | apply Ve.and_ | apply Ve.lcM | apply Ve.lcF) | (apply Vs.id; first | apply Vs.nil | apply Vs.brw | apply Vs.cons) | (apply Vc.id; first | apply Vc.nil | apply Vc.cons) | (apply Vg.id; first | apply Vg.z | apply Vg.s) | (apply Vsh.id; first | apply Vsh.sh) | (apply VsA.id; first | apply VsA.ok) | (apply VsK.id; first | apply VsK.ok) | (apply VopK.id; first | apply VopK.ok) | (apply Va.id; first | apply Va.nil | apply Va.val | apply Va.slot) | (apply Vr.id; first | apply Vr.sh | apply Vr.own | assumption) | (apply VrB.id; first | apply VrB.own) | (apply Vop.id; first | assumption | apply Vop.gtI | apply Vop.addI | apply Vop.subI | (apply Vop.lst; rfl) | (apply Vop.tup; rfl) | apply Vop.toTup | apply Vop.toLst | apply Vop.lenTM | apply Vop.lenLM | apply Vop.ix0T | apply Vop.ix1T | apply Vop.ninQ | apply Vop.sortL | apply Vop.addT | apply_assumption -exfalso -symm) | (apply VcK.id; first | apply VcK.ok) | (apply Vcl.id; first | apply Vcl.lend' | apply Vcl.val) | (apply Vas.id; first | apply Vas.nil | apply Vas.cons) | (apply VcT.id; first | (apply VcT.call; assumption) | (apply VcT.call; apply_assumption -exfalso -symm)) | (apply VlT.id; first | (apply VlT.box; assumption)) | (apply Vwr.id; first | apply Vwr.z | apply Vwr.s) | (apply Vp.id; first | apply Vp.z | apply Vp.s) | (apply Vnb.id; first | assumption | apply Vnb.sh | apply Vnb.n) | (apply VtK.id; first | apply VtK.ok) | (apply Vtr.id; first | apply Vtr.bl) | (apply VanK.id; first | apply VanK.ok) | (apply VaB.id; first | apply VaB.sym) | (apply Vsq.id; first | apply Vsq.tup | apply Vsq.lst) | (apply VcsK.id; first | apply VcsK.one) | (apply VlS.id; first | apply VlS.mk') | (apply VlE.id; first | apply VlE.t | apply VlE.sym) | (apply Vhide.id; first | apply Vhide.nil | apply Vhide.cons) | (apply Vcm.id; first | apply Vcm.z | apply Vcm.s) | (apply Vcalm.id; first | assumption | apply Vcalm.n) | (apply Vn.id; first | apply Vn.z | apply Vn.s) | (apply Vun.id; first | apply Vun.nil | apply Vun.cons) | (apply Vd.id; first | apply Vd.z | apply Vd.s) | (apply Vpat.id; first | apply Vpat.v | apply Vpat.t) | (apply Vpats.id; first | apply Vpats.nil | apply Vpats.cons) | (apply Vk.id; first | assumption | apply Vk.lst | apply Vk.tup) | (apply W.id; first | apply W.asg | apply W.ret | apply W.ifs | apply W.asgT | apply W.nil | apply W.app) | (apply WaK.id; first | apply WaK.sh | apply WaK.own) | (apply WtK.id; first | apply WtK.ok) | (apply VpT.id; first | apply VpT.nil | apply VpT.v | apply VpT.t) | (apply VoB1.id; first | apply VoB1.own) | (apply WgR.id; first | apply WgR.ownM) | (apply WrK.id; first | apply WrK.ok) | (apply WiK.id; first | apply WiK.ok) | (apply Wq.id; first | apply Wq.qnx | apply Wq.qrt | (apply Wq.ret; rfl)) | (apply WT.id; first | apply WT.mk') | (apply Ven.id; first | apply Ven.z | apply Ven.s | apply Ven.f | apply Ven.t) | exact lt_line (by omega) | exact le_line (by omega) | exact Nat.le_of_ble_eq_true rfl | omega | (apply okD.id; first | assumption | apply okD_nilL | apply okD_nilT | exact okD_str | exact okD_int | exact okD_bl | exact okD_non | apply okD_tupN | apply okD_lstN | apply okD_cN | apply okD_apL | apply okD_apT | apply okD_consL | apply okD_consT | apply okD_lstM | apply okD_tupM | apply okD_r | apply okD_sq) | rfl | assumption | (intro x hx) | (intro hx)))
def twoFn (t tg sh : Nat) : Fn := ⟨3, 4, [true, false, false], [.asg false 3 (.call tg [.op .add [.cst (.int 1), .call t [.brw 0, .var 1]]]),
  .ret (.op .tup [.call sh [.brw 0, .var 3, .var 2], .call sh [.brw 0, .var 3, .var 2], .var 3])]⟩
theorem two_l {fns : List Fn} {n i t tg sh k : Nat} {top most : Int} {ts : List T} (hf : fns[i]? = some (twoFn t tg sh)) (ht : fns[t]? = some takeFn) (htg : fns[tg]? = some tagsFn) (hsh : fns[sh]? = some (shelfFn t)) (h0 : 0 < top) (h1 : top ≤ 24) (m0 : 0 < most) (m1 : most < 2 ^ 200) (hT : Tin (k + 100) ts) : ∃ c d v us, LendT (run fns (n + 3)) i ts [.int top, .int most] us (.sh (.tup [cS false c, cS false d, .lst (nsT (tagsL.take (1 + v)))])) ∧ Tin k us ∧ Drawn c most ∧ Drawn d most ∧ (namesOf c).Perm (tagsL.take (1 + v)) ∧ (namesOf d).Perm (tagsL.take (1 + v)) ∧ 1 + v ≤ top.toNat := by
  obtain ⟨v, u1, l1, hv, hU⟩ := take_l (fns := fns) (n := n + 1) (t := t) (top := top) (k := k + 99) ht (hT.le (by omega)) h0 (by omega)
  have c1 := tags_l1 (fns := fns) (n := n + 1) (tg := tg) (v := v) htg (by omega)
  obtain ⟨c, u2, l2, hU, hc, pc⟩ := shelf_l (fns := fns) (n := n) (sh := sh) (t := t) (m := 1 + v) (k := k + 48) hsh ht (by omega) (by omega) (hU.le (by omega)) m0 m1
  obtain ⟨d, u3, l3, hU, hd, pd⟩ := shelf_l (fns := fns) (n := n) (sh := sh) (t := t) (m := 1 + v) (k := k) hsh ht (by omega) (by omega) (hU.le (by omega)) m0 m1
  refine ⟨c, d, v, u3, .of (n := n + 2) (ρ1 := [none, none]) hf rfl rfl ?_, hU, hc, hd, pc, pd, by omega⟩
  apply run_o hf
  trivial
/-- the law's own look for a room -/
structure Lo (fns : List Fn) (n i : Nat) : Prop where
  h : ∀ b c a, c.length ≤ 100000 → a ∈ namesOf c → CallT (run fns (n + 1)) i [cS b c, .str a] (.sh (rS b (homeOf c a)))
theorem Lo.of {fns : List Fn} {i : Nat} (hf : fns[i]? = some lotFn) (n : Nat) : Lo fns n i := ⟨fun b c a hc h => .of hf rfl rfl (lot_c hf hc h)⟩
def lawStrangeFn (lo : Nat) : Fn := ⟨3, 5, [false, false, false], [.asg false 3 (.op .idx [.call lo [.var 0, .var 2], .cst (.int 0)]),
  .ret (.op .len [.lc [4] (.v 4) .seq [.op .idx [.call lo [.var 1, .var 2], .cst (.int 0)]] [.op .nin [.var 4, .var 3]] (.var 4)])]⟩
theorem lawstrange_c {fns : List Fn} {n i lo : Nat} {c d : List Rm} {a : Nm} (hf : fns[i]? = some (lawStrangeFn lo)) (hlo : Lo fns n lo) (hc : Small c) (hd : Small d) (h : a ∈ namesOf c) (h2 : a ∈ namesOf d) : CallT (run fns (n + 2)) i [cS false c, cS false d, .str a] (.sh (.int (strangeN c d a : Nat))) := by
  have c1 := hlo.h false c a hc.lc h
  have c2 := hlo.h false d a hd.lc h2
  have hl := hd.l4
  have hr := room_len (home_mem h2)
  refine .of (n := n + 1) (ρ1 := [none, none, none]) hf rfl rfl ?_
  apply run_o hf
  trivial
theorem lsts_ns (c : List Rm) : lsts (c.map fun r => T.lst (nsT r.1)) = some (nsT (namesOf c)) := by
  induction c with
  | nil => rfl
  | cons r c ih =>
    simp only [List.map_cons, lsts, ih, Option.map_some]
    simp [nsT, namesOf]
theorem Vop.sumNs {c : List Rm} (h0 : c ≠ []) (h : (namesOf c).length ≤ 16000000) : Vop .sumL [.lst (c.map fun r => .lst (nsT r.1)), .lst []] (.own (nsT (namesOf c))) := ⟨by
  cases c with
  | nil => exact absurd rfl h0
  | cons r c =>
    simp only [evOp, List.map_cons]
    unfold o_sumL
    dsimp only
    rw [show lsts (.lst (nsT r.1) :: c.map fun r => T.lst (nsT r.1)) = some (nsT (namesOf (r :: c))) from lsts_ns (r :: c), Option.bind_some]
    have : ([] ++ nsT (namesOf (r :: c))).length ≤ line := le_line (by simp [nsT]; omega)
    rw [if_pos this]
    rfl⟩
def lawBadFn (lo st : Nat) : Fn := ⟨2, 7, [false, false], [.asg true 2 (.op .lst []),
  .for_ (.v 3) .seq [.op .sorted [.op .sumL [.lc [5] (.v 5) .seq [.var 0] [] (.op .toLst [.op .idx [.var 5, .cst (.int 0)]]), .op .lst []]]] [.asgT [.t [.v 5, .v 6], .v 4] [.call lo [.var 1, .var 3], .call lo [.var 0, .var 3]], .ifs (.and_ (.op .gt [.op .len [.var 5], .var 6]) (.op .gt [.call st [.var 0, .var 1, .var 3], .op .sub [.var 6, .op .idx [.var 4, .cst (.int 1)]]])) [.app 2 (.var 3)] []],
  .ret (.op .toTup [.brw 2])]⟩
theorem lawbad_c {fns : List Fn} {n i lo st : Nat} {c e : List Rm} (hf : fns[i]? = some (lawBadFn lo st)) (hlo : Lo fns n lo) (hlo1 : Lo fns (n + 1) lo) (hst : fns[st]? = some (lawStrangeFn lo)) (hc : Small c) (he : Small e) (h0 : c ≠ []) (hb : blk c = blk e) : CallT (run fns (n + 3)) i [cS false c, cS false e] (.sh (.tup (nsT ((blk e).filter (agB c e))))) := by
  have o1 := Vop.sumNs (c := c) h0 (by have := hc.l4; omega)
  have hl := hc.l4
  have hlc := hc.lc
  have hls := srt_len (namesOf c)
  refine .of (n := n + 2) (ρ1 := [none, none]) hf rfl rfl ?_
  apply run_o hf
  trivial
  apply W.for_ (l := blk c) (inj := T.str) (fun done todo ρ => ∃ x y z w, ρ = [some (.sh (cS false c)), some (.sh (cS false e)), some (.own (nsT (done.filter (agB c e)))), x, w, y, z] ∧ Vnb x ∧ Vnb y ∧ Vnb z ∧ Vnb w)
  trivial
  case h0 => exact ⟨none, none, none, none, rfl, .n, .n, .n, .n⟩
  case st =>
    rintro done a todo ρ hdt ⟨x, y, z, w, rfl, hx, hy, hz, hw⟩
    have mc : a ∈ namesOf c := blk_mem.mp (by rw [← hdt]; simp)
    have ma : a ∈ namesOf e := (blk_iff hb).mp mc
    have c4 := lawstrange_c hst hlo hc he mc ma
    have c5 := hlo1.h false e a he.lc ma
    have c6 := hlo1.h false c a hc.lc mc
    have dl : done.length ≤ 4000 := by
      have h2 : (blk c).length = (namesOf c).length := srt_len _
      rw [← hdt] at h2
      simp at h2
      omega
    have fl := List.length_filter_le (agB c e) done
    have ef : (done ++ [a]).filter (agB c e) = done.filter (agB c e) ++ if agB c e a then [a] else [] := by
      rw [List.filter_append]
      simp only [List.filter_cons, List.filter_nil]
    trivial
    refine WB.both (fun q => ?_) (fun q => ?_)
    · have q : agB c e a = true := q
      have e9 : nsT ((done ++ [a]).filter (agB c e)) = nsT (done.filter (agB c e)) ++ [.str a] := by rw [ef, q]; simp [nsT]
      trivial
      exact ⟨⟨_, _, _, _, by rw [e9] <;> rfl, .sh, .sh, .sh, .sh⟩⟩
    · have q : agB c e a = false := q
      have e9 : nsT ((done ++ [a]).filter (agB c e)) = nsT (done.filter (agB c e)) := by rw [ef, q]; simp [nsT]
      trivial
      exact ⟨⟨_, _, _, _, by rw [e9] <;> rfl, .sh, .sh, .sh, .sh⟩⟩
  rw [hb]
  rintro ρ ⟨x, y, z, w, rfl, hx, hy, hz, hw⟩
  trivial
theorem Vop.addRoom {d : List Rm} {x : Nm} {w : Int} (h : d.length ≤ 100000) : Vop .add [cS false d, .tup [.tup [.tup [.str x], .int w]]] (.sh (cS false (d ++ [([x], w)]))) := by
  have := Vop.addT (x := d.map (rS false)) (y := [rS false ([x], w)]) (le_line (by simp; omega))
  have e : d.map (rS false) ++ [rS false ([x], w)] = (d ++ [([x], w)]).map (rS false) := by simp
  rw [e] at this
  exact this
theorem namesOf_app (c d : List Rm) : namesOf (c ++ d) = namesOf c ++ namesOf d := by simp [namesOf]
theorem small_more {c : List Rm} {x : Nm} {w : Int} (h : Small c) (hx : x ∉ namesOf c) (hw : 1 ≤ w) (hl : (namesOf c).length ≤ 3999) (hl2 : c.length ≤ 3999) : Small (c ++ [([x], w)]) := by
  have e : namesOf (c ++ [([x], w)]) = namesOf c ++ [x] := by rw [namesOf_app]; rfl
  refine ⟨⟨?_, ?_, ?_, ?_⟩, ?_⟩
  · rw [e]
    refine List.nodup_append.mpr ⟨h.nd, by simp, fun a ha b hb => ?_⟩
    simp at hb
    subst hb
    rintro rfl
    exact hx ha
  · rw [e]; simp; omega
  · intro r hr
    rcases List.mem_append.mp hr with hr | hr
    · exact h.wy r hr
    · simp at hr; subst hr; exact hw
  · simp
    omega
  · rw [e]; simp; omega
theorem blk_more {c d : List Rm} {x : Nm} {w : Int} (hx : x ∉ namesOf c) : blk c ≠ blk (d ++ [([x], w)]) := fun h => hx ((blk_iff h).mpr (by rw [namesOf_app]; simp [namesOf]))
theorem blk_perm {c d : List Rm} {l : List Nm} (h : (namesOf c).Perm l) (h2 : (namesOf d).Perm l) : blk c = blk d := srt_eq (h.trans h2.symm)
end Ev
end
section
set_option linter.all false
set_option maxRecDepth 100000
set_option maxHeartbeats 2000000
namespace Ev.K64
open Ev
local macro_rules | `(tactic| trivial) => `(tactic| repeat (first | (apply Ve.id; first | assumption | apply Ve.var | apply Ve.cst | apply Ve.op | apply Ve.call | apply Ve.ifx | apply Ve.lcM) | (apply Vs.id; first | apply Vs.nil | apply Vs.brw | apply Vs.cons) | (apply Vc.id; first | apply Vc.nil) | (apply Vg.id; first | apply Vg.z | apply Vg.s) | (apply Vsh.id; first | apply Vsh.sh) | (apply VsA.id; first | apply VsA.ok) | (apply VsK.id; first | apply VsK.ok) | (apply VopK.id; first | apply VopK.ok) | (apply Va.id; first | apply Va.nil | apply Va.val) | (apply Vr.id; first | apply Vr.sh | apply Vr.own | assumption) | (apply Vop.id; first | assumption | apply Vop.isN | apply Vop.eqN | apply Vop.subI | (apply Vop.lst; rfl) | (apply Vop.tup; rfl) | apply Vop.isiEL | apply Vop.isiEV | apply Vop.attr0 | apply Vop.ix1T | apply Vop.addL | apply_assumption -exfalso -symm) | (apply VcK.id; first | apply VcK.ok) | (apply Vcl.id; first | apply Vcl.lend' | apply Vcl.val) | (apply Vas.id; first | apply Vas.nil | apply Vas.cons) | (apply VcT.id; first | (apply VcT.call; assumption) | (apply VcT.throw; assumption) | (apply VcT.call; apply_assumption -exfalso -symm) | (apply VcT.throw; apply_assumption -exfalso -symm)) | (apply VlT.id; first | (apply VlT.box; assumption)) | (apply Vwr.id; first | apply Vwr.z) | (apply Vp.id; first | apply Vp.z | apply Vp.s) | (apply Vnb.id; first | assumption | apply Vnb.sh | apply Vnb.n) | (apply VtK.id; first | apply VtK.ok) | (apply Vtr.id; first | apply Vtr.bl) | (apply VifK.id; first | apply VifK.t | apply VifK.f) | (apply Vsq.id; first | apply Vsq.tup) | (apply VlS.id; first | apply VlS.mk') | (apply VlE.id; first | apply VlE.t) | (apply Vhide.id; first | apply Vhide.nil | apply Vhide.cons) | (apply Vcm.id; first | apply Vcm.z | apply Vcm.s) | (apply Vcalm.id; first | assumption | apply Vcalm.n | apply Vcalm.s) | (apply Vn.id; first | apply Vn.z | apply Vn.s) | (apply Vun.id; first | apply Vun.nil | apply Vun.cons) | (apply Vd.id; first | apply Vd.z | apply Vd.s) | (apply Vpat.id; first | apply Vpat.v) | (apply Vpats.id; first | apply Vpats.nil | apply Vpats.cons) | (apply Vk.id; first | assumption | apply Vk.lst) | (apply W.id; first | apply W.asg | apply W.ret | apply W.ifs | apply W.asgP | apply W.nil | apply W.try2) | (apply WaK.id; first | apply WaK.sh | apply WaK.exc) | (apply WpK.id; first | apply WpK.ok) | (apply WrK.id; first | apply WrK.ok) | (apply WiK.id; first | apply WiK.ok) | (apply WB.id; first | apply WB.t | apply WB.f) | (apply Wq.id; first | apply Wq.qnx | apply Wq.qrt | apply Wq.qexc | apply Wq.t2hit1 | (apply Wq.t2hit2; rfl) | apply Wq.enx | (apply Wq.ret; rfl)) | (apply WyE.id; first | apply WyE.s) | (apply Ven.id; first | apply Ven.z | apply Ven.s | apply Ven.f | apply Ven.t) | exact lt_line (by omega) | exact le_line (by omega) | exact Nat.le_of_ble_eq_true rfl | omega | (apply okD.id; first | assumption | apply okD_nilL | apply okD_nilT | exact okD_str | exact okD_int | exact okD_bl | exact okD_non | apply okD_tupN | apply okD_lstN | apply okD_cN | apply okD_apL | apply okD_apT | apply okD_consL | apply okD_consT | apply okD_lstM | apply okD_tupM | apply okD_r | apply okD_sq) | rfl | assumption | (intro x hx) | (intro hx)))
theorem bl_ok (n : Nat) : Bl fns n 2 := .of (s := 1) (t := 0) rfl rfl rfl n
theorem ro_ok (n : Nat) : Ro fns n 5 := .of (cb := 4) (bl := 2) (t := 0) (z := .raise 0 [.var 1]) rfl rfl (bl_ok n) rfl
theorem nr_ok (n : Nat) : Nr fns n 5 := .of (cb := 4) (bl := 2) (t := 0) rfl rfl (bl_ok n)
theorem al_ok (n : Nat) : Al fns n 3 := .of (bl := 2) (z := .raise 3 []) rfl (bl_ok n)
theorem ul_ok (n : Nat) : Ul fns n 3 := .of (bl := 2) rfl (bl_ok n)
theorem ho_ok (n : Nat) : Ho fns n 6 := .of (t := 0) rfl rfl n
theorem lo_ok (n : Nat) : Lo fns n 18 := .of rfl n
def unl : T := .lst [.str [117, 110, 108, 105, 107, 101], .bl true]
theorem heard_n {n : Nat} {C D t : T} {a : Nm} (h : ThrowT (run fns n) 8 [C, D, t] 0 [.str a]) : CallT (run fns (n + 1)) 23 [.int 0, C, D, t] (.sh (.lst [.str a, .bl true])) := by
  refine .of (n := n) (d := f__law_heard) (ρ1 := [none, none, none, none]) rfl rfl rfl ?_
  have q : decide ((0 : Int) = 2) = false := rfl
  have q2 : decide ((0 : Int) = 0) = true := rfl
  apply run_o rfl
  trivial
theorem heard_u {n : Nat} {C D t : T} (h : ThrowT (run fns n) 8 [C, D, t] 3 []) : CallT (run fns (n + 1)) 23 [.int 0, C, D, t] (.sh unl) := by
  refine .of (n := n) (d := f__law_heard) (ρ1 := [none, none, none, none]) rfl rfl rfl ?_
  have q : decide ((0 : Int) = 2) = false := rfl
  have q2 : decide ((0 : Int) = 0) = true := rfl
  apply run_o rfl
  trivial
theorem heard_2 {n : Nat} {C D t : T} (h : ThrowT (run fns n) 10 [C, D] 3 []) : CallT (run fns (n + 1)) 23 [.int 2, C, D, t] (.sh unl) := by
  refine .of (n := n) (d := f__law_heard) (ρ1 := [none, none, none, none]) rfl rfl rfl ?_
  have q : decide ((2 : Int) = 2) = true := rfl
  apply run_o rfl
  trivial
theorem zz_out {c : List Rm} {m : Int} (h : Drawn c m) : [122, 122] ∉ namesOf c := fun q => absurd (h.sub _ q) (by decide)
theorem case_l {n k : Nat} {ts : List T} (hT : Tin (k + 100) ts) : ∃ us, LendT (run fns (n + 21)) 25 ts [] us (.sh (.bl true)) ∧ Tin k us := by
  obtain ⟨c, d, v, us, l1, hU, dc, dd, pc, pd, hv⟩ := two_l (fns := fns) (n := n + 17) (i := 19) (t := 12) (tg := 16) (sh := 17) (top := 12) (most := 6) (k := k) rfl rfl rfl rfl (by decide) (by decide) (by decide) (by decide) hT
  refine ⟨us, .of (n := n + 20) (d := f__law_case_right) (ρ1 := []) rfl rfl rfl ?_, hU⟩
  have hc := drawn_small dc
  have hd := drawn_small dd
  have nc := dc.ln
  have nd := dd.ln
  have cl := dc.lc
  have dl := dd.lc
  have hb : blk c = blk d := blk_perm pc pd
  have tl := taken (m := 1 + v) (by simp at hv; omega)
  have hv : 1 + v ≤ 12 := hv
  have mc : ∀ a ∈ tagsL.take (1 + v), a ∈ namesOf c := fun a ha => pc.mem_iff.mpr ha
  have md : ∀ a ∈ tagsL.take (1 + v), a ∈ namesOf d := fun a ha => pd.mem_iff.mpr ha
  have c8 : ∀ a ∈ tagsL.take (1 + v), CallT (run fns (n + 20)) 8 [cS false c, cS false d, .str a] (.sh (.int (strangeN c d a : Nat))) := fun a ha => outside_c (n := n + 12) (al := 3) (ro := 5) rfl (al_ok _) (ro_ok _) hc hd hb (mc a ha)
  have c9 : ∀ a ∈ tagsL.take (1 + v), CallT (run fns (n + 20)) 9 [cS false c, cS false d, .str a] (.sh (.int ((homeOf d a).2 - (homeOf c a).2))) := fun a ha => spare_c (n := n + 12) (al := 3) (ro := 5) rfl (al_ok _) (ro_ok _) hc hd hb (mc a ha)
  have c10 : ∀ b, CallT (run fns (n + 20)) 10 [cS b c, cS b d] (.sh (.tup (nsT ((blk d).filter (agB c d))))) := fun b => against_c (n := n + 12) (al := 3) (ho := 6) (st := 7) rfl (al_ok _) (ho_ok _) rfl hc hd (by omega) hb
  have c10f := c10 false
  have c10t := c10 true
  obtain ⟨r1, li1, v1⟩ := lists_l (n := n + 16) (li := 14) (b := false) (fns := fns) rfl hc.toFits
  obtain ⟨r2, li2, v2⟩ := lists_l (n := n + 16) (li := 14) (b := false) (fns := fns) rfl hd.toFits
  have c20 : ∀ a ∈ tagsL.take (1 + v), CallT (run fns (n + 20)) 20 [cS false c, cS false d, .str a] (.sh (.int (strangeN c d a : Nat))) := fun a ha => lawstrange_c (n := n + 18) (lo := 18) rfl (lo_ok _) hc hd (mc a ha) (md a ha)
  have c18 : ∀ a ∈ tagsL.take (1 + v), CallT (run fns (n + 20)) 18 [cS false c, .str a] (.sh (rS false (homeOf c a))) := fun a ha => (lo_ok (n + 19)).h false c a (by omega) (mc a ha)
  have d18 : ∀ a ∈ tagsL.take (1 + v), CallT (run fns (n + 20)) 18 [cS false d, .str a] (.sh (rS false (homeOf d a))) := fun a ha => (lo_ok (n + 19)).h false d a (by omega) (md a ha)
  have c21 : CallT (run fns (n + 20)) 21 [cS false c, cS false d] (.sh (.tup (nsT ((blk d).filter (agB c d))))) := lawbad_c (n := n + 17) (lo := 18) (st := 20) rfl (lo_ok _) (lo_ok _) rfl hc hd (fun q => dc.n0 (by rw [q]; rfl)) hb
  have zc := zz_out dc
  have zd := zz_out dd
  have hcz := small_more (w := 1) hc zc (by decide) (by omega) (by omega)
  have hdz := small_more (w := 1) hd zd (by decide) (by omega) (by omega)
  have h1 : CallT (run fns (n + 20)) 23 [.int 0, cS false c, cS false d, .str [122, 122]] (.sh (.lst [.str [122, 122], .bl true])) := heard_n (n := n + 19) (outside_n (n := n + 11) (al := 3) (ro := 5) rfl (al_ok _) (nr_ok _) hc hd hb zc)
  have h2 : CallT (run fns (n + 20)) 23 [.int 0, cS false c, cS false (d ++ [([[122, 122]], 1)]), .str [122, 121]] (.sh unl) := heard_u (n := n + 19) (outside_u (n := n + 11) (al := 3) (ro := 5) rfl (ul_ok _) hc hdz (blk_more zc))
  have h3 : CallT (run fns (n + 20)) 23 [.int 2, cS false (c ++ [([[122, 122]], 1)]), cS false d, .str [122, 121]] (.sh unl) := heard_2 (n := n + 19) (against_u (n := n + 11) (al := 3) (ho := 6) (st := 7) rfl (ul_ok _) hcz hd (Ne.symm (blk_more zd)))
  have a1 := Vop.addRoom (d := d) (x := [122, 122]) (w := 1) (by omega)
  have a2 := Vop.addRoom (d := c) (x := [122, 122]) (w := 1) (by omega)
  have fl : ((blk d).filter (agB c d)).length ≤ 24 := by
    have h1 := List.length_filter_le (agB c d) (blk d)
    have h2 : (blk d).length = _ := srt_len (namesOf d)
    omega
  apply run_o rfl
  trivial
  · apply VcT.call
    refine same_l (n := n + 9) (d := 10) rfl rfl (by decide) ?_
    trivial
  trivial
end Ev.K64
end
section
set_option linter.all false
set_option maxRecDepth 100000
set_option maxHeartbeats 1000000
namespace Ev
def nbeq : Nm → Nm → Bool
  | [], [] => true
  | a :: x, b :: y => Nat.beq a b && nbeq x y
  | _, _ => false
def nmem (x : Nm) : List Nm → Bool
  | [] => false
  | y :: l => nbeq y x || nmem x l
end Ev
end
section
set_option linter.all false
set_option maxRecDepth 100000
set_option maxHeartbeats 2000000
namespace Ev.K64
open Ev
theorem hand : yes (run fns 39 24 []) = true := by decide +kernel
def levels : Nat := 40
theorem law_ok (ns : List Int) (hl : ns.length ≤ 63) : ∃ ρ, run fns levels 27 [.sh (.fz ns)] = .ok (.sh (.bl true)) ρ :=
  law_frame (n := 38) (i := 27) (hand := 24) (cells := 13) (right := 26) (box := 11) (A := 39373) (B := 2303) rfl rfl (by decide) rfl hand (fun ts hT => all_l (n := 38) (f := 25) (m := 10) (B := 100) rfl (by decide) (by decide) (fun k us h => case_l (n := 17) h) hT) ns hl
end Ev.K64
end
set_option Elab.async false
set_option linter.all false
set_option maxRecDepth 100000
set_option maxHeartbeats 0
namespace Ev.K64
open PySem PySem.Spec PyProof.Rows Ev
def topS (i : Nat) : Stmt := PySem.Challenge.pw_roomswithin_k64_blocks_that_are_against.main.body.getD i (.Pass ⟨0, 0, 0, 0⟩)
def ds0 : List DefD := [⟨"tupled", "tupled", topS 4, ["thing", "part"], ["thing"], f_tupled⟩, ⟨"set_of", "set_of", topS 5, ["things"], ["things"], f_set_of⟩, ⟨"blocks", "blocks", topS 7, ["cache", "name", "names", "ways"], ["cache"], f_blocks⟩, ⟨"check_alike", "check_alike", topS 8, ["one", "other"], ["one", "other"], f_check_alike⟩, ⟨"check_block", "check_block", topS 9, ["cache", "block"], ["cache", "block"], f_check_block⟩, ⟨"room_of", "room_of", topS 10, ["cache", "block", "room"], ["cache", "block"], f_room_of⟩, ⟨"homes_of", "homes_of", topS 12, ["cache", "room", "name"], ["cache"], f_homes_of⟩, ⟨"strange_to", "strange_to", topS 13, ["near", "far", "block", "name"], ["near", "far", "block"], f_strange_to⟩, ⟨"outside", "outside", topS 14, ["one", "other", "block", "near", "name"], ["one", "other", "block"], f_outside⟩, ⟨"spare", "spare", topS 15, ["one", "other", "block"], ["one", "other", "block"], f_spare⟩, ⟨"against", "against", topS 16, ["one", "other", "block", "near", "far", "found", "names", "ways"], ["one", "other"], f_against⟩, ⟨"_law_box", "_law_box", topS 18, ["_law_script", "_law_k", "_law_great_so"], ["_law_script", "_law_k"], f__law_box⟩, ⟨"_law_take", "_law_take", topS 19, ["_law_tin", "_law_top_so", "_law_once", "_law_far", "_law_twice", "_law_digit_so"], ["_law_tin", "_law_top_so"], f__law_take⟩, ⟨"_law_cells", "_law_cells", topS 20, ["_law_script", "_law_most", "_law_cells_here", "_law_k", "_law_great_so", "_law_at_so"], ["_law_script", "_law_most"], f__law_cells⟩, ⟨"_law_lists", "_law_lists", topS 21, ["_law_matter", "_law_bit"], ["_law_matter"], f__law_lists⟩, ⟨"_law_same", "_law_same", topS 22, ["_law_got", "_law_due", "_law_lot_so", "_law_mine", "_law_its"], ["_law_got", "_law_due"], f__law_same⟩, ⟨"_law_tags", "_law_tags", topS 23, ["_law_many", "_law_letter"], ["_law_many"], f__law_tags⟩, ⟨"_law_shelf", "_law_shelf", topS 24, ["_law_tin", "_law_tags_here", "_law_most", "_law_lots", "_law_tag", "_law_k", "_law_lot_here"], ["_law_tin", "_law_tags_here", "_law_most"], f__law_shelf⟩, ⟨"_law_lot", "_law_lot", topS 25, ["_law_shelf_here", "_law_tag", "_law_lot_here"], ["_law_shelf_here", "_law_tag"], f__law_lot⟩, ⟨"_law_two", "_law_two", topS 26, ["_law_tin", "_law_many", "_law_most", "_law_tags_here"], ["_law_tin", "_law_many", "_law_most"], f__law_two⟩, ⟨"_law_strange", "_law_strange", topS 27, ["_law_shelf_here", "_law_mate", "_law_tag", "_law_mine", "_law_far"], ["_law_shelf_here", "_law_mate", "_law_tag"], f__law_strange⟩, ⟨"_law_bad", "_law_bad", topS 28, ["_law_shelf_here", "_law_mate", "_law_found", "_law_tag", "_law_mine", "_law_lot_here", "_law_holds"], ["_law_shelf_here", "_law_mate"], f__law_bad⟩, ⟨"_law_hand", "_law_hand", topS 29, ["_law_tags_here", "_law_pair"], [], f__law_hand⟩, ⟨"_law_heard", "_law_heard", topS 30, ["_law_door", "_law_shelf_here", "_law_mate", "_law_tag", "error", "_law_caught", "_law_found"], ["_law_door", "_law_shelf_here", "_law_mate", "_law_tag"], f__law_heard⟩, ⟨"_law_by_hand_right", "_law_by_hand_right", topS 31, ["_law_got", "_law_due", "_law_calm", "_law_part", "_law_wide", "_law_pair", "_law_four", "_law_five", "_law_cross_so", "_law_tags_here", "_law_far", "_law_tag", "_law_door"], [], f__law_by_hand_right⟩, ⟨"_law_case_right", "_law_case_right", topS 32, ["_law_tin", "_law_got", "_law_due", "_law_shelf_here", "_law_mate", "_law_tags_here", "_law_tag"], ["_law_tin"], f__law_case_right⟩, ⟨"_law_right", "_law_right", topS 33, ["_law_tin", "_law_turn"], ["_law_tin"], f__law_right⟩, ⟨"law", "law", topS 34, ["_law_script", "_law_lots_so", "_law_k"], ["_law_script"], f_law⟩]
def ds : List DefD := ds0
def bi : List Str := ["isinstance", "list", "tuple", "dict", "bool", "str", "int", "len", "abs", "sum", "all", "range", "enumerate", "zip", "sorted", "set", "LookupError", "ValueError"]
def gs : List (Str × List Nat) := []
def xs : List Nat := [3, 0]
def is : List IniD := [⟨0, "NoName.__init__", (clsBody (topS 1)).headD (.Pass ⟨0, 0, 0, 0⟩)⟩]
def file : Str := (PySem.W.OpenLaw.row PySem.Challenge.rw_roomswithin_k64_blocks_that_are_against).prog.main.file
def loose0 : List Str := ["NoName", "Unlike", "tupled", "set_of", "blocks", "check_alike", "check_block", "room_of", "homes_of", "strange_to", "outside", "spare", "against", "_law_box", "_law_take", "_law_cells", "_law_lists", "_law_same", "_law_tags", "_law_shelf", "_law_lot", "_law_two", "_law_strange", "_law_bad", "_law_hand", "_law_heard", "_law_by_hand_right", "_law_case_right", "_law_right"]
def loose : List Str := loose0
theorem ds_fn : ds.map (·.fn) = fns := rfl
theorem ds_ok : ds.all (defC ds bi gs xs) = true := by decide +kernel
abbrev Rw : PySem.W.OpenRow := PySem.W.OpenLaw.row PySem.Challenge.rw_roomswithin_k64_blocks_that_are_against
abbrev fac : Facts := facOf ds bi gs file xs is
abbrev hk : PySem.W.Hook := hookX 5 fac
def ob (s : PySem.W.SharedT) : AlX := obsX 5 fac (HandSHeadRun.getT s)
theorem ob_eq (s : PySem.W.SharedT) : ob s = hk.obs s.abs := obsX_eq (HandSHeadRun.getT_eq s)
theorem xs_ok : xsC xs is = true := by decide +kernel
theorem top_ok : ((PySem.W.OpenLaw.row PySem.Challenge.rw_roomswithin_k64_blocks_that_are_against).prog.main.scope.names.lookup ("super" : PySem.Str)).isSome = false := by decide +kernel
theorem runs (w : World) : HandSHeadRun.RunEq Rw (PySem.W.view Rw.prog [34]) hk ob 4000 loose w := by
  intro os
  kernel_rfl
end Ev.K64
open PySem PySem.W PySem.Calls PyProof.Rows
theorem PySem.Challenge.cw_roomswithin_k64_blocks_that_are_against_holds : PySem.Challenge.rw_roomswithin_k64_blocks_that_are_against.Holds := by
  w_on; o_law
  refine HandSHeadRun.head_any (r := OpenLaw.row PySem.Challenge.rw_roomswithin_k64_blocks_that_are_against) (q := view (OpenLaw.row PySem.Challenge.rw_roomswithin_k64_blocks_that_are_against).prog [34]) (H := Ev.K64.hk) (ob := Ev.K64.ob) (M := 4000) (loose := Ev.K64.loose) (d := HandSHeadRun.topDef (OpenLaw.row PySem.Challenge.rw_roomswithin_k64_blocks_that_are_against).prog 34) (kwd := []) Ev.K64.ob_eq
    (by kernel_rfl) (fun s => by kernel_rfl) Ev.K64.runs (by kernel_rfl) (by kernel_rfl) (by kernel_rfl) (by rfl) (by first | assumption | decide +kernel) (by decide +kernel) ⟨rfl, rfl, rfl, rfl, rfl, by decide +kernel⟩ ?hw ?hc
  case hw => w_witness2
  case hc =>
    refine Ev.walk_ev (l := PySem.Challenge.rw_roomswithin_k64_blocks_that_are_against) (N := Ev.K64.levels) (f := 27) (x := "_law_script") (dl := ⟨"law", "law", Ev.K64.topS 34, ["_law_script", "_law_lots_so", "_law_k"], ["_law_script"], Ev.K64.f_law⟩) rfl (by kernel_rfl) ⟨rfl, by decide, by decide⟩ Ev.K64.ds_ok rfl Ev.K64.xs_ok Ev.K64.top_ok (by rfl) rfl (by kernel_rfl) (fun ns hl => ?_)
    rw [Ev.K64.ds_fn]
    exact Ev.K64.law_ok ns hl
