import PyProof.Rows.All
import Wide.All
import OpenK.AllK
import Wide.FinOn
import HandS.ForMost
import PyProof.Rows.StrMul
import HandS.TupAny
import HandS.TupMul
import HandS.IsInst
import HandS.Deep
import HandS.Walk
import HandS.Zip
import KE.GoesMore
import HandS.SetTxt0
import HandS.SetFor
import PyProof.EnumMake
import PyProof.Rows.SortStr
import HandS.SortInts
import HandS.Conv
import HandS.ExcValue
import HandS.Sort
import HandS.Style
import HandS.More
import KE.DataMinMax
import ObjForm.LawKit
import PyProof.Rows.SortShellAny
import PyProof.CollectStr
import HandS.Set
import HandS.SortKw
import PyProof.ListStr
import HandS.Words
import HandS.Defaults
import HandS.Head0
import HandS.Head1
import HandS.Head2
import HandS.HeadEnd
import HandS.HeadHook1
import HandS.HeadHook2
import HandS.HeadHook4
import PySem.Challenge.RW_tastegrove_k07_whole_patterns_put_togeth
set_option Elab.async false
set_option linter.all false
set_option maxRecDepth 100000
/-! EvA: data, the small language, its evaluator -/
namespace Ev
open PySem L2

inductive D where
  | non | bl (b : Bool) | int (i : Int) | str (x : Str) | tup (xs : List D) | lst (xs : List D) | dct (ks : List Key) (vs : List D)

inductive Res (α : Type) where
  | ok (a : α) | exc (k : Nat) | stuck

def Res.bind {α β : Type} (x : Res α) (f : α → Res β) : Res β := match x with
  | .ok a => f a | .exc k => .exc k | .stuck => .stuck

@[simp] theorem bind_ok {α β : Type} (a : α) (f : α → Res β) : (Res.ok a).bind f = f a := rfl
@[simp] theorem bind_stuck {α β : Type} (f : α → Res β) : (Res.stuck : Res α).bind f = .stuck := rfl
@[simp] theorem bind_exc {α β : Type} (k : Nat) (f : α → Res β) : (Res.exc k : Res α).bind f = .exc k := rfl

/-- a slot: frozen data; an object of our own (l: a loop walks it); the caller's object, lent -/
inductive S where
  | p (d : D) | m (l : Bool) (d : D) | io (l : Bool) (d : D)
abbrev DEnv := List (Option S)
def S.val : S → D
  | .p d => d | .m _ d => d | .io _ d => d
def S.lock : S → S
  | .p d => .p d | .m _ d => .m true d | .io _ d => .io true d

def S.lk : S → Bool
  | .m true _ => true | .io true _ => true | _ => false

/-- what an expression gives: data, a slot's own object, a new object -/
inductive R where
  | d (x : D) | h (i : Nat) | o (x : D)

def resR (δ : DEnv) : R → Option D
  | .d x => some x
  | .o x => some x
  | .h i => match δ[i]? with
    | some (some s) => some s.val
    | _ => none
def resL (δ : DEnv) : List R → Option (List D)
  | [] => some []
  | r :: rs => match resR δ r with
    | some d => match resL δ rs with
      | some ds => some (d :: ds)
      | none => none
    | none => none
/-- it goes into something: a slot's own object is frozen -/
def escR (δ : DEnv) : R → Option (D × DEnv)
  | .d x => some (x, δ)
  | .o x => some (x, δ)
  | .h i => match δ[i]? with
    | some (some (.p d)) => some (d, δ)
    | some (some (.m false d)) => some (d, δ.set i (some (.p d)))
    | _ => none
def escL (δ : DEnv) : List R → Option (List D × DEnv)
  | [] => some ([], δ)
  | r :: rs => match escR δ r with
    | some (d, δ1) => match escL δ1 rs with
      | some (ds, δ2) => some (d :: ds, δ2)
      | none => none
    | none => none
def lockR (δ : DEnv) : R → DEnv
  | .h i => match δ[i]? with
    | some (some s) => δ.set i (some s.lock)
    | _ => δ
  | _ => δ
def lockL (δ : DEnv) : List R → DEnv
  | [] => δ
  | r :: rs => lockL (lockR δ r) rs
/-- the slots of rs as they stood in δ0 -/
def backR (δ0 δ : DEnv) : R → DEnv
  | .h i => match δ0[i]?, δ[i]? with
    | some (some (.m l _)), some (some (.m _ d)) => δ.set i (some (.m l d))
    | some (some (.io l _)), some (some (.io _ d)) => δ.set i (some (.io l d))
    | _, _ => δ
  | _ => δ
def backL (δ0 δ : DEnv) : List R → DEnv
  | [] => δ
  | r :: rs => backL δ0 (backR δ0 δ r) rs

/-! built-in operations -/
inductive Pr where
  | add | iadd | sub | mul | mod | fdiv | pow | neg
  | eq | ne | lt | le | gt | ge | isN | notN | inn | notin
  | idx | sl (lo hi : Bool) | rev
  | len | tuple | list | sum | all | any | int | bool | str | join | sorted | set | max | min | maxd | mind | abs
  | isinst (t : List String) | rlist | rlist2 | inrg (neg : Bool) | sset | dict0 | dlit (ks : List Str) (vs : List Key) | didx | isB | notB
  deriving DecidableEq
/-- a result: frozen data, or a new object -/
inductive PR where
  | sc (d : D) | new (d : D)
def PR.r : PR → R
  | .sc d => .d d | .new d => .o d

/-- what a loop walks -/
inductive IK where
  | vals | range | enum | zip | rev | revrange
  deriving DecidableEq

inductive Tg where
  | nm (i : Nat) | tup (is : List Nat)

inductive E where
  | con (d : D)
  | var (i : Nat)
  | tup (es : List E) | lst (es : List E)
  | pr (p : Pr) (es : List E)
  | and (es : List E) | or (es : List E) | not (a : E)
  | ite (c a b : E)
  | chain (p q : Pr) (a b c : E)
  | sl2 (a b c : E)
  | sm (p : Pr) (a b : E)
  | call (f : Nat) (es : List E)
  | comp (own : List Nat) (tg : Tg) (ik : IK) (it : List E) (ifs : List E) (elt : E)

inductive MK where
  | append | extend | reverse | clear
  deriving DecidableEq
inductive T where
  | ex (e : E)
  | asg (t : Tg) (e : E)
  | aug (i : Nat) (p : Pr) (e : E)
  | set (i : Nat) (ix e : E)
  | meth (k : MK) (i : Nat) (es : List E)
  | ite (c : E) (a b : List T)
  | wh (c : E) (b : List T)
  | fr (t : Tg) (ik : IK) (it : List E) (b : List T)
  | ret (e : E) | retN | pass | brk | cnt | raise (k : Nat)
inductive Fl where
  | nx | rt (r : R) | bk | ct

/-- a def: its slots' number, its parameters (true: lent), its body -/
structure Fn where
  n : Nat
  ps : List Bool
  body : List T
end Ev
/-! EvB: the evaluator -/
namespace Ev
open PySem L2

mutual
def toPy : D → Option PyData
  | .non => some .none
  | .bl b => some (.bool b)
  | .int i => some (.int i)
  | .str x => some (.str x)
  | .tup xs => match toPyL xs with | some ys => some (.tuple ys) | none => none
  | .lst xs => match toPyL xs with | some ys => some (.list ys) | none => none
  | .dct _ _ => none
def toPyL : List D → Option (List PyData)
  | [] => some []
  | x :: xs => match toPy x with
    | some y => match toPyL xs with | some ys => some (y :: ys) | none => none
    | none => none
end
/-- no object is in it -/
def D.scal : D → Bool
  | .non | .bl _ | .int _ | .str _ => true
  | _ => false
def D.isNon : D → Bool
  | .non => true
  | _ => false
def D.flat : D → Bool
  | .lst xs => xs.all D.scal
  | .dct _ vs => vs.all D.scal
  | d => d.scal
def toV : D → V
  | .non => .non | .bl b => .bl b | .int i => .int i | .str x => .str x | _ => .non
abbrev cap : Nat := 1000000
def insI (x : Int) : List Int → List Int
  | [] => [x]
  | y :: ys => if x ≤ y then x :: y :: ys else y :: insI x ys
def sortI : List Int → List Int
  | [] => []
  | x :: xs => insI x (sortI xs)
def bestI (f : Int → Int → Int) (d : Int) : List Int → Int
  | [] => d
  | n :: ns => ns.foldl f n
def insS (x : Str) : List Str → List Str
  | [] => [x]
  | y :: ys => if y.cps.toList < x.cps.toList then y :: insS x ys else x :: y :: ys
def sortS : List Str → List Str
  | [] => []
  | x :: xs => insS x (sortS xs)
/-- each text once -/
def dedS : List Str → List Str
  | [] => []
  | x :: xs => if x ∈ xs then dedS xs else x :: dedS xs
def keyD : D → Option Key
  | .int i => some (.inl i)
  | .str x => some (.inr x)
  | _ => none
def kD : Key → D
  | .inl i => .int i
  | .inr x => .str x
def lookK : List Key → List D → Key → Option D
  | k :: ks, v :: vs, j => if k = j then some v else lookK ks vs j
  | _, _, _ => none
def strsK : List Key → Option (List Str)
  | [] => some []
  | .inr x :: ks => match strsK ks with | some r => some (x :: r) | none => none
  | .inl _ :: _ => none
def hasK (ks : List Key) (k : Key) : Bool := ks.any fun j => decide (j = k)
def putKs (ks : List Key) (k : Key) : List Key := if hasK ks k then ks else ks ++ [k]
def putVs (ks : List Key) (vs : List D) (k : Key) (v : D) : List D := if hasK ks k then List.zipWith (fun j d => if j = k then v else d) ks vs else vs ++ [v]
def setK (d ix x : D) : Option D := match d, keyD ix with
  | .dct ks vs, some k => if ks.length < 1000000 then some (.dct (putKs ks k) (putVs ks vs k x)) else none
  | _, _ => none
def rangeD (lo : Int) (n : Nat) : List D := (List.range n).map fun k => .int (lo + (k : Nat))
def intsD : List D → Option (List Int)
  | [] => some []
  | .int i :: xs => match intsD xs with | some r => some (i :: r) | none => none
  | _ :: _ => none
def strsD : List D → Option (List Str)
  | [] => some []
  | .str i :: xs => match strsD xs with | some r => some (i :: r) | none => none
  | _ :: _ => none
def boolsD : List D → Option (List Bool)
  | [] => some []
  | .bl i :: xs => match boolsD xs with | some r => some (i :: r) | none => none
  | _ :: _ => none
def seqOf : D → Option (List D)
  | .tup xs => some xs | .lst xs => some xs | _ => none
def chr (c : Nat) : D := .str ⟨#[c]⟩
def chrS (x : Str) : List Str := x.cps.toList.map fun c => ⟨#[c]⟩
def dLt (f : Int → Int → Bool) (g : List Nat → List Nat → Bool) : List D → Option PR
  | [.int i, .int j] => some (.sc (.bl (f i j)))
  | [.str x, .str y] => some (.sc (.bl (g x.cps.toList y.cps.toList)))
  | _ => none
def cutD (xs : List D) (lo hi : Option Int) : List D := (xs.drop (HT.sIx xs.length 0 lo)).take (HT.sIx xs.length xs.length hi - HT.sIx xs.length 0 lo)
def pEq (neg : Bool) (d e : D) : Option PR :=
  match toPy d, toPy e with
  | some x, some y => if SeqAt.shaped x && SeqAt.shaped y then some (.sc (.bl (if neg then !x.eqv y else x.eqv y))) else none
  | _, _ => none
def pIn (neg : Bool) : D → D → Option PR
  | .str x, .str y => if x.length = 1 then some (.sc (.bl (if neg then !decide (x.cps.getD 0 0 ∈ y.cps.toList) else decide (x.cps.getD 0 0 ∈ y.cps.toList)))) else none
  | x, y => match seqOf y with
    | some ys => if x.scal && ys.all D.scal then some (.sc (.bl (if neg then !inV (toV x) (ys.map toV) else inV (toV x) (ys.map toV)))) else match toPy x, toPyL ys with
      | some d, some ds => if SeqAt.shaped d && SeqAt.shaped (.list ds) then some (.sc (.bl (if neg then !(ds.any fun z => z.eqv d) else ds.any fun z => z.eqv d))) else none
      | _, _ => none
    | none => none
def isTy (d : D) : String → Option Bool
  | "int" => some (match d with | .int _ => true | .bl _ => true | _ => false)
  | "bool" => some (match d with | .bl _ => true | _ => false)
  | "str" => some (match d with | .str _ => true | _ => false)
  | "tuple" => some (match d with | .tup _ => true | _ => false)
  | "list" => some (match d with | .lst _ => true | _ => false)
  | "dict" => some (match d with | .dct _ _ => true | _ => false)
  | _ => none
def pSl (d : D) (lo hi : Option Int) : Option PR := match d with
  | .str x => if x.length ≤ cap then some (.sc (.str (cutS x lo hi))) else none
  | .lst xs => some (.new (.lst (cutD xs lo hi)))
  | .tup xs => some (.sc (.tup (cutD xs lo hi)))
  | _ => none
def pow2 : Int := 18446744073709551616
def pev : Pr → List D → Option PR
  | .add, [.int i, .int j] => some (.sc (.int (i + j)))
  | .add, [.str x, .str y] => if x.length + y.length ≤ cap then some (.sc (.str (x ++ y))) else none
  | .add, [.lst x, .lst y] => if x.length + y.length ≤ cap then some (.new (.lst (x ++ y))) else none
  | .add, [.tup x, .tup y] => if x.length + y.length ≤ cap then some (.sc (.tup (x ++ y))) else none
  | .iadd, [.int i, .int j] => some (.sc (.int (i + j)))
  | .iadd, [.str x, .str y] => if x.length + y.length ≤ cap then some (.sc (.str (x ++ y))) else none
  | .sub, [.int i, .int j] => some (.sc (.int (i - j)))
  | .mul, [.int i, .int j] => if (-pow2 < i ∧ i < pow2) ∨ (-pow2 < j ∧ j < pow2) then some (.sc (.int (i * j))) else none
  | .mul, [.lst x, .int k] => if 0 ≤ k ∧ x.length * k.toNat ≤ cap ∧ k ≤ cap then some (.new (.lst (List.replicate k.toNat x).flatten)) else none
  | .mul, [.tup x, .int k] => if k = 1 then some (.sc (.tup x)) else if 2 ≤ k ∧ k ≤ 1000 ∧ x.length ≤ 1000 ∧ x ≠ [] then some (.sc (.tup (List.replicate k.toNat x).flatten)) else none
  | .mul, [.str x, .int k] => if 0 ≤ k ∧ k ≤ 1000 ∧ x.length ≤ 1000 then some (.sc (.str (Txt.mul x k))) else none
  | .mod, [.int i, .int j] => if 0 < j then some (.sc (.int (i % j))) else none
  | .fdiv, [.int i, .int j] => if 0 < j ∧ j < 1073741824 then some (.sc (.int (i / j))) else none
  | .pow, [.int i, .int j] => if 0 ≤ j ∧ j ≤ 1000 ∧ i.natAbs < 2 ^ 64 then some (.sc (.int (i ^ j.toNat))) else none
  | .neg, [.int i] => some (.sc (.int (-i)))
  | .eq, [d, e] => pEq false d e
  | .ne, [d, e] => pEq true d e
  | .lt, ds => dLt (fun i j => decide (i < j)) (fun x y => decide (x < y)) ds
  | .le, ds => dLt (fun i j => decide (i ≤ j)) (fun x y => decide (x ≤ y)) ds
  | .gt, ds => dLt (fun i j => decide (j < i)) (fun x y => decide (y < x)) ds
  | .ge, ds => dLt (fun i j => decide (j ≤ i)) (fun x y => decide (y ≤ x)) ds
  | .isN, [d] => some (.sc (.bl d.isNon))
  | .notN, [d] => some (.sc (.bl (!d.isNon)))
  | .inn, [d, e] => pIn false d e
  | .notin, [d, e] => pIn true d e
  | .idx, [.str x, .int i] => match atI x.cps.toList i with
    | some c => if x.length ≤ cap then some (.sc (chr c)) else none
    | none => none
  | .idx, [d, .int i] => match seqOf d with
    | some xs => match atI xs i with | some x => some (.sc x) | none => none
    | none => none
  | .len, [.str x] => if x.length ≤ cap then some (.sc (.int x.length)) else none
  | .len, [d] => match seqOf d with
    | some xs => some (.sc (.int xs.length))
    | none => none
  | .tuple, [d] => match seqOf d with
    | some xs => some (.sc (.tup xs))
    | none => none
  | .list, [.str x] => if x.length ≤ cap then some (.new (.lst ((chrS x).map .str))) else none
  | .list, [d] => match seqOf d with
    | some xs => some (.new (.lst xs))
    | none => none
  | .sum, [.lst xs] => match intsD xs with
    | some ns => some (.sc (.int ns.sum))
    | none => none
  | .all, [.lst xs] => match boolsD xs with
    | some bs => some (.sc (.bl (bs.all id)))
    | none => none
  | .any, [.lst xs] => match boolsD xs with
    | some bs => some (.sc (.bl (bs.any id)))
    | none => none
  | .int, [.int i] => some (.sc (.int i))
  | .int, [.bl b] => some (.sc (.int (if b then 1 else 0)))
  | .str, [.int i] => if i.natAbs.log2 < 1920 then some (.sc (.str (toString i))) else none
  | .join, [.str s, d] => match seqOf d with
    | some xs => match strsD xs with
      | some ys => if (ys.map (·.length)).sum + ys.length * s.length ≤ cap then some (.sc (.str (Txt.join s ys))) else none
      | none => none
    | none => none
  | .max, [.lst xs] => match intsD xs with
    | some (n :: ns) => some (.sc (.int (ns.foldl max n)))
    | _ => none
  | .max, [.int i, .int j] => some (.sc (.int (if j > i then j else i)))
  | .min, [.int i, .int j] => some (.sc (.int (if j < i then j else i)))
  | .abs, [.int i] => some (.sc (.int (if i < 0 then -i else i)))
  | .sl false false, [d] => pSl d none none
  | .sl true false, [d, .int i] => pSl d (some i) none
  | .sl false true, [d, .int j] => pSl d none (some j)
  | .sorted, [.lst xs] => match intsD xs with
    | some ns => some (.new (.lst ((sortI ns).map .int)))
    | none => match strsD xs with
      | some ss => if ss.length ≤ cap then some (.new (.lst ((sortS ss).map .str))) else none
      | none => none
  | .sorted, [.str x] => if x.length ≤ cap then some (.new (.lst ((sortS (chrS x)).map .str))) else none
  | .sorted, [.dct ks _] => match strsK ks with
    | some ss => if ss.length < 64 then some (.new (.lst ((sortS ss).map .str))) else none
    | none => none
  | .sset, [.lst xs] => match strsD xs with
    | some ss => if ss.length < 4000 then some (.new (.lst ((sortS (dedS ss)).map .str))) else none
    | none => none
  | .sset, [.str x] => if x.length < 4000 then some (.new (.lst ((sortS (dedS (chrS x))).map .str))) else none
  | .maxd, [.lst xs, .int d] => match intsD xs with
    | some ns => some (.sc (.int (bestI max d ns)))
    | none => none
  | .mind, [.lst xs, .int d] => match intsD xs with
    | some ns => some (.sc (.int (bestI min d ns)))
    | none => none
  | .dict0, [] => some (.new (.dct [] []))
  | .dlit ks vs, [] => some (.new (.dct (ks.map .inr) (vs.map kD)))
  | .didx, [.dct ks vs, d] => match keyD d with
    | some k => match lookK ks vs k with
      | some v => if v.scal then some (.sc v) else none
      | none => none
    | none => none
  | .isB, [.bl a, .bl b] => some (.sc (.bl (decide (a = b))))
  | .notB, [.bl a, .bl b] => some (.sc (.bl (!decide (a = b))))
  | .rlist, [.int n] => if -4000000000000000000 ≤ n ∧ n ≤ 16777216 then some (.new (.lst (rangeD 0 n.toNat))) else none
  | .rlist2, [.int a, .int b] => if -4000000000000000000 ≤ a ∧ a ≤ 4000000000000000000 ∧ -4000000000000000000 ≤ b ∧ b ≤ 4000000000000000000 ∧ b - a ≤ 16777216 then some (.new (.lst (rangeD a (b - a).toNat))) else none
  | .inrg neg, [.int x, .int a, .int b] => some (.sc (.bl (if neg then !decide (a ≤ x ∧ x < b) else decide (a ≤ x ∧ x < b))))
  | .rev, [.lst xs] => some (.new (.lst xs.reverse))
  | .isinst ts, [d] => match ts.mapM (isTy d) with
    | some bs => some (.sc (.bl (bs.any id)))
    | none => none
  | _, _ => none

def enumD : Nat → List D → List D
  | _, [] => []
  | k, x :: xs => .tup [.int k, x] :: enumD (k + 1) xs
def zipD : List D → List D → List D
  | x :: xs, y :: ys => .tup [x, y] :: zipD xs ys
  | _, _ => []
def rcap : Int := 4611686018427387904
def evI : IK → List D → Option (List D)
  | .vals, [.str x] => some (x.cps.toList.map chr)
  | .vals, [d] => seqOf d
  | .range, [.int j] => if j < rcap ∧ -rcap ≤ j then some (rangeD 0 j.toNat) else none
  | .range, [.int i, .int j] => if i < rcap ∧ -rcap ≤ i ∧ j < rcap ∧ -rcap ≤ j then some (rangeD i (j - i).toNat) else none
  | .enum, [.lst xs] => some (enumD 0 xs)
  | .zip, [.lst xs, .lst ys] => some (zipD xs ys)
  | .zip, [.tup xs, .tup ys] => some (zipD xs ys)
  | .zip, [.str x, .str y] => some (zipD (x.cps.toList.map chr) (y.cps.toList.map chr))
  | .rev, [.lst xs] => some xs.reverse
  | _, _ => none

def put (δ : DEnv) (i : Nat) (s : S) : Option DEnv := match δ[i]? with
  | some none => some (δ.set i (some s))
  | some (some (.p _)) => some (δ.set i (some s))
  | some (some (.m false _)) => some (δ.set i (some s))
  | _ => none
def putL (δ : DEnv) : List Nat → List D → Option DEnv
  | [], [] => some δ
  | i :: is, d :: ds => match put δ i (.p d) with
    | some δ1 => putL δ1 is ds
    | none => none
  | _, _ => none
def bindTg (δ : DEnv) : Tg → D → Option DEnv
  | .nm i, d => put δ i (.p d)
  | .tup is, .tup ds => putL δ is ds
  | _, _ => none
def asgR (δ : DEnv) (i : Nat) : R → Option DEnv
  | .d x => put δ i (.p x)
  | .o x => put δ i (.m false x)
  | .h j => match escR δ (.h j) with
    | some (d, δ1) => put δ1 i (.p d)
    | none => none
def wipeD (δ : DEnv) : List Nat → DEnv
  | [] => δ
  | v :: vs => (wipeD δ vs).set v none
def canWipe (δ : DEnv) : List Nat → Bool
  | [] => true
  | v :: vs => (match δ[v]? with | some none => true | some (some (.p _)) => true | _ => false) && canWipe δ vs
/-- the slots vs as they stood in δ0 -/
def backV (δ0 δ : DEnv) : List Nat → DEnv
  | [] => δ
  | v :: vs => match δ0[v]? with
    | some s => (backV δ0 δ vs).set v s
    | none => backV δ0 δ vs

/-! calls -/
structure Calls where
  md : Nat → Option (List Bool)
  run : Nat → List D → Res (D × Bool × List D)
def loan (δ : DEnv) : Bool × R → Bool
  | (true, .h i) => match δ[i]? with
    | some (some (.m false _)) => true
    | some (some (.io false _)) => true
    | _ => false
  | (true, .o _) => true
  | (true, .d _) => false
  | (false, _) => true
def ioIx : List (Bool × R) → List Nat
  | [] => []
  | (true, .h i) :: l => i :: ioIx l
  | _ :: l => ioIx l
def valIx : List (Bool × R) → List Nat
  | [] => []
  | (false, .h i) :: l => i :: valIx l
  | _ :: l => valIx l
def sameK : R → R → Bool
  | .h i, .h j => i == j
  | .o _, .o _ => true
  | _, _ => false
def okP (p q : Bool × R) : Bool := !((p.1 || q.1) && sameK p.2 q.2)
def apart : List (Bool × R) → Bool
  | [] => true
  | p :: l => l.all (okP p) && apart l
def isOwn (δ : DEnv) (i : Nat) : Bool := match δ[i]? with
  | some (some (.p _)) => false
  | _ => true
def putIos (δ : DEnv) : List (Bool × R) → List D → Option DEnv
  | [], [] => some δ
  | (false, _) :: l, ds => putIos δ l ds
  | (true, .h i) :: l, d :: ds => match δ[i]? with
    | some (some (.m false _)) => putIos (δ.set i (some (.m false d))) l ds
    | some (some (.io false _)) => putIos (δ.set i (some (.io false d))) l ds
    | _ => none
  | (true, .o _) :: l, _ :: ds => putIos δ l ds
  | _, _ => none
def frzL (δ : DEnv) : List Nat → Option DEnv
  | [] => some δ
  | i :: is => match escR δ (.h i) with
    | some (_, δ1) => frzL δ1 is
    | none => none
def callR (C : Calls) (f : Nat) (rs : List R) (δ : DEnv) : Res (R × DEnv) :=
  match C.md f, resL δ rs with
  | some ms, some ds => if ms.length = rs.length ∧ (ms.zip rs).all (loan δ) ∧ apart (ms.zip rs) then
      (C.run f ds).bind fun z =>
        if (valIx (ms.zip rs)).all (fun i => !isOwn δ i) || (z.1.scal && !z.2.1 && z.2.2.all D.flat) then match putIos δ (ms.zip rs) z.2.2 with
          | some δ1 => .ok (if z.2.1 then .o z.1 else .d z.1, δ1)
          | none => .stuck
        else match frzL δ (valIx (ms.zip rs)) with
          | some δf => match putIos δf (ms.zip rs) z.2.2 with
            | some δ1 => .ok (if z.2.1 then .o z.1 else .d z.1, δ1)
            | none => .stuck
          | none => .stuck
    else .stuck
  | _, _ => .stuck

def tstR (δ : DEnv) (r : R) : Res (Bool × DEnv) := match resR δ r with
  | some (.bl b) => .ok (b, δ)
  | _ => .stuck
def compLoop (own : List Nat) (tg : Tg) (c : DEnv → Res (Bool × DEnv)) (e : DEnv → Res (R × DEnv)) : List D → DEnv → List D → Res (List D × DEnv)
  | [], δ, acc => .ok (acc, δ)
  | x :: xs, δ, acc => match bindTg (wipeD δ own) tg x with
    | none => .stuck
    | some δ1 => (c δ1).bind fun z => if z.1 then (e z.2).bind fun y => match escR y.2 y.1 with
        | none => .stuck
        | some (d, δ4) => if acc.length < cap then compLoop own tg c e xs δ4 (acc ++ [d]) else .stuck
      else compLoop own tg c e xs z.2 acc

section
variable (C : Calls)
mutual
def evE : E → DEnv → Res (R × DEnv)
  | .con d, δ => .ok (.d d, δ)
  | .var i, δ => match δ[i]? with
    | some (some (.p d)) => .ok (.d d, δ)
    | some (some _) => .ok (.h i, δ)
    | _ => .stuck
  | .tup es, δ => (evL es δ).bind fun z => match escL z.2 z.1 with
    | some (ds, δ2) => .ok (.d (.tup ds), δ2)
    | none => .stuck
  | .lst es, δ => (evL es δ).bind fun z => match escL z.2 z.1 with
    | some (ds, δ2) => .ok (.o (.lst ds), δ2)
    | none => .stuck
  | .pr p es, δ => (evL es δ).bind fun z => match resL z.2 z.1 with
    | some ds => match pev p ds with
      | some w => .ok (w.r, z.2)
      | none => .stuck
    | none => .stuck
  | .and es, δ => evAnd es δ
  | .or es, δ => evOr es δ
  | .not a, δ => (evE a δ).bind fun z => (tstR z.2 z.1).bind fun y => .ok (.d (.bl (!y.1)), y.2)
  | .ite c a b, δ => (evE c δ).bind fun z => (tstR z.2 z.1).bind fun y => if y.1 then evE a y.2 else evE b y.2
  | .chain p q a b c, δ => (evE a δ).bind fun x => (evE b x.2).bind fun y => match resR y.2 x.1, resR y.2 y.1 with
    | some d, some e => match pev p [d, e] with
      | some (.sc (.bl true)) => (evE c y.2).bind fun z => match resR z.2 y.1, resR z.2 z.1 with
        | some e2, some g => match pev q [e2, g] with
          | some (.sc (.bl b)) => .ok (.d (.bl b), z.2)
          | _ => .stuck
        | _, _ => .stuck
      | some (.sc (.bl false)) => .ok (.d (.bl false), y.2)
      | _ => .stuck
    | _, _ => .stuck
  | .sl2 a b c, δ => (evE a δ).bind fun x => (evE b x.2).bind fun y => match resR y.2 y.1 with
    | some (.int i) => (evE c y.2).bind fun z => match resR z.2 x.1, resR z.2 z.1 with
      | some d, some (.int j) => match pSl d (some i) (some j) with
        | some w => .ok (w.r, z.2)
        | none => .stuck
      | _, _ => .stuck
    | _ => .stuck
  | .sm p a b, δ => (evE a δ).bind fun x => match resR x.2 x.1 with
    | some (.str s) => (evE b x.2).bind fun y => match resR y.2 y.1 with
      | some d => match pev p [.str s, d] with
        | some w => .ok (w.r, y.2)
        | none => .stuck
      | none => .stuck
    | _ => .stuck
  | .call f es, δ => (evL es δ).bind fun z => callR C f z.1 z.2
  | .comp own tg ik it ifs elt, δ => (evL it δ).bind fun z => match resL z.2 z.1 with
    | none => .stuck
    | some ds => match evI ik ds with
      | none => .stuck
      | some items => if canWipe z.2 own then (compLoop own tg (fun δ => evIfs ifs δ) (fun δ => evE elt δ) items (lockL z.2 z.1) []).bind fun y =>
          .ok (.o (.lst y.1), backV z.2 (backL z.2 y.2 z.1) own) else .stuck
def evL : List E → DEnv → Res (List R × DEnv)
  | [], δ => .ok ([], δ)
  | e :: es, δ => (evE e δ).bind fun z => (evL es z.2).bind fun y => .ok (z.1 :: y.1, y.2)
def evAnd : List E → DEnv → Res (R × DEnv)
  | [], δ => .stuck
  | [e], δ => evE e δ
  | e :: es, δ => (evE e δ).bind fun z => (tstR z.2 z.1).bind fun y => if y.1 then evAnd es y.2 else .ok (.d (.bl false), y.2)
def evOr : List E → DEnv → Res (R × DEnv)
  | [], δ => .stuck
  | [e], δ => evE e δ
  | e :: es, δ => (evE e δ).bind fun z => (tstR z.2 z.1).bind fun y => if y.1 then .ok (.d (.bl true), y.2) else evOr es y.2
def evIfs : List E → DEnv → Res (Bool × DEnv)
  | [], δ => .ok (true, δ)
  | e :: es, δ => (evE e δ).bind fun z => (tstR z.2 z.1).bind fun y => if y.1 then evIfs es y.2 else .ok (false, y.2)
end
end

def forLoop (tg : Tg) (b : DEnv → Res (Fl × DEnv)) : List D → DEnv → Res (Fl × DEnv)
  | [], δ => .ok (.nx, δ)
  | x :: xs, δ => match bindTg δ tg x with
    | none => .stuck
    | some δ1 => (b δ1).bind fun z => match z.1 with
      | .nx => forLoop tg b xs z.2
      | .ct => forLoop tg b xs z.2
      | .bk => .ok (.nx, z.2)
      | .rt r => .ok (.rt r, z.2)
def whLoop (c : DEnv → Res (Bool × DEnv)) (b : DEnv → Res (Fl × DEnv)) : Nat → DEnv → Res (Fl × DEnv)
  | 0, _ => .stuck
  | n + 1, δ => (c δ).bind fun y => if y.1 then (b y.2).bind fun z => match z.1 with
      | .nx => whLoop c b n z.2
      | .ct => whLoop c b n z.2
      | .bk => .ok (.nx, z.2)
      | .rt r => .ok (.rt r, z.2)
    else .ok (.nx, y.2)
def setI (d ix x : D) : Option D := match d, ix with
  | .lst xs, .int i => match ixN xs.length i with
    | some j => some (.lst (xs.set j x))
    | none => none
  | _, _ => none
def upS (δ : DEnv) (i : Nat) (f : D → Option D) : Option DEnv := match δ[i]? with
  | some (some (.m false d)) => match f d with | some d' => some (δ.set i (some (.m false d'))) | none => none
  | some (some (.io false d)) => match f d with | some d' => some (δ.set i (some (.io false d'))) | none => none
  | _ => none
def methD (k : MK) (xs : List D) (d : D) : Option D := match k, d, xs with
  | .append, .lst ys, [x] => if ys.length < cap then some (.lst (ys ++ [x])) else none
  | .extend, .lst ys, [.lst zs] => if ys.length + zs.length ≤ cap then some (.lst (ys ++ zs)) else none
  | .reverse, .lst ys, [] => some (.lst ys.reverse)
  | .clear, .lst _, [] => some (.lst [])
  | _, _, _ => none
def slotL (δ : DEnv) (i : Nat) : Bool := match δ[i]? with
  | some (some (.m false (.lst _))) => true
  | some (some (.io false (.lst _))) => true
  | _ => false
def slotD (δ : DEnv) (i : Nat) : Bool := match δ[i]? with
  | some (some (.m false (.dct _ _))) => true
  | some (some (.io false (.dct _ _))) => true
  | _ => false
section
variable (W : Nat) (C : Calls)
mutual
def evT : T → DEnv → Res (Fl × DEnv)
  | .ex e, δ => (evE C e δ).bind fun z => .ok (.nx, z.2)
  | .asg (.nm i) e, δ => (evE C e δ).bind fun z => match asgR z.2 i z.1 with
    | some δ1 => .ok (.nx, δ1)
    | none => .stuck
  | .asg (.tup is) e, δ => (evE C e δ).bind fun z => match resR z.2 z.1 with
    | some d => match bindTg z.2 (.tup is) d with
      | some δ1 => .ok (.nx, δ1)
      | none => .stuck
    | none => .stuck
  | .aug i p e, δ => match δ[i]? with
    | some (some (.p x)) => (evE C e δ).bind fun z => match resR z.2 z.1 with
      | some y => match pev p [x, y] with
        | some (.sc v) => match put z.2 i (.p v) with
          | some δ1 => .ok (.nx, δ1)
          | none => .stuck
        | _ => .stuck
      | none => .stuck
    | _ => .stuck
  | .set i ix e, δ => if slotL δ i then (evE C e δ).bind fun z => (evE C ix z.2).bind fun y => match resR y.2 y.1 with
    | some k => match escR y.2 z.1 with
      | some (d, δ1) => match upS δ1 i fun o => setI o k d with
        | some δ2 => .ok (.nx, δ2)
        | none => .stuck
      | none => .stuck
    | none => .stuck else if slotD δ i then (evE C e δ).bind fun z => (evE C ix z.2).bind fun y => match resR y.2 y.1 with
    | some k => match escR y.2 z.1 with
      | some (d, δ1) => match upS δ1 i fun o => setK o k d with
        | some δ2 => .ok (.nx, δ2)
        | none => .stuck
      | none => .stuck
    | none => .stuck else .stuck
  | .meth k i es, δ => if slotL δ i then (evL C es δ).bind fun z => match (if k = .extend then (resL z.2 z.1).map fun ds => (ds, z.2) else escL z.2 z.1) with
    | some (ds, δ1) => match upS δ1 i (methD k ds) with
      | some δ2 => .ok (.nx, δ2)
      | none => .stuck
    | none => .stuck else .stuck
  | .ite c a b, δ => (evE C c δ).bind fun z => (tstR z.2 z.1).bind fun y => if y.1 then evTs a y.2 else evTs b y.2
  | .wh c b, δ => whLoop (fun δ => (evE C c δ).bind fun z => tstR z.2 z.1) (fun δ => evTs b δ) W δ
  | .fr tg ik it b, δ => (evL C it δ).bind fun z => match resL z.2 z.1 with
    | none => .stuck
    | some ds => match evI ik ds with
      | none => .stuck
      | some items => (forLoop tg (fun δ => evTs b δ) items (lockL z.2 z.1)).bind fun y => .ok (y.1, backL z.2 y.2 z.1)
  | .ret e, δ => (evE C e δ).bind fun z => .ok (.rt z.1, z.2)
  | .retN, δ => .ok (.rt (.d .non), δ)
  | .pass, δ => .ok (.nx, δ)
  | .brk, δ => .ok (.bk, δ)
  | .cnt, δ => .ok (.ct, δ)
  | .raise k, δ => .exc k
def evTs : List T → DEnv → Res (Fl × DEnv)
  | [], δ => .ok (.nx, δ)
  | t :: ts, δ => (evT t δ).bind fun z => match z.1 with
    | .nx => evTs ts z.2
    | f => .ok (f, z.2)
end
end
def start0 (fn : Fn) (args : List D) : DEnv := (fn.ps.zip args).map (fun z => some (if z.1 then S.io false z.2 else S.p z.2)) ++ List.replicate (fn.n - args.length) none
def iosOf : List Bool → DEnv → Option (List D)
  | [], _ => some []
  | true :: ms, some (.io _ d) :: δ => match iosOf ms δ with | some r => some (d :: r) | none => none
  | false :: ms, _ :: δ => iosOf ms δ
  | _, _ => none
def finR (δ : DEnv) : R → Option (D × Bool)
  | .d x => some (x, false)
  | .o x => some (x, true)
  | .h i => match δ[i]? with
    | some (some (.m _ d)) => some (d, true)
    | some (some (.p d)) => some (d, false)
    | _ => none
def finF (ms : List Bool) (δ : DEnv) (r : R) : Res (D × Bool × List D) := match finR δ r, iosOf ms δ with
  | some (d, b), some l => .ok (d, b, l)
  | _, _ => .stuck
def runFn (W : Nat) (C : Calls) (fn : Fn) (args : List D) : Res (D × Bool × List D) :=
  if args.length = fn.ps.length then (evTs W C fn.body (start0 fn args)).bind fun z => match z.1 with
    | .nx => finF fn.ps z.2 (.d .non)
    | .rt r => finF fn.ps z.2 r
    | _ => .stuck
  else .stuck
def calls (W : Nat) (tab : List Fn) : Nat → Calls
  | 0 => ⟨fun f => (tab[f]?).map (·.ps), fun _ _ => .stuck⟩
  | n + 1 => ⟨fun f => (tab[f]?).map (·.ps), fun f args => match tab[f]? with | some fn => runFn W (calls W tab n) fn args | none => .stuck⟩
end Ev
/-! EvC: data in the heap, slots, transitions -/
namespace Ev
open PySem PySem.Spec PyProof.Rows L2


/-- a list of the written part -/
def StatL (K : PySem.W.Frag) (a : Addr) (xs : List V) : Prop := ∃ (o : Obj) (its : Array Value) (n : Nat), K.lookup a = some o ∧ o.cls = .type "list" ∧ o.dict = none ∧ o.data = .seq its n ∧ its.size ≤ sizeLine ∧ Vals xs its.toList
mutual
def Rep (K : PySem.W.Frag) (H : Hp) (A : Addr → Prop) : D → V → Prop
  | .non, v => v = .non
  | .bl b, v => v = .bl b
  | .int i, v => v = .int i
  | .str x, v => v = .str x
  | .tup ds, v => ∃ a vs, v = .ref a ∧ (¬ A a ∧ H a = some (.tup vs)) ∧ RepL K H A ds vs
  | .lst ds, v => ∃ a vs, v = .ref a ∧ ((¬ A a ∧ L2.Rd H a (.lst vs)) ∨ StatL K a vs) ∧ RepL K H A ds vs
  | .dct ks ds, v => ∃ a kvs, v = .ref a ∧ (¬ A a ∧ H a = some (.dK kvs)) ∧ kvs.map Prod.fst = ks ∧ RepL K H A ds (kvs.map Prod.snd)
def RepL (K : PySem.W.Frag) (H : Hp) (A : Addr → Prop) : List D → List V → Prop
  | [], vs => vs = []
  | d :: ds, vs => ∃ v vs', vs = v :: vs' ∧ Rep K H A d v ∧ RepL K H A ds vs'
end
/-- the data at an object -/
def OwnAt (K : PySem.W.Frag) (H : Hp) (A : Addr → Prop) (a : Addr) : D → Prop
  | .lst ds => ∃ vs, H a = some (.lst vs) ∧ RepL K H A ds vs
  | .dct ks ds => ∃ kvs, H a = some (.dK kvs) ∧ kvs.map Prod.fst = ks ∧ RepL K H A ds (kvs.map Prod.snd)
  | _ => False
/-- data to be read, whose object may be an own one -/
def Rd0 (K : PySem.W.Frag) (H : Hp) (A : Addr → Prop) : D → V → Prop
  | .non, v => v = .non
  | .bl b, v => v = .bl b
  | .int i, v => v = .int i
  | .str x, v => v = .str x
  | .tup ds, v => Rep K H A (.tup ds) v
  | .lst ds, v => ∃ a vs, v = .ref a ∧ SqL K H a vs ∧ RepL K H A ds vs
  | .dct ks ds, v => ∃ a kvs, v = .ref a ∧ H a = some (.dK kvs) ∧ kvs.map Prod.fst = ks ∧ RepL K H A ds (kvs.map Prod.snd)
def Rd0L (K : PySem.W.Frag) (H : Hp) (A : Addr → Prop) : List D → List V → Prop
  | [], vs => vs = []
  | d :: ds, vs => ∃ v vs', vs = v :: vs' ∧ Rd0 K H A d v ∧ Rd0L K H A ds vs'

section
variable {K : PySem.W.Frag} {H H' : Hp} {A A' : Addr → Prop}
theorem rd_keep {a : Addr} {u : HO} (k : ∀ o, H a = some o → H' a = some o) (h : L2.Rd H a u) : L2.Rd H' a u := by
  rcases h with h | ⟨o, h⟩
  · exact .inl (k _ h)
  · exact .inr ⟨o, k _ h⟩
theorem rd_some {a : Addr} {u : HO} (h : L2.Rd H a u) : ∃ o, H a = some o := by
  rcases h with h | ⟨o, h⟩
  · exact ⟨_, h⟩
  · exact ⟨_, h⟩
mutual
theorem Rep.tr (k : ∀ a o, ¬ A a → H a = some o → H' a = some o ∧ ¬ A' a) : ∀ {d : D} {v : V}, Rep K H A d v → Rep K H' A' d v
  | .non, _, h => by simpa [Rep] using h
  | .bl _, _, h => by simpa [Rep] using h
  | .int _, _, h => by simpa [Rep] using h
  | .str _, _, h => by simpa [Rep] using h
  | .tup ds, v, h => by
    simp only [Rep] at h ⊢
    obtain ⟨a, vs, e, ⟨n, q⟩, r⟩ := h
    exact ⟨a, vs, e, ⟨(k a _ n q).2, (k a _ n q).1⟩, RepL.tr k r⟩
  | .lst ds, v, h => by
    simp only [Rep] at h ⊢
    obtain ⟨a, vs, e, q, r⟩ := h
    rcases q with ⟨n, q⟩ | q
    · obtain ⟨o, ho⟩ := rd_some q
      exact ⟨a, vs, e, .inl ⟨(k a o n ho).2, rd_keep (fun o ho => (k a o n ho).1) q⟩, RepL.tr k r⟩
    · exact ⟨a, vs, e, .inr q, RepL.tr k r⟩
  | .dct ks ds, v, h => by
    simp only [Rep] at h ⊢
    obtain ⟨a, kvs, e, ⟨n, q⟩, z, r⟩ := h
    exact ⟨a, kvs, e, ⟨(k a _ n q).2, (k a _ n q).1⟩, z, RepL.tr k r⟩
theorem RepL.tr (k : ∀ a o, ¬ A a → H a = some o → H' a = some o ∧ ¬ A' a) : ∀ {ds : List D} {vs : List V}, RepL K H A ds vs → RepL K H' A' ds vs
  | [], _, h => by simpa [RepL] using h
  | d :: ds, vs, h => by
    simp only [RepL] at h ⊢
    obtain ⟨v, vs', e, r, rs⟩ := h
    exact ⟨v, vs', e, Rep.tr k r, RepL.tr k rs⟩
end
theorem Rep.rd0 {d : D} {v : V} (h : Rep K H A d v) : Rd0 K H A d v := by
  cases d with
  | non => simpa [Rep, Rd0] using h
  | bl b => simpa [Rep, Rd0] using h
  | int i => simpa [Rep, Rd0] using h
  | str x => simpa [Rep, Rd0] using h
  | tup ds => exact h
  | lst ds =>
    simp only [Rep] at h
    obtain ⟨a, vs, e, q, r⟩ := h
    exact ⟨a, vs, e, q.elim (fun z => .inl z.2) .inr, r⟩
  | dct ks ds =>
    simp only [Rep] at h
    obtain ⟨a, kvs, e, ⟨n, q⟩, z, r⟩ := h
    exact ⟨a, kvs, e, q, z, r⟩
theorem OwnAt.rd0 {a : Addr} {d : D} (h : OwnAt K H A a d) : Rd0 K H A d (.ref a) := by
  cases d with
  | lst ds => obtain ⟨vs, e, r⟩ := h; exact ⟨a, vs, rfl, .inl (.inl e), r⟩
  | dct ks ds => obtain ⟨kvs, e, z, r⟩ := h; exact ⟨a, kvs, rfl, e, z, r⟩
  | non => exact h.elim
  | bl => exact h.elim
  | int => exact h.elim
  | str => exact h.elim
  | tup => exact h.elim
theorem OwnAt.rep {a : Addr} {d : D} (h : OwnAt K H A a d) (n : ¬ A a) : Rep K H A d (.ref a) := by
  cases d with
  | lst ds => obtain ⟨vs, e, r⟩ := h; simp only [Rep]; exact ⟨a, vs, rfl, .inl ⟨n, .inl e⟩, r⟩
  | dct ks ds => obtain ⟨kvs, e, z, r⟩ := h; simp only [Rep]; exact ⟨a, kvs, rfl, ⟨n, e⟩, z, r⟩
  | non => exact h.elim
  | bl => exact h.elim
  | int => exact h.elim
  | str => exact h.elim
  | tup => exact h.elim
theorem OwnAt.some {a : Addr} {d : D} (h : OwnAt K H A a d) : ∃ o, H a = some o := by
  cases d with
  | lst ds => obtain ⟨vs, e, r⟩ := h; exact ⟨_, e⟩
  | dct ks ds => obtain ⟨kvs, e, z, r⟩ := h; exact ⟨_, e⟩
  | non => exact h.elim
  | bl => exact h.elim
  | int => exact h.elim
  | str => exact h.elim
  | tup => exact h.elim
theorem OwnAt.tr (k : ∀ a o, ¬ A a → H a = Option.some o → H' a = Option.some o ∧ ¬ A' a) {a : Addr} {d : D} (ka : ∀ o, H a = Option.some o → H' a = Option.some o) (h : OwnAt K H A a d) : OwnAt K H' A' a d := by
  cases d with
  | lst ds => obtain ⟨vs, e, r⟩ := h; exact ⟨vs, ka _ e, RepL.tr k r⟩
  | dct ks ds => obtain ⟨kvs, e, z, r⟩ := h; exact ⟨kvs, ka _ e, z, RepL.tr k r⟩
  | non => exact h.elim
  | bl => exact h.elim
  | int => exact h.elim
  | str => exact h.elim
  | tup => exact h.elim
theorem Rep.of_scal {d : D} {v : V} (s : d.scal = true) (h : Rep K H A d v) : Rep K H' A' d v := by
  cases d <;> first | (simpa [Rep] using h) | (simp [D.scal] at s)
theorem RepL.of_scal : ∀ {ds : List D} {vs : List V}, ds.all D.scal = true → RepL K H A ds vs → RepL K H' A' ds vs
  | [], _, _, h => by simpa [RepL] using h
  | d :: ds, vs, s, h => by
    simp only [RepL] at h ⊢
    simp only [List.all_cons, Bool.and_eq_true] at s
    obtain ⟨v, vs', e, r, rs⟩ := h
    exact ⟨v, vs', e, Rep.of_scal s.1 r, RepL.of_scal s.2 rs⟩
theorem RepL.length : ∀ {ds : List D} {vs : List V}, RepL K H A ds vs → ds.length = vs.length
  | [], _, h => by simp only [RepL] at h; rw [h]; rfl
  | d :: ds, vs, h => by
    simp only [RepL] at h
    obtain ⟨v, vs', rfl, r, rs⟩ := h
    simp [RepL.length rs]
theorem RepL.get : ∀ {ds : List D} {vs : List V} {i : Nat} {d : D}, RepL K H A ds vs → ds[i]? = some d → ∃ v, vs[i]? = some v ∧ Rep K H A d v
  | [], _, _, _, _, e => by simp at e
  | d :: ds, vs, 0, d', h, e => by
    simp only [RepL] at h
    obtain ⟨v, vs', rfl, r, rs⟩ := h
    simp at e; subst e
    exact ⟨v, by simp, r⟩
  | d :: ds, vs, i + 1, d', h, e => by
    simp only [RepL] at h
    obtain ⟨v, vs', rfl, r, rs⟩ := h
    obtain ⟨u, h1, h2⟩ := RepL.get rs (show ds[i]? = some d' by simpa using e)
    exact ⟨u, by simpa using h1, h2⟩
theorem RepL.get_v : ∀ {ds : List D} {vs : List V} {i : Nat} {v : V}, RepL K H A ds vs → vs[i]? = some v → ∃ d, ds[i]? = some d ∧ Rep K H A d v
  | [], _, _, _, h, e => by simp only [RepL] at h; subst h; simp at e
  | d :: ds, vs, 0, v', h, e => by
    simp only [RepL] at h
    obtain ⟨v, vs', rfl, r, rs⟩ := h
    simp at e; subst e
    exact ⟨d, by simp, r⟩
  | d :: ds, vs, i + 1, v', h, e => by
    simp only [RepL] at h
    obtain ⟨v, vs', rfl, r, rs⟩ := h
    obtain ⟨u, h1, h2⟩ := RepL.get_v rs (show vs'[i]? = some v' by simpa using e)
    exact ⟨u, by simpa using h1, h2⟩
theorem RepL.append : ∀ {ds es : List D} {vs us : List V}, RepL K H A ds vs → RepL K H A es us → RepL K H A (ds ++ es) (vs ++ us)
  | [], _, _, _, h, g => by simp only [RepL] at h; subst h; simpa using g
  | d :: ds, es, vs, us, h, g => by
    simp only [RepL] at h
    obtain ⟨v, vs', rfl, r, rs⟩ := h
    simp only [List.cons_append, RepL]
    exact ⟨v, vs' ++ us, rfl, r, RepL.append rs g⟩
theorem RepL.nil : RepL K H A [] [] := by simp [RepL]
theorem RepL.cons {d : D} {ds : List D} {v : V} {vs : List V} (h : Rep K H A d v) (g : RepL K H A ds vs) : RepL K H A (d :: ds) (v :: vs) := by
  simp only [RepL]; exact ⟨v, vs, rfl, h, g⟩
theorem RepL.one {d : D} {v : V} (h : Rep K H A d v) : RepL K H A [d] [v] := RepL.cons h RepL.nil
theorem RepL.take : ∀ {ds : List D} {vs : List V} (n : Nat), RepL K H A ds vs → RepL K H A (ds.take n) (vs.take n)
  | _, _, 0, _ => by simp [RepL]
  | [], _, n + 1, h => by simp only [RepL] at h; subst h; simp [RepL]
  | d :: ds, vs, n + 1, h => by
    simp only [RepL] at h
    obtain ⟨v, vs', rfl, r, rs⟩ := h
    exact RepL.cons r (RepL.take n rs)
theorem RepL.drop : ∀ {ds : List D} {vs : List V} (n : Nat), RepL K H A ds vs → RepL K H A (ds.drop n) (vs.drop n)
  | _, _, 0, h => h
  | [], _, n + 1, h => by simp only [RepL] at h; subst h; simp [RepL]
  | d :: ds, vs, n + 1, h => by
    simp only [RepL] at h
    obtain ⟨v, vs', rfl, r, rs⟩ := h
    exact RepL.drop n rs
theorem RepL.reverse : ∀ {ds : List D} {vs : List V}, RepL K H A ds vs → RepL K H A ds.reverse vs.reverse
  | [], _, h => by simp only [RepL] at h; subst h; simp [RepL]
  | d :: ds, vs, h => by
    simp only [RepL] at h
    obtain ⟨v, vs', rfl, r, rs⟩ := h
    rw [List.reverse_cons, List.reverse_cons]
    exact RepL.append (RepL.reverse rs) (RepL.one r)
theorem RepL.set : ∀ {ds : List D} {vs : List V} (i : Nat) {d : D} {v : V}, RepL K H A ds vs → Rep K H A d v → RepL K H A (ds.set i d) (vs.set i v)
  | [], _, _, _, _, h, _ => by simp only [RepL] at h; subst h; simp [RepL]
  | _ :: _, vs, 0, d', v', h, g => by
    simp only [RepL] at h
    obtain ⟨v, vs', rfl, r, rs⟩ := h
    exact RepL.cons g rs
  | _ :: _, vs, i + 1, d', v', h, g => by
    simp only [RepL] at h
    obtain ⟨v, vs', rfl, r, rs⟩ := h
    exact RepL.cons r (RepL.set i rs g)
theorem RepL.rep : ∀ {ds : List D} {vs : List V}, RepL K H A ds vs → ∀ k : Nat, RepL K H A (List.replicate k ds).flatten (List.replicate k vs).flatten := by
  intro ds vs h k
  induction k with
  | zero => simp [RepL]
  | succ k ih => rw [List.replicate_succ, List.replicate_succ, List.flatten_cons, List.flatten_cons]; exact h.append ih
end

/-! ### slots -/
def SlotAt (δ : DEnv) (σ : L2.St) (i : Nat) (a : Addr) : Prop := ((∃ l d, δ[i]? = some (some (.m l d))) ∨ (∃ l d, δ[i]? = some (some (.io l d)))) ∧ σ[i]? = some (some (V.ref a))
def Slot (δ : DEnv) (σ : L2.St) (a : Addr) : Prop := ∃ i, SlotAt δ σ i a
def All (O : Addr → Prop) (δ : DEnv) (σ : L2.St) (a : Addr) : Prop := O a ∨ Slot δ σ a

/-- the whole def's: the written part, the heap at the entry, what others own there, what is lent -/
structure Cfg where
  K : PySem.W.Frag
  H0 : Hp
  O0 : Addr → Prop
  J : Nat → Addr → Prop
def Cfg.I (c : Cfg) (a : Addr) : Prop := ∃ i, c.J i a

def SlR (c : Cfg) (O : Addr → Prop) (δ : DEnv) (σ : L2.St) (H : Hp) (i : Nat) : S → Prop
  | .p d => ∃ v, σ[i]? = some (some v) ∧ Rep c.K H (All O δ σ) d v
  | .m _ d => ∃ a, σ[i]? = some (some (.ref a)) ∧ ¬ O a ∧ c.H0 a = none ∧ OwnAt c.K H (All O δ σ) a d
  | .io _ d => ∃ a, σ[i]? = some (some (.ref a)) ∧ c.J i a ∧ OwnAt c.K H (All O δ σ) a d

structure ER (c : Cfg) (O : Addr → Prop) (δ : DEnv) (σ : L2.St) (H : Hp) : Prop where
  len : δ.length = σ.length
  tr : ∀ a, O a → ∃ o, H a = some o
  sub : ∀ a, c.O0 a → O a
  io : ∀ a, c.I a → c.O0 a
  tr0 : ∀ a, c.O0 a → ∃ o, c.H0 a = some o
  sl : ∀ (i : Nat) (s : S), δ[i]? = some (some s) → SlR c O δ σ H i s
  inj : ∀ i j a, SlotAt δ σ i a → SlotAt δ σ j a → i = j
  keep : ∀ a o, ¬ c.I a → c.H0 a = some o → H a = some o

structure Tr (O : Addr → Prop) (δ : DEnv) (σ : L2.St) (H : Hp) (O' : Addr → Prop) (δ' : DEnv) (H' : Hp) : Prop where
  keep : ∀ a o, ¬ Slot δ σ a → H a = some o → H' a = some o
  th : ∀ a o, H a = some o → ∃ o', H' a = some o'
  new : ∀ a, O' a → O a ∨ H a = none
  sub : ∀ a, O a → O' a
  le : ∀ i a, SlotAt δ' σ i a → SlotAt δ σ i a
  st : ∀ (i : Nat) (s : S), δ[i]? = some (some s) → ∃ s', δ'[i]? = some (some s')
  lk : ∀ (i : Nat) (s : S), s.lk = true → δ[i]? = some (some s) → δ'[i]? = some (some s)

section
variable {c : Cfg} {K : PySem.W.Frag} {O O1 O2 : Addr → Prop} {δ δ1 δ2 : DEnv} {σ : L2.St} {H H1 H2 : Hp}
theorem Tr.refl : Tr O δ σ H O δ H := ⟨fun _ _ _ e => e, fun _ o e => ⟨o, e⟩, fun _ h => .inl h, fun _ h => h, fun _ _ h => h, fun _ s e => ⟨s, e⟩, fun _ _ _ e => e⟩
theorem Tr.slot (t : Tr O δ σ H O1 δ1 H1) {a : Addr} (h : Slot δ1 σ a) : Slot δ σ a := let ⟨i, q⟩ := h; ⟨i, t.le i a q⟩
theorem Tr.trans (t : Tr O δ σ H O1 δ1 H1) (u : Tr O1 δ1 σ H1 O2 δ2 H2) : Tr O δ σ H O2 δ2 H2 where
  keep := fun a o n e => u.keep a o (fun h => n (t.slot h)) (t.keep a o n e)
  th := fun a o e => let ⟨o1, e1⟩ := t.th a o e; u.th a o1 e1
  new := fun a h => by
    rcases u.new a h with h | h
    · exact t.new a h
    · refine .inr ?_
      cases q : H a with
      | none => rfl
      | some o => obtain ⟨o1, e1⟩ := t.th a o q; rw [h] at e1; cases e1
  sub := fun a h => u.sub a (t.sub a h)
  le := fun i a h => t.le i a (u.le i a h)
  st := fun i s e => let ⟨s1, e1⟩ := t.st i s e; u.st i s1 e1
  lk := fun i s l e => u.lk i s l (t.lk i s l e)
theorem Tr.none (t : Tr O δ σ H O1 δ1 H1) {a : Addr} (h : H1 a = none) : H a = none := by
  cases q : H a with
  | none => rfl
  | some o => obtain ⟨o1, e1⟩ := t.th a o q; rw [h] at e1; cases e1
theorem Tr.k (t : Tr O δ σ H O1 δ1 H1) : ∀ a o, ¬ All O δ σ a → H a = some o → H1 a = some o ∧ ¬ All O1 δ1 σ a := fun a o n e => by
  refine ⟨t.keep a o (fun h => n (.inr h)) e, fun h => ?_⟩
  rcases h with h | h
  · rcases t.new a h with h | h
    · exact n (.inl h)
    · rw [e] at h; cases h
  · exact n (.inr (t.slot h))
theorem ER.slot_some (E : ER c O δ σ H) {a : Addr} (h : Slot δ σ a) : ∃ o, H a = some o := by
  obtain ⟨i, q, e⟩ := h
  rcases q with ⟨l, d, q⟩ | ⟨l, d, q⟩
  · obtain ⟨b, e', n, z, r⟩ := E.sl i _ q
    rw [e] at e'; cases e'
    exact r.some
  · obtain ⟨b, e', n, r⟩ := E.sl i _ q
    rw [e] at e'; cases e'
    exact r.some
theorem ER.all_some (E : ER c O δ σ H) {a : Addr} (h : All O δ σ a) : ∃ o, H a = some o := by
  rcases h with h | h
  · exact E.tr a h
  · exact E.slot_some h
theorem ER.fresh (E : ER c O δ σ H) {a : Addr} (h : H a = none) : ¬ All O δ σ a := fun z => by
  obtain ⟨o, e⟩ := E.all_some z
  rw [h] at e; cases e
theorem ER.fresh0 (E : ER c O δ σ H) {a : Addr} (h : H a = none) : c.H0 a = none := by
  cases q : c.H0 a with
  | none => rfl
  | some o =>
    by_cases i : c.I a
    · obtain ⟨o', e⟩ := E.tr a (E.sub a (E.io a i))
      rw [h] at e; cases e
    · have := E.keep a o i q
      rw [h] at this; cases this

/-- an expression's result: H: the heap where it began -/
def RR (K : PySem.W.Frag) (Hb : Hp) (O : Addr → Prop) (δ : DEnv) (σ : L2.St) (H : Hp) : R → V → Prop
  | .d d, v => Rep K H (All O δ σ) d v
  | .h i, v => σ[i]? = some (some v) ∧ ∃ s, δ[i]? = some (some s)
  | .o d, v => ∃ a, v = .ref a ∧ O a ∧ Hb a = none ∧ OwnAt K H (All O δ σ) a d
def RRs (K : PySem.W.Frag) (Hb : Hp) (O : Addr → Prop) (δ : DEnv) (σ : L2.St) (H : Hp) : List R → List V → Prop
  | [], vs => vs = []
  | r :: rs, vs => ∃ v vs', vs = v :: vs' ∧ RR K Hb O δ σ H r v ∧ RRs K Hb O δ σ H rs vs'
theorem RR.tr {Hb : Hp} {Ob : Addr → Prop} {δb : DEnv} (Eb : ER c Ob δb σ Hb) (tb : Tr Ob δb σ Hb O δ H) (t : Tr O δ σ H O1 δ1 H1) {r : R} {v : V} (h : RR K Hb O δ σ H r v) : RR K Hb O1 δ1 σ H1 r v := by
  cases r with
  | d d => exact Rep.tr t.k h
  | h i =>
    obtain ⟨e, s, q⟩ := h
    exact ⟨e, t.st i s q⟩
  | o d =>
    obtain ⟨a, e, o, n, r⟩ := h
    refine ⟨a, e, t.sub a o, n, r.tr t.k fun o ho => t.keep a o (fun z => ?_) ho⟩
    obtain ⟨o', e'⟩ := Eb.slot_some (tb.slot z)
    rw [n] at e'; cases e'
theorem RR.base {Hb Hb' : Hp} (hn : ∀ a, Hb' a = none → Hb a = none) {r : R} {v : V} (h : RR K Hb' O δ σ H r v) : RR K Hb O δ σ H r v := by
  cases r with
  | d d => exact h
  | h i => exact h
  | o d =>
    obtain ⟨a, e, o, n, r⟩ := h
    exact ⟨a, e, o, hn a n, r⟩
theorem RR.rd0 (E : ER c O δ σ H) {Hb : Hp} {r : R} {v : V} {d : D} (h : RR c.K Hb O δ σ H r v) (e : resR δ r = some d) : Rd0 c.K H (All O δ σ) d v := by
  cases r with
  | d x => cases e; exact Rep.rd0 h
  | o x =>
    cases e
    obtain ⟨a, rfl, o, n, r⟩ := h
    exact r.rd0
  | h i =>
    obtain ⟨e1, s, q⟩ := h
    simp only [resR, q] at e
    cases e
    have z := E.sl i s q
    cases s with
    | p d => obtain ⟨v', e2, r⟩ := z; rw [e1] at e2; cases e2; exact r.rd0
    | m l d => obtain ⟨a, e2, _, _, r⟩ := z; rw [e1] at e2; cases e2; exact r.rd0
    | io l d => obtain ⟨a, e2, _, r⟩ := z; rw [e1] at e2; cases e2; exact r.rd0
theorem RRs.rd0 (E : ER c O δ σ H) {Hb : Hp} : ∀ {rs : List R} {vs : List V} {ds : List D}, RRs c.K Hb O δ σ H rs vs → resL δ rs = some ds → Rd0L c.K H (All O δ σ) ds vs
  | [], vs, ds, h, e => by simp only [resL] at e; cases e; simpa [RRs, Rd0L] using h
  | r :: rs, vs, ds, h, e => by
    obtain ⟨v, vs', rfl, q, qs⟩ := h
    simp only [resL] at e
    cases e1 : resR δ r with
    | none => rw [e1] at e; cases e
    | some d =>
      rw [e1] at e
      cases e2 : resL δ rs with
      | none => rw [e2] at e; cases e
      | some ds' =>
        rw [e2] at e; cases e
        exact ⟨v, vs', rfl, q.rd0 E e1, RRs.rd0 E qs e2⟩
theorem RRs.tr {Hb : Hp} {Ob : Addr → Prop} {δb : DEnv} (Eb : ER c Ob δb σ Hb) (tb : Tr Ob δb σ Hb O δ H) (t : Tr O δ σ H O1 δ1 H1) : ∀ {rs : List R} {vs : List V}, RRs K Hb O δ σ H rs vs → RRs K Hb O1 δ1 σ H1 rs vs
  | [], _, h => h
  | r :: rs, vs, h => by
    obtain ⟨v, vs', e, q, qs⟩ := h
    exact ⟨v, vs', e, q.tr Eb tb t, RRs.tr Eb tb t qs⟩
theorem RRs.base {Hb Hb' : Hp} (hn : ∀ a, Hb' a = none → Hb a = none) : ∀ {rs : List R} {vs : List V}, RRs K Hb' O δ σ H rs vs → RRs K Hb O δ σ H rs vs
  | [], _, h => h
  | r :: rs, vs, h => by
    obtain ⟨v, vs', e, q, qs⟩ := h
    exact ⟨v, vs', e, q.base hn, RRs.base hn qs⟩
end

/-- behind an expression -/
def PostE (c : Cfg) (O : Addr → Prop) (δ : DEnv) (σ : L2.St) (H : Hp) (r : R) (δ' : DEnv) (v : V) (H' : Hp) : Prop :=
  ∃ O', Tr O δ σ H O' δ' H' ∧ ER c O' δ' σ H' ∧ RR c.K H O' δ' σ H' r v
def PostL (c : Cfg) (O : Addr → Prop) (δ : DEnv) (σ : L2.St) (H : Hp) (rs : List R) (δ' : DEnv) (vs : List V) (H' : Hp) : Prop :=
  ∃ O', Tr O δ σ H O' δ' H' ∧ ER c O' δ' σ H' ∧ RRs c.K H O' δ' σ H' rs vs
def PostB (c : Cfg) (O : Addr → Prop) (δ : DEnv) (σ : L2.St) (H : Hp) (δ' : DEnv) (H' : Hp) : Prop :=
  ∃ O', Tr O δ σ H O' δ' H' ∧ ER c O' δ' σ H'
def OkE (c : Cfg) (O : Addr → Prop) (δ : DEnv) (σ : L2.St) (H : Hp) (z : Res (R × DEnv)) (Q : VK) : Prop := match z with
  | .ok y => ∀ v H', PostE c O δ σ H y.1 y.2 v H' → Q v H'
  | _ => False
def OkL (c : Cfg) (O : Addr → Prop) (δ : DEnv) (σ : L2.St) (H : Hp) (z : Res (List R × DEnv)) (Q : List V → Hp → Prop) : Prop := match z with
  | .ok y => ∀ vs H', PostL c O δ σ H y.1 y.2 vs H' → Q vs H'
  | _ => False
def OkB (c : Cfg) (O : Addr → Prop) (δ : DEnv) (σ : L2.St) (H : Hp) (z : Res (Bool × DEnv)) (Q : Bool → Hp → Prop) : Prop := match z with
  | .ok y => ∀ H', PostB c O δ σ H y.2 H' → Q y.1 H'
  | _ => False
def tD (c : Cfg) (f : DEnv → Res (R × DEnv)) : TE := fun σ H Q => ∃ O δ, ER c O δ σ H ∧ OkE c O δ σ H (f δ) Q
def tDL (c : Cfg) (f : DEnv → Res (List R × DEnv)) : TA := fun σ H Q => ∃ O δ, ER c O δ σ H ∧ OkL c O δ σ H (f δ) Q
def tDB (c : Cfg) (f : DEnv → Res (Bool × DEnv)) : TT := fun σ H Q => ∃ O δ, ER c O δ σ H ∧ OkB c O δ σ H (f δ) Q
def tstE (f : DEnv → Res (R × DEnv)) : DEnv → Res (Bool × DEnv) := fun δ => (f δ).bind fun z => tstR z.2 z.1
end Ev
/-! EvD: the first rules -/
namespace Ev
open PySem PySem.Spec PyProof.Rows L2

theorem _root_.L2.PE.imp {X : Cx} {e : Expr} {t t' : TE} (h : PE X e t) (m : ∀ σ H Q, t' σ H Q → t σ H Q) : PE X e t' := ⟨fun pins s σ H Q I q => h.run pins s σ H Q I (m σ H Q q)⟩
theorem _root_.L2.PT.imp {X : Cx} {e : Expr} {t t' : TT} (h : PT X e t) (m : ∀ σ H Q, t' σ H Q → t σ H Q) : PT X e t' := ⟨fun pins s σ H Q I q => h.run pins s σ H Q I (m σ H Q q)⟩
theorem _root_.L2.PW.imp {X : Cx} {e : Expr} {t t' : TT} (h : PW X e t) (m : ∀ σ H Q, t' σ H Q → t σ H Q) : PW X e t' := ⟨fun wh pins s σ H Q I q => h.run wh pins s σ H Q I (m σ H Q q)⟩
theorem _root_.L2.PA.imp {X : Cx} {es : List Expr} {t t' : TA} (h : PA X es t) (m : ∀ σ H Q, t' σ H Q → t σ H Q) : PA X es t' := ⟨fun pos pins s σ H Q I q => h.run pos pins s σ H Q I (m σ H Q q)⟩
theorem _root_.L2.PS.imp {X : Cx} {e : Stmt} {t t' : TS} (h : PS X e t) (m : ∀ D σ H, t' D σ H → t D σ H) : PS X e t' := ⟨fun pins s σ H D I q => h.run pins s σ H D I (m D σ H q)⟩
theorem _root_.L2.PSs.imp {X : Cx} {e : List Stmt} {t t' : TS} (h : PSs X e t) (m : ∀ D σ H, t' D σ H → t D σ H) : PSs X e t' := ⟨fun pins s σ H D I q => h.run pins s σ H D I (m D σ H q)⟩

section
variable {c : Cfg} {O O1 O2 : Addr → Prop} {δ δ1 δ2 : DEnv} {σ : L2.St} {H H1 H2 : Hp} {r : R} {rs : List R} {v : V} {vs : List V}
/-- a later result over an earlier base -/
theorem PostE.over (t : Tr O δ σ H O1 δ1 H1) (p : PostE c O1 δ1 σ H1 r δ2 v H2) : PostE c O δ σ H r δ2 v H2 := by
  obtain ⟨O2, t2, E2, q⟩ := p
  exact ⟨O2, t.trans t2, E2, q.base fun a h => t.none h⟩
theorem PostL.over (t : Tr O δ σ H O1 δ1 H1) (p : PostL c O1 δ1 σ H1 rs δ2 vs H2) : PostL c O δ σ H rs δ2 vs H2 := by
  obtain ⟨O2, t2, E2, q⟩ := p
  exact ⟨O2, t.trans t2, E2, q.base fun a h => t.none h⟩
theorem PostB.over (t : Tr O δ σ H O1 δ1 H1) (p : PostB c O1 δ1 σ H1 δ2 H2) : PostB c O δ σ H δ2 H2 := by
  obtain ⟨O2, t2, E2⟩ := p
  exact ⟨O2, t.trans t2, E2⟩
theorem PostE.b (p : PostE c O δ σ H r δ1 v H1) : PostB c O δ σ H δ1 H1 := let ⟨O1, t, E, _⟩ := p; ⟨O1, t, E⟩
theorem PostL.b (p : PostL c O δ σ H rs δ1 vs H1) : PostB c O δ σ H δ1 H1 := let ⟨O1, t, E, _⟩ := p; ⟨O1, t, E⟩
theorem PostE.data (E : ER c O δ σ H) {d : D} (h : Rep c.K H (All O δ σ) d v) : PostE c O δ σ H (.d d) δ v H := ⟨O, Tr.refl, E, h⟩

/-- e, then the rest by its result -/
theorem tD_bind {f : DEnv → Res (R × DEnv)} {Q : VK} (E : ER c O δ σ H) (h : ∃ r δ1, f δ = .ok (r, δ1) ∧ ∀ v H1, PostE c O δ σ H r δ1 v H1 → Q v H1) : tD c f σ H Q := by
  obtain ⟨r, δ1, e, q⟩ := h
  refine ⟨O, δ, E, ?_⟩
  rw [e]
  exact q
theorem OkE.bind {f : Res (R × DEnv)} {g : R × DEnv → Res (R × DEnv)} {Q : VK} (h : OkE c O δ σ H (f.bind g) Q) : ∃ r δ1, f = .ok (r, δ1) ∧ OkE c O δ σ H (g (r, δ1)) Q := by
  cases f with
  | ok y => exact ⟨y.1, y.2, rfl, h⟩
  | exc k => exact h.elim
  | stuck => exact h.elim
theorem OkE.bindL {f : Res (List R × DEnv)} {g : List R × DEnv → Res (R × DEnv)} {Q : VK} (h : OkE c O δ σ H (f.bind g) Q) : ∃ rs δ1, f = .ok (rs, δ1) ∧ OkE c O δ σ H (g (rs, δ1)) Q := by
  cases f with
  | ok y => exact ⟨y.1, y.2, rfl, h⟩
  | exc k => exact h.elim
  | stuck => exact h.elim
theorem OkE.bindB {f : Res (Bool × DEnv)} {g : Bool × DEnv → Res (R × DEnv)} {Q : VK} (h : OkE c O δ σ H (f.bind g) Q) : ∃ b δ1, f = .ok (b, δ1) ∧ OkE c O δ σ H (g (b, δ1)) Q := by
  cases f with
  | ok y => exact ⟨y.1, y.2, rfl, h⟩
  | exc k => exact h.elim
  | stuck => exact h.elim
theorem OkL.bind {f : Res (R × DEnv)} {g : R × DEnv → Res (List R × DEnv)} {Q : List V → Hp → Prop} (h : OkL c O δ σ H (f.bind g) Q) : ∃ r δ1, f = .ok (r, δ1) ∧ OkL c O δ σ H (g (r, δ1)) Q := by
  cases f with
  | ok y => exact ⟨y.1, y.2, rfl, h⟩
  | exc k => exact h.elim
  | stuck => exact h.elim
theorem OkL.bindL {f : Res (List R × DEnv)} {g : List R × DEnv → Res (List R × DEnv)} {Q : List V → Hp → Prop} (h : OkL c O δ σ H (f.bind g) Q) : ∃ rs δ1, f = .ok (rs, δ1) ∧ OkL c O δ σ H (g (rs, δ1)) Q := by
  cases f with
  | ok y => exact ⟨y.1, y.2, rfl, h⟩
  | exc k => exact h.elim
  | stuck => exact h.elim
theorem OkB.bind {f : Res (R × DEnv)} {g : R × DEnv → Res (Bool × DEnv)} {Q : Bool → Hp → Prop} (h : OkB c O δ σ H (f.bind g) Q) : ∃ r δ1, f = .ok (r, δ1) ∧ OkB c O δ σ H (g (r, δ1)) Q := by
  cases f with
  | ok y => exact ⟨y.1, y.2, rfl, h⟩
  | exc k => exact h.elim
  | stuck => exact h.elim
theorem OkB.bindB {f : Res (Bool × DEnv)} {g : Bool × DEnv → Res (Bool × DEnv)} {Q : Bool → Hp → Prop} (h : OkB c O δ σ H (f.bind g) Q) : ∃ b δ1, f = .ok (b, δ1) ∧ OkB c O δ σ H (g (b, δ1)) Q := by
  cases f with
  | ok y => exact ⟨y.1, y.2, rfl, h⟩
  | exc k => exact h.elim
  | stuck => exact h.elim
theorem OkB.bindLB {f : Res (List R × DEnv)} {g : List R × DEnv → Res (Bool × DEnv)} {Q : Bool → Hp → Prop} (h : OkB c O δ σ H (f.bind g) Q) : ∃ rs δ1, f = .ok (rs, δ1) ∧ OkB c O δ σ H (g (rs, δ1)) Q := by
  cases f with
  | ok y => exact ⟨y.1, y.2, rfl, h⟩
  | exc k => exact h.elim
  | stuck => exact h.elim
/-- .. over an earlier base -/
theorem OkE.over {z : Res (R × DEnv)} {Q : VK} (t : Tr O δ σ H O1 δ1 H1) (h : OkE c O δ σ H z Q) : OkE c O1 δ1 σ H1 z Q := by
  cases z with
  | ok y => exact fun v H2 p => h v H2 (p.over t)
  | exc k => exact h.elim
  | stuck => exact h.elim
theorem OkB.over {z : Res (Bool × DEnv)} {Q : Bool → Hp → Prop} (t : Tr O δ σ H O1 δ1 H1) (h : OkB c O δ σ H z Q) : OkB c O1 δ1 σ H1 z Q := by
  cases z with
  | ok y => exact fun H2 p => h H2 (p.over t)
  | exc k => exact h.elim
  | stuck => exact h.elim
theorem OkL.over {z : Res (List R × DEnv)} {Q : List V → Hp → Prop} (t : Tr O δ σ H O1 δ1 H1) (h : OkL c O δ σ H z Q) : OkL c O1 δ1 σ H1 z Q := by
  cases z with
  | ok y => exact fun vs H2 p => h vs H2 (p.over t)
  | exc k => exact h.elim
  | stuck => exact h.elim
theorem tstR_ok {b : Bool} (h : tstR δ r = .ok (b, δ1)) : resR δ r = some (.bl b) ∧ δ1 = δ := by
  unfold tstR at h
  split at h
  · rename_i b' e; cases h; exact ⟨e, rfl⟩
  · cases h
theorem rd0_bl {K : PySem.W.Frag} {A : Addr → Prop} {b : Bool} (h : Rd0 K H A (.bl b) v) : v = .bl b := h
end

def notStar : Expr → Bool
  | .Starred _ _ => false
  | .Set _ _ _ => false
  | .Slice _ _ _ _ => false
  | _ => true
theorem mark_of {e : Expr} {op : CmpOp} (h : notStar e = true) : behindInMarks op e = false := by
  cases e <;> first | rfl | cases h
theorem fold_of {e : Expr} {env : Env} {x : Value} (h : notStar e = true) : foldedSetIterable e env x = pure x := by
  cases e <;> first | rfl | cases h
theorem ix_of {e : Expr} (h : notStar e = true) : PlainIx e := by
  intro o i
  cases e <;> first | rfl | cases h
def testable : Expr → Bool
  | .IfExp _ _ _ _ => false
  | _ => true
theorem star_of {e : Expr} {es : List Expr} {env : Env} (h : notStar e = true) : starEach (e :: es) env = (false, eval e env) :: starEach es env := by
  cases e <;> first | rfl | cases h

structure DE (X : Cx) (c : Cfg) (e : Expr) (f : DEnv → Res (R × DEnv)) : Prop where
  pe : PE X e (tD c f)
  pt : testable e = true → PT X e (tDB c (tstE f))
  st : notStar e = true
structure DL (X : Cx) (c : Cfg) (es : List Expr) (f : DEnv → Res (List R × DEnv)) : Prop where
  pa : PA X es (tDL c f)
  st : es.all notStar = true
  ln : ∀ δ rs δ', f δ = .ok (rs, δ') → rs.length = es.length

section
variable {X : Cx} {c : Cfg} {e : Expr} {f : DEnv → Res (R × DEnv)}
theorem OkB.val {O : Addr → Prop} {δ : DEnv} {σ : L2.St} {H : Hp} {Q : Bool → Hp → Prop} (h : OkB c O δ σ H (tstE f δ) Q) : OkE c O δ σ H (f δ) fun v H1 => ∃ b, v = .bl b ∧ Q b H1 := by
  obtain ⟨r, δ1, e1, h⟩ := OkB.bind h
  rw [e1]
  intro v H1 p
  dsimp only at h
  cases e2 : tstR δ1 r with
  | ok y =>
    rw [e2] at h
    obtain ⟨b, δ'⟩ := y
    obtain ⟨e3, rfl⟩ := tstR_ok e2
    obtain ⟨O1, t, E1, q⟩ := id p
    exact ⟨b, rd0_bl (q.rd0 E1 e3), h H1 p.b⟩
  | exc k => rw [e2] at h; exact h.elim
  | stuck => rw [e2] at h; exact h.elim
/-- an expression whose test is its value's truth -/
theorem DE.of (pe : PE X e (tD c f)) (st : notStar e = true := by rfl) (he : ∀ whole, isTrue e X.env whole = (do let v ← whole; standAt e.pos; holding [v] (truthy v)) := by intro _; rfl) : DE X c e f :=
  ⟨pe, fun _ => (pt_val pe he).imp fun σ H Q ⟨O, δ, E, h⟩ => ⟨O, δ, E, h.val⟩, st⟩
theorem de_none {j pos} : DE X c (.Constant .none j pos) (fun δ => .ok (.d .non, δ)) :=
  .of (pe_non.imp fun σ H Q ⟨O, δ, E, h⟩ => h _ _ (.data E (by simp [Rep])))
theorem de_bl {b j pos} : DE X c (.Constant (.bool b) j pos) (fun δ => .ok (.d (.bl b), δ)) :=
  .of (pe_bl.imp fun σ H Q ⟨O, δ, E, h⟩ => h _ _ (.data E (by simp [Rep])))
theorem de_int {i j pos} : DE X c (.Constant (.int i) j pos) (fun δ => .ok (.d (.int i), δ)) :=
  .of (pe_int.imp fun σ H Q ⟨O, δ, E, h⟩ => h _ _ (.data E (by simp [Rep])))
theorem de_str {x j pos} : DE X c (.Constant (.str x) j pos) (fun δ => .ok (.d (.str x), δ)) :=
  .of (pe_str.imp fun σ H Q ⟨O, δ, E, h⟩ => h _ _ (.data E (by simp [Rep])))
def evVar (i : Nat) (δ : DEnv) : Res (R × DEnv) := match δ[i]? with
  | some (some (.p d)) => .ok (.d d, δ)
  | some (some _) => .ok (.h i, δ)
  | _ => .stuck
theorem de_var {i : Nat} {x : Str} {pos : Pos} (hN : X.N[i]? = some x) (hv : Vis X.env.scope x) (hK : X.K = c.K) (hd : (x == ("__debug__" : Str)) = false) (hcd : (x == ("__classdict__" : Str)) = false) : DE X c (.Name x pos) (evVar i) := by
  refine .of ((pe_var hN hv hd hcd).imp fun σ H Q ⟨O, δ, E, h⟩ => ?_)
  unfold evVar at h
  have own : ∀ s a, δ[i]? = some (some s) → σ[i]? = some (some (V.ref a)) → RR c.K H O δ σ H (.h i) (.ref a) := fun s a e1 e2 => ⟨e2, s, e1⟩
  cases e : δ[i]? with
  | none => rw [e] at h; exact h.elim
  | some s =>
    rw [e] at h
    cases s with
    | none => exact h.elim
    | some s =>
      have z := E.sl i s e
      cases s with
      | p d => obtain ⟨v, e1, r⟩ := z; exact ⟨v, e1, h v H (.data E r)⟩
      | m l d => obtain ⟨a, e1, _⟩ := z; exact ⟨_, e1, h _ H ⟨O, Tr.refl, E, own _ a e e1⟩⟩
      | io l d => obtain ⟨a, e1, _⟩ := z; exact ⟨_, e1, h _ H ⟨O, Tr.refl, E, own _ a e e1⟩⟩

theorem dl_nil : DL X c [] (fun δ => .ok ([], δ)) := ⟨pa_nil.imp fun σ H Q ⟨O, δ, E, h⟩ => h _ _ ⟨O, Tr.refl, E, rfl⟩, rfl, fun δ rs δ' e => by cases e; rfl⟩
theorem dl_cons {es : List Expr} {g : DEnv → Res (List R × DEnv)} (h1 : DE X c e f) (h2 : DL X c es g) : DL X c (e :: es) (fun δ => (f δ).bind fun z => (g z.2).bind fun y => .ok (z.1 :: y.1, y.2)) := by
  refine ⟨(pa_cons h1.pe h2.pa (star_of h1.st)).imp fun σ H Q ⟨O, δ, E, h⟩ => ?_, by simp [h1.st, h2.st], fun δ rs δ' e => ?_⟩
  rotate_left
  · cases e1 : f δ with
    | ok y =>
      rw [e1] at e
      simp only [bind_ok] at e
      cases e2 : g y.2 with
      | ok w => rw [e2] at e; simp only [bind_ok] at e; cases e; simp [h2.ln _ w.1 w.2 e2]
      | exc k => rw [e2] at e; cases e
      | stuck => rw [e2] at e; cases e
    | exc k => rw [e1] at e; cases e
    | stuck => rw [e1] at e; cases e
  obtain ⟨r, δ1, e1, h⟩ := OkL.bind h
  refine tD_bind E ⟨r, δ1, e1, fun v H1 p => ?_⟩
  obtain ⟨O1, t1, E1, q1⟩ := p
  refine ⟨O1, δ1, E1, ?_⟩
  dsimp only at h
  obtain ⟨rs, δ2, e2, h⟩ := OkL.bindL h
  rw [e2]
  intro vs H2 ⟨O2, t2, E2, q2⟩
  refine h (v :: vs) H2 ⟨O2, t1.trans t2, E2, v, vs, rfl, ?_, q2.base fun a z => t1.none z⟩
  exact q1.tr E t1 t2
end
end Ev
/-! EvE: the built-in operations -/
namespace Ev
open PySem PySem.Spec PyProof.Rows L2

/-- a built-in operation's result -/
def PrimR (K : PySem.W.Frag) (A : Addr → Prop) (H H' : Hp) : PR → V → Prop
  | .sc d, v => Rep K H' A d v
  | .new d, v => ∃ a, v = .ref a ∧ H a = none ∧ OwnAt K H' (fun x => A x ∨ x = a) a d
def PrimQ (K : PySem.W.Frag) (A : Addr → Prop) (H : Hp) (z : PR) (Q : VK) : Prop := ∀ v H', Same H H' → PrimR K A H H' z v → Q v H'
def Trk (A : Addr → Prop) (H : Hp) : Prop := ∀ a, A a → ∃ o, H a = some o
def P2 (K : PySem.W.Frag) (p : Pr) (r : R2) : Prop := ∀ (A : Addr → Prop) (d e : D) (z : PR) (x y : V) (H : Hp) (Q : VK), pev p [d, e] = some z → Rd0 K H A d x → Rd0 K H A e y → Trk A H → PrimQ K A H z Q → r x y H Q
def P1 (K : PySem.W.Frag) (p : Pr) (r : V → Hp → VK → Prop) : Prop := ∀ (A : Addr → Prop) (d : D) (z : PR) (x : V) (H : Hp) (Q : VK), pev p [d] = some z → Rd0 K H A d x → Trk A H → PrimQ K A H z Q → r x H Q
def PL (K : PySem.W.Frag) (p : Pr) (r : List V → Hp → VK → Prop) : Prop := ∀ (A : Addr → Prop) (ds : List D) (z : PR) (xs : List V) (H : Hp) (Q : VK), pev p ds = some z → Rd0L K H A ds xs → Trk A H → PrimQ K A H z Q → r xs H Q

theorem capLe {n : Nat} (h : n ≤ cap) : n ≤ sizeLine := by rw [sizeLine_eq]; exact Nat.le_trans h (by decide)
section
variable {K : PySem.W.Frag} {A : Addr → Prop} {H H' : Hp} {Q : VK} {z : PR} {a : Addr}
theorem same_upd {o : HO} (h : H a = none) : Same H (upd H a o) := fun b x e => by
  rw [upd_ne (ne_of_none e h)]; exact e
theorem PrimQ.sc {d : D} {v : V} (q : PrimQ K A H (.sc d) Q) (h : Rep K H A d v) : Q v H := q v H (Same.refl H) h
theorem Rep.laid {o : HO} {d : D} {v : V} (n : H a = none) (h : Rep K H A d v) : Rep K (upd H a o) (fun x => A x ∨ x = a) d v :=
  h.tr fun b x nb e => ⟨same_upd n b x e, fun z => z.elim nb fun e2 => by rw [e2, n] at e; cases e⟩
theorem RepL.laid {o : HO} {ds : List D} {vs : List V} (n : H a = none) (h : RepL K H A ds vs) : RepL K (upd H a o) (fun x => A x ∨ x = a) ds vs :=
  h.tr fun b x nb e => ⟨same_upd n b x e, fun z => z.elim nb fun e2 => by rw [e2, n] at e; cases e⟩
theorem PrimQ.list {ds : List D} {vs : List V} (q : PrimQ K A H (.new (.lst ds)) Q) (h : RepL K H A ds vs) (n : H a = none) : Q (.ref a) (upd H a (.lst vs)) :=
  q _ _ (same_upd n) ⟨a, rfl, n, vs, upd_same, h.laid n⟩
theorem RepL.sub (m : ∀ x, A x → A x) {ds : List D} {vs : List V} (h : RepL K H A ds vs) : RepL K H A ds vs := h
theorem PrimQ.tup {ds : List D} {vs : List V} (q : PrimQ K A H (.sc (.tup ds)) Q) (t : Trk A H) (h : RepL K H A ds vs) (n : H a = none) : Q (.ref a) (upd H a (.tup vs)) := by
  refine q _ _ (same_upd n) ?_
  show Rep K _ A (.tup ds) _
  simp only [Rep]
  refine ⟨a, vs, rfl, ⟨fun z => ?_, upd_same⟩, h.tr fun b x nb e => ⟨same_upd n b x e, nb⟩⟩
  obtain ⟨o, e⟩ := t a z
  rw [n] at e; cases e
theorem rd0_tup {ds : List D} {v : V} (h : Rd0 K H A (.tup ds) v) : ∃ a vs, v = .ref a ∧ (¬ A a ∧ H a = some (.tup vs)) ∧ RepL K H A ds vs := by
  have h : Rep K H A (.tup ds) v := h
  simp only [Rep] at h
  exact h
/-- a tuple or list -/
theorem rd0_seq {d : D} {xs : List D} {v : V} (e : seqOf d = some xs) (h : Rd0 K H A d v) : ∃ a vs, v = .ref a ∧ (SqL K H a vs ∨ SqT K H a vs) ∧ RepL K H A xs vs := by
  cases d with
  | tup ds => cases e; obtain ⟨a, vs, e, q, r⟩ := rd0_tup h; exact ⟨a, vs, e, .inr (SqT.of q.2), r⟩
  | lst ds => cases e; obtain ⟨a, vs, e, q, r⟩ := h; exact ⟨a, vs, e, .inl q, r⟩
  | non => cases e
  | bl => cases e
  | int => cases e
  | str => cases e
  | dct => cases e
theorem repL_ints : ∀ {xs : List D} {ns : List Int} {vs : List V}, intsD xs = some ns → RepL K H A xs vs → vs = ns.map V.int
  | [], ns, vs, e, h => by simp only [intsD] at e; cases e; simpa [RepL] using h
  | x :: xs, ns, vs, e, h => by
    simp only [RepL] at h
    obtain ⟨v, vs', rfl, r, rs⟩ := h
    cases x with
    | int i =>
      simp only [intsD] at e
      cases e2 : intsD xs with
      | none => rw [e2] at e; cases e
      | some l => rw [e2] at e; cases e; rw [repL_ints e2 rs]; simp only [Rep] at r; rw [r]; rfl
    | _ => simp only [intsD] at e; cases e
theorem repL_strs : ∀ {xs : List D} {ns : List Str} {vs : List V}, strsD xs = some ns → RepL K H A xs vs → vs = ns.map V.str
  | [], ns, vs, e, h => by simp only [strsD] at e; cases e; simpa [RepL] using h
  | x :: xs, ns, vs, e, h => by
    simp only [RepL] at h
    obtain ⟨v, vs', rfl, r, rs⟩ := h
    cases x with
    | str i =>
      simp only [strsD] at e
      cases e2 : strsD xs with
      | none => rw [e2] at e; cases e
      | some l => rw [e2] at e; cases e; rw [repL_strs e2 rs]; simp only [Rep] at r; rw [r]; rfl
    | _ => simp only [strsD] at e; cases e
theorem repL_bools : ∀ {xs : List D} {ns : List Bool} {vs : List V}, boolsD xs = some ns → RepL K H A xs vs → vs = ns.map V.bl
  | [], ns, vs, e, h => by simp only [boolsD] at e; cases e; simpa [RepL] using h
  | x :: xs, ns, vs, e, h => by
    simp only [RepL] at h
    obtain ⟨v, vs', rfl, r, rs⟩ := h
    cases x with
    | bl i =>
      simp only [boolsD] at e
      cases e2 : boolsD xs with
      | none => rw [e2] at e; cases e
      | some l => rw [e2] at e; cases e; rw [repL_bools e2 rs]; simp only [Rep] at r; rw [r]; rfl
    | _ => simp only [boolsD] at e; cases e
theorem rep_scal {d : D} {v : V} (s : d.scal = true) (h : Rep K H A d v) : v = toV d := by
  cases d <;> first | (simpa [Rep, toV] using h) | (simp [D.scal] at s)
theorem rd0_scal {d : D} {v : V} (s : d.scal = true) (h : Rd0 K H A d v) : v = toV d := by
  cases d <;> first | (simpa [Rd0, toV] using h) | (simp [D.scal] at s)
theorem repL_scal : ∀ {xs : List D} {vs : List V}, xs.all D.scal = true → RepL K H A xs vs → vs = xs.map toV
  | [], vs, _, h => by simpa [RepL] using h
  | x :: xs, vs, s, h => by
    simp only [RepL] at h
    obtain ⟨v, vs', rfl, r, rs⟩ := h
    simp only [List.all_cons, Bool.and_eq_true] at s
    rw [rep_scal s.1 r, repL_scal s.2 rs]; rfl
theorem flat_toV {d : D} (s : d.scal = true) : flatV (toV d) = true := by
  cases d <;> first | rfl | (simp [D.scal] at s)
theorem flat_toVs {xs : List D} (s : xs.all D.scal = true) : (xs.map toV).all flatV = true := by
  simp only [List.all_map, List.all_eq_true] at s ⊢
  exact fun x hx => flat_toV (s x hx)
/-! data to the library's -/
mutual
theorem rep_py : ∀ {d : D} {y : PyData} {v : V}, toPy d = some y → Rep K H A d v → Dp K H v y
  | .non, y, v, e, h => by simp only [toPy] at e; cases e; simp only [Rep] at h; rw [h]; exact .non
  | .bl b, y, v, e, h => by simp only [toPy] at e; cases e; simp only [Rep] at h; rw [h]; exact .bl b
  | .int b, y, v, e, h => by simp only [toPy] at e; cases e; simp only [Rep] at h; rw [h]; exact .int b
  | .str b, y, v, e, h => by simp only [toPy] at e; cases e; simp only [Rep] at h; rw [h]; exact .str b
  | .tup ds, y, v, e, h => by
    simp only [toPy] at e
    cases e2 : toPyL ds with
    | none => rw [e2] at e; cases e
    | some l =>
      rw [e2] at e; cases e
      simp only [Rep] at h
      obtain ⟨a, vs, rfl, q, r⟩ := h
      exact .tup (SqT.of q.2) (repL_py e2 r)
  | .lst ds, y, v, e, h => by
    simp only [toPy] at e
    cases e2 : toPyL ds with
    | none => rw [e2] at e; cases e
    | some l =>
      rw [e2] at e; cases e
      simp only [Rep] at h
      obtain ⟨a, vs, rfl, q, r⟩ := h
      exact .lst (q.elim (fun z => .inl z.2) .inr) (repL_py e2 r)
  | .dct _ _, y, v, e, h => by simp only [toPy] at e; cases e
theorem repL_py : ∀ {ds : List D} {ys : List PyData} {vs : List V}, toPyL ds = some ys → RepL K H A ds vs → DpAll K H vs ys
  | [], ys, vs, e, h => by simp only [toPyL] at e; cases e; simp only [RepL] at h; rw [h]; exact .nil
  | d :: ds, ys, vs, e, h => by
    simp only [toPyL] at e
    simp only [RepL] at h
    obtain ⟨v, vs', rfl, r, rs⟩ := h
    cases e1 : toPy d with
    | none => rw [e1] at e; cases e
    | some y =>
      rw [e1] at e
      cases e2 : toPyL ds with
      | none => rw [e2] at e; cases e
      | some l => rw [e2] at e; cases e; exact .cons (rep_py e1 r) (repL_py e2 rs)
end
theorem rd0_py {d : D} {y : PyData} {v : V} (e : toPy d = some y) (h : Rd0 K H A d v) : Dp K H v y := by
  cases d with
  | lst ds =>
    simp only [toPy] at e
    cases e2 : toPyL ds with
    | none => rw [e2] at e; cases e
    | some l =>
      rw [e2] at e; cases e
      obtain ⟨a, vs, rfl, q, r⟩ := h
      exact .lst q (repL_py e2 r)
  | dct => simp only [toPy] at e; cases e
  | non => exact rep_py (A := A) e h
  | bl => exact rep_py (A := A) e h
  | int => exact rep_py (A := A) e h
  | str => exact rep_py (A := A) e h
  | tup => exact rep_py (A := A) e h
end

section
variable {X : Cx} {K : PySem.W.Frag}
theorem q_add (l : Addr) (items : Array Value) (n : Nat) (sl : Array (Option Value)) (b : Addr) (items2 : Array Value) (n2 : Nat) (sl2 : Array (Option Value)) (hc0 : items.size + items2.size ≤ sizeLine) :
    Meets (Builtin.«list.__add__» ⟨[.ref l, .ref b], []⟩) (fun _ R s => s.heap.get? l = some { cls := .type "list", dict := none, data := .seq items n, slots := sl } ∧ s.heap.get? b = some { cls := .type "list", dict := none, data := .seq items2 n2, slots := sl2 } ∧ R (.ok (.ret (Value.ref s.heap.objs.size))) { s with heap := s.heap.push { cls := Value.type "list", data := Data.seq (items ++ items2) } }) :=
  .of_wp fun prog w A R s h => by
    obtain ⟨hp, g, d, tk, os⟩ := s
    obtain ⟨hl, hb, h⟩ := h
    have f1 := AutoSeq1.idx_int; have f2 := AutoSeq1.sub_tuple_tuple; have f3 := AutoSeq1.sub_list_list; have f4 := AutoSeq1.sub_tuple_list; have f5 := AutoSeq1.sub_list_tuple
    wp_walk using wpAny_loadPart' hl, wpAny_loadPart' hb
    exact ⟨_, rfl, h⟩
theorem q_mulI (l : Addr) (items : Array Value) (n : Nat) (sl : Array (Option Value)) (x : Int) (t : Tok) (hc0 : ¬(!Builtin.List.listFitsIndex x) = true)
    (hc1 : ¬items.size * x.toNat > (2 ^ 63 - 1) / 8) (hc2 : ¬Builtin.List.listTooLong (items.size * x.toNat) = true) :
    Meets (Builtin.«list.__mul__» ⟨[.ref l, .int x t], []⟩) (fun _ R s => s.heap.get? l = some { cls := .type "list", dict := none, data := .seq items n, slots := sl } ∧ R (.ok (.ret (Value.ref s.heap.objs.size))) { s with heap := s.heap.push { cls := Value.type "list", data := Data.seq (List.foldl (fun x1 x2 => x1 ++ x2) #[] (List.replicate (if items.isEmpty = true then 0 else x.toNat) items)) }, toks := s.toks }) :=
  .of_wp fun prog w A R s h => by
    obtain ⟨hp, g, d, tk, os⟩ := s; obtain ⟨hl, h⟩ := h
    have hsz := AutoListH.joined_fits hc2
    wp_walk; refine wpAny_ite_false (decide_eq_false (Nat.not_lt.mpr hsz)) ?_; wp_walk; exact ⟨_, rfl, h⟩
theorem q_rmulI (a : Int) (t : Tok) (l : Addr) (items : Array Value) (n : Nat) (sl : Array (Option Value)) :
    Meets (Builtin.«int.__rmul__» ⟨[.int a t, .ref l], []⟩) (fun _ R s => s.heap.get? l = some { cls := .type "list", dict := none, data := .seq items n, slots := sl } ∧ R (.ok (.ret Value.notImplemented)) s) :=
  .of_wp fun prog w A R s h => by obtain ⟨hp, g, d, tk, os⟩ := s; obtain ⟨hl, h⟩ := h; wp_walk; exact ⟨_, rfl, h⟩
theorem q_extend (l : Addr) (items : Array Value) (n : Nat) (b : Addr) (items2 : Array Value) (n2 : Nat) (sl2 : Array (Option Value)) (hc0 : ¬(!items.isEmpty && Builtin.List.listTooLong (items.size + items2.size)) = true) (hc1 : items.size ≤ sizeLine) (hs2 : items.size + items2.size ≤ sizeLine + 1) :
    Meets (Builtin.«list.extend» ⟨[.ref l, .ref b], []⟩) (fun _ R s => s.heap.get? l = some { cls := .type "list", dict := none, data := .seq items n, slots := #[] } ∧ s.heap.get? b = some { cls := .type "list", dict := none, data := .seq items2 n2, slots := sl2 } ∧ R (.ok (.ret Value.none)) { s with heap := s.heap.update l (Obj.mapSeq fun x => x ++ items2), toks := s.toks }) :=
  .of_wp fun prog w A R s h => by
    obtain ⟨hp, g, d, tk, os⟩ := s; obtain ⟨hl, hb, h⟩ := h; have f1 := AutoSeq1.idx_int; have f2 := AutoSeq1.sub_tuple_tuple; have f3 := AutoSeq1.sub_list_list; have f4 := AutoSeq1.sub_tuple_list; have f5 := AutoSeq1.sub_list_tuple;
    have hz' : (items ++ items2).size ≤ sizeLine + 1 := by rw [Array.size_append]; exact hs2
    wp_walk using (wpAny_updateSeq hl rfl (hz := hc1) (_hz' := hz')), wpAny_loadPart' hl, wpAny_loadPart' hb; exact ⟨_, rfl, h⟩
theorem plain_at {h : Heap} {a : Addr} {its : Array Value} (p : PlainL h a its) : ∃ n sl, h.get? a = some { cls := .type "list", dict := none, data := .seq its n, slots := sl } := by
  obtain ⟨⟨cl, dc, dt, sl⟩, n, e, rfl, rfl, rfl⟩ := p
  exact ⟨n, sl, e⟩
/-- list + list, wherever they stand -/
def rCatR (K : PySem.W.Frag) : R2 := fun x y H Q => ∃ l b xs zs, x = .ref l ∧ y = .ref b ∧ SqL K H l xs ∧ SqL K H b zs ∧ xs.length + zs.length ≤ sizeLine ∧ ∀ p, H p = none → Q (.ref p) (upd H p (.lst (xs ++ zs)))
theorem op_catR : OpR X (binaryOp .Add) (rCatR X.K) := by
  intro pins s σ H x y v u Q I rx ry h
  obtain ⟨l, b, xs, zs, rfl, rfl, hH, hB, hz, q⟩ := h
  cases rx
  cases ry
  obtain ⟨its, r, p, z⟩ := I.list hH
  obtain ⟨its2, r2, p2, z2⟩ := I.list hB
  obtain ⟨n, sl, e⟩ := plain_at p
  obtain ⟨n2, sl2, e2⟩ := plain_at p2
  have hl := r.length
  have hl2 := r2.length
  refine concat_meets ⟨_, e, rfl⟩ ⟨_, e2, rfl⟩ noFill_list_add seq_list_add F.slot_list_add F.entry_list_add (F.args_list_add_2 _ _) (q_add l its.toArray n sl b its2.toArray n2 sl2 (by rw [List.size_toArray, List.size_toArray]; omega)) ⟨e, e2, ?_⟩
  have ea : its.toArray ++ its2.toArray = (its ++ its2).toArray := by simp
  rw [ea]
  exact ⟨.ref _, _, I.lnew (t' := s.toks) (r.append r2) (by rw [List.length_append]; omega), rfl, q _ I.fresh⟩
def rAddI : R2 := rI0 fun i j => .int (i + j)
def rAddS : R2 := fun x y H Q => ∃ i j, x = .str i ∧ y = .str j ∧ i.length + j.length ≤ sizeLine ∧ Q (.str (i ++ j)) H
def rAddAll (K : PySem.W.Frag) : R2 := fun x y H Q => rAddI x y H Q ∨ rAddS x y H Q ∨ rCatR K x y H Q ∨ rCatA K x y H Q
theorem op_addAll : OpR X (binaryOp .Add) (rAddAll X.K) := op_add.or (op_add_str.or (op_catR.or op_catA))
theorem repL_nil_iff {K : PySem.W.Frag} {H : Hp} {A : Addr → Prop} {vs : List V} (h : RepL K H A [] vs) : vs = [] := by simpa [RepL] using h
theorem p2_add : P2 K .add (rAddAll K) := by
  intro A d e z x y H Q hp hx hy ht q
  cases d with
  | int i =>
    cases e with
    | int j => simp only [pev] at hp; cases hp; exact .inl ⟨i, j, hx, hy, q.sc (by simp [Rep])⟩
    | _ => simp [pev] at hp
  | str i =>
    cases e with
    | str j =>
      simp only [pev] at hp
      split at hp
      · rename_i hc; cases hp; exact .inr (.inl ⟨i, j, hx, hy, capLe hc, q.sc (by simp [Rep])⟩)
      · cases hp
    | _ => simp [pev] at hp
  | lst i =>
    cases e with
    | lst j =>
      simp only [pev] at hp
      split at hp
      · rename_i hc
        cases hp
        obtain ⟨a, vs, rfl, h1, r1⟩ := hx
        obtain ⟨b, us, rfl, h2, r2⟩ := hy
        exact .inr (.inr (.inl ⟨a, b, vs, us, rfl, rfl, h1, h2, by rw [← r1.length, ← r2.length]; exact capLe hc, fun p np => q.list (r1.append r2) np⟩))
      · cases hp
    | _ => simp [pev] at hp
  | tup i =>
    cases e with
    | tup j =>
      simp only [pev] at hp
      split at hp
      · rename_i hc
        cases hp
        have hx' := hx
        have hy' := hy
        obtain ⟨a, vs, rfl, h1, r1⟩ := rd0_tup hx
        obtain ⟨b, us, rfl, h2, r2⟩ := rd0_tup hy
        refine .inr (.inr (.inr ⟨a, b, vs, us, rfl, rfl, SqT.of h1.2, SqT.of h2.2, by rw [← r1.length, ← r2.length]; exact capLe hc, fun e => ?_, fun _ e => ?_, fun _ _ p np => q.tup ht (r1.append r2) np⟩))
        · subst e
          have : i = [] := by have := r1.length; simpa using this
          subst this
          exact q.sc hy'
        · subst e
          have : j = [] := by have := r2.length; simpa using this
          subst this
          refine q.sc ?_
          rw [List.append_nil]
          exact hx'
      · cases hp
    | _ => simp [pev] at hp
  | _ => cases e <;> simp [pev] at hp
theorem p2_sub : P2 K .sub (rI0 fun i j => .int (i - j)) := by
  intro A d e z x y H Q hp hx hy ht q
  cases d <;> cases e <;> simp only [pev] at hp <;> first | cases hp | skip
  exact ⟨_, _, hx, hy, q.sc (by simp [Rep])⟩
/-- list * int, wherever the list stands -/
def rRepR (K : PySem.W.Frag) : R2 := fun x y H Q => ∃ l k xs, x = .ref l ∧ y = .int k ∧ SqL K H l xs ∧ 0 ≤ k ∧ k ≤ cap ∧ xs.length * k.toNat ≤ sizeLine ∧ ∀ p, H p = none → Q (.ref p) (upd H p (.lst (List.replicate k.toNat xs).flatten))
theorem op_repR : OpR X (binaryOp .Mult) (rRepR X.K) := by
  intro pins s σ H x y v u Q I rx ry h
  obtain ⟨l, k, xs, rfl, rfl, hH, h1, h2, hz, q⟩ := h
  cases rx
  obtain ⟨t, rfl⟩ := ry
  obtain ⟨its, r, p, z⟩ := I.list hH
  obtain ⟨n, sl, e⟩ := plain_at p
  have hl := r.length
  have two : (1000000 : Nat) ≤ 2 ^ 62 := by decide
  have k2 : k < 2 ^ 63 := by have : k ≤ 1000000 := h2; omega
  have hcnt : its.toArray.size * k.toNat ≤ sizeLine := by rw [List.size_toArray, ← hl]; exact hz
  have c1 : ¬ its.toArray.size * k.toNat > (2 ^ 63 - 1) / 8 := by have w : (sizeLine : Nat) ≤ (2 ^ 63 - 1) / 8 := by decide
                                                                  omega
  have c2 : ¬ (!Builtin.List.listFitsIndex k) = true := by rw [fitsIndex_both (by omega) k2]; exact Bool.false_ne_true
  have c3 : ¬ Builtin.List.listTooLong (its.toArray.size * k.toNat) = true := by rw [notLongL hcnt]; exact Bool.false_ne_true
  have c4 : ∀ m : Nat, List.foldl (fun x1 x2 => x1 ++ x2) #[] (List.replicate m its.toArray) = (List.replicate m its).flatten.toArray := fun m => by
    have g := foldl_rep its m []; rw [List.nil_append] at g; exact g
  have c5 : List.foldl (fun x1 x2 => x1 ++ x2) #[] (List.replicate (if its.toArray.isEmpty = true then 0 else k.toNat) its.toArray) = (List.replicate k.toNat its).flatten.toArray := by
    rw [c4]; cases its with
    | nil => simp
    | cons a r' => rw [if_neg (by simp)]
  refine wpAny_binaryOp_repeat_ref (T := "list") (U := "int") (by decide) ⟨_, e, rfl⟩ (fun s' => typeIs_int s' k t) noFill_list_mul F.fills_int_mul F.slot_int_rmul repeat_list F.slot_int_index.lookup (call_meets F.slot_int_rmul (typeIs_int s k t) F.entry_int_rmul (F.args_int_rmul_2 _ _) (q_rmulI k t l its.toArray n sl) ⟨e, rfl, ⟨_, e, rfl⟩, call_meets F.slot_list_mul ⟨_, e, rfl⟩ F.entry_list_mul (F.args_list_mul_2 _ _) (q_mulI l its.toArray n sl k t c2 c1 c3) ⟨e, ?_⟩⟩)
  rw [c5]
  exact ⟨.ref _, _, I.lnew (t' := s.toks) (r.rep k.toNat) (by rw [PyProof.Rows.lm_len_rep_flat, Nat.mul_comm]; exact hz), rfl, q _ I.fresh⟩
def rRepT1 (K : PySem.W.Frag) : R2 := fun x y H Q => ∃ l xs, x = .ref l ∧ y = .int 1 ∧ SqT K H l xs ∧ Q (.ref l) H
theorem tuple_mul1 (l : Addr) (items : Array Value) (n : Nat) (dd : Option Addr) (sl : Array (Option Value)) (u : Tok) :
    Meets (Builtin.«tuple.__mul__» ⟨[.ref l, .int 1 u], []⟩) (fun _ R s => s.heap.get? l = some { cls := .type "tuple", dict := dd, data := .seq items n, slots := sl } ∧ R (.ok (.ret (Value.ref l))) s) :=
  .of_wp fun prog w A R s h => by
    obtain ⟨hp, g, d, tk, os⟩ := s
    obtain ⟨hl, h⟩ := h
    have f1 := AutoSeq1.idx_int
    have c1 : (items.isEmpty || ((1 : Int) == 1)) = true := by simp
    wp_walk using wpAny_loadPart' hl
    exact ⟨_, rfl, h⟩
theorem op_repT1 {X : Cx} : OpR X (binaryOp .Mult) (rRepT1 X.K) := by
  intro pins s σ H x y v u Q I rx ry h
  obtain ⟨l, xs, rfl, rfl, hT, q⟩ := h
  cases rx
  obtain ⟨t, rfl⟩ := ry
  obtain ⟨its, r, ⟨⟨cls, dd, data, sl⟩, ho, hc, n, hd⟩, hs⟩ := I.tuple hT
  simp only at hc hd
  subst hc hd
  refine wpAny_binaryOp_repeat_ref (T := "tuple") (U := "int") (by decide) ⟨_, ho, rfl⟩ (fun s' => typeIs_int s' 1 t) noFill_tuple_mul F.fills_int_mul F.slot_int_rmul repeat_tuple F.slot_int_index.lookup
    (call_meets F.slot_int_rmul (typeIs_int s 1 t) F.entry_int_rmul (F.args_int_rmul_2 _ _) (int_rmul_tuple 1 t l its.toArray n dd sl)
      ⟨ho, rfl, ⟨_, ho, rfl⟩, call_meets F.slot_tuple_mul ⟨_, ho, rfl⟩ F.entry_tuple_mul (F.args_tuple_mul_2 _ _) (tuple_mul1 l its.toArray n dd sl t) ⟨ho, ?_⟩⟩)
  exact ⟨.ref l, H, I, rfl, q⟩
/-- text * int -/
def rRepS : R2 := fun x y H Q => ∃ z k, x = .str z ∧ y = .int k ∧ 0 ≤ k ∧ k ≤ 1000 ∧ z.length ≤ 1000 ∧ Q (.str (Txt.mul z k)) H
theorem op_repS {X : Cx} : OpR X (binaryOp .Mult) rRepS := by
  intro pins s σ H x y v u Q I rx ry h
  obtain ⟨z, k, rfl, rfl, h0, h1, hz, q⟩ := h
  obtain ⟨t, rfl⟩ := rx
  obtain ⟨t2, rfl⟩ := ry
  exact PySem.SB.mul (PyProof.Rows.mulOk_of 1000 1000 hz (by omega) (by omega) (by omega) (by omega)) fun t' k' => ⟨.str (Txt.mul z k), H, I.kept (t' := k') fun _ _ e => e, ⟨t', rfl⟩, q⟩
def rMulAll (K : PySem.W.Frag) : R2 := fun x y H Q => rI CMul (fun i j => .int (i * j)) x y H Q ∨ rRepR K x y H Q ∨ rRepT K x y H Q ∨ rRepT1 K x y H Q ∨ rRepS x y H Q
theorem op_mulAll : OpR X (binaryOp .Mult) (rMulAll X.K) := op_mul.or (op_repR.or (op_repT.or (op_repT1.or op_repS)))
theorem p2_mul : P2 K .mul (rMulAll K) := by
  intro A d e z x y H Q hp hx hy ht q
  cases d with
  | int i =>
    cases e with
    | int j =>
      simp only [pev] at hp
      split at hp
      · rename_i hc; cases hp; exact .inl ⟨i, j, hx, hy, by simpa [CMul, pow2] using hc, q.sc (by simp [Rep])⟩
      · cases hp
    | _ => simp [pev] at hp
  | lst i =>
    cases e with
    | int k =>
      simp only [pev] at hp
      split at hp
      · rename_i hc
        cases hp
        obtain ⟨a, vs, rfl, h1, r1⟩ := hx
        exact .inr (.inl ⟨a, k, vs, rfl, hy, h1, hc.1, hc.2.2, by rw [← r1.length]; exact capLe hc.2.1, fun p np => q.list (r1.rep _) np⟩)
      · cases hp
    | _ => simp [pev] at hp
  | tup i =>
    cases e with
    | int k =>
      simp only [pev] at hp
      by_cases hk : k = 1
      · rw [if_pos hk] at hp
        cases hp
        obtain ⟨a, vs, rfl, h1, r1⟩ := rd0_tup hx
        have hy : y = .int k := hy
        subst hk
        exact .inr (.inr (.inr (.inl ⟨a, vs, rfl, hy, SqT.of h1.2, q.sc hx⟩)))
      rw [if_neg hk] at hp
      split at hp
      · rename_i hc
        cases hp
        obtain ⟨a, vs, rfl, h1, r1⟩ := rd0_tup hx
        refine .inr (.inr (.inl ⟨a, k, vs, rfl, hy, SqT.of h1.2, fun z => hc.2.2.2 ?_, hc.1, hc.2.1, by rw [← r1.length]; exact hc.2.2.1, fun p np => q.tup ht (r1.rep _) np⟩))
        subst z
        have := r1.length
        simpa using this
      · cases hp
    | _ => simp [pev] at hp
  | str i =>
    cases e with
    | int k =>
      simp only [pev] at hp
      split at hp
      · rename_i hc
        cases hp
        exact .inr (.inr (.inr (.inr ⟨i, k, hx, hy, hc.1, hc.2.1, hc.2.2, q.sc (by simp [Rep])⟩)))
      · cases hp
    | _ => simp [pev] at hp
  | _ => cases e <;> simp [pev] at hp
theorem p2_mod : P2 K .mod (rI (fun _ j => 0 < j) fun i j => .int (i % j)) := by
  intro A d e z x y H Q hp hx hy ht q
  cases d <;> cases e <;> simp only [pev] at hp <;> first | cases hp | skip
  split at hp
  · rename_i hc; cases hp; exact ⟨_, _, hx, hy, hc, q.sc (by simp [Rep])⟩
  · cases hp
theorem p2_fdiv : P2 K .fdiv (rI CDiv fun i j => .int (i / j)) := by
  intro A d e z x y H Q hp hx hy ht q
  cases d <;> cases e <;> simp only [pev] at hp <;> first | cases hp | skip
  split at hp
  · rename_i hc; cases hp; exact ⟨_, _, hx, hy, hc, q.sc (by simp [Rep])⟩
  · cases hp
theorem p2_pow : P2 K .pow (rI CPow fun i j => .int (i ^ j.toNat)) := by
  intro A d e z x y H Q hp hx hy ht q
  cases d <;> cases e <;> simp only [pev] at hp <;> first | cases hp | skip
  split at hp
  · rename_i hc; cases hp; exact ⟨_, _, hx, hy, ⟨hc.1, by omega, hc.2.2⟩, q.sc (by simp [Rep])⟩
  · cases hp
theorem p1_neg : P1 K .neg (rU fun i => .int (-i)) := by
  intro A d z x H Q hp hx ht q
  cases d <;> simp only [pev] at hp <;> first | cases hp | skip
  exact ⟨_, hx, q.sc (by simp [Rep])⟩
theorem pEq_inv {b : Bool} {d e : D} {z : PR} (h : pEq b d e = some z) : ∃ x y, toPy d = some x ∧ toPy e = some y ∧ SeqAt.shaped x = true ∧ SeqAt.shaped y = true ∧ z = .sc (.bl (if b then !x.eqv y else x.eqv y)) := by
  unfold pEq at h
  cases e1 : toPy d with
  | none => rw [e1] at h; cases h
  | some x =>
    cases e2 : toPy e with
    | none => rw [e1, e2] at h; cases h
    | some y =>
      rw [e1, e2] at h
      dsimp only at h
      split at h
      · rename_i hc
        simp only [Bool.and_eq_true] at hc
        cases h
        exact ⟨x, y, rfl, rfl, hc.1, hc.2, rfl⟩
      · cases h
theorem p2_eq : P2 K .eq (rEqD K) := by
  intro A d e z x y H Q hp hx hy ht q
  have hp : pEq false d e = some z := hp
  obtain ⟨u, w, h1, h2, s1, s2, rfl⟩ := pEq_inv hp
  exact ⟨u, w, rd0_py h1 hx, rd0_py h2 hy, s1, s2, q.sc (by simp [Rep])⟩
theorem p2_ne : P2 K .ne (rNeD K) := by
  intro A d e z x y H Q hp hx hy ht q
  have hp : pEq true d e = some z := hp
  obtain ⟨u, w, h1, h2, s1, s2, rfl⟩ := pEq_inv hp
  exact ⟨u, w, rd0_py h1 hx, rd0_py h2 hy, s1, s2, q.sc (by simp [Rep])⟩
end
end Ev
/-! EvF: more built-in operations -/
namespace Ev
open PySem PySem.Spec PyProof.Rows L2
section
variable {X : Cx} {K : PySem.W.Frag}
def rOrd (f : Int → Int → Bool) (g : Str → Str → Bool) : R2 := fun x y H Q => rI0 (fun i j => .bl (f i j)) x y H Q ∨ ∃ i j, x = .str i ∧ y = .str j ∧ Q (.bl (g i j)) H
theorem p2_ord {p : Pr} {f : Int → Int → Bool} {g : List Nat → List Nat → Bool} (hp : ∀ ds, pev p ds = dLt f g ds) : P2 K p (rOrd f fun i j => g i.cps.toList j.cps.toList) := by
  intro A d e z x y H Q h hx hy ht q
  rw [hp] at h
  cases d with
  | int i => cases e with
    | int j => cases h; exact .inl ⟨i, j, hx, hy, q.sc (by simp [Rep])⟩
    | _ => cases h
  | str i => cases e with
    | str j => cases h; exact .inr ⟨i, j, hx, hy, q.sc (by simp [Rep])⟩
    | _ => cases h
  | _ => cases e <;> cases h
theorem opr_conv {f : Value → Value → Sem Value} {r r' : R2} (h : OpR X f r) (m : ∀ x y H Q, r' x y H Q → r x y H Q) : OpR X f r' := fun pins s σ H x y v u Q I rx ry q => h pins s σ H x y v u Q I rx ry (m _ _ _ _ q)
theorem op_ltA : OpR X (compareOp .Lt) (rOrd (fun i j => decide (i < j)) fun i j => decide (i.cps.toList < j.cps.toList)) := op_lt.or op_lt_str
theorem op_gtA : OpR X (compareOp .Gt) (rOrd (fun i j => decide (j < i)) fun i j => decide (j.cps.toList < i.cps.toList)) := op_gt.or op_gt_str
theorem le_dec (a b : List Nat) : decide (a ≤ b) = !decide (b < a) := by
  by_cases h : b < a
  · have : ¬ a ≤ b := fun z => z h
    simp [h, this]
  · have : a ≤ b := h
    simp [h, this]
theorem op_leA : OpR X (compareOp .LtE) (rOrd (fun i j => decide (i ≤ j)) fun i j => decide (i.cps.toList ≤ j.cps.toList)) := opr_conv (op_le.or op_le_str) fun x y H Q h => h.imp id fun ⟨i, j, e1, e2, q⟩ => ⟨i, j, e1, e2, by dsimp only at q; rw [le_dec] at q; exact q⟩
theorem op_geA : OpR X (compareOp .GtE) (rOrd (fun i j => decide (j ≤ i)) fun i j => decide (j.cps.toList ≤ i.cps.toList)) := opr_conv (op_ge.or op_ge_str) fun x y H Q h => h.imp id fun ⟨i, j, e1, e2, q⟩ => ⟨i, j, e1, e2, by dsimp only at q; rw [le_dec] at q; exact q⟩
theorem rd0_non {A : Addr → Prop} {H : Hp} {d : D} {x : V} (h : Rd0 K H A d x) : decide (x = .non) = d.isNon := by
  cases d with
  | non => have h : x = .non := h; subst h; rfl
  | bl b => have h : x = .bl b := h; subst h; rfl
  | int b => have h : x = .int b := h; subst h; rfl
  | str b => have h : x = .str b := h; subst h; rfl
  | tup ds => obtain ⟨a, vs, rfl, _⟩ := rd0_tup h; rfl
  | lst ds => obtain ⟨a, vs, rfl, _⟩ := h; rfl
  | dct ks ds => obtain ⟨a, vs, rfl, _⟩ := h; rfl
theorem p1_isN : P1 K .isN (fun x H Q => Q (.bl (decide (x = .non))) H) := by
  intro A d z x H Q hp hx ht q
  have hp : some (PR.sc (.bl d.isNon)) = some z := hp
  cases hp
  rw [rd0_non hx]
  exact q.sc (by simp [Rep])
theorem p1_notN : P1 K .notN (fun x H Q => Q (.bl (!decide (x = .non))) H) := by
  intro A d z x H Q hp hx ht q
  have hp : some (PR.sc (.bl (!d.isNon))) = some z := hp
  cases hp
  rw [rd0_non hx]
  exact q.sc (by simp [Rep])
def rInS (neg : Bool) : R2 := fun x y H Q => ∃ (c : Nat) (z : Str), x = .str ⟨#[c]⟩ ∧ y = .str z ∧ Q (.bl (if neg then !decide (c ∈ z.cps.toList) else decide (c ∈ z.cps.toList))) H
def rInX (K : PySem.W.Frag) (neg : Bool) : R2 := fun x y H Q => ∃ d ds, Dp K H x d ∧ (Dp K H y (.list ds) ∨ Dp K H y (.tuple ds)) ∧ SeqAt.shaped d = true ∧ SeqAt.shaped (.list ds) = true ∧ Q (.bl (if neg then !(ds.any fun z => PyData.eqv z d) else ds.any fun z => PyData.eqv z d)) H
theorem op_inX (hu : X.A.units + 65 < cLine) : OpR X (compareOp .In) (rInX X.K false) := by
  intro pins s σ H x y v u Q I rx ry h
  obtain ⟨d, ds, hd, he, sd, se, q⟩ := h
  obtain ⟨as, r1⟩ := Dp.reads I d x v hd rx
  have hl : PyData.canLayAll0 ds = true := SeqAt.canLay_of_shaped se
  rcases he with he | he
  · obtain ⟨bs, r2⟩ := Dp.reads I (.list ds) y u he ry
    exact SeqAt.in_list_reads r2 r1 hl (SeqAt.canLay_of_shaped sd) (room_in_shaped sd hu) ⟨.bl _, H, I, rfl, q⟩
  · obtain ⟨bs, r2⟩ := Dp.reads I (.tuple ds) y u he ry
    exact SeqAt.in_tuple_reads r2 r1 hl (SeqAt.canLay_of_shaped sd) (room_in_shaped sd hu) ⟨.bl _, H, I, rfl, q⟩
theorem op_notInX (hu : X.A.units + 65 < cLine) : OpR X (compareOp .NotIn) (rInX X.K true) := by
  intro pins s σ H x y v u Q I rx ry h
  obtain ⟨d, ds, hd, he, sd, se, q⟩ := h
  obtain ⟨as, r1⟩ := Dp.reads I d x v hd rx
  have hl : PyData.canLayAll0 ds = true := SeqAt.canLay_of_shaped se
  rcases he with he | he
  · obtain ⟨bs, r2⟩ := Dp.reads I (.list ds) y u he ry
    exact SeqAt.notIn_list_reads r2 r1 hl (SeqAt.canLay_of_shaped sd) (room_in_shaped sd hu) ⟨.bl _, H, I, rfl, q⟩
  · obtain ⟨bs, r2⟩ := Dp.reads I (.tuple ds) y u he ry
    exact SeqAt.notIn_tuple_reads r2 r1 hl (SeqAt.canLay_of_shaped sd) (room_in_shaped sd hu) ⟨.bl _, H, I, rfl, q⟩
def rInA (K : PySem.W.Frag) (neg : Bool) : R2 := fun x y H Q => (rInS neg x y H Q ∨ rIn K neg x y H Q) ∨ rInX K neg x y H Q
theorem op_inA (hu : X.A.units + 65 < cLine) : OpR X (compareOp .In) (rInA X.K false) := (op_in_sign.or op_in_seq).or (op_inX hu)
theorem op_notinA (hu : X.A.units + 65 < cLine) : OpR X (compareOp .NotIn) (rInA X.K true) := (op_notIn_sign.or op_notIn_seq).or (op_notInX hu)
theorem str_one {x : Str} (h : x.length = 1) : x = ⟨#[x.cps.getD 0 0]⟩ := by
  obtain ⟨⟨l⟩⟩ := x
  match l, h with
  | [c], _ => rfl
theorem p2_in (neg : Bool) {p : Pr} (hpv : ∀ d e, pev p [d, e] = pIn neg d e) : P2 K p (rInA K neg) := by
  intro A d e z x y H Q hp hx hy ht q
  rw [hpv] at hp
  have seq : ∀ ys, seqOf e = some ys → (if d.scal && ys.all D.scal then some (PR.sc (.bl (if neg then !inV (toV d) (ys.map toV) else inV (toV d) (ys.map toV)))) else match toPy d, toPyL ys with
      | some d, some ds => if SeqAt.shaped d && SeqAt.shaped (.list ds) then some (.sc (.bl (if neg then !(ds.any fun z => z.eqv d) else ds.any fun z => z.eqv d))) else none
      | _, _ => none) = some z → rInA K neg x y H Q := fun ys he h => by
    split at h
    · rename_i hc
      simp only [Bool.and_eq_true] at hc
      cases h
      obtain ⟨a, vs, rfl, h1, r1⟩ := rd0_seq he hy
      have e1 := rd0_scal hc.1 hx
      have e2 := repL_scal hc.2 r1
      subst e1 e2
      exact .inl (.inr ⟨a, _, rfl, h1, flat_toV hc.1, flat_toVs hc.2, q.sc (by simp [Rep])⟩)
    · cases e1 : toPy d with
      | none => rw [e1] at h; cases h
      | some pd =>
        cases e2 : toPyL ys with
        | none => rw [e1, e2] at h; cases h
        | some pds =>
          rw [e1, e2] at h
          dsimp only at h
          split at h
          case isFalse => cases h
          rename_i hc
          simp only [Bool.and_eq_true] at hc
          cases h
          obtain ⟨a, vs, rfl, h1, r1⟩ := rd0_seq he hy
          exact .inr ⟨pd, pds, rd0_py e1 hx, h1.imp (fun g => .lst g (repL_py e2 r1)) (fun g => .tup g (repL_py e2 r1)), hc.1, hc.2, q.sc (by simp [Rep])⟩
  unfold pIn at hp
  split at hp
  · rename_i a b
    split at hp
    · rename_i hc
      cases hp
      refine .inl (.inl ⟨a.cps.getD 0 0, b, ?_, hy, q.sc (by simp [Rep])⟩)
      have : x = .str a := hx
      rw [this]; exact congrArg V.str (str_one hc)
    · cases hp
  · cases he : seqOf e with
    | none => rw [he] at hp; cases hp
    | some ys => rw [he] at hp; exact seq ys he hp
theorem repL_at {A : Addr → Prop} {H : Hp} {ds : List D} {vs : List V} {i : Int} {d : D} (r : RepL K H A ds vs) (h : atI ds i = some d) : ∃ v, atI vs i = some v ∧ Rep K H A d v := by
  unfold atI at h ⊢
  rw [← r.length]
  cases e : ixN ds.length i with
  | none => rw [e] at h; cases h
  | some j =>
    rw [e] at h
    exact r.get (show ds[j]? = some d from h)
theorem p2_idx : P2 K .idx (rIx K) := by
  intro A d e z x y H Q hp hx hy ht q
  have seq : ∀ xs i, seqOf d = some xs → e = .int i → (match atI xs i with | some x => some (PR.sc x) | none => none) = some z → rIx K x y H Q := fun xs i he e1 h => by
    subst e1
    cases e2 : atI xs i with
    | none => rw [e2] at h; cases h
    | some w =>
      rw [e2] at h; cases h
      obtain ⟨a, vs, rfl, h1, r1⟩ := rd0_seq he hx
      obtain ⟨v, h2, r2⟩ := repL_at r1 e2
      rcases h1 with h1 | h1
      · exact .inl ⟨a, vs, i, v, rfl, hy, h1, h2, q.sc r2⟩
      · exact .inr (.inl ⟨a, vs, i, v, rfl, hy, h1, h2, q.sc r2⟩)
  cases e with
  | int i =>
    cases d with
    | str s =>
      simp only [pev] at hp
      cases e2 : atI s.cps.toList i with
      | none => rw [e2] at hp; cases hp
      | some c =>
        rw [e2] at hp
        dsimp only at hp
        split at hp
        · rename_i hc
          cases hp
          exact .inr (.inr ⟨s, i, c, hx, hy, capLe hc, e2, q.sc (by simp [Rep, chr])⟩)
        · cases hp
    | tup xs => exact seq xs i rfl rfl hp
    | lst xs => exact seq xs i rfl rfl hp
    | _ => cases hp
  | _ => cases d <;> cases hp
def rLenA (K : PySem.W.Frag) : List V → Hp → VK → Prop := fun xs H Q => ∃ x n, xs = [x] ∧ LenV K x H n ∧ Q (.int n) H
theorem rd0L_one {A : Addr → Prop} {H : Hp} {d : D} {vs : List V} (h : Rd0L K H A [d] vs) : ∃ v, vs = [v] ∧ Rd0 K H A d v := by
  obtain ⟨v, vs', e, r, rs⟩ := h
  have rs : vs' = [] := rs
  subst rs
  exact ⟨v, e, r⟩
theorem rd0L_two {A : Addr → Prop} {H : Hp} {d e : D} {vs : List V} (h : Rd0L K H A [d, e] vs) : ∃ v u, vs = [v, u] ∧ Rd0 K H A d v ∧ Rd0 K H A e u := by
  obtain ⟨v, vs', e1, r, rs⟩ := h
  obtain ⟨u, e2, r2⟩ := rd0L_one rs
  subst e2
  exact ⟨v, u, e1, r, r2⟩
theorem rd0L_len {A : Addr → Prop} {H : Hp} : ∀ {ds : List D} {vs : List V}, Rd0L K H A ds vs → ds.length = vs.length
  | [], vs, h => by have h : vs = [] := h; rw [h]; rfl
  | d :: ds, vs, ⟨v, vs', e, _, rs⟩ => by rw [e, List.length_cons, List.length_cons, rd0L_len rs]
theorem pl_len : PL K .len (rLenA K) := by
  intro A ds z xs H Q hp hx ht q
  match ds, hx, hp with
  | [d], hx, hp =>
    obtain ⟨v, rfl, r⟩ := rd0L_one hx
    have seq : ∀ ys, seqOf d = some ys → some (PR.sc (.int ys.length)) = some z → rLenA K [v] H Q := fun ys he h => by
      cases h
      obtain ⟨a, vs, rfl, h1, r1⟩ := rd0_seq he r
      refine ⟨_, ys.length, rfl, ?_, q.sc (by simp [Rep])⟩
      rcases h1 with h1 | h1
      · exact .inl ⟨vs, h1, r1.length⟩
      · exact .inr ⟨vs, h1, r1.length⟩
    cases d with
    | str s =>
      simp only [pev] at hp
      split at hp
      · rename_i hc
        cases hp
        have r : v = .str s := r
        subst r
        exact ⟨_, s.length, rfl, ⟨capLe hc, rfl⟩, q.sc (by simp [Rep])⟩
      · cases hp
    | tup ys => exact seq ys rfl hp
    | lst ys => exact seq ys rfl hp
    | _ => cases hp
  | [], hx, hp => cases hp
  | _ :: _ :: _, hx, hp => simp [pev] at hp
def rTupA (K : PySem.W.Frag) : List V → Hp → VK → Prop := fun xs H Q => ∃ p ys, xs = [.ref p] ∧ ((SqL K H p ys ∧ ∀ l, H l = none → Q (.ref l) (upd H l (.tup ys))) ∨ (SqT K H p ys ∧ Q (.ref p) H))
theorem pl_tuple : PL K .tuple (rTupA K) := by
  intro A ds z xs H Q hp hx ht q
  match ds, hx, hp with
  | [d], hx, hp =>
    obtain ⟨v, rfl, r⟩ := rd0L_one hx
    cases d with
    | tup ys =>
      cases hp
      obtain ⟨a, vs, rfl, h1, r1⟩ := rd0_tup r
      exact ⟨a, vs, rfl, .inr ⟨SqT.of h1.2, q.sc r⟩⟩
    | lst ys =>
      cases hp
      obtain ⟨a, vs, rfl, h1, r1⟩ := r
      exact ⟨a, vs, rfl, .inl ⟨h1, fun l hl => q.tup ht r1 hl⟩⟩
    | _ => cases hp
  | [], hx, hp => cases hp
  | _ :: _ :: _, hx, hp => simp [pev] at hp
def rListA (K : PySem.W.Frag) : List V → Hp → VK → Prop := fun xs H Q => ∃ p ys, xs = [.ref p] ∧ (SqL K H p ys ∨ SqT K H p ys) ∧ ∀ l, H l = none → Q (.ref l) (upd H l (.lst ys))
theorem pl_sum : PL K .sum (rSum K) := by
  intro A ds z xs H Q hp hx ht q
  match ds, hx, hp with
  | [.lst ys], hx, hp =>
    obtain ⟨v, rfl, a, vs, rfl, h1, r1⟩ := rd0L_one hx
    simp only [pev] at hp
    cases e : intsD ys with
    | none => rw [e] at hp; cases hp
    | some ns =>
      rw [e] at hp; cases hp
      have := repL_ints e r1
      subst this
      exact ⟨a, ns, rfl, h1, q.sc (by simp [Rep])⟩
  | [.non], hx, hp | [.bl _], hx, hp | [.int _], hx, hp | [.str _], hx, hp | [.tup _], hx, hp | [.dct _ _], hx, hp => cases hp
  | [], hx, hp => cases hp
  | _ :: _ :: _, hx, hp => simp [pev] at hp
theorem pl_all : PL K .all (rAll K) := by
  intro A ds z xs H Q hp hx ht q
  match ds, hx, hp with
  | [.lst ys], hx, hp =>
    obtain ⟨v, rfl, a, vs, rfl, h1, r1⟩ := rd0L_one hx
    simp only [pev] at hp
    cases e : boolsD ys with
    | none => rw [e] at hp; cases hp
    | some ns =>
      rw [e] at hp; cases hp
      have := repL_bools e r1
      subst this
      exact ⟨a, ns, rfl, h1, q.sc (by simp [Rep])⟩
  | [.non], hx, hp | [.bl _], hx, hp | [.int _], hx, hp | [.str _], hx, hp | [.tup _], hx, hp | [.dct _ _], hx, hp => cases hp
  | [], hx, hp => cases hp
  | _ :: _ :: _, hx, hp => simp [pev] at hp
theorem pl_any : PL K .any (rAny K) := by
  intro A ds z xs H Q hp hx ht q
  match ds, hx, hp with
  | [.lst ys], hx, hp =>
    obtain ⟨v, rfl, a, vs, rfl, h1, r1⟩ := rd0L_one hx
    simp only [pev] at hp
    cases e : boolsD ys with
    | none => rw [e] at hp; cases hp
    | some ns =>
      rw [e] at hp; cases hp
      have := repL_bools e r1
      subst this
      exact ⟨a, ns, rfl, h1, q.sc (by simp [Rep])⟩
  | [.non], hx, hp | [.bl _], hx, hp | [.int _], hx, hp | [.str _], hx, hp | [.tup _], hx, hp | [.dct _ _], hx, hp => cases hp
  | [], hx, hp => cases hp
  | _ :: _ :: _, hx, hp => simp [pev] at hp
def rIntA : List V → Hp → VK → Prop := fun xs H Q => (∃ i, xs = [.int i] ∧ Q (.int i) H) ∨ ∃ k, xs = [.bl k] ∧ Q (.int (if k then 1 else 0)) H
theorem pl_int : PL K .int rIntA := by
  intro A ds z xs H Q hp hx ht q
  match ds, hx, hp with
  | [.int i], hx, hp => obtain ⟨v, rfl, r⟩ := rd0L_one hx; cases hp; have r : v = .int i := r; subst r; exact .inl ⟨i, rfl, q.sc (by simp [Rep])⟩
  | [.bl i], hx, hp => obtain ⟨v, rfl, r⟩ := rd0L_one hx; cases hp; have r : v = .bl i := r; subst r; exact .inr ⟨i, rfl, q.sc (by simp [Rep])⟩
  | [.non], hx, hp | [.str _], hx, hp | [.lst _], hx, hp | [.tup _], hx, hp | [.dct _ _], hx, hp => cases hp
  | [], hx, hp => cases hp
  | _ :: _ :: _, hx, hp => simp [pev] at hp
def rStrA : List V → Hp → VK → Prop := fun xs H Q => ∃ i, xs = [.int i] ∧ i.natAbs.log2 < 1920 ∧ Q (.str (toString i)) H
theorem pl_str : PL K .str rStrA := by
  intro A ds z xs H Q hp hx ht q
  match ds, hx, hp with
  | [.int i], hx, hp =>
    obtain ⟨v, rfl, r⟩ := rd0L_one hx
    have r : v = .int i := r
    subst r
    simp only [pev] at hp
    split at hp
    · rename_i hc; cases hp; exact ⟨i, rfl, hc, q.sc (by simp [Rep])⟩
    · cases hp
  | [.bl _], hx, hp | [.non], hx, hp | [.str _], hx, hp | [.lst _], hx, hp | [.tup _], hx, hp | [.dct _ _], hx, hp => cases hp
  | [], hx, hp => cases hp
  | _ :: _ :: _, hx, hp => simp [pev] at hp
def rAbsA : List V → Hp → VK → Prop := fun xs H Q => ∃ i, xs = [.int i] ∧ Q (.int (if i < 0 then -i else i)) H
theorem pl_abs : PL K .abs rAbsA := by
  intro A ds z xs H Q hp hx ht q
  match ds, hx, hp with
  | [.int i], hx, hp => obtain ⟨v, rfl, r⟩ := rd0L_one hx; have r : v = .int i := r; subst r; cases hp; exact ⟨i, rfl, q.sc (by simp [Rep])⟩
  | [.bl _], hx, hp | [.non], hx, hp | [.str _], hx, hp | [.lst _], hx, hp | [.tup _], hx, hp | [.dct _ _], hx, hp => cases hp
  | [], hx, hp => cases hp
  | _ :: _ :: _, hx, hp => simp [pev] at hp
def rMaxA : List V → Hp → VK → Prop := fun xs H Q => ∃ i j, xs = [.int i, .int j] ∧ Q (.int (if j > i then j else i)) H
def rMinA : List V → Hp → VK → Prop := fun xs H Q => ∃ i j, xs = [.int i, .int j] ∧ Q (.int (if j < i then j else i)) H
theorem pl_min : PL K .min rMinA := by
  intro A ds z xs H Q hp hx ht q
  match ds, hx, hp with
  | [d, e], hx, hp =>
    obtain ⟨v, u, rfl, r1, r2⟩ := rd0L_two hx
    cases d <;> cases e <;> simp only [pev] at hp <;> first | cases hp | skip
    have r1 : v = _ := r1
    have r2 : u = _ := r2
    subst r1 r2
    exact ⟨_, _, rfl, q.sc (by simp [Rep])⟩
  | [], hx, hp => cases hp
  | [_], hx, hp => simp [pev] at hp
  | _ :: _ :: _ :: _, hx, hp => simp [pev] at hp
end
end Ev
/-! EvG: rules for the forms of expressions -/
namespace Ev
open PySem PySem.Spec PyProof.Rows L2
section
variable {c : Cfg} {O O1 O2 O' : Addr → Prop} {δ δ1 δ2 : DEnv} {σ : L2.St} {H H1 H2 H' : Hp} {r : R} {rs : List R} {v : V} {vs : List V}
theorem ER.grow (E : ER c O δ σ H) (s : Same H H') (sub : ∀ a, O a → O' a) (new : ∀ a, O' a → O a ∨ (H a = none ∧ ∃ o, H' a = some o)) : ER c O' δ σ H' := by
  have k : ∀ a o, ¬ All O δ σ a → H a = some o → H' a = some o ∧ ¬ All O' δ σ a := fun a o n e => ⟨s a o e, fun z => by
    rcases z with z | z
    · rcases new a z with z | z
      · exact n (.inl z)
      · rw [e] at z; cases z.1
    · exact n (.inr z)⟩
  refine ⟨E.len, fun a h => ?_, fun a h => sub a (E.sub a h), E.io, E.tr0, fun i z e => ?_, E.inj, fun a o n e => s a o (E.keep a o n e)⟩
  · rcases new a h with h | h
    · obtain ⟨o, e⟩ := E.tr a h; exact ⟨o, s a o e⟩
    · exact h.2
  · have q := E.sl i z e
    cases z with
    | p d => obtain ⟨v, e1, r⟩ := q; exact ⟨v, e1, r.tr k⟩
    | m l d =>
      obtain ⟨a, e1, n, n0, r⟩ := q
      refine ⟨a, e1, fun z => ?_, n0, r.tr k fun o ho => s a o ho⟩
      rcases new a z with z | z
      · exact n z
      · obtain ⟨o, ho⟩ := r.some
        rw [ho] at z; cases z.1
    | io l d => obtain ⟨a, e1, n, r⟩ := q; exact ⟨a, e1, n, r.tr k fun o ho => s a o ho⟩
theorem Tr.grow (s : Same H H') (sub : ∀ a, O a → O' a) (new : ∀ a, O' a → O a ∨ H a = Option.none) : Tr O δ σ H O' δ H' :=
  ⟨fun a o _ e => s a o e, fun a o e => ⟨o, s a o e⟩, new, sub, fun _ _ h => h, fun _ s e => ⟨s, e⟩, fun _ _ _ e => e⟩
/-- behind a built-in operation -/
theorem prim_post (E : ER c O δ σ H) (t : Tr O δ σ H O1 δ1 H1) (E1 : ER c O1 δ1 σ H1) {z : PR} (s : Same H1 H') (h : PrimR c.K (All O1 δ1 σ) H1 H' z v) : PostE c O δ σ H z.r δ1 v H' := by
  cases z with
  | sc d =>
    exact ⟨O1, t.trans (Tr.grow s (fun _ h => h) fun _ h => .inl h), E1.grow s (fun _ h => h) fun _ h => .inl h, h⟩
  | new d =>
    obtain ⟨a, rfl, n, o⟩ := h
    obtain ⟨ob, eo⟩ := o.some
    have E2 : ER c (fun x => O1 x ∨ x = a) δ1 σ H' := E1.grow s (fun _ h => .inl h) fun x h => h.imp id fun e => by subst e; exact ⟨n, ob, eo⟩
    refine ⟨fun x => O1 x ∨ x = a, t.trans (Tr.grow s (fun _ h => .inl h) fun x h => h.imp id fun e => by subst e; exact n), E2, a, rfl, .inr rfl, t.none n, ?_⟩
    refine o.tr (fun x u nx e => ⟨e, fun z => ?_⟩) fun u e => e
    rcases z with (z | z) | z
    · exact nx (.inl (.inl z))
    · exact nx (.inr z)
    · exact nx (.inl (.inr z))
theorem ER.trk (E : ER c O δ σ H) : Trk (All O δ σ) H := fun _ h => E.all_some h

def fPr (p : Pr) (fl : DEnv → Res (List R × DEnv)) (δ : DEnv) : Res (R × DEnv) := (fl δ).bind fun z => match resL z.2 z.1 with
  | some ds => match pev p ds with
    | some w => .ok (w.r, z.2)
    | none => .stuck
  | none => .stuck
def fL2 (fa fb : DEnv → Res (R × DEnv)) (δ : DEnv) : Res (List R × DEnv) := (fa δ).bind fun z => ((fb z.2).bind fun y => ((Res.ok ([], y.2) : Res (List R × DEnv)).bind fun w => .ok (y.1 :: w.1, w.2))).bind fun y => .ok (z.1 :: y.1, y.2)
def fL1 (fa : DEnv → Res (R × DEnv)) (δ : DEnv) : Res (List R × DEnv) := (fa δ).bind fun z => ((Res.ok ([], z.2) : Res (List R × DEnv)).bind fun y => .ok (z.1 :: y.1, y.2))
theorem resL_inv {rs : List R} : ∀ {ds : List D}, resL δ rs = some ds → ds.length = rs.length := by
  induction rs with
  | nil => intro ds h; simp only [resL] at h; cases h; rfl
  | cons r rs ih =>
    intro ds h
    simp only [resL] at h
    cases e : resR δ r with
    | none => rw [e] at h; cases h
    | some d =>
      rw [e] at h
      cases e2 : resL δ rs with
      | none => rw [e2] at h; cases h
      | some ds' => rw [e2] at h; cases h; simp [ih e2]
theorem fPr_inv {p : Pr} {fl : DEnv → Res (List R × DEnv)} {Q : VK} (h : OkE c O δ σ H (fPr p fl δ) Q) : ∃ rs δ1 ds w, fl δ = .ok (rs, δ1) ∧ resL δ1 rs = some ds ∧ pev p ds = some w ∧ OkE c O δ σ H (.ok (w.r, δ1)) Q := by
  obtain ⟨rs, δ1, e, h⟩ := OkE.bindL h
  dsimp only at h
  cases e1 : resL δ1 rs with
  | none => rw [e1] at h; exact h.elim
  | some ds =>
    rw [e1] at h
    dsimp only at h
    cases e2 : pev p ds with
    | none => rw [e2] at h; exact h.elim
    | some w => rw [e2] at h; exact ⟨rs, δ1, ds, w, e, e1, e2, h⟩
theorem fL2_inv {fa fb : DEnv → Res (R × DEnv)} {rs : List R} (h : fL2 fa fb δ = .ok (rs, δ2)) : ∃ r1 r2 δ1, fa δ = .ok (r1, δ1) ∧ fb δ1 = .ok (r2, δ2) ∧ rs = [r1, r2] := by
  unfold fL2 at h
  cases e1 : fa δ with
  | ok y =>
    rw [e1] at h
    obtain ⟨r1, δ1⟩ := y
    simp only [bind_ok] at h
    cases e2 : fb δ1 with
    | ok y => rw [e2] at h; simp only [bind_ok] at h; cases h; exact ⟨r1, y.1, δ1, rfl, e2, rfl⟩
    | exc k => rw [e2] at h; cases h
    | stuck => rw [e2] at h; cases h
  | exc k => rw [e1] at h; cases h
  | stuck => rw [e1] at h; cases h
theorem resL_two {r1 r2 : R} {ds : List D} (h : resL δ [r1, r2] = some ds) : ∃ d e, ds = [d, e] ∧ resR δ r1 = some d ∧ resR δ r2 = some e := by
  simp only [resL] at h
  cases e1 : resR δ r1 with
  | none => rw [e1] at h; cases h
  | some d =>
    cases e2 : resR δ r2 with
    | none => rw [e1, e2] at h; cases h
    | some e => rw [e1, e2] at h; cases h; exact ⟨d, e, rfl, rfl, rfl⟩
theorem resL_one {r1 : R} {ds : List D} (h : resL δ [r1] = some ds) : ∃ d, ds = [d] ∧ resR δ r1 = some d := by
  simp only [resL] at h
  cases e1 : resR δ r1 with
  | none => rw [e1] at h; cases h
  | some d => rw [e1] at h; cases h; exact ⟨d, rfl, rfl⟩
theorem two_ok {p : Pr} {r : R2} {fa fb : DEnv → Res (R × DEnv)} {Q : VK} (E : ER c O δ σ H) (hp : P2 c.K p r) (h : OkE c O δ σ H (fPr p (fL2 fa fb) δ) Q) : tOp r (tD c fa) (tD c fb) σ H Q := by
  obtain ⟨rs, δ2, ds, w, e1, e2, e3, h⟩ := fPr_inv h
  obtain ⟨r1, r2, δ1, f1, f2, rfl⟩ := fL2_inv e1
  obtain ⟨d, e, rfl, d1, d2⟩ := resL_two e2
  refine tD_bind E ⟨r1, δ1, f1, fun x H1 ⟨O1, t1, E1, q1⟩ => ?_⟩
  refine tD_bind E1 ⟨r2, δ2, f2, fun y H2 ⟨O2, t2, E2, q2⟩ => ?_⟩
  have q1' := q1.tr E t1 t2
  exact hp _ d e w x y H2 Q e3 (q1'.rd0 E2 d1) (q2.rd0 E2 d2) E2.trk fun v H' s pr => h v H' (prim_post E (t1.trans t2) E2 s pr)
theorem one_ok {p : Pr} {r : V → Hp → VK → Prop} {fa : DEnv → Res (R × DEnv)} {Q : VK} (E : ER c O δ σ H) (hp : P1 c.K p r) (h : OkE c O δ σ H (fPr p (fL1 fa) δ) Q) : tD c fa σ H fun x H1 => r x H1 Q := by
  obtain ⟨rs, δ2, ds, w, e1, e2, e3, h⟩ := fPr_inv h
  unfold fL1 at e1
  cases f1 : fa δ with
  | ok y =>
    obtain ⟨r1, δ1⟩ := y
    rw [f1] at e1
    simp only [bind_ok] at e1
    cases e1
    obtain ⟨d, rfl, d1⟩ := resL_one e2
    refine tD_bind E ⟨r1, δ2, f1, fun x H1 ⟨O1, t1, E1, q1⟩ => ?_⟩
    exact hp _ d w x H1 Q e3 (q1.rd0 E1 d1) E1.trk fun v H' s pr => h v H' (prim_post E t1 E1 s pr)
  | exc k => rw [f1] at e1; cases e1
  | stuck => rw [f1] at e1; cases e1
theorem list_ok {p : Pr} {r : List V → Hp → VK → Prop} {fl : DEnv → Res (List R × DEnv)} {Q : VK} (E : ER c O δ σ H) (hp : PL c.K p r) (h : OkE c O δ σ H (fPr p fl δ) Q) : tDL c fl σ H fun xs H1 => r xs H1 Q := by
  obtain ⟨rs, δ2, ds, w, e1, e2, e3, h⟩ := fPr_inv h
  refine ⟨O, δ, E, ?_⟩
  rw [e1]
  intro xs H1 ⟨O1, t1, E1, q1⟩
  exact hp _ ds w xs H1 Q e3 (q1.rd0 E1 e2) E1.trk fun v H' s pr => h v H' (prim_post E t1 E1 s pr)
end

section
variable {X : Cx} {c : Cfg} {a b : Expr} {es : List Expr} {fa fb : DEnv → Res (R × DEnv)} {fl : DEnv → Res (List R × DEnv)} {pos : Pos}
theorem de_bin {op : Operator} {p : Pr} {r : R2} (ho : OpR X (binaryOp op) r) (hp : P2 c.K p r) (ha : DE X c a fa) (hb : DE X c b fb) : DE X c (.BinOp a op b pos) (fPr p (fL2 fa fb)) :=
  .of ((pe_op ho ha.pe hb.pe).imp fun σ H Q ⟨O, δ, E, h⟩ => two_ok E hp h)
theorem de_cmp {op : CmpOp} {p : Pr} {r : R2} (ho : OpR X (compareOp op) r) (hp : P2 c.K p r) (ha : DE X c a fa) (hb : DE X c b fb) : DE X c (.Compare a [op] [b] pos) (fPr p (fL2 fa fb)) :=
  ⟨(pe_cmpR ho ha.pe hb.pe (mark_of hb.st)).imp fun σ H Q ⟨O, δ, E, h⟩ => two_ok E hp h,
    fun _ => (pt_cmpR ho ha.pe hb.pe (mark_of hb.st)).imp fun σ H Q ⟨O, δ, E, h⟩ => two_ok (Q := fun x H' => ∃ k, x = .bl k ∧ Q k H') E hp h.val, rfl⟩
theorem de_isN {j p'} (ha : DE X c a fa) : DE X c (.Compare a [.Is] [.Constant .none j p'] pos) (fPr .isN (fL1 fa)) :=
  ⟨(pe_cmp (pc_isN ha.pe)).imp fun σ H Q ⟨O, δ, E, h⟩ => one_ok E p1_isN h,
    fun _ => (pt_cmp (pc_isN ha.pe)).imp fun σ H Q ⟨O, δ, E, h⟩ => one_ok (Q := fun x H' => ∃ k, x = .bl k ∧ Q k H') E p1_isN h.val, rfl⟩
theorem de_notN {j p'} (ha : DE X c a fa) : DE X c (.Compare a [.IsNot] [.Constant .none j p'] pos) (fPr .notN (fL1 fa)) :=
  ⟨(pe_cmp (pc_notN ha.pe)).imp fun σ H Q ⟨O, δ, E, h⟩ => one_ok E p1_notN h,
    fun _ => (pt_cmp (pc_notN ha.pe)).imp fun σ H Q ⟨O, δ, E, h⟩ => one_ok (Q := fun x H' => ∃ k, x = .bl k ∧ Q k H') E p1_notN h.val, rfl⟩
theorem de_neg (ha : DE X c a fa) : DE X c (.UnaryOp .USub a pos) (fPr .neg (fL1 fa)) :=
  .of ((pe_un un_neg ha.pe).imp fun σ H Q ⟨O, δ, E, h⟩ => one_ok E p1_neg h)
theorem de_ix (hK : X.K = c.K) (ha : DE X c a fa) (hb : DE X c b fb) : DE X c (.Subscript a b pos) (fPr .idx (fL2 fa fb)) :=
  .of ((pe_ix ix_seq ha.pe hb.pe (ix_of hb.st)).imp fun σ H Q ⟨O, δ, E, h⟩ => two_ok E (by rw [hK]; exact p2_idx) h)
theorem plain_of {pos : Pos} {env : Env} : ∀ {es : List Expr}, es.all notStar = true → (backTo pos (starEach es env)).any (·.1) = false
  | [], _ => rfl
  | e :: es, h => by
    simp only [List.all_cons, Bool.and_eq_true] at h
    rw [star_of h.1]
    show ((backTo pos (starEach es env)).any (·.1)) = false
    exact plain_of h.2
theorem de_callB {x : Str} {p' : Pos} {id : String} {p : Pr} {r : List V → Hp → VK → Prop} (hc : CallR X (.builtin id) r) (hp : PL c.K p r) (hg : Gl X x) (hm : X.mg x = none) (hv : bootBuiltins x = some (.builtin id)) (hn : x ≠ "__name__") (hdb : (x == ("__debug__" : Str)) = false) (ha : DL X c (a :: es) fl) :
    DE X c (.Call (.Name x p') (a :: es) [] pos) (fPr p fl) := by
  have st := ha.st
  simp only [List.all_cons, Bool.and_eq_true] at st
  exact .of ((pe_callB hc hg hm hv ha.pa hn hdb (star_of st.1) (plain_of st.2)).imp fun σ H Q ⟨O, δ, E, h⟩ => list_ok E hp h)
theorem de_callT {x : Str} {p' : Pos} {id : String} {p : Pr} {r : List V → Hp → VK → Prop} (hc : CallR X (.type id) r) (hp : PL c.K p r) (hg : Gl X x) (hm : X.mg x = none) (hv : bootBuiltins x = some (.type id)) (hn : x ≠ "__name__") (hdb : (x == ("__debug__" : Str)) = false) (ha : DL X c (a :: es) fl) :
    DE X c (.Call (.Name x p') (a :: es) [] pos) (fPr p fl) := by
  have st := ha.st
  simp only [List.all_cons, Bool.and_eq_true] at st
  exact .of ((pe_callTy hc hg hm hv ha.pa hn hdb (star_of st.1) (plain_of st.2)).imp fun σ H Q ⟨O, δ, E, h⟩ => list_ok E hp h)
end
end Ev
/-! EvH: displays, and, or, not, if, chains, slices, isinstance, join -/
namespace Ev
open PySem PySem.Spec PyProof.Rows L2
section
variable {K : PySem.W.Frag} {c : Cfg} {Ob O O1 O2 O' : Addr → Prop} {δb δ δ1 δ2 δ' : DEnv} {σ : L2.St} {Hb H H1 H2 H' : Hp} {r : R} {rs : List R} {v : V} {vs : List V}
/-- a result when what is new is nobody's -/
def RS (K : PySem.W.Frag) (O : Addr → Prop) (δ : DEnv) (σ : L2.St) (H : Hp) : R → V → Prop
  | .d d, v => Rep K H (All O δ σ) d v
  | .o d, v => Rep K H (All O δ σ) d v
  | .h i, v => σ[i]? = some (some v) ∧ ∃ s, δ[i]? = some (some s)
def RSs (K : PySem.W.Frag) (O : Addr → Prop) (δ : DEnv) (σ : L2.St) (H : Hp) : List R → List V → Prop
  | [], vs => vs = []
  | r :: rs, vs => ∃ v vs', vs = v :: vs' ∧ RS K O δ σ H r v ∧ RSs K O δ σ H rs vs'
theorem ER.shrink (E : ER c O δ σ H) (sub : ∀ a, O' a → O a) (s0 : ∀ a, c.O0 a → O' a) : ER c O' δ σ H := by
  have k : ∀ a o, ¬ All O δ σ a → H a = some o → H a = some o ∧ ¬ All O' δ σ a := fun a o n e => ⟨e, fun z => n (z.imp (sub a) id)⟩
  refine ⟨E.len, fun a h => E.tr a (sub a h), s0, E.io, E.tr0, fun i z e => ?_, E.inj, E.keep⟩
  have q := E.sl i z e
  cases z with
  | p d => obtain ⟨v, e1, r⟩ := q; exact ⟨v, e1, r.tr k⟩
  | m l d => obtain ⟨a, e1, n, n0, r⟩ := q; exact ⟨a, e1, fun z => n (sub a z), n0, r.tr k fun o ho => ho⟩
  | io l d => obtain ⟨a, e1, n, r⟩ := q; exact ⟨a, e1, n, r.tr k fun o ho => ho⟩
/-- what has come since the base is let go -/
theorem RR.shrunk (Eb : ER c Ob δb σ Hb) (tb : Tr Ob δb σ Hb O δ H) (h : RR K Hb O δ σ H r v) : RS K (fun x => O x ∧ ∃ o, Hb x = some o) δ σ H r v := by
  have k : ∀ a o, ¬ All O δ σ a → H a = some o → H a = some o ∧ ¬ All (fun x => O x ∧ ∃ o, Hb x = some o) δ σ a := fun a o n e => ⟨e, fun z => n (z.imp (fun z => z.1) id)⟩
  cases r with
  | d d => exact Rep.tr k h
  | h i => exact h
  | o d =>
    obtain ⟨a, rfl, o, n, r⟩ := h
    refine (r.tr k fun o ho => ho).rep fun z => ?_
    rcases z with z | z
    · obtain ⟨u, e⟩ := z.2; rw [n] at e; cases e
    · obtain ⟨u, e⟩ := Eb.slot_some (tb.slot z); rw [n] at e; cases e
theorem RRs.shrunk (Eb : ER c Ob δb σ Hb) (tb : Tr Ob δb σ Hb O δ H) : ∀ {rs : List R} {vs : List V}, RRs K Hb O δ σ H rs vs → RSs K (fun x => O x ∧ ∃ o, Hb x = some o) δ σ H rs vs
  | [], _, h => h
  | r :: rs, vs, ⟨v, vs', e, q, qs⟩ => ⟨v, vs', e, q.shrunk Eb tb, RRs.shrunk Eb tb qs⟩
theorem Tr.shrunk (Eb : ER c Ob δb σ Hb) (tb : Tr Ob δb σ Hb O δ H) : Tr Ob δb σ Hb (fun x => O x ∧ ∃ o, Hb x = some o) δ H :=
  ⟨tb.keep, tb.th, fun a h => tb.new a h.1, fun a h => ⟨tb.sub a h, Eb.tr a h⟩, tb.le, tb.st, tb.lk⟩
theorem ER.shrunk (Eb : ER c Ob δb σ Hb) (tb : Tr Ob δb σ Hb O δ H) (E : ER c O δ σ H) : ER c (fun x => O x ∧ ∃ o, Hb x = some o) δ σ H :=
  E.shrink (fun _ h => h.1) fun a h => ⟨tb.sub a (Eb.sub a h), Eb.tr a (Eb.sub a h)⟩
theorem RS.tr (t : Tr O δ σ H O1 δ1 H1) (h : RS K O δ σ H r v) : RS K O1 δ1 σ H1 r v := by
  cases r with
  | d d => exact Rep.tr t.k h
  | o d => exact Rep.tr t.k h
  | h i => obtain ⟨e, s, q⟩ := h; exact ⟨e, t.st i s q⟩
theorem RSs.tr (t : Tr O δ σ H O1 δ1 H1) : ∀ {rs : List R} {vs : List V}, RSs K O δ σ H rs vs → RSs K O1 δ1 σ H1 rs vs
  | [], _, h => h
  | r :: rs, vs, ⟨v, vs', e, q, qs⟩ => ⟨v, vs', e, q.tr t, RSs.tr t qs⟩

theorem get_set {α : Type} {l : List α} {i j : Nat} {x y : α} (h : (l.set i x)[j]? = some y) : (i = j ∧ x = y) ∨ (i ≠ j ∧ l[j]? = some y) := by
  by_cases e : i = j
  · subst e
    by_cases hi : i < l.length
    · rw [List.getElem?_set_self hi] at h; exact .inl ⟨rfl, Option.some.inj h⟩
    · rw [List.getElem?_eq_none (by simpa using hi)] at h; cases h
  · rw [List.getElem?_set_ne e] at h; exact .inr ⟨e, h⟩
/-- a slot's own object is frozen -/
theorem ER.freeze (E : ER c O δ σ H) {i : Nat} {d : D} (h : δ[i]? = some (some (.m false d))) : ER c O (δ.set i (some (.p d))) σ H ∧ Tr O δ σ H O (δ.set i (some (.p d))) H ∧ ∃ v, σ[i]? = some (some v) ∧ Rep c.K H (All O (δ.set i (some (.p d))) σ) d v := by
  have le : ∀ j a, SlotAt (δ.set i (some (.p d))) σ j a → SlotAt δ σ j a ∧ i ≠ j := fun j a ⟨q, e⟩ => by
    rcases q with ⟨l', d', q⟩ | ⟨l', d', q⟩
    · rcases get_set q with ⟨_, z⟩ | ⟨z, q⟩
      · cases z
      · exact ⟨⟨.inl ⟨l', d', q⟩, e⟩, z⟩
    · rcases get_set q with ⟨_, z⟩ | ⟨z, q⟩
      · cases z
      · exact ⟨⟨.inr ⟨l', d', q⟩, e⟩, z⟩
  obtain ⟨a, e1, n, n0, r⟩ := E.sl i _ h
  have hai : SlotAt δ σ i a := ⟨.inl ⟨_, d, h⟩, e1⟩
  have k : ∀ b o, ¬ All O δ σ b → H b = some o → H b = some o ∧ ¬ All O (δ.set i (some (.p d))) σ b := fun b o nb e => ⟨e, fun z => nb (z.imp id fun ⟨j, q⟩ => ⟨j, (le j b q).1⟩)⟩
  have na : ¬ All O (δ.set i (some (.p d))) σ a := fun z => by
    rcases z with z | ⟨j, q⟩
    · exact n z
    · obtain ⟨q, ne⟩ := le j a q
      exact ne (E.inj i j a hai q)
  have ra : Rep c.K H (All O (δ.set i (some (.p d))) σ) d (.ref a) := (r.tr k fun o ho => ho).rep na
  refine ⟨⟨by rw [List.length_set]; exact E.len, E.tr, E.sub, E.io, E.tr0, fun j s e => ?_, fun j1 j2 b q1 q2 => E.inj j1 j2 b (le _ _ q1).1 (le _ _ q2).1, E.keep⟩,
    ⟨fun _ _ _ e => e, fun _ o e => ⟨o, e⟩, fun _ h => .inl h, fun _ h => h, fun j b q => (le j b q).1, fun j s e => ?_, fun j s ls e => ?_⟩, .ref a, e1, ra⟩
  · rcases get_set e with ⟨rfl, z⟩ | ⟨ne, e⟩
    · cases z; exact ⟨_, e1, ra⟩
    · have q := E.sl j s e
      cases s with
      | p d => obtain ⟨v, e1, r⟩ := q; exact ⟨v, e1, r.tr k⟩
      | m l d => obtain ⟨b, e1, n, n0, r⟩ := q; exact ⟨b, e1, n, n0, r.tr k fun o ho => ho⟩
      | io l d => obtain ⟨b, e1, n, r⟩ := q; exact ⟨b, e1, n, r.tr k fun o ho => ho⟩
  · by_cases ne : i = j
    · subst ne
      refine ⟨.p d, ?_⟩
      have hi : i < δ.length := by
        obtain ⟨hi, _⟩ := List.getElem?_eq_some_iff.mp h; exact hi
      rw [List.getElem?_set_self hi]
    · exact ⟨s, by rw [List.getElem?_set_ne ne]; exact e⟩
  · have ne : i ≠ j := fun z => by subst z; rw [h] at e; cases e; cases ls
    rw [List.getElem?_set_ne ne]; exact e
theorem escR_ok {d : D} (h : escR δ r = some (d, δ')) (E : ER c O δ σ H) (q : RS c.K O δ σ H r v) : ER c O δ' σ H ∧ Tr O δ σ H O δ' H ∧ Rep c.K H (All O δ' σ) d v := by
  cases r with
  | d x => cases h; exact ⟨E, Tr.refl, q⟩
  | o x => cases h; exact ⟨E, Tr.refl, q⟩
  | h i =>
    obtain ⟨e, s, q⟩ := q
    simp only [escR, q] at h
    cases s with
    | p x =>
      cases h
      obtain ⟨v', e1, r⟩ := E.sl i _ q
      rw [e] at e1; cases e1
      exact ⟨E, Tr.refl, r⟩
    | m l x =>
      cases l with
      | true => cases h
      | false =>
        cases h
        obtain ⟨E', t, v', e1, r⟩ := E.freeze q
        rw [e] at e1; cases e1
        exact ⟨E', t, r⟩
    | io l x => cases h
theorem escL_ok : ∀ {rs : List R} {ds : List D} {δ δ' : DEnv} {vs : List V}, escL δ rs = some (ds, δ') → ER c O δ σ H → RSs c.K O δ σ H rs vs → ER c O δ' σ H ∧ Tr O δ σ H O δ' H ∧ RepL c.K H (All O δ' σ) ds vs
  | [], ds, δ, δ', vs, h, E, q => by
    cases h
    have q : vs = [] := q
    subst q
    exact ⟨E, Tr.refl, RepL.nil⟩
  | r :: rs, ds, δ, δ', vs, h, E, ⟨v, vs', e, q, qs⟩ => by
    subst e
    simp only [escL] at h
    cases e1 : escR δ r with
    | none => rw [e1] at h; cases h
    | some y =>
      obtain ⟨d, δ1⟩ := y
      rw [e1] at h
      dsimp only at h
      cases e2 : escL δ1 rs with
      | none => rw [e2] at h; cases h
      | some w =>
        obtain ⟨ds', δ2⟩ := w
        rw [e2] at h
        cases h
        obtain ⟨E1, t1, r1⟩ := escR_ok e1 E q
        obtain ⟨E2, t2, r2⟩ := escL_ok e2 E1 (qs.tr t1)
        exact ⟨E2, t1.trans t2, RepL.cons (r1.tr t2.k) r2⟩
/-- all of a list of results goes into something -/
theorem PostL.esc (Eb : ER c Ob δb σ Hb) (p : PostL c Ob δb σ Hb rs δ vs H) {ds : List D} (h : escL δ rs = some (ds, δ')) : ∃ O', Tr Ob δb σ Hb O' δ' H ∧ ER c O' δ' σ H ∧ RepL c.K H (All O' δ' σ) ds vs := by
  obtain ⟨O1, t, E, q⟩ := p
  obtain ⟨E2, t2, r⟩ := escL_ok h (ER.shrunk Eb t E) (RRs.shrunk Eb t q)
  exact ⟨_, (Tr.shrunk Eb t).trans t2, E2, r⟩
theorem PostE.esc (Eb : ER c Ob δb σ Hb) (p : PostE c Ob δb σ Hb r δ v H) {d : D} (h : escR δ r = some (d, δ')) : ∃ O', Tr Ob δb σ Hb O' δ' H ∧ ER c O' δ' σ H ∧ Rep c.K H (All O' δ' σ) d v := by
  obtain ⟨O1, t, E, q⟩ := p
  obtain ⟨E2, t2, r⟩ := escR_ok h (ER.shrunk Eb t E) (RR.shrunk Eb t q)
  exact ⟨_, (Tr.shrunk Eb t).trans t2, E2, r⟩
end
theorem ER.shrunk' {c : Cfg} {Ob O : Addr → Prop} {δb δ : DEnv} {σ : L2.St} {Hb H : Hp} (Eb : ER c Ob δb σ Hb) (tb : Tr Ob δb σ Hb O δ H) (E : ER c O δ σ H) : ER c (fun x => O x ∧ ∃ o, Hb x = some o) δ σ H := ER.shrunk Eb tb E

section
variable {X : Cx} {c : Cfg} {a b e : Expr} {es : List Expr} {fa fb fc : DEnv → Res (R × DEnv)} {fl : DEnv → Res (List R × DEnv)} {pos : Pos}
def fTup (fl : DEnv → Res (List R × DEnv)) (δ : DEnv) : Res (R × DEnv) := (fl δ).bind fun z => match escL z.2 z.1 with
  | some (ds, δ2) => .ok (.d (.tup ds), δ2)
  | none => .stuck
def fLst (fl : DEnv → Res (List R × DEnv)) (δ : DEnv) : Res (R × DEnv) := (fl δ).bind fun z => match escL z.2 z.1 with
  | some (ds, δ2) => .ok (.o (.lst ds), δ2)
  | none => .stuck
theorem rss_len {K : PySem.W.Frag} {Hb H : Hp} {O : Addr → Prop} {δ : DEnv} {σ : L2.St} : ∀ {rs : List R} {vs : List V}, RRs K Hb O δ σ H rs vs → rs.length = vs.length
  | [], vs, h => by have h : vs = [] := h; rw [h]; rfl
  | r :: rs, vs, ⟨v, vs', e, _, q⟩ => by rw [e, List.length_cons, List.length_cons, rss_len q]
theorem de_tup {k} (hl : es.length ≤ cap) (ha : DL X c es fl) : DE X c (.Tuple es k pos) (fTup fl) := by
  refine .of ((pe_tup ha.pa).imp fun σ H Q ⟨O, δ, E, h⟩ => ?_)
  obtain ⟨rs, δ1, e1, h⟩ := OkE.bindL h
  refine ⟨O, δ, E, ?_⟩
  rw [e1]
  intro vs H1 p
  have hn : vs.length ≤ sizeLine := by
    obtain ⟨O1, t, E1, q⟩ := p
    rw [← rss_len q, ha.ln _ _ _ e1]
    exact capLe hl
  dsimp only at h
  cases e2 : escL δ1 rs with
  | none => rw [e2] at h; exact h.elim
  | some y =>
    obtain ⟨ds, δ2⟩ := y
    rw [e2] at h
    obtain ⟨O2, t2, E2, r⟩ := p.esc E e2
    exact ⟨hn, fun p np => PrimQ.tup (Q := Q) (fun v H' s pr => h v H' (prim_post E t2 E2 s pr)) E2.trk r np⟩
theorem de_lst (hl : es.length ≤ cap) (ha : DL X c es fl) : DE X c (.List es pos) (fLst fl) := by
  refine .of ((pe_lst ha.pa).imp fun σ H Q ⟨O, δ, E, h⟩ => ?_)
  obtain ⟨rs, δ1, e1, h⟩ := OkE.bindL h
  refine ⟨O, δ, E, ?_⟩
  rw [e1]
  intro vs H1 p
  have hn : vs.length ≤ sizeLine := by
    obtain ⟨O1, t, E1, q⟩ := p
    rw [← rss_len q, ha.ln _ _ _ e1]
    exact capLe hl
  dsimp only at h
  cases e2 : escL δ1 rs with
  | none => rw [e2] at h; exact h.elim
  | some y =>
    obtain ⟨ds, δ2⟩ := y
    rw [e2] at h
    obtain ⟨O2, t2, E2, r⟩ := p.esc E e2
    exact ⟨hn, fun p np => PrimQ.list (Q := Q) (fun v H' s pr => h v H' (prim_post E t2 E2 s pr)) r np⟩
/-! tests -/
def fNot (fa : DEnv → Res (R × DEnv)) (δ : DEnv) : Res (R × DEnv) := (fa δ).bind fun z => (tstR z.2 z.1).bind fun y => .ok (.d (.bl (!y.1)), y.2)
theorem tst_ok {O : Addr → Prop} {δ : DEnv} {σ : L2.St} {H : Hp} {g : Bool × DEnv → Res (R × DEnv)} {Q : VK} (h : OkE c O δ σ H ((fa δ).bind fun z => (tstR z.2 z.1).bind g) Q) : ∃ r δ1 b, fa δ = .ok (r, δ1) ∧ resR δ1 r = some (.bl b) ∧ OkE c O δ σ H (g (b, δ1)) Q := by
  obtain ⟨r, δ1, e1, h⟩ := OkE.bind h
  dsimp only at h
  obtain ⟨b, δ2, e2, h'⟩ := OkE.bindB h
  obtain ⟨e3, e4⟩ := tstR_ok e2
  rw [e4] at h'
  exact ⟨r, δ1, b, e1, e3, h'⟩
theorem tstB_ok {O : Addr → Prop} {δ : DEnv} {σ : L2.St} {H : Hp} {g : Bool × DEnv → Res (R × DEnv)} {Q : Bool → Hp → Prop} (h : OkB c O δ σ H (tstE (fun δ => (fa δ).bind fun z => (tstR z.2 z.1).bind g) δ) Q) :
    ∃ r δ1 b, fa δ = .ok (r, δ1) ∧ resR δ1 r = some (.bl b) ∧ OkB c O δ σ H ((g (b, δ1)).bind fun z => tstR z.2 z.1) Q := by
  unfold tstE at h
  cases e1 : fa δ with
  | ok y =>
    obtain ⟨r, δ1⟩ := y
    simp only [e1, bind_ok] at h
    cases e2 : tstR δ1 r with
    | ok w =>
      obtain ⟨b, δ2⟩ := w
      obtain ⟨e3, e4⟩ := tstR_ok e2
      rw [e2] at h
      simp only [bind_ok] at h
      rw [e4] at h
      exact ⟨r, δ1, b, rfl, e3, h⟩
    | exc k => rw [e2] at h; exact h.elim
    | stuck => rw [e2] at h; exact h.elim
  | exc k => simp only [e1] at h; exact h.elim
  | stuck => simp only [e1] at h; exact h.elim
theorem tstE_eq {δ δ1 : DEnv} {r : R} {b : Bool} (e1 : fa δ = .ok (r, δ1)) (e2 : resR δ1 r = some (.bl b)) : tstE fa δ = .ok (b, δ1) := by
  unfold tstE
  rw [e1]
  show tstR δ1 r = _
  unfold tstR
  rw [e2]
theorem de_not (ht : testable a = true) (ha : DE X c a fa) : DE X c (.UnaryOp .Not a pos) (fNot fa) := by
  refine ⟨(pe_not ha.pe).imp fun σ H Q ⟨O, δ, E, h⟩ => ?_, fun _ => (pt_not (ha.pt ht)).imp fun σ H Q ⟨O, δ, E, h⟩ => ?_, rfl⟩
  · obtain ⟨r, δ1, b, e1, e2, h⟩ := tst_ok h
    refine tD_bind E ⟨r, δ1, e1, fun v H1 ⟨O1, t, E1, q⟩ => ⟨b, rd0_bl (q.rd0 E1 e2), h _ H1 ⟨O1, t, E1, rfl⟩⟩⟩
  · obtain ⟨r, δ1, b, e1, e2, h⟩ := tst_ok h.val
    refine ⟨O, δ, E, ?_⟩
    rw [tstE_eq e1 e2]
    intro H1 ⟨O1, t, E1⟩
    obtain ⟨b', e, q⟩ := h (.bl (!b)) H1 ⟨O1, t, E1, rfl⟩
    cases e
    exact q
def fIte (fc fa fb : DEnv → Res (R × DEnv)) (δ : DEnv) : Res (R × DEnv) := (fc δ).bind fun z => (tstR z.2 z.1).bind fun y => if y.1 then fa y.2 else fb y.2
theorem de_ite {t : Expr} (ht : testable t = true) (hc : DE X c t fc) (ha : DE X c a fa) (hb : DE X c b fb) : DE X c (.IfExp t a b pos) (fIte fc fa fb) := by
  refine ⟨(pe_ifExp (hc.pt ht) ha.pe hb.pe).imp fun σ H Q ⟨O, δ, E, h⟩ => ?_, fun z => (nomatch z), rfl⟩
  obtain ⟨r, δ1, y, e1, e2, h⟩ := tst_ok h
  refine ⟨O, δ, E, ?_⟩
  rw [tstE_eq e1 e2]
  intro H1 ⟨O1, t, E1⟩
  cases y with
  | true => exact ⟨O1, δ1, E1, OkE.over t h⟩
  | false => exact ⟨O1, δ1, E1, OkE.over t h⟩
/-! and, or: by the list -/
structure DB (X : Cx) (c : Cfg) (e : Expr) (f : DEnv → Res (R × DEnv)) : Prop where
  pe : PE X e (tD c f)
  pw : PW X e (tDB c (tstE f))
theorem db_one {op} (ht : testable a = true) (ha : DE X c a fa) : DB X c (.BoolOp op [a] pos) fa := by
  refine ⟨pe_one ha.pe, ?_⟩
  cases op
  · exact pw_and1 (ha.pt ht)
  · exact pw_or1 (ha.pt ht)
def fAnd (fa fb : DEnv → Res (R × DEnv)) (δ : DEnv) : Res (R × DEnv) := (fa δ).bind fun z => (tstR z.2 z.1).bind fun y => if y.1 then fb y.2 else .ok (.d (.bl false), y.2)
def fOr (fa fb : DEnv → Res (R × DEnv)) (δ : DEnv) : Res (R × DEnv) := (fa δ).bind fun z => (tstR z.2 z.1).bind fun y => if y.1 then .ok (.d (.bl true), y.2) else fb y.2
theorem db_and (ht : testable a = true) (ha : DE X c a fa) (hb : DB X c (.BoolOp .And (b :: es) pos) fb) : DB X c (.BoolOp .And (a :: b :: es) pos) (fAnd fa fb) := by
  refine ⟨(pe_and ha.pe hb.pe).imp fun σ H Q ⟨O, δ, E, h⟩ => ?_, (pw_and (ha.pt ht) hb.pw).imp fun σ H Q ⟨O, δ, E, h⟩ => ?_⟩
  · obtain ⟨r, δ1, y, e1, e2, h⟩ := tst_ok h
    refine tD_bind E ⟨r, δ1, e1, fun v H1 ⟨O1, t, E1, q⟩ => ⟨y, rd0_bl (q.rd0 E1 e2), ?_⟩⟩
    cases y with
    | true => exact ⟨O1, δ1, E1, OkE.over t h⟩
    | false => exact h _ H1 ⟨O1, t, E1, rfl⟩
  · obtain ⟨r, δ1, y, e1, e2, h⟩ := tstB_ok h
    refine ⟨O, δ, E, ?_⟩
    rw [tstE_eq e1 e2]
    intro H1 ⟨O1, t, E1⟩
    cases y with
    | true => exact ⟨O1, δ1, E1, OkB.over t h⟩
    | false => exact h H1 ⟨O1, t, E1⟩
theorem db_or (ht : testable a = true) (ha : DE X c a fa) (hb : DB X c (.BoolOp .Or (b :: es) pos) fb) : DB X c (.BoolOp .Or (a :: b :: es) pos) (fOr fa fb) := by
  refine ⟨(pe_or ha.pe hb.pe).imp fun σ H Q ⟨O, δ, E, h⟩ => ?_, (pw_or (ha.pt ht) hb.pw).imp fun σ H Q ⟨O, δ, E, h⟩ => ?_⟩
  · obtain ⟨r, δ1, y, e1, e2, h⟩ := tst_ok h
    refine tD_bind E ⟨r, δ1, e1, fun v H1 ⟨O1, t, E1, q⟩ => ⟨y, rd0_bl (q.rd0 E1 e2), ?_⟩⟩
    cases y with
    | false => exact ⟨O1, δ1, E1, OkE.over t h⟩
    | true => exact h _ H1 ⟨O1, t, E1, rfl⟩
  · obtain ⟨r, δ1, y, e1, e2, h⟩ := tstB_ok h
    refine ⟨O, δ, E, ?_⟩
    rw [tstE_eq e1 e2]
    intro H1 ⟨O1, t, E1⟩
    cases y with
    | false => exact ⟨O1, δ1, E1, OkB.over t h⟩
    | true => exact h H1 ⟨O1, t, E1⟩
theorem DB.de {op vs} (h : DB X c (.BoolOp op vs pos) fa) : DE X c (.BoolOp op vs pos) fa := ⟨h.pe, fun _ => h.pw.pt, rfl⟩
/-! a < b < c -/
def fChain (p q : Pr) (fa fb fc : DEnv → Res (R × DEnv)) (δ : DEnv) : Res (R × DEnv) := (fa δ).bind fun x => (fb x.2).bind fun y => match resR y.2 x.1, resR y.2 y.1 with
  | some d, some e => match pev p [d, e] with
    | some (.sc (.bl true)) => (fc y.2).bind fun z => match resR z.2 y.1, resR z.2 z.1 with
      | some e2, some g => match pev q [e2, g] with
        | some (.sc (.bl b)) => .ok (.d (.bl b), z.2)
        | _ => .stuck
      | _, _ => .stuck
    | some (.sc (.bl false)) => .ok (.d (.bl false), y.2)
    | _ => .stuck
  | _, _ => .stuck
theorem chain_ok {p q : Pr} {r r' : R2} {O : Addr → Prop} {δ : DEnv} {σ : L2.St} {H : Hp} {Q : VK} (E : ER c O δ σ H) (hp : P2 c.K p r) (hq : P2 c.K q r') (h : OkE c O δ σ H (fChain p q fa fb fc δ) Q) : tChain r r' (tD c fa) (tD c fb) (tD c fc) σ H Q := by
  obtain ⟨r1, δ1, e1, h⟩ := OkE.bind h
  dsimp only at h
  obtain ⟨r2, δ2, e2, h⟩ := OkE.bind h
  dsimp only at h
  refine tD_bind E ⟨r1, δ1, e1, fun x H1 ⟨O1, t1, E1, q1⟩ => ?_⟩
  refine tD_bind E1 ⟨r2, δ2, e2, fun y H2 ⟨O2, t2, E2, q2⟩ => ?_⟩
  have q1' := q1.tr E t1 t2
  cases d1 : resR δ2 r1 with
  | none => rw [d1] at h; exact h.elim
  | some d =>
  cases d2 : resR δ2 r2 with
  | none => rw [d1, d2] at h; exact h.elim
  | some e =>
  rw [d1, d2] at h
  dsimp only at h
  have go : ∀ (b : Bool), pev p [d, e] = some (.sc (.bl b)) → (∀ H3, Same H2 H3 → (if b = true then tD c fc σ H3 fun w' H4 => r' y w' H4 Q else Q (.bl false) H3)) → r x y H2 fun z H3 => ∃ k, z = .bl k ∧ if k = true then tD c fc σ H3 fun w' H4 => r' y w' H4 Q else Q (.bl false) H3 := fun b hb hq => by
    refine hp _ d e _ x y H2 _ hb (q1'.rd0 E2 d1) (q2.rd0 E2 d2) E2.trk fun v H' s pr => ⟨b, ?_, hq H' s⟩
    have pr : Rep c.K H' (All O2 δ2 σ) (.bl b) v := pr
    simpa [Rep] using pr
  split at h
  · rename_i hb
    refine go true hb fun H3 s3 => ?_
    rw [if_pos rfl]
    have E3 : ER c O2 δ2 σ H3 := E2.grow s3 (fun _ h => h) fun _ h => .inl h
    have t3 : Tr O2 δ2 σ H2 O2 δ2 H3 := Tr.grow s3 (fun _ h => h) fun _ h => .inl h
    obtain ⟨r3, δ3, e3, h⟩ := OkE.bind h
    dsimp only at h
    refine tD_bind E3 ⟨r3, δ3, e3, fun w H4 ⟨O4, t4, E4, q4⟩ => ?_⟩
    have q2' := (q2.tr E1 t2 t3).tr E1 (t2.trans t3) t4
    cases d3 : resR δ3 r2 with
    | none => rw [d3] at h; exact h.elim
    | some e' =>
    cases d4 : resR δ3 r3 with
    | none => rw [d3, d4] at h; exact h.elim
    | some g =>
    rw [d3, d4] at h
    dsimp only at h
    split at h
    · rename_i b hb2
      refine hq _ e' g _ y w H4 Q hb2 (q2'.rd0 E4 d3) (q4.rd0 E4 d4) E4.trk fun v H' s pr => h v H' ?_
      exact prim_post E (t1.trans (t2.trans (t3.trans t4))) E4 s pr
    · exact h.elim
  · rename_i hb
    refine go false hb fun H3 s3 => ?_
    rw [if_neg Bool.false_ne_true]
    exact h _ H3 ⟨O2, t1.trans (t2.trans (Tr.grow s3 (fun _ h => h) fun _ h => .inl h)), E2.grow s3 (fun _ h => h) fun _ h => .inl h, rfl⟩
  · exact h.elim
theorem de_chain {op op' : CmpOp} {p q : Pr} {r r' : R2} {b' : Expr} (ho : OpR X (compareOp op) r) (ho' : OpR X (compareOp op') r') (hp : P2 c.K p r) (hq : P2 c.K q r') (ha : DE X c a fa) (hb : DE X c b fb) (hc : DE X c b' fc) : DE X c (.Compare a [op, op'] [b, b'] pos) (fChain p q fa fb fc) := by
  have hm : lastMarks [op, op'] [b, b'] = false := mark_of hc.st
  exact ⟨(pe_chain ho ho' ha.pe hb.pe hc.pe hm).imp fun σ H Q ⟨O, δ, E, h⟩ => chain_ok E hp hq h, fun _ => (pt_chain ho ho' ha.pe hb.pe hc.pe hm).imp fun σ H Q ⟨O, δ, E, h⟩ => chain_ok (Q := fun x H' => ∃ k, x = .bl k ∧ Q k H') E hp hq h.val, rfl⟩
/-! slices -/
theorem p_sl_any {K : PySem.W.Frag} {A : Addr → Prop} {d : D} {z : PR} {x : V} {H : Hp} {Q : VK} {lo hi : Option Int} (hp : pSl d lo hi = some z) (hx : Rd0 K H A d x) (ht : Trk A H) (q : PrimQ K A H z Q) : (rSlL K x lo hi H Q ∨ rSlA K x lo hi H Q ∨ rSlS x lo hi H Q) := by
  have cut : ∀ {ds : List D} {vs : List V}, RepL K H A ds vs → RepL K H A (cutD ds lo hi) (cutV vs lo hi) := fun {ds vs} r => by
    unfold cutD cutV
    rw [← r.length]
    exact (r.drop _).take _
  cases d with
  | str s =>
    simp only [pSl] at hp
    split at hp
    · rename_i hc; cases hp; exact .inr (.inr ⟨s, hx, capLe hc, q.sc (by simp [Rep])⟩)
    · cases hp
  | lst ds =>
    cases hp
    obtain ⟨a, vs, rfl, h1, r⟩ := hx
    exact .inl ⟨a, vs, rfl, h1, fun p np => q.list (cut r) np⟩
  | tup ds =>
    cases hp
    have hx' := hx
    obtain ⟨a, vs, rfl, h1, r⟩ := rd0_tup hx
    refine .inr (.inl ⟨a, vs, rfl, SqT.of h1.2, fun z => ?_, fun _ p np => q.tup ht (cut r) np⟩)
    refine q.sc ?_
    have : cutD ds lo hi = ds := by
      unfold cutD
      rw [r.length, z.1, z.2]
      simp [← r.length]
    rw [this]
    exact hx'
  | _ => cases hp
end
theorem slAll {X : Cx} : L2.SlR X (fun x lo hi H Q => rSlL X.K x lo hi H Q ∨ rSlA X.K x lo hi H Q ∨ rSlS x lo hi H Q) := sl_list.or (sl_tupA.or sl_str)
section
variable {X : Cx} {c : Cfg} {a b e : Expr} {es : List Expr} {fa fb fc : DEnv → Res (R × DEnv)} {fl : DEnv → Res (List R × DEnv)} {pos : Pos}
theorem pev_sl1 {d : D} {z : PR} (h : pev (.sl false false) [d] = some z) : pSl d none none = some z := h
theorem pev_sl2 {b : Bool} {d e : D} {z : PR} (h : pev (.sl b (!b)) [d, e] = some z) : ∃ i, e = .int i ∧ (if b then pSl d (some i) none else pSl d none (some i)) = some z := by
  cases b <;> cases e <;> first | (simp [pev] at h; done) | exact ⟨_, rfl, h⟩
theorem de_sl1 {p2} (hK : X.K = c.K) (ha : DE X c a fa) : DE X c (.Subscript a (.Slice none none none p2) pos) (fPr (.sl false false) (fL1 fa)) := by
  refine .of ((pe_slice slAll ha.pe po_none po_none).imp fun σ H Q ⟨O, δ, E, h⟩ => ?_)
  have : P1 c.K (.sl false false) (fun x H Q => rSlL X.K x none none H Q ∨ rSlA X.K x none none H Q ∨ rSlS x none none H Q) := fun A d z x H Q hp hx ht q => by rw [hK]; exact p_sl_any hp hx ht q
  exact one_ok E this h
theorem de_sl2 {p2} (hK : X.K = c.K) (ha : DE X c a fa) (hb : DE X c b fb) : DE X c (.Subscript a (.Slice (some b) none none p2) pos) (fPr (.sl true false) (fL2 fa fb)) := by
  refine .of ((pe_slice slAll ha.pe (po_some hb.pe) po_none).imp fun σ H Q ⟨O, δ, E, h⟩ => ?_)
  have hp : P2 c.K (.sl true false) (fun x y H Q => ∃ i, y = .int i ∧ (rSlL X.K x (some i) none H Q ∨ rSlA X.K x (some i) none H Q ∨ rSlS x (some i) none H Q)) := fun A d e z x y H Q hp hx hy ht q => by
    obtain ⟨i, rfl, hp⟩ := pev_sl2 (b := true) hp
    rw [hK]
    exact ⟨i, hy, p_sl_any hp hx ht q⟩
  exact two_ok E hp h
theorem de_sl3 {p2} (hK : X.K = c.K) (ha : DE X c a fa) (hb : DE X c b fb) : DE X c (.Subscript a (.Slice none (some b) none p2) pos) (fPr (.sl false true) (fL2 fa fb)) := by
  refine .of ((pe_slice slAll ha.pe po_none (po_some hb.pe)).imp fun σ H Q ⟨O, δ, E, h⟩ => ?_)
  have hp : P2 c.K (.sl false true) (fun x y H Q => ∃ i, y = .int i ∧ (rSlL X.K x none (some i) H Q ∨ rSlA X.K x none (some i) H Q ∨ rSlS x none (some i) H Q)) := fun A d e z x y H Q hp hx hy ht q => by
    obtain ⟨i, rfl, hp⟩ := pev_sl2 (b := false) hp
    rw [hK]
    exact ⟨i, hy, p_sl_any hp hx ht q⟩
  exact two_ok E hp h
def fSl2 (fa fb fc : DEnv → Res (R × DEnv)) (δ : DEnv) : Res (R × DEnv) := (fa δ).bind fun x => (fb x.2).bind fun y => match resR y.2 y.1 with
  | some (.int i) => (fc y.2).bind fun z => match resR z.2 x.1, resR z.2 z.1 with
    | some d, some (.int j) => match pSl d (some i) (some j) with
      | some w => .ok (w.r, z.2)
      | none => .stuck
    | _, _ => .stuck
  | _ => .stuck
theorem de_sl4 {p2} {e : Expr} (hK : X.K = c.K) (ha : DE X c a fa) (hb : DE X c b fb) (hc : DE X c e fc) : DE X c (.Subscript a (.Slice (some b) (some e) none p2) pos) (fSl2 fa fb fc) := by
  refine .of ((pe_slice slAll ha.pe (po_some hb.pe) (po_some hc.pe)).imp fun σ H Q ⟨O, δ, E, h⟩ => ?_)
  obtain ⟨r1, δ1, f1, h⟩ := OkE.bind h
  dsimp only at h
  obtain ⟨r2, δ2, f2, h⟩ := OkE.bind h
  dsimp only at h
  refine tD_bind E ⟨r1, δ1, f1, fun x H1 ⟨O1, t1, E1, q1⟩ => ?_⟩
  refine tD_bind E1 ⟨r2, δ2, f2, fun y H2 ⟨O2, t2, E2, q2⟩ => ?_⟩
  split at h
  · rename_i i d2
    refine ⟨i, q2.rd0 E2 d2, ?_⟩
    obtain ⟨r3, δ3, f3, h⟩ := OkE.bind h
    dsimp only at h
    refine tD_bind E2 ⟨r3, δ3, f3, fun z H3 ⟨O3, t3, E3, q3⟩ => ?_⟩
    split at h
    · rename_i d j d1 d3
      refine ⟨j, q3.rd0 E3 d3, ?_⟩
      cases hp : pSl d (some i) (some j) with
      | none => rw [hp] at h; exact h.elim
      | some w =>
        rw [hp] at h
        rw [hK]
        exact p_sl_any hp ((q1.tr E t1 (t2.trans t3)).rd0 E3 d1) E3.trk fun v H' s pr => h v H' (prim_post E (t1.trans (t2.trans t3)) E3 s pr)
    · exact h.elim
  · exact h.elim
/-! isinstance of one built-in class -/
def tyName : D → String
  | .non => "NoneType" | .bl _ => "bool" | .int _ => "int" | .str _ => "str" | .tup _ => "tuple" | .lst _ => "list" | .dct _ _ => "dict"
theorem rd0_ty {K : PySem.W.Frag} {A : Addr → Prop} {H : Hp} {d : D} {x : V} (h : Rd0 K H A d x) : TyX K H x (.type (tyName d)) := by
  cases d with
  | non => have h : x = .non := h; subst h; exact .base .non
  | bl b => have h : x = .bl b := h; subst h; exact .base (.bl b)
  | int b => have h : x = .int b := h; subst h; exact .base (.int b)
  | str b => have h : x = .str b := h; subst h; exact .base (.str b)
  | tup ds => obtain ⟨a, vs, rfl, q, _⟩ := rd0_tup h; exact .base (.tup q.2)
  | lst ds =>
    obtain ⟨a, vs, rfl, q, _⟩ := h
    rcases q with (q | ⟨o, q⟩) | ⟨o, _, _, q1, q2, _⟩
    · exact .base (.lst q)
    · exact .base (.frz q)
    · exact .kList q1 q2
  | dct ks ds => obtain ⟨a, vs, rfl, q, _⟩ := h; exact .base (.dK q)
theorem kit_all (d : D) (t : String) (b : Bool) (h : isTy d t = some b) : kitB (tyName d) t = some b := by
  unfold isTy at h
  split at h <;> first | (cases h; done) | (cases d <;> cases h <;> dsimp only [tyName] <;> decide +kernel)
theorem de_isi {T : Str} {x p1 : Pos} (hg : Gl X "isinstance") (hm : X.mg "isinstance" = none) (hg2 : Gl X T) (hm2 : X.mg T = none) (t : String) (hv : bootBuiltins T = some (.type t)) (hn : T ≠ "__name__") (hdb : (T == ("__debug__" : Str)) = false) (hK : X.K = c.K) (ha : DE X c a fa) :
    DE X c (.Call (.Name "isinstance" x) [a, .Name T p1] [] pos) (fPr (.isinst [t]) (fL1 fa)) := by
  have h2 : PE X (.Name T p1) (tC (.ty t)) := pe_bltn hg2 hm2 hv rfl hn hdb
  refine .of ((pe_callB call_isi hg hm (by decide +kernel) (pa_cons ha.pe (pa_cons h2 pa_nil) (star_of ha.st)) (by decide) (by decide) (star_of ha.st)).imp fun σ H Q ⟨O, δ, E, h⟩ => ?_)
  refine one_ok (r := fun x H Q => rIsi X.K [x, .ty t] H Q) E (fun A d z x H Q hp hx ht q => ?_) h
  rw [hK]
  have hp : (match [t].mapM (isTy d) with | some bs => some (PR.sc (.bl (bs.any id))) | none => none) = some z := hp
  cases e : isTy d t with
  | none => simp [e] at hp
  | some b =>
    simp [e] at hp
    cases hp
    exact ⟨x, .ty t, .type (tyName d), .type t, b, rfl, .ty t, rd0_ty hx, kit_ty (kit_all d t b e), q.sc (by simp [Rep])⟩
end
end Ev
/-! EvI: calls of the text's own defs -/
namespace Ev
open PySem PySem.Spec PyProof.Rows L2

/-- the arguments as a callee takes them: O what others own, each io one lent -/
def ArgOk (K : PySem.W.Frag) (H : Hp) (O I : Addr → Prop) : List Bool → List D → List V → Prop
  | [], [], vs => vs = []
  | m :: ms, d :: ds, vs => ∃ v vs', vs = v :: vs' ∧ (if m then ∃ a, v = V.ref a ∧ I a ∧ OwnAt K H O a d else Rep K H O d v) ∧ ArgOk K H O I ms ds vs'
  | _, _, _ => False
/-- what is lent behind the call -/
def IoOk (K : PySem.W.Frag) (H : Hp) (O : Addr → Prop) : List Bool → List V → List D → Prop
  | [], _, ds => ds = []
  | true :: ms, v :: vs, ds => ∃ d ds', ds = d :: ds' ∧ (∃ a, v = V.ref a ∧ OwnAt K H O a d) ∧ IoOk K H O ms vs ds'
  | false :: ms, _ :: vs, ds => IoOk K H O ms vs ds
  | _ :: _, [], _ => False
/-- no two lent ones are one -/
def IoApart (ms : List Bool) (vs : List V) : Prop := ∀ (i j : Nat) (a : Addr), ms[i]? = some true → ms[j]? = some true → vs[i]? = some (V.ref a) → vs[j]? = some (V.ref a) → i = j
structure RetOk (K : PySem.W.Frag) (H : Hp) (O I : Addr → Prop) (ms : List Bool) (vs : List V) (z : D × Bool × List D) (v : V) (H' : Hp) (O' : Addr → Prop) : Prop where
  keep : ∀ a o, ¬ I a → H a = some o → H' a = some o
  sub : ∀ a, O a → O' a
  new : ∀ a, O' a → O a ∨ H a = none
  tr : ∀ a, O' a → ∃ o, H' a = some o
  data : z.2.1 = false → Rep K H' O' z.1 v
  own : z.2.1 = true → ∃ a, v = V.ref a ∧ O' a ∧ H a = none ∧ OwnAt K H' O' a z.1
  ios : IoOk K H' O' ms vs z.2.2
def spD (K : PySem.W.Frag) (C : Calls) (f : Nat) : Sp := fun vs H Q _ => ∃ (ms : List Bool) (ds : List D) (z : D × Bool × List D) (O I : Addr → Prop), C.md f = some ms ∧ C.run f ds = .ok z ∧ ArgOk K H O I ms ds vs ∧ IoApart ms vs ∧
  (∀ a, I a → O a) ∧ (∀ a, I a → ∃ i : Nat, ms[i]? = some true ∧ vs[i]? = some (V.ref a)) ∧ (∀ a, O a → ∃ o, H a = some o) ∧ ∀ v H' O', RetOk K H O I ms vs z v H' O' → Q v H'

section
variable {K : PySem.W.Frag} {c : Cfg} {Ob O O1 O2 O' : Addr → Prop} {δb δ δ1 δ2 δ' : DEnv} {σ : L2.St} {Hb H H1 H2 H' : Hp} {r : R} {rs : List R} {v : V} {vs : List V} {ms : List Bool}
theorem RRs.get : ∀ {rs : List R} {vs : List V} {k : Nat} {r : R}, RRs K Hb O δ σ H rs vs → rs[k]? = some r → ∃ v, vs[k]? = some v ∧ RR K Hb O δ σ H r v
  | [], _, _, _, _, e => by simp at e
  | r0 :: rs, vs, 0, r, ⟨v, vs', e1, q, qs⟩, e => by simp at e; subst e; subst e1; exact ⟨v, by simp, q⟩
  | r0 :: rs, vs, k + 1, r, ⟨v, vs', e1, q, qs⟩, e => by
    subst e1
    obtain ⟨u, h1, h2⟩ := RRs.get qs (show rs[k]? = some r by simpa using e)
    exact ⟨u, by simpa using h1, h2⟩
def pend (ms : List Bool) (rs : List R) (vs : List V) (a : Addr) : Prop := ∃ (k : Nat) (d : D), ms[k]? = some false ∧ rs[k]? = some (R.o d) ∧ vs[k]? = some (V.ref a)
def brw (ms : List Bool) (rs : List R) (vs : List V) (δ : DEnv) (σ : L2.St) (a : Addr) : Prop := ∃ (k i : Nat), ms[k]? = some false ∧ rs[k]? = some (R.h i) ∧ vs[k]? = some (V.ref a) ∧ SlotAt δ σ i a
def lent (ms : List Bool) (vs : List V) (a : Addr) : Prop := ∃ (k : Nat), ms[k]? = some true ∧ vs[k]? = some (V.ref a)
/-- what others own, as the callee sees it -/
def OC (ms : List Bool) (rs : List R) (vs : List V) (O : Addr → Prop) (δ : DEnv) (σ : L2.St) (a : Addr) : Prop := All O δ σ a ∧ ¬ pend ms rs vs a ∧ ¬ brw ms rs vs δ σ a
theorem apart_get : ∀ {l : List (Bool × R)} {i j : Nat} {p q : Bool × R}, apart l = true → i < j → l[i]? = some p → l[j]? = some q → okP p q = true
  | [], _, _, _, _, _, _, h, _ => by simp at h
  | x :: l, 0, 0, _, _, _, hl, _, _ => absurd hl (by omega)
  | x :: l, 0, j + 1, p, q, h, _, e1, e2 => by
    simp only [apart, Bool.and_eq_true] at h
    simp at e1; subst e1
    have e2 : l[j]? = some q := by simpa using e2
    exact List.all_eq_true.mp h.1 q (List.mem_of_getElem? e2)
  | x :: l, i + 1, 0, _, _, _, hl, _, _ => absurd hl (by omega)
  | x :: l, i + 1, j + 1, p, q, h, hl, e1, e2 => by
    simp only [apart, Bool.and_eq_true] at h
    exact apart_get (i := i) (j := j) h.2 (by omega) (by simpa using e1) (by simpa using e2)
theorem zip_get {i : Nat} {m : Bool} {r : R} (h1 : ms[i]? = some m) (h2 : rs[i]? = some r) : (ms.zip rs)[i]? = some (m, r) := by
  rw [List.getElem?_zip_eq_some]; exact ⟨h1, h2⟩
theorem okP_sym {p q : Bool × R} : okP p q = okP q p := by
  obtain ⟨m, r⟩ := p
  obtain ⟨m', r'⟩ := q
  unfold okP
  have : sameK r r' = sameK r' r := by
    cases r <;> cases r' <;> simp [sameK]
    rename_i i j
    exact Bool.eq_iff_iff.mpr ⟨fun h => by simpa using (by simpa using h : i = j).symm, fun h => by simpa using (by simpa using h : j = i).symm⟩
  rw [this, Bool.or_comm]
theorem apart_ne {i j : Nat} {m m' : Bool} {r r' : R} (h : apart (ms.zip rs) = true) (ne : i ≠ j) (h1 : ms[i]? = some m) (h2 : rs[i]? = some r) (h3 : ms[j]? = some m') (h4 : rs[j]? = some r') (hm : (m || m') = true) : sameK r r' = false := by
  have : okP (m, r) (m', r') = true := by
    rcases Nat.lt_or_gt_of_ne ne with l | l
    · exact apart_get h l (zip_get h1 h2) (zip_get h3 h4)
    · rw [okP_sym]; exact apart_get h l (zip_get h3 h4) (zip_get h1 h2)
  simpa [okP, hm] using this
theorem loan_get {i : Nat} {r : R} (h : (ms.zip rs).all (loan δ) = true) (h1 : ms[i]? = some true) (h2 : rs[i]? = some r) : loan δ (true, r) = true :=
  List.all_eq_true.mp h _ (List.mem_of_getElem? (zip_get h1 h2))
/-- a lent slot's own address -/
theorem loan_h {i : Nat} (h : loan δ (true, .h i) = true) : (∃ d, δ[i]? = some (some (.m false d))) ∨ ∃ d, δ[i]? = some (some (.io false d)) := by
  unfold loan at h
  split at h <;> first | (cases h; done) | skip
  all_goals first | (rename_i e; cases e) | skip
  all_goals (split at h <;> first | (cases h; done) | skip)
  · rename_i d e; exact .inl ⟨d, e⟩
  · rename_i d e; exact .inr ⟨d, e⟩

/-- where a call stands: the base, the arguments' results -/
structure CS (c : Cfg) (σ : L2.St) (O : Addr → Prop) (δ : DEnv) (H : Hp) (O1 : Addr → Prop) (δ1 : DEnv) (H1 : Hp) (ms : List Bool) (rs : List R) (vs : List V) : Prop where
  E : ER c O δ σ H
  t : Tr O δ σ H O1 δ1 H1
  E1 : ER c O1 δ1 σ H1
  q : RRs c.K H O1 δ1 σ H1 rs vs
  ln : ms.length = rs.length
  lo : (ms.zip rs).all (loan δ1) = true
  ap : apart (ms.zip rs) = true
theorem CS.r_of (S : CS c σ O δ H O1 δ1 H1 ms rs vs) {k : Nat} {m : Bool} (h : ms[k]? = some m) : ∃ r, rs[k]? = some r := by
  have hk : k < ms.length := (List.getElem?_eq_some_iff.mp h).1
  exact ⟨rs[k]'(by rw [← S.ln]; exact hk), List.getElem?_eq_getElem _⟩
theorem CS.slot (S : CS c σ O δ H O1 δ1 H1 ms rs vs) {k i : Nat} {a : Addr} (h : ms[k]? = some true) (h2 : rs[k]? = some (R.h i)) (h3 : vs[k]? = some (V.ref a)) : SlotAt δ1 σ i a := by
  obtain ⟨v, e, q⟩ := S.q.get h2
  rw [h3] at e; cases e
  obtain ⟨e, _⟩ := q
  rcases loan_h (loan_get S.lo h h2) with ⟨d, z⟩ | ⟨d, z⟩
  · exact ⟨.inl ⟨_, d, z⟩, e⟩
  · exact ⟨.inr ⟨_, d, z⟩, e⟩
theorem CS.new_o (S : CS c σ O δ H O1 δ1 H1 ms rs vs) {k : Nat} {d : D} {a : Addr} (h2 : rs[k]? = some (R.o d)) (h3 : vs[k]? = some (V.ref a)) : O1 a ∧ H a = none ∧ OwnAt c.K H1 (All O1 δ1 σ) a d := by
  obtain ⟨v, e, q⟩ := S.q.get h2
  rw [h3] at e; cases e
  obtain ⟨b, e, o, n, r⟩ := q
  cases e
  exact ⟨o, n, r⟩
theorem CS.slot_ne (S : CS c σ O δ H O1 δ1 H1 ms rs vs) {i : Nat} {a : Addr} (h : SlotAt δ1 σ i a) (n : H a = none) : False := by
  obtain ⟨o, e⟩ := S.E.slot_some ⟨i, S.t.le i a h⟩
  rw [n] at e; cases e
theorem CS.lent_cases (S : CS c σ O δ H O1 δ1 H1 ms rs vs) {k : Nat} {a : Addr} (h : ms[k]? = some true) (h3 : vs[k]? = some (V.ref a)) : (∃ i, rs[k]? = some (R.h i) ∧ SlotAt δ1 σ i a) ∨ ∃ d, rs[k]? = some (R.o d) ∧ O1 a ∧ H a = none ∧ OwnAt c.K H1 (All O1 δ1 σ) a d := by
  obtain ⟨r, hr⟩ := S.r_of h
  cases r with
  | d x => exact absurd (loan_get S.lo h hr) (by simp [loan])
  | h i => exact .inl ⟨i, hr, S.slot h hr h3⟩
  | o d => exact .inr ⟨d, hr, S.new_o hr h3⟩
theorem CS.lent_all (S : CS c σ O δ H O1 δ1 H1 ms rs vs) {a : Addr} (h : lent ms vs a) : All O1 δ1 σ a := by
  obtain ⟨k, h1, h2⟩ := h
  rcases S.lent_cases h1 h2 with ⟨i, _, q⟩ | ⟨d, _, q, _⟩
  · exact .inr ⟨i, q⟩
  · exact .inl q
theorem CS.lent_pend (S : CS c σ O δ H O1 δ1 H1 ms rs vs) {a : Addr} (h : lent ms vs a) : ¬ pend ms rs vs a := by
  obtain ⟨k, h1, h2⟩ := h
  rintro ⟨j, d, g1, g2, g3⟩
  have ne : k ≠ j := fun e => by subst e; rw [h1] at g1; cases g1
  obtain ⟨_, n, _⟩ := S.new_o g2 g3
  rcases S.lent_cases h1 h2 with ⟨i, _, q⟩ | ⟨d', hr, _⟩
  · exact S.slot_ne q n
  · have := apart_ne S.ap ne h1 hr g1 g2 rfl
    cases this
theorem CS.lent_brw (S : CS c σ O δ H O1 δ1 H1 ms rs vs) {a : Addr} (h : lent ms vs a) : ¬ brw ms rs vs δ1 σ a := by
  have ha := S.lent_all h
  obtain ⟨k, h1, h2⟩ := h
  rintro ⟨j, i, g1, g2, g3, q⟩
  have ne : k ≠ j := fun e => by subst e; rw [h1] at g1; cases g1
  rcases S.lent_cases h1 h2 with ⟨i', hr, q'⟩ | ⟨d', hr, _, n, _⟩
  · have := S.E1.inj _ _ _ q q'
    subst this
    have := apart_ne S.ap ne h1 hr g1 g2 rfl
    simp [sameK] at this
  · exact S.slot_ne q n
theorem CS.lent_oc (S : CS c σ O δ H O1 δ1 H1 ms rs vs) {a : Addr} (h : lent ms vs a) : OC ms rs vs O1 δ1 σ a := ⟨S.lent_all h, S.lent_pend h, S.lent_brw h⟩
theorem oc_k : ∀ a o, ¬ All O1 δ1 σ a → H1 a = some o → H1 a = some o ∧ ¬ OC ms rs vs O1 δ1 σ a := fun a o n e => ⟨e, fun z => n z.1⟩
theorem CS.apart (S : CS c σ O δ H O1 δ1 H1 ms rs vs) : IoApart ms vs := by
  intro i j a h1 h2 g1 g2
  by_cases ne : i = j
  · exact ne
  · exfalso
    rcases S.lent_cases h1 g1 with ⟨x, hr, q⟩ | ⟨d, hr, _, n, _⟩
    · rcases S.lent_cases h2 g2 with ⟨y, hr', q'⟩ | ⟨d', hr', _, n', _⟩
      · have := S.E1.inj _ _ _ q q'
        subst this
        have := apart_ne S.ap ne h1 hr h2 hr' rfl
        simp [sameK] at this
      · exact S.slot_ne q n'
    · rcases S.lent_cases h2 g2 with ⟨y, hr', q'⟩ | ⟨d', hr', _, n', _⟩
      · exact S.slot_ne q' n
      · have := apart_ne S.ap ne h1 hr h2 hr' rfl
        cases this
/-- one argument -/
theorem CS.arg (S : CS c σ O δ H O1 δ1 H1 ms rs vs) {k : Nat} {m : Bool} {r : R} {v : V} {d : D} (h1 : ms[k]? = some m) (h2 : rs[k]? = some r) (h3 : vs[k]? = some v) (hd : resR δ1 r = some d) :
    if m then ∃ a, v = V.ref a ∧ lent ms vs a ∧ OwnAt c.K H1 (OC ms rs vs O1 δ1 σ) a d else Rep c.K H1 (OC ms rs vs O1 δ1 σ) d v := by
  obtain ⟨v', e, q⟩ := S.q.get h2
  rw [h3] at e; cases e
  cases m with
  | true =>
    rw [if_pos rfl]
    cases r with
    | d x => exact absurd (loan_get S.lo h1 h2) (by simp [loan])
    | o x =>
      cases hd
      obtain ⟨a, rfl, o, n, w⟩ := q
      exact ⟨a, rfl, ⟨k, h1, h3⟩, w.tr oc_k fun o ho => ho⟩
    | h i =>
      obtain ⟨e, s, z⟩ := q
      simp only [resR, z] at hd
      cases hd
      have lo := loan_h (loan_get S.lo h1 h2)
      have sl := S.E1.sl i s z
      cases s with
      | p x => rcases lo with ⟨d, w⟩ | ⟨d, w⟩ <;> (rw [z] at w; cases w)
      | m l x =>
        obtain ⟨a, e1, _, _, w⟩ := sl
        rw [e] at e1; cases e1
        exact ⟨a, rfl, ⟨k, h1, h3⟩, w.tr oc_k fun o ho => ho⟩
      | io l x =>
        obtain ⟨a, e1, _, w⟩ := sl
        rw [e] at e1; cases e1
        exact ⟨a, rfl, ⟨k, h1, h3⟩, w.tr oc_k fun o ho => ho⟩
  | false =>
    rw [if_neg Bool.false_ne_true]
    cases r with
    | d x => cases hd; exact Rep.tr oc_k q
    | o x =>
      cases hd
      obtain ⟨a, rfl, o, n, w⟩ := q
      exact (w.tr oc_k fun o ho => ho).rep fun z => z.2.1 ⟨k, _, h1, h2, h3⟩
    | h i =>
      obtain ⟨e, s, z⟩ := q
      simp only [resR, z] at hd
      cases hd
      have sl := S.E1.sl i s z
      cases s with
      | p x =>
        obtain ⟨v', e1, w⟩ := sl
        rw [e] at e1; cases e1
        exact Rep.tr oc_k w
      | m l x =>
        obtain ⟨a, e1, _, _, w⟩ := sl
        have e1' := e1
        rw [e] at e1; cases e1
        exact (w.tr oc_k fun o ho => ho).rep fun zz => zz.2.2 ⟨k, i, h1, h2, h3, .inl ⟨l, x, z⟩, e1'⟩
      | io l x =>
        obtain ⟨a, e1, _, w⟩ := sl
        have e1' := e1
        rw [e] at e1; cases e1
        exact (w.tr oc_k fun o ho => ho).rep fun zz => zz.2.2 ⟨k, i, h1, h2, h3, .inr ⟨l, x, z⟩, e1'⟩
theorem argOk_of {I : Addr → Prop} {OC : Addr → Prop} : ∀ {ms : List Bool} {rs : List R} {vs : List V} {ds : List D}, ms.length = rs.length → rs.length = vs.length → resL δ1 rs = some ds →
    (∀ (k : Nat) (m : Bool) (r : R) (v : V) (d : D), ms[k]? = some m → rs[k]? = some r → vs[k]? = some v → resR δ1 r = some d → if m then ∃ a, v = V.ref a ∧ I a ∧ OwnAt K H1 OC a d else Rep K H1 OC d v) → ArgOk K H1 OC I ms ds vs
  | [], [], [], ds, _, _, h, _ => by simp only [resL] at h; cases h; rfl
  | m :: ms, r :: rs, v :: vs, ds, h1, h2, h, per => by
    simp only [resL] at h
    cases e1 : resR δ1 r with
    | none => rw [e1] at h; cases h
    | some d =>
      rw [e1] at h
      cases e2 : resL δ1 rs with
      | none => rw [e2] at h; cases h
      | some ds' =>
        rw [e2] at h; cases h
        exact ⟨v, vs, rfl, per 0 m r v d (by simp) (by simp) (by simp) e1, argOk_of (by simpa using h1) (by simpa using h2) e2 fun k m r v d a b e f => per (k + 1) m r v d (by simpa using a) (by simpa using b) (by simpa using e) f⟩
  | [], _ :: _, _, _, h, _, _, _ => by simp at h
  | _ :: _, [], _, _, h, _, _, _ => by simp at h
  | _, [], _ :: _, _, _, h, _, _ => by simp at h
  | _, _ :: _, [], _, _, h, _, _ => by simp at h

/-- the slots behind a call -/
def Upd (σ : L2.St) (H' : Hp) (O' : Addr → Prop) (K : PySem.W.Frag) (ms : List Bool) (vs : List V) (ds : List D) (ix : List Nat) (δ δ2 : DEnv) : Prop := ∀ (i : Nat) (s : S), δ2[i]? = some (some s) → (δ[i]? = some (some s) ∧ i ∉ ix) ∨
  ∃ a d', σ[i]? = some (some (V.ref a)) ∧ lent ms vs a ∧ OwnAt K H' O' a d' ∧ d' ∈ ds ∧ ((s = .m false d' ∧ ∃ d0, δ[i]? = some (some (.m false d0))) ∨ (s = .io false d' ∧ ∃ d0, δ[i]? = some (some (.io false d0))))
theorem lent_cons {m : Bool} {v : V} {a : Addr} (h : lent ms vs a) : lent (m :: ms) (v :: vs) a := let ⟨k, h1, h2⟩ := h; ⟨k + 1, by simpa using h1, by simpa using h2⟩
theorem putIos_ok : ∀ {ms : List Bool} {rs : List R} {vs : List V} {ds : List D} {δ δ2 : DEnv}, putIos δ (ms.zip rs) ds = some δ2 → IoOk K H' O' ms vs ds → ms.length = rs.length →
    (∀ (k i : Nat), ms[k]? = some true → rs[k]? = some (R.h i) → ∃ v, vs[k]? = some v ∧ σ[i]? = some (some v)) → Upd σ H' O' K ms vs ds (ioIx (ms.zip rs)) δ δ2 ∧ δ2.length = δ.length ∧ ∀ (i : Nat) (s : S), δ[i]? = some (some s) → ∃ s', δ2[i]? = some (some s')
  | [], [], vs, ds, δ, δ2, h, io, _, _ => by
    cases ds with
    | nil => simp [putIos] at h; subst h; exact ⟨fun i s e => .inl ⟨e, by simp [ioIx]⟩, rfl, fun i s e => ⟨s, e⟩⟩
    | cons => cases io
  | [], _ :: _, _, _, _, _, _, _, h, _ => by simp at h
  | _ :: _, [], _, _, _, _, _, _, h, _ => by simp at h
  | false :: ms, r :: rs, vs, ds, δ, δ2, h, io, hl, hv => by
    cases vs with
    | nil => exact io.elim
    | cons v vs =>
      have h : putIos δ (ms.zip rs) ds = some δ2 := by simpa [putIos] using h
      have io : IoOk K H' O' ms vs ds := io
      obtain ⟨u, l, st⟩ := putIos_ok h io (by simpa using hl) fun k i a b => by
        obtain ⟨w, e1, e2⟩ := hv (k + 1) i (by simpa using a) (by simpa using b)
        exact ⟨w, by simpa using e1, e2⟩
      refine ⟨fun i s e => ?_, l, st⟩
      rcases u i s e with ⟨e1, n⟩ | ⟨a, d', e1, e2, e3, em, e4⟩
      · exact .inl ⟨e1, by cases r <;> simpa [ioIx] using n⟩
      · exact .inr ⟨a, d', e1, lent_cons e2, e3, em, e4⟩
  | true :: ms, r :: rs, vs, ds, δ, δ2, h, io, hl, hv => by
    cases vs with
    | nil => exact io.elim
    | cons v vs =>
      obtain ⟨d, ds', rfl, ⟨a, rfl, oa⟩, io⟩ := io
      have again : ∀ {δ1 : DEnv}, putIos δ1 (ms.zip rs) ds' = some δ2 → Upd σ H' O' K ms vs ds' (ioIx (ms.zip rs)) δ1 δ2 ∧ δ2.length = δ1.length ∧ ∀ (i : Nat) (s : S), δ1[i]? = some (some s) → ∃ s', δ2[i]? = some (some s') := fun h => putIos_ok h io (by simpa using hl) fun k i x y => by
        obtain ⟨w, e1, e2⟩ := hv (k + 1) i (by simpa using x) (by simpa using y)
        exact ⟨w, by simpa using e1, e2⟩
      have l0 : lent (true :: ms) (V.ref a :: vs) a := ⟨0, by simp, by simp⟩
      cases r with
      | d x => simp [putIos] at h
      | o x =>
        have h : putIos δ (ms.zip rs) ds' = some δ2 := by simpa [putIos] using h
        obtain ⟨u, l, st⟩ := again h
        refine ⟨fun i s e => ?_, l, st⟩
        rcases u i s e with ⟨e1, n⟩ | ⟨b, d', e1, e2, e3, em, e4⟩
        · exact .inl ⟨e1, by simpa [ioIx] using n⟩
        · exact .inr ⟨b, d', e1, lent_cons e2, e3, List.mem_cons_of_mem _ em, e4⟩
      | h j =>
        obtain ⟨w, e1, e2⟩ := hv 0 j (by simp) (by simp)
        simp at e1; subst e1
        have go : ∀ (s1 : S), (s1 = .m false d ∧ (∃ d0, δ[j]? = some (some (.m false d0)))) ∨ (s1 = .io false d ∧ (∃ d0, δ[j]? = some (some (.io false d0)))) → putIos (δ.set j (some s1)) (ms.zip rs) ds' = some δ2 →
            Upd σ H' O' K (true :: ms) (V.ref a :: vs) (d :: ds') (ioIx ((true :: ms).zip (R.h j :: rs))) δ δ2 ∧ δ2.length = δ.length ∧ ∀ (i : Nat) (s : S), δ[i]? = some (some s) → ∃ s', δ2[i]? = some (some s') := fun s1 hs h => by
          obtain ⟨u, l, st⟩ := again h
          have hj : j < δ.length := by rcases hs with ⟨_, d0, z⟩ | ⟨_, d0, z⟩ <;> exact (List.getElem?_eq_some_iff.mp z).1
          have st' : ∀ (i : Nat) (s : S), δ[i]? = some (some s) → ∃ s', (δ.set j (some s1))[i]? = some (some s') := fun i s e => by
            by_cases ne : j = i
            · subst ne; exact ⟨s1, List.getElem?_set_self hj⟩
            · exact ⟨s, by rw [List.getElem?_set_ne ne]; exact e⟩
          refine ⟨fun i s e => ?_, by rw [l, List.length_set], fun i s e => let ⟨s', e'⟩ := st' i s e; st i s' e'⟩
          have here : ∀ {s : S}, s = s1 → i = j → ∃ b d', σ[i]? = some (some (V.ref b)) ∧ lent (true :: ms) (V.ref a :: vs) b ∧ OwnAt K H' O' b d' ∧ d' ∈ d :: ds' ∧ ((s = .m false d' ∧ ∃ d0, δ[i]? = some (some (.m false d0))) ∨ (s = .io false d' ∧ ∃ d0, δ[i]? = some (some (.io false d0)))) := fun {s} es ej => by
            subst ej es
            exact ⟨a, d, e2, l0, oa, List.mem_cons_self, hs⟩
          rcases u i s e with ⟨e1, n⟩ | ⟨b, d', g1, g2, g3, gm, g4⟩
          · rcases get_set e1 with ⟨ej, es⟩ | ⟨ne, e1⟩
            · exact .inr (here (Option.some.inj es).symm ej.symm)
            · refine .inl ⟨e1, ?_⟩
              show i ∉ j :: ioIx (ms.zip rs)
              simp only [List.mem_cons, not_or]
              exact ⟨fun z => ne z.symm, n⟩
          · refine .inr ⟨b, d', g1, lent_cons g2, g3, List.mem_cons_of_mem _ gm, ?_⟩
            by_cases ej : j = i
            · subst ej
              rcases g4 with ⟨g4, d0, g5⟩ | ⟨g4, d0, g5⟩
              · rw [List.getElem?_set_self hj] at g5
                cases g5
                rcases hs with ⟨hs, z⟩ | ⟨hs, z⟩
                · exact .inl ⟨g4, z⟩
                · cases hs
              · rw [List.getElem?_set_self hj] at g5
                cases g5
                rcases hs with ⟨hs, z⟩ | ⟨hs, z⟩
                · cases hs
                · exact .inr ⟨g4, z⟩
            · rw [List.getElem?_set_ne ej] at g4
              exact g4
        have h : (match δ[j]? with
          | some (some (.m false _)) => putIos (δ.set j (some (.m false d))) (ms.zip rs) ds'
          | some (some (.io false _)) => putIos (δ.set j (some (.io false d))) (ms.zip rs) ds'
          | _ => none) = some δ2 := h
        split at h
        · rename_i d0 z; exact go _ (.inl ⟨rfl, d0, z⟩) h
        · rename_i d0 z; exact go _ (.inr ⟨rfl, d0, z⟩) h
        · cases h

theorem OwnAt.of_flat {A A' : Addr → Prop} {a : Addr} {d : D} (f : d.flat = true) (h : OwnAt K H A a d) : OwnAt K H A' a d := by
  cases d with
  | lst ds => obtain ⟨vs, e, r⟩ := h; exact ⟨vs, e, r.of_scal f⟩
  | dct ks ds => obtain ⟨kvs, e, z, r⟩ := h; exact ⟨kvs, e, z, r.of_scal f⟩
  | non => exact h.elim
  | bl => exact h.elim
  | int => exact h.elim
  | str => exact h.elim
  | tup => exact h.elim
theorem ioIx_mem : ∀ {ms : List Bool} {rs : List R} {k i : Nat}, ms[k]? = some true → rs[k]? = some (R.h i) → i ∈ ioIx (ms.zip rs)
  | [], _, _, _, h, _ => by simp at h
  | _ :: _, [], _, _, _, h => by simp at h
  | m :: ms, r :: rs, 0, i, h1, h2 => by
    simp at h1 h2; subst h1 h2
    simp [ioIx]
  | m :: ms, r :: rs, k + 1, i, h1, h2 => by
    have ih := ioIx_mem (ms := ms) (rs := rs) (k := k) (i := i) (by simpa using h1) (by simpa using h2)
    cases m <;> cases r <;> simp [ioIx, ih]
theorem CS.after (S : CS c σ O δ H O1 δ1 H1 ms rs vs) {z : D × Bool × List D} (R : RetOk c.K H1 (OC ms rs vs O1 δ1 σ) (lent ms vs) ms vs z v H' O') (hp : putIos δ1 (ms.zip rs) z.2.2 = some δ2)
    (hc : (∀ a, brw ms rs vs δ1 σ a → ¬ All O1 δ1 σ a) ∨ (z.1.scal = true ∧ z.2.1 = false ∧ z.2.2.all D.flat = true)) : PostE c O δ σ H (if z.2.1 then .o z.1 else .d z.1) δ2 v H' := by
  have hvs : rs.length = vs.length := rss_len S.q
  obtain ⟨U, ul, ust⟩ := putIos_ok (σ := σ) hp R.ios S.ln fun k i h1 h2 => by
    obtain ⟨v, e, q⟩ := S.q.get h2
    exact ⟨v, e, q.1⟩
  have sle : ∀ i a, SlotAt δ2 σ i a → SlotAt δ1 σ i a := fun i a ⟨h, e⟩ => by
    refine ⟨?_, e⟩
    rcases h with ⟨l, d, h⟩ | ⟨l, d, h⟩
    · rcases U i _ h with ⟨h, _⟩ | ⟨_, _, _, _, _, _, ⟨_, d0, h⟩ | ⟨h, _⟩⟩
      · exact .inl ⟨l, d, h⟩
      · exact .inl ⟨_, d0, h⟩
      · cases h
    · rcases U i _ h with ⟨h, _⟩ | ⟨_, _, _, _, _, _, ⟨h, _⟩ | ⟨_, d0, h⟩⟩
      · exact .inr ⟨l, d, h⟩
      · cases h
      · exact .inr ⟨_, d0, h⟩
  have lsome : ∀ a, lent ms vs a → ∃ o, H' a = some o := fun a h => R.tr a (R.sub a (S.lent_oc h))
  have th : ∀ a o, H1 a = some o → ∃ o', H' a = some o' := fun a o e => by
    by_cases h : lent ms vs a
    · exact lsome a h
    · exact ⟨o, R.keep a o h e⟩
  let OO : Addr → Prop := fun a => (O1 a ∧ ¬ pend ms rs vs a) ∨ (O' a ∧ H1 a = none)
  have pn : ∀ a, pend ms rs vs a → H a = none := fun a ⟨k, d, h1, h2, h3⟩ => (S.new_o h2 h3).2.1
  have lk : ∀ a o, H a = some o → ¬ Slot δ σ a → ¬ lent ms vs a := fun a o e n h => by
    obtain ⟨k, h1, h2⟩ := h
    rcases S.lent_cases h1 h2 with ⟨i, _, q⟩ | ⟨d, _, _, q, _⟩
    · exact n ⟨i, S.t.le i a q⟩
    · rw [e] at q; cases q
  have T : Tr O δ σ H OO δ2 H' := by
    refine ⟨fun a o n e => R.keep a o (lk a o e n) (S.t.keep a o n e), fun a o e => let ⟨o1, e1⟩ := S.t.th a o e; th a o1 e1, fun a h => ?_, fun a h => .inl ⟨S.t.sub a h, fun z => ?_⟩, fun i a h => S.t.le i a (sle i a h), fun i s e => let ⟨s1, e1⟩ := S.t.st i s e; ust i s1 e1, fun i s ls e => ?_⟩
    · rcases h with h | h
      · exact S.t.new a h.1
      · exact .inr (S.t.none h.2)
    · obtain ⟨o, e⟩ := S.E.tr a h
      rw [pn a z] at e; cases e
    · have e1 := S.t.lk i s ls e
      obtain ⟨s', e2⟩ := ust i s e1
      rcases U i s' e2 with ⟨e3, _⟩ | ⟨_, _, _, _, _, _, ⟨_, d0, e3⟩ | ⟨_, d0, e3⟩⟩
      · rw [e1] at e3; rw [e3]; exact e2
      · rw [e1] at e3; cases e3; cases ls
      · rw [e1] at e3; cases e3; cases ls
  have allLe : ∀ a, All OO δ2 σ a → All O1 δ1 σ a ∨ H1 a = none := fun a h => by
    rcases h with (h | h) | ⟨i, h⟩
    · exact .inl (.inl h.1)
    · exact .inr h.2
    · exact .inl (.inr ⟨i, sle i a h⟩)
  have k1 : ∀ a o, ¬ All O1 δ1 σ a → H1 a = some o → H' a = some o ∧ ¬ All OO δ2 σ a := fun a o n e => ⟨R.keep a o (fun h => n (S.lent_all h)) e, fun h => by
    rcases allLe a h with h | h
    · exact n h
    · rw [e] at h; cases h⟩
  -- what the callee gave avoids what stands here
  have k2 : (∀ a, brw ms rs vs δ1 σ a → ¬ All O1 δ1 σ a) → ∀ a, All OO δ2 σ a → O' a := fun hb a h => by
    have oc : All O1 δ1 σ a → ¬ pend ms rs vs a → O' a := fun h1 h2 => R.sub a ⟨h1, h2, fun z => hb a z h1⟩
    rcases h with (h | h) | ⟨i, h⟩
    · exact oc (.inl h.1) h.2
    · exact h.1
    · exact oc (.inr ⟨i, sle i a h⟩) fun z => S.slot_ne (sle i a h) (pn a z)
  have kO : (∀ a, All OO δ2 σ a → O' a) → ∀ a o, ¬ O' a → H' a = some o → H' a = some o ∧ ¬ All OO δ2 σ a := fun hb a o n e => ⟨e, fun h => n (hb a h)⟩
  have E2 : ER c OO δ2 σ H' := by
    refine ⟨by rw [ul]; exact S.E1.len, fun a h => ?_, fun a h => .inl ⟨S.E1.sub a h, fun z => ?_⟩, S.E.io, S.E.tr0, fun i s e => ?_, fun i j a h1 h2 => S.E1.inj i j a (sle i a h1) (sle j a h2), fun a o n e => ?_⟩
    · rcases h with h | h
      · obtain ⟨o, e⟩ := S.E1.tr a h.1; exact th a o e
      · exact R.tr a h.1
    · obtain ⟨o, e⟩ := S.E.tr a (S.E.sub a h)
      rw [pn a z] at e; cases e
    · rcases U i s e with ⟨e1, ni⟩ | ⟨a, d', e1, la, oa, dm, hs⟩
      · have nl : ∀ a, SlotAt δ1 σ i a → ¬ lent ms vs a := fun a q ⟨k, h1, h2⟩ => by
          rcases S.lent_cases h1 h2 with ⟨j, hr, q'⟩ | ⟨d, _, _, n, _⟩
          · have := S.E1.inj _ _ _ q q'
            subst this
            exact ni (ioIx_mem h1 hr)
          · exact S.slot_ne q n
        have q := S.E1.sl i s e1
        cases s with
        | p d => obtain ⟨v, g1, r⟩ := q; exact ⟨v, g1, r.tr k1⟩
        | m l d =>
          obtain ⟨a, g1, n, n0, r⟩ := q
          refine ⟨a, g1, fun z => ?_, n0, r.tr k1 fun o ho => R.keep a o (nl a ⟨.inl ⟨l, d, e1⟩, g1⟩) ho⟩
          rcases z with z | z
          · exact n z.1
          · obtain ⟨o, ho⟩ := r.some; rw [z.2] at ho; cases ho
        | io l d =>
          obtain ⟨a, g1, n, r⟩ := q
          exact ⟨a, g1, n, r.tr k1 fun o ho => R.keep a o (nl a ⟨.inr ⟨l, d, e1⟩, g1⟩) ho⟩
      · have oa' : OwnAt c.K H' (All OO δ2 σ) a d' := by
          rcases hc with hb | hb
          · exact oa.tr (kO (k2 hb)) fun o ho => ho
          · exact oa.of_flat (List.all_eq_true.mp hb.2.2 d' dm)
        rcases hs with ⟨rfl, d0, g⟩ | ⟨rfl, d0, g⟩
        · obtain ⟨b, g1, n, n0, r⟩ := S.E1.sl i _ g
          rw [e1] at g1; cases g1
          refine ⟨a, e1, fun z => ?_, n0, oa'⟩
          rcases z with z | z
          · exact n z.1
          · obtain ⟨o, ho⟩ := r.some; rw [z.2] at ho; cases ho
        · obtain ⟨b, g1, n, r⟩ := S.E1.sl i _ g
          rw [e1] at g1; cases g1
          exact ⟨a, e1, n, oa'⟩
    · have e1 := S.E1.keep a o n e
      refine R.keep a o (fun h => ?_) e1
      obtain ⟨k, h1, h2⟩ := h
      rcases S.lent_cases h1 h2 with ⟨i, _, q⟩ | ⟨d, _, _, q, _⟩
      · obtain ⟨q, g⟩ := q
        rcases q with ⟨l, d, q⟩ | ⟨l, d, q⟩
        · obtain ⟨b, g1, _, n0, _⟩ := S.E1.sl i _ q
          rw [g] at g1; cases g1
          rw [n0] at e; cases e
        · obtain ⟨b, g1, ni, _⟩ := S.E1.sl i _ q
          rw [g] at g1; cases g1
          exact n ⟨_, ni⟩
      · rw [S.E.keep a o n e] at q; cases q
  refine ⟨OO, T, E2, ?_⟩
  cases hz : z.2.1 with
  | false =>
    rw [if_neg Bool.false_ne_true]
    show Rep c.K H' (All OO δ2 σ) z.1 v
    rcases hc with hb | hb
    · exact (R.data hz).tr (kO (k2 hb))
    · exact (R.data hz).of_scal hb.1
  | true =>
    rw [if_pos rfl]
    rcases hc with hb | hb
    · obtain ⟨a, rfl, oa, na, r⟩ := R.own hz
      exact ⟨a, rfl, .inr ⟨oa, na⟩, S.t.none na, r.tr (kO (k2 hb)) fun o ho => ho⟩
    · rw [hz] at hb; cases hb.2.1

theorem loan_eq {i : Nat} : loan δ (true, .h i) = (match δ[i]? with
    | some (some (.m false _)) => true
    | some (some (.io false _)) => true
    | _ => false) := rfl
theorem frzL_ok : ∀ {ix : List Nat} {δ δf : DEnv}, frzL δ ix = some δf → ER c O δ σ H → ER c O δf σ H ∧ Tr O δ σ H O δf H ∧ (∀ j, j ∉ ix → δf[j]? = δ[j]?) ∧ (∀ i ∈ ix, ∃ d, δf[i]? = some (some (.p d))) ∧ ∀ (j : Nat) (s : S), δ[j]? = some (some s) → ∃ s' : S, δf[j]? = some (some s') ∧ s'.val = s.val
  | [], δ, δf, h, E => by cases h; exact ⟨E, Tr.refl, fun _ _ => rfl, fun i hi => absurd hi (by simp), fun j s e => ⟨s, e, rfl⟩⟩
  | i :: ix, δ, δf, h, E => by
    simp only [frzL] at h
    cases e : escR δ (.h i) with
    | none => rw [e] at h; cases h
    | some y =>
      obtain ⟨d, δ1⟩ := y
      rw [e] at h
      have one : ER c O δ1 σ H ∧ Tr O δ σ H O δ1 H ∧ (∀ j, j ≠ i → δ1[j]? = δ[j]?) ∧ δ1[i]? = some (some (.p d)) ∧ ∃ s : S, δ[i]? = some (some s) ∧ s.val = d := by
        simp only [escR] at e
        split at e
        · rename_i d0 z; cases e; exact ⟨E, Tr.refl, fun _ _ => rfl, z, _, z, rfl⟩
        · rename_i d0 z
          cases e
          obtain ⟨E', t, _⟩ := E.freeze z
          exact ⟨E', t, fun j hj => List.getElem?_set_ne (Ne.symm hj), List.getElem?_set_self (List.getElem?_eq_some_iff.mp z).1, _, z, rfl⟩
        · cases e
      obtain ⟨E1, t1, k1, s1, sv⟩ := one
      obtain ⟨E2, t2, k2, s2, v2⟩ := frzL_ok h E1
      refine ⟨E2, t1.trans t2, fun j hj => ?_, fun j hj => ?_, fun j s es => ?_⟩
      · simp only [List.mem_cons, not_or] at hj
        rw [k2 j hj.2, k1 j hj.1]
      · by_cases hm : j ∈ ix
        · exact s2 j hm
        · rcases List.mem_cons.mp hj with rfl | hj
          · exact ⟨d, by rw [k2 j hm]; exact s1⟩
          · exact absurd hj hm
      · by_cases ej : j = i
        · subst ej
          obtain ⟨s0, e0, v0⟩ := sv
          rw [es] at e0; cases e0
          obtain ⟨s', e', v'⟩ := v2 j _ s1
          exact ⟨s', e', v'.trans v0.symm⟩
        · obtain ⟨s', e', v'⟩ := v2 j s (by rw [k1 j ej]; exact es)
          exact ⟨s', e', v'⟩
theorem valIx_mem : ∀ {ms : List Bool} {rs : List R} {k i : Nat}, ms[k]? = some false → rs[k]? = some (R.h i) → i ∈ valIx (ms.zip rs)
  | [], _, _, _, h, _ => by simp at h
  | _ :: _, [], _, _, _, h => by simp at h
  | m :: ms, r :: rs, 0, i, h1, h2 => by
    simp at h1 h2; subst h1 h2
    simp [valIx]
  | m :: ms, r :: rs, k + 1, i, h1, h2 => by
    have ih := valIx_mem (ms := ms) (rs := rs) (k := k) (i := i) (by simpa using h1) (by simpa using h2)
    cases m <;> cases r <;> simp [valIx, ih]
theorem valIx_inv : ∀ {ms : List Bool} {rs : List R} {i : Nat}, i ∈ valIx (ms.zip rs) → ∃ k : Nat, ms[k]? = some false ∧ rs[k]? = some (R.h i)
  | [], _, _, h => by simp [valIx] at h
  | _ :: _, [], _, h => by simp [valIx] at h
  | m :: ms, r :: rs, i, h => by
    have go : i ∈ valIx (ms.zip rs) → ∃ k : Nat, (m :: ms)[k]? = some false ∧ (r :: rs)[k]? = some (R.h i) := fun h =>
      let ⟨k, h1, h2⟩ := valIx_inv h; ⟨k + 1, by simpa using h1, by simpa using h2⟩
    cases m with
    | true => cases r <;> exact go (by simpa [valIx] using h)
    | false =>
      cases r with
      | d x => exact go (by simpa [valIx] using h)
      | o x => exact go (by simpa [valIx] using h)
      | h j =>
        have h : i ∈ j :: valIx (ms.zip rs) := h
        rcases List.mem_cons.mp h with rfl | h
        · exact ⟨0, by simp, by simp⟩
        · exact go h
/-- no value that is handed over is an own one -/
theorem CS.plain (S : CS c σ O δ H O1 δ1 H1 ms rs vs) (h : ∀ i ∈ valIx (ms.zip rs), ∃ d, δ1[i]? = some (some (.p d))) : ∀ a, brw ms rs vs δ1 σ a → ¬ All O1 δ1 σ a := by
  rintro a ⟨k, i, h1, h2, h3, q⟩ ha
  obtain ⟨d, hd⟩ := h i (valIx_mem h1 h2)
  rcases q.1 with ⟨l, d', z⟩ | ⟨l, d', z⟩ <;> (rw [hd] at z; cases z)
theorem CS.frz (S : CS c σ O δ H O1 δ1 H1 ms rs vs) {δf : DEnv} (h : frzL δ1 (valIx (ms.zip rs)) = some δf) : CS c σ O δ H O1 δf H1 ms rs vs ∧ ∀ a, brw ms rs vs δf σ a → ¬ All O1 δf σ a := by
  obtain ⟨E2, t2, k, s, _⟩ := frzL_ok h S.E1
  have S2 : CS c σ O δ H O1 δf H1 ms rs vs := by
    refine ⟨S.E, S.t.trans t2, E2, S.q.tr S.E S.t t2, S.ln, List.all_eq_true.mpr fun p hp => ?_, S.ap⟩
    obtain ⟨m, r⟩ := p
    cases m with
    | false => rfl
    | true =>
      cases r with
      | o x => rfl
      | d x => exact List.all_eq_true.mp S.lo _ hp
      | h i =>
        have l1 := List.all_eq_true.mp S.lo _ hp
        obtain ⟨j, hj⟩ := List.getElem?_of_mem hp
        rw [List.getElem?_zip_eq_some] at hj
        have ni : i ∉ valIx (ms.zip rs) := fun hm => by
          obtain ⟨k', g1, g2⟩ := valIx_inv hm
          have ne : j ≠ k' := fun e => by subst e; rw [hj.1] at g1; cases g1
          have := apart_ne S.ap ne hj.1 hj.2 g1 g2 rfl
          simp [sameK] at this
        have e := k i ni
        have l1 : (match δ1[i]? with
          | some (some (.m false _)) => true
          | some (some (.io false _)) => true
          | _ => false) = true := l1
        show (match δf[i]? with
          | some (some (.m false _)) => true
          | some (some (.io false _)) => true
          | _ => false) = true
        rw [e]
        exact l1
  exact ⟨S2, S2.plain s⟩
theorem isOwn_p {i : Nat} (h : isOwn δ i = false) : ∃ d, δ[i]? = some (some (.p d)) := by
  unfold isOwn at h
  split at h
  · rename_i d e; exact ⟨d, e⟩
  · cases h
theorem callR_ok {C : Calls} {f : Nat} {Q : VK} (E : ER c O δ σ H) (p : PostL c O δ σ H rs δ1 vs H1) (h : OkE c O δ σ H (callR C f rs δ1) Q) : spD c.K C f vs H1 Q E0 := by
  obtain ⟨O1, t, E1, q⟩ := p
  unfold callR at h
  cases e1 : C.md f with
  | none => rw [e1] at h; exact h.elim
  | some ms =>
  cases e2 : resL δ1 rs with
  | none => rw [e1, e2] at h; exact h.elim
  | some ds =>
  rw [e1, e2] at h
  dsimp only at h
  split at h
  · rename_i hc
    obtain ⟨c1, c2, c3⟩ := hc
    have S : CS c σ O δ H O1 δ1 H1 ms rs vs := ⟨E, t, E1, q, c1, c2, c3⟩
    cases e3 : C.run f ds with
    | exc k => rw [e3] at h; exact h.elim
    | stuck => rw [e3] at h; exact h.elim
    | ok z =>
      rw [e3] at h
      simp only [bind_ok] at h
      have fin : ∀ {δs : DEnv} (S' : CS c σ O δ H O1 δs H1 ms rs vs), (∀ k (m : Bool) r v d, ms[k]? = some m → rs[k]? = some r → vs[k]? = some v → resR δ1 r = some d → if m then ∃ a, v = V.ref a ∧ lent ms vs a ∧ OwnAt c.K H1 (OC ms rs vs O1 δs σ) a d else Rep c.K H1 (OC ms rs vs O1 δs σ) d v) →
          ((∀ a, brw ms rs vs δs σ a → ¬ All O1 δs σ a) ∨ (z.1.scal = true ∧ z.2.1 = false ∧ z.2.2.all D.flat = true)) → OkE c O δ σ H (match putIos δs (ms.zip rs) z.2.2 with | some δ1 => .ok (if z.2.1 then .o z.1 else .d z.1, δ1) | none => .stuck) Q → spD c.K C f vs H1 Q E0 := fun {δs} S' per hb h => by
        cases e4 : putIos δs (ms.zip rs) z.2.2 with
        | none => rw [e4] at h; exact h.elim
        | some δ2 =>
          rw [e4] at h
          refine ⟨ms, ds, z, OC ms rs vs O1 δs σ, lent ms vs, e1, e3, argOk_of c1 (rss_len q) e2 per, S'.apart, fun a ha => S'.lent_oc ha, fun a ha => ha, fun a ha => S'.E1.all_some ha.1, fun v H' O' R => h v H' (S'.after R e4 hb)⟩
      split at h
      · rename_i hb
        refine fin S (fun k m r v d => S.arg) ?_ h
        rcases Bool.or_eq_true_iff.mp hb with hb | hb
        · exact .inl (S.plain fun i hi => isOwn_p (by simpa using List.all_eq_true.mp hb i hi))
        · simp only [Bool.and_eq_true, Bool.not_eq_true'] at hb
          exact .inr ⟨hb.1.1, hb.1.2, hb.2⟩
      · cases e5 : frzL δ1 (valIx (ms.zip rs)) with
        | none => rw [e5] at h; exact h.elim
        | some δf =>
          rw [e5] at h
          obtain ⟨S2, hb⟩ := S.frz e5
          refine fin S2 (fun k m r v d g1 g2 g3 g4 => S2.arg g1 g2 g3 ?_) (.inl hb) h
          -- what a result is, is the same behind the freezing
          obtain ⟨E2, t2, kk, ss, sv⟩ := frzL_ok e5 E1
          cases r with
          | d x => exact g4
          | o x => exact g4
          | h i =>
            simp only [resR] at g4 ⊢
            cases hi : δ1[i]? with
            | none => rw [hi] at g4; cases g4
            | some w =>
              cases w with
              | none => rw [hi] at g4; cases g4
              | some s =>
                rw [hi] at g4
                obtain ⟨s', e', v'⟩ := sv i s hi
                rw [e']
                dsimp only at g4 ⊢
                rw [v']
                exact g4
  · exact h.elim
end
section
variable {X : Cx} {c : Cfg} {a : Expr} {es : List Expr} {fl : DEnv → Res (List R × DEnv)} {pos : Pos}
def fCall (C : Calls) (f : Nat) (fl : DEnv → Res (List R × DEnv)) (δ : DEnv) : Res (R × DEnv) := (fl δ).bind fun z => callR C f z.1 z.2
theorem de_call {nm : Str} {p' : Pos} {n f : Nat} {C : Calls} {fa : Addr} {fd : FuncData} {ps : List Str} (F : FnOk X.prog X.w X.K X.mg X.base CX0 n fa fd ps (spD X.K C f)) (hr : Room n X.A) (hg : Gl X nm) (hm : X.mg nm = some (.ref fa)) (hk : PySem.W.keepIn X.K (.ref fa) = true) (hb : Binds X.K fd ps []) (hK : X.K = c.K) (hdb : (nm == ("__debug__" : Str)) = false) (ha : DL X c (a :: es) fl) :
    DE X c (.Call (.Name nm p') (a :: es) [] pos) (fCall C f fl) := by
  have st := ha.st
  simp only [List.all_cons, Bool.and_eq_true] at st
  refine .of ((pe_call F hr hg hm hk hb .nil pass0 ha.pa hdb (star_of st.1) (plain_of st.2)).imp fun σ H Q ⟨O, δ, E, h⟩ => ?_)
  obtain ⟨rs, δ1, e1, h⟩ := OkE.bindL h
  refine ⟨O, δ, E, ?_⟩
  rw [e1]
  intro vs H1 p
  rw [List.append_nil, hK]
  exact callR_ok E p h
theorem de_call0 {nm : Str} {p' : Pos} {n f : Nat} {C : Calls} {fa : Addr} {fd : FuncData} {ps : List Str} (F : FnOk X.prog X.w X.K X.mg X.base CX0 n fa fd ps (spD X.K C f)) (hr : Room n X.A) (hg : Gl X nm) (hm : X.mg nm = some (.ref fa)) (hk : PySem.W.keepIn X.K (.ref fa) = true) (hb : Binds X.K fd ps []) (hK : X.K = c.K) (hdb : (nm == ("__debug__" : Str)) = false) :
    DE X c (.Call (.Name nm p') [] [] pos) (fCall C f fun δ => .ok ([], δ)) := by
  refine .of ((pe_call0 F hr hg hm hk hb .nil pass0 hdb).imp fun σ H Q ⟨O, δ, E, h⟩ => ?_)
  have h : OkE c O δ σ H (callR C f [] δ) Q := h
  show spD X.K C f ([] ++ []) H Q E0
  rw [hK]
  exact callR_ok (vs := []) (rs := []) E ⟨O, Tr.refl, E, (rfl : ([] : List V) = [])⟩ h
end
end Ev
/-! EvJ: what loops walk -/
namespace Ev
open PySem PySem.Spec PyProof.Rows L2

/-- what stays true of frozen data and of locked slots -/
structure StR (O : Addr → Prop) (δ : DEnv) (σ : L2.St) (H : Hp) (O' : Addr → Prop) (δ' : DEnv) (σ' : L2.St) (H' : Hp) : Prop where
  k : ∀ a o, ¬ All O δ σ a → H a = some o → H' a = some o ∧ ¬ All O' δ' σ' a
  lk : ∀ (i : Nat) (s : S), s.lk = true → δ[i]? = some (some s) → δ'[i]? = some (some s) ∧ σ'[i]? = σ[i]?
section
variable {c : Cfg} {O O1 O2 O' : Addr → Prop} {δ δ1 δ2 δ' : DEnv} {σ σ' σ1 σ2 : L2.St} {H H1 H2 H' : Hp}
theorem StR.refl : StR O δ σ H O δ σ H := ⟨fun _ _ n e => ⟨e, n⟩, fun _ _ _ e => ⟨e, rfl⟩⟩
theorem StR.trans (a : StR O δ σ H O1 δ1 σ1 H1) (b : StR O1 δ1 σ1 H1 O2 δ2 σ2 H2) : StR O δ σ H O2 δ2 σ2 H2 :=
  ⟨fun x o n e => let ⟨e1, n1⟩ := a.k x o n e; b.k x o n1 e1, fun i s l e => by
    obtain ⟨e1, z1⟩ := a.lk i s l e
    obtain ⟨e2, z2⟩ := b.lk i s l e1
    exact ⟨e2, z2.trans z1⟩⟩
theorem Tr.str (t : Tr O δ σ H O1 δ1 H1) : StR O δ σ H O1 δ1 σ H1 := ⟨t.k, fun i s l e => ⟨t.lk i s l e, rfl⟩⟩
abbrev Src := (Addr → Prop) → DEnv → L2.St → Hp → Prop
/-- J walks the items, wherever G holds -/
structure DW (c : Cfg) (J : It) (items : List D) (G : Src) : Prop where
  go : ∀ (O : Addr → Prop) δ σ H i, ER c O δ σ H → G O δ σ H → i < items.length → J.go i H
  stop : ∀ (O : Addr → Prop) δ σ H, ER c O δ σ H → G O δ σ H → J.stop items.length H
  yld : ∀ (O : Addr → Prop) δ σ H i x H', ER c O δ σ H → G O δ σ H → i < items.length → J.yld i H x H' → Same H H' ∧ ∃ d, items[i]? = some d ∧ Rep c.K H' (All O δ σ) d x
  st : ∀ (O : Addr → Prop) δ σ H O' δ' σ' H', G O δ σ H → ER c O' δ' σ' H' → StR O δ σ H O' δ' σ' H' → G O' δ' σ' H'
/-- behind the source of a loop -/
def OkI (c : Cfg) (O : Addr → Prop) (δ : DEnv) (σ : L2.St) (H : Hp) (z : Res (List D × List R × DEnv)) (R : It → Hp → Prop) : Prop := match z with
  | .ok y => ∀ J G O1 H1, Tr O δ σ H O1 y.2.2 H1 → ER c O1 y.2.2 σ H1 → DW c J y.1 G → G O1 (lockL y.2.2 y.2.1) σ H1 → R J H1
  | _ => False
def tDI (c : Cfg) (f : DEnv → Res (List D × List R × DEnv)) : TI := fun σ H R => ∃ O δ, ER c O δ σ H ∧ OkI c O δ σ H (f δ) R
/-- the source: the items; whose objects stand in slots, they are locked -/
def fIt (ik : IK) (fl : DEnv → Res (List R × DEnv)) (δ : DEnv) : Res (List D × List R × DEnv) := (fl δ).bind fun z => match resL z.2 z.1 with
  | none => .stuck
  | some ds => match evI ik ds with
    | none => .stuck
    | some items => .ok (items, z.1, z.2)

/-! locks -/
/-- the same slots but for locks -/
def Sim (δ δ' : DEnv) : Prop := δ'.length = δ.length ∧ (∀ (i : Nat), δ[i]? = some none → δ'[i]? = some none) ∧ ∀ (i : Nat) (s : S), δ[i]? = some (some s) → ∃ s', δ'[i]? = some (some s') ∧ ((∃ d, s = .p d ∧ s' = .p d) ∨ (∃ l l' d, s = .m l d ∧ s' = .m l' d) ∨ ∃ l l' d, s = .io l d ∧ s' = .io l' d)
theorem Sim.refl : Sim δ δ := ⟨rfl, fun _ e => e, fun i s e => ⟨s, e, by cases s with
  | p d => exact .inl ⟨d, rfl, rfl⟩
  | m l d => exact .inr (.inl ⟨l, l, d, rfl, rfl⟩)
  | io l d => exact .inr (.inr ⟨l, l, d, rfl, rfl⟩)⟩⟩
theorem Sim.trans (a : Sim δ δ1) (b : Sim δ1 δ2) : Sim δ δ2 := by
  refine ⟨b.1.trans a.1, fun i e => b.2.1 i (a.2.1 i e), fun i s e => ?_⟩
  obtain ⟨s1, e1, r1⟩ := a.2.2 i s e
  obtain ⟨s2, e2, r2⟩ := b.2.2 i s1 e1
  refine ⟨s2, e2, ?_⟩
  rcases r1 with ⟨d, h1, h2⟩ | ⟨l, l', d, h1, h2⟩ | ⟨l, l', d, h1, h2⟩ <;> rcases r2 with ⟨d', h3, h4⟩ | ⟨m, m', d', h3, h4⟩ | ⟨m, m', d', h3, h4⟩ <;> subst h1 h2 <;> cases h3
  · exact .inl ⟨d, rfl, h4⟩
  · exact .inr (.inl ⟨_, _, d, rfl, h4⟩)
  · exact .inr (.inr ⟨_, _, d, rfl, h4⟩)
theorem Sim.set {i : Nat} {s s' : S} (h : δ[i]? = some (some s)) (r : (∃ d, s = .p d ∧ s' = .p d) ∨ (∃ l l' d, s = .m l d ∧ s' = .m l' d) ∨ ∃ l l' d, s = .io l d ∧ s' = .io l' d) : Sim δ (δ.set i (some s')) := by
  have hi : i < δ.length := (List.getElem?_eq_some_iff.mp h).1
  refine ⟨List.length_set, fun j e => ?_, fun j t e => ?_⟩
  · have ne : i ≠ j := fun z => by subst z; rw [h] at e; cases e
    rw [List.getElem?_set_ne ne]; exact e
  · by_cases ne : i = j
    · subst ne
      rw [h] at e; cases e
      exact ⟨s', List.getElem?_set_self hi, r⟩
    · obtain ⟨t', e', r'⟩ := (Sim.refl (δ := δ)).2.2 j t e
      exact ⟨t', by rw [List.getElem?_set_ne ne]; exact e', r'⟩
theorem Sim.lockR {r : R} : Sim δ (lockR δ r) := by
  cases r with
  | d x => exact .refl
  | o x => exact .refl
  | h i =>
    simp only [Ev.lockR]
    split
    · rename_i s e
      refine Sim.set e ?_
      cases s with
      | p d => exact .inl ⟨d, rfl, rfl⟩
      | m l d => exact .inr (.inl ⟨l, _, d, rfl, rfl⟩)
      | io l d => exact .inr (.inr ⟨l, _, d, rfl, rfl⟩)
    · exact .refl
theorem Sim.lockL : ∀ {rs : List R} {δ : DEnv}, Sim δ (lockL δ rs)
  | [], _ => .refl
  | r :: rs, δ => (Sim.lockR (r := r)).trans (Sim.lockL (rs := rs))
theorem Sim.backR {δ0 : DEnv} {r : R} : Sim δ (backR δ0 δ r) := by
  cases r with
  | d x => exact .refl
  | o x => exact .refl
  | h i =>
    simp only [Ev.backR]
    split
    · rename_i l _ _ d e0 e; exact Sim.set e (.inr (.inl ⟨_, _, d, rfl, rfl⟩))
    · rename_i l _ _ d e0 e; exact Sim.set e (.inr (.inr ⟨_, _, d, rfl, rfl⟩))
    · exact .refl
theorem Sim.backL {δ0 : DEnv} : ∀ {rs : List R} {δ : DEnv}, Sim δ (backL δ0 δ rs)
  | [], _ => .refl
  | r :: rs, δ => (Sim.backR (r := r)).trans (Sim.backL (rs := rs))
theorem Sim.back (h : Sim δ δ') {i : Nat} {s' : S} (e : δ'[i]? = some (some s')) : ∃ s, δ[i]? = some (some s) ∧ ((∃ d, s = .p d ∧ s' = .p d) ∨ (∃ l l' d, s = .m l d ∧ s' = .m l' d) ∨ ∃ l l' d, s = .io l d ∧ s' = .io l' d) := by
  have hi : i < δ.length := by rw [← h.1]; exact (List.getElem?_eq_some_iff.mp e).1
  cases q : δ[i]? with
  | none => rw [List.getElem?_eq_none_iff] at q; omega
  | some w =>
    cases w with
    | none => rw [h.2.1 i q] at e; cases e
    | some s =>
      obtain ⟨s1, e1, r⟩ := h.2.2 i s q
      rw [e] at e1; cases e1
      exact ⟨s, rfl, r⟩
theorem Sim.slot (h : Sim δ δ') {i : Nat} {a : Addr} : SlotAt δ' σ i a ↔ SlotAt δ σ i a := by
  constructor
  · rintro ⟨q, e⟩
    refine ⟨?_, e⟩
    rcases q with ⟨l, d, q⟩ | ⟨l, d, q⟩
    · obtain ⟨s, e1, r⟩ := h.back q
      rcases r with ⟨d', h1, h2⟩ | ⟨l1, l', d', h1, h2⟩ | ⟨l1, l', d', h1, h2⟩ <;> cases h2
      exact .inl ⟨l1, d, by rw [e1, h1]⟩
    · obtain ⟨s, e1, r⟩ := h.back q
      rcases r with ⟨d', h1, h2⟩ | ⟨l1, l', d', h1, h2⟩ | ⟨l1, l', d', h1, h2⟩ <;> cases h2
      exact .inr ⟨l1, d, by rw [e1, h1]⟩
  · rintro ⟨q, e⟩
    refine ⟨?_, e⟩
    rcases q with ⟨l, d, q⟩ | ⟨l, d, q⟩
    · obtain ⟨s, e1, r⟩ := h.2.2 i _ q
      rcases r with ⟨d', h1, h2⟩ | ⟨l1, l', d', h1, h2⟩ | ⟨l1, l', d', h1, h2⟩ <;> cases h1
      exact .inl ⟨l', d, by rw [e1, h2]⟩
    · obtain ⟨s, e1, r⟩ := h.2.2 i _ q
      rcases r with ⟨d', h1, h2⟩ | ⟨l1, l', d', h1, h2⟩ | ⟨l1, l', d', h1, h2⟩ <;> cases h1
      exact .inr ⟨l', d, by rw [e1, h2]⟩
theorem Sim.all (h : Sim δ δ') {a : Addr} : All O δ' σ a ↔ All O δ σ a := by
  constructor
  · rintro (q | ⟨i, q⟩)
    · exact .inl q
    · exact .inr ⟨i, h.slot.mp q⟩
  · rintro (q | ⟨i, q⟩)
    · exact .inl q
    · exact .inr ⟨i, h.slot.mpr q⟩
theorem ER.sim (E : ER c O δ σ H) (h : Sim δ δ') : ER c O δ' σ H := by
  have k : ∀ a o, ¬ All O δ σ a → H a = some o → H a = some o ∧ ¬ All O δ' σ a := fun a o n e => ⟨e, fun z => n (h.all.mp z)⟩
  refine ⟨h.1.trans E.len, E.tr, E.sub, E.io, E.tr0, fun i s' e => ?_, fun i j a h1 h2 => E.inj i j a (h.slot.mp h1) (h.slot.mp h2), E.keep⟩
  obtain ⟨s, e1, r⟩ := h.back e
  have q := E.sl i s e1
  rcases r with ⟨d, h1, h2⟩ | ⟨l, l', d, h1, h2⟩ | ⟨l, l', d, h1, h2⟩ <;> subst h1 h2
  · obtain ⟨v, e2, r⟩ := q; exact ⟨v, e2, r.tr k⟩
  · obtain ⟨a, e2, n, n0, r⟩ := q; exact ⟨a, e2, n, n0, r.tr k fun o ho => ho⟩
  · obtain ⟨a, e2, n, r⟩ := q; exact ⟨a, e2, n, r.tr k fun o ho => ho⟩
/-- a locked slot stays locked -/
theorem lockR_lk {r : R} {i : Nat} {s : S} (l : s.lk = true) (e : δ[i]? = some (some s)) : (lockR δ r)[i]? = some (some s) := by
  cases r with
  | d x => exact e
  | o x => exact e
  | h j =>
    simp only [Ev.lockR]
    split
    · rename_i s1 e1
      by_cases ne : j = i
      · subst ne
        rw [e] at e1; cases e1
        rw [List.getElem?_set_self (List.getElem?_eq_some_iff.mp e).1]
        cases s with
        | p d => cases l
        | m b d => cases b with
          | true => rfl
          | false => cases l
        | io b d => cases b with
          | true => rfl
          | false => cases l
      · rw [List.getElem?_set_ne ne]; exact e
    · exact e
theorem lockL_lk : ∀ {rs : List R} {δ : DEnv} {i : Nat} {s : S}, s.lk = true → δ[i]? = some (some s) → (lockL δ rs)[i]? = some (some s)
  | [], _, _, _, _, e => e
  | r :: rs, δ, i, s, l, e => lockL_lk (rs := rs) l (lockR_lk l e)
theorem Tr.lock {rs : List R} : Tr O δ σ H O (lockL δ rs) H :=
  ⟨fun _ _ _ e => e, fun _ o e => ⟨o, e⟩, fun _ h => .inl h, fun _ h => h, fun _ _ h => Sim.lockL.slot.mp h, fun i s e => let ⟨s', e', _⟩ := (Sim.lockL (rs := rs)).2.2 i s e; ⟨s', e'⟩, fun i s l e => lockL_lk l e⟩
/-- behind the locking, a result's slot is locked (or frozen) -/
theorem lockL_at : ∀ {rs : List R} {δ : DEnv} {i : Nat} {s : S}, R.h i ∈ rs → δ[i]? = some (some s) → ∃ s' : S, (lockL δ rs)[i]? = some (some s') ∧ s'.val = s.val ∧ (s'.lk = true ∨ ∃ d, s' = .p d)
  | [], _, _, _, h, _ => absurd h (by simp)
  | r :: rs, δ, i, s, h, e => by
    show ∃ s' : S, (lockL (Ev.lockR δ r) rs)[i]? = some (some s') ∧ s'.val = s.val ∧ (s'.lk = true ∨ ∃ d, s' = .p d)
    by_cases hr : r = R.h i
    · subst hr
      have e1 : (Ev.lockR δ (R.h i))[i]? = some (some s.lock) := by
        simp only [Ev.lockR, e]
        exact List.getElem?_set_self (List.getElem?_eq_some_iff.mp e).1
      cases s with
      | p d =>
        by_cases hm : R.h i ∈ rs
        · obtain ⟨s', a1, a2, a3⟩ := lockL_at hm e1
          exact ⟨s', a1, a2, a3⟩
        · obtain ⟨s', a1, a2⟩ := (Sim.lockL (rs := rs)).2.2 i _ e1
          rcases a2 with ⟨d', h1, h2⟩ | ⟨_, _, _, h1, _⟩ | ⟨_, _, _, h1, _⟩ <;> cases h1
          exact ⟨s', a1, by rw [h2], .inr ⟨_, h2⟩⟩
      | m l d => exact ⟨_, lockL_lk rfl e1, rfl, .inl rfl⟩
      | io l d => exact ⟨_, lockL_lk rfl e1, rfl, .inl rfl⟩
    · have hm : R.h i ∈ rs := by rcases List.mem_cons.mp h with h | h; exact absurd h.symm hr; exact h
      obtain ⟨s1, e1, r1⟩ := (Sim.lockR (δ := δ) (r := r)).2.2 i s e
      obtain ⟨s', a1, a2, a3⟩ := lockL_at hm e1
      refine ⟨s', a1, a2.trans ?_, a3⟩
      rcases r1 with ⟨d, h1, h2⟩ | ⟨_, _, d, h1, h2⟩ | ⟨_, _, d, h1, h2⟩ <;> subst h1 h2 <;> rfl

/-! sources: a list, a tuple, a text, a range, .. -/
/-- data that stands still: in no slot, or in a locked one -/
def Still (c : Cfg) (d : D) (v : V) : Src := fun O δ σ H => Rep c.K H (All O δ σ) d v ∨ ∃ (i : Nat) (s : S), s.lk = true ∧ s.val = d ∧ δ[i]? = some (some s) ∧ σ[i]? = some (some v)
theorem Still.rd0 {d : D} {v : V} (E : ER c O δ σ H) (h : Still c d v O δ σ H) : Rd0 c.K H (All O δ σ) d v := by
  rcases h with h | ⟨i, s, l, hv, e, es⟩
  · exact h.rd0
  · have q := E.sl i s e
    cases s with
    | p d' => cases l
    | m b d' => cases hv; obtain ⟨a, e1, _, _, r⟩ := q; rw [es] at e1; cases e1; exact r.rd0
    | io b d' => cases hv; obtain ⟨a, e1, _, r⟩ := q; rw [es] at e1; cases e1; exact r.rd0
theorem Still.st {d : D} {v : V} (h : Still c d v O δ σ H) (t : StR O δ σ H O' δ' σ' H') : Still c d v O' δ' σ' H' := by
  rcases h with h | ⟨i, s, l, hv, e, es⟩
  · exact .inl (h.tr t.k)
  · obtain ⟨e1, e2⟩ := t.lk i s l e
    exact .inr ⟨i, s, l, hv, e1, e2.trans es⟩
theorem RR.still {K : PySem.W.Frag} {Hb : Hp} {Ob : Addr → Prop} {δb : DEnv} {rs : List R} {r : R} {v : V} {d : D} (Eb : ER c Ob δb σ Hb) (tb : Tr Ob δb σ Hb O δ H) (E : ER c O δ σ H) (h : RR c.K Hb O δ σ H r v) (e : resR δ r = some d) (hm : r ∈ rs) : Still c d v (fun x => O x ∧ ∃ o, Hb x = some o) (lockL δ rs) σ H := by
  have k : ∀ a o, ¬ All O δ σ a → H a = some o → H a = some o ∧ ¬ All (fun x => O x ∧ ∃ o, Hb x = some o) (lockL δ rs) σ a := fun a o n e => ⟨e, fun z => n (z.imp (fun z => z.1) fun ⟨i, z⟩ => ⟨i, Sim.lockL.slot.mp z⟩)⟩
  cases r with
  | d x => cases e; exact .inl (Rep.tr k h)
  | o x =>
    cases e
    obtain ⟨a, rfl, o, n, w⟩ := h
    refine .inl ((w.tr k fun o ho => ho).rep fun z => ?_)
    rcases z with z | ⟨i, z⟩
    · obtain ⟨u, e⟩ := z.2; rw [n] at e; cases e
    · obtain ⟨u, e⟩ := Eb.slot_some ⟨i, tb.le i a (Sim.lockL.slot.mp z)⟩; rw [n] at e; cases e
  | h i =>
    obtain ⟨es, s, z⟩ := h
    simp only [resR, z] at e
    cases e
    obtain ⟨s', a1, a2, a3⟩ := lockL_at (rs := rs) hm z
    rcases a3 with a3 | ⟨d', rfl⟩
    · exact .inr ⟨i, s', a3, a2, a1, es⟩
    · have E2 : ER c O (lockL δ rs) σ H := E.sim Sim.lockL
      obtain ⟨v', e1, w⟩ := E2.sl i _ a1
      rw [es] at e1; cases e1
      refine .inl ?_
      rw [← a2]
      exact w.tr fun a o n e => ⟨e, fun z => n (z.imp (fun z => z.1) id)⟩
theorem dw_list {a : Addr} {ds : List D} : DW c (Itl c.K a) ds (Still c (.lst ds) (.ref a)) where
  go := fun O δ σ H i E h hi => by
    obtain ⟨b, vs, e, q, r⟩ := h.rd0 E
    cases e
    exact ⟨vs, vs[i]'(by rw [← r.length]; exact hi), q, List.getElem?_eq_getElem _⟩
  stop := fun O δ σ H E h => by
    obtain ⟨b, vs, e, q, r⟩ := h.rd0 E
    cases e
    exact ⟨vs, q, by rw [r.length]; exact Nat.le_refl _⟩
  yld := fun O δ σ H i x H' E h hi y => by
    obtain ⟨b, vs, e, q, r⟩ := h.rd0 E
    cases e
    obtain ⟨rfl, y⟩ := y
    obtain ⟨d, hd, w⟩ := r.get_v (y vs q)
    exact ⟨Same.refl _, d, hd, w⟩
  st := fun O δ σ H O' δ' σ' H' h _ t => h.st t
theorem dw_tup {a : Addr} {ds : List D} : DW c (Itt c.K a) ds (Still c (.tup ds) (.ref a)) where
  go := fun O δ σ H i E h hi => by
    obtain ⟨b, vs, e, q, r⟩ := rd0_tup (h.rd0 E)
    cases e
    exact ⟨vs, vs[i]'(by rw [← r.length]; exact hi), SqT.of q.2, List.getElem?_eq_getElem _⟩
  stop := fun O δ σ H E h => by
    obtain ⟨b, vs, e, q, r⟩ := rd0_tup (h.rd0 E)
    cases e
    exact ⟨vs, SqT.of q.2, by rw [r.length]; exact Nat.le_refl _⟩
  yld := fun O δ σ H i x H' E h hi y => by
    obtain ⟨b, vs, e, q, r⟩ := rd0_tup (h.rd0 E)
    cases e
    obtain ⟨rfl, y⟩ := y
    obtain ⟨d, hd, w⟩ := r.get_v (y vs (SqT.of q.2))
    exact ⟨Same.refl _, d, hd, w⟩
  st := fun O δ σ H O' δ' σ' H' h _ t => h.st t
theorem dw_str {x : Str} : DW c (Its x) (x.cps.toList.map chr) (fun _ _ _ _ => True) where
  go := fun O δ σ H i E h hi => by
    show i < x.cps.size
    simpa using hi
  stop := fun O δ σ H E h => by
    show x.cps.size ≤ _
    simp
  yld := fun O δ σ H i v H' E h hi y => by
    obtain ⟨rfl, ch, e, rfl⟩ := y
    refine ⟨Same.refl _, chr ch, ?_, by simp [Rep, chr]⟩
    have e' : x.cps.toList[i]? = some ch := by simpa using e
    rw [List.getElem?_map, e']
    rfl
  st := fun O δ σ H O' δ' σ' H' h _ t => trivial
theorem rangeD_get {lo : Int} {n i : Nat} (h : i < n) : (rangeD lo n)[i]? = some (.int (lo + (i : Nat))) := by
  unfold rangeD
  rw [List.getElem?_map, List.getElem?_range h]
  rfl
theorem dw_range {lo : Int} {n : Nat} : DW c (Itr lo n) (rangeD lo n) (fun _ _ _ _ => True) where
  go := fun O δ σ H i E h hi => by
    show i < n
    simpa [rangeD] using hi
  stop := fun O δ σ H E h => by
    show n ≤ _
    simp [rangeD]
  yld := fun O δ σ H i v H' E h hi y => by
    obtain ⟨rfl, rfl⟩ := y
    exact ⟨Same.refl _, _, rangeD_get (by simpa [rangeD] using hi), by simp [Rep]⟩
  st := fun O δ σ H O' δ' σ' H' h _ t => trivial
theorem enumD_get : ∀ {xs : List D} {k i : Nat} {d : D}, xs[i]? = some d → (enumD k xs)[i]? = some (.tup [.int ((k + i : Nat)), d])
  | [], _, _, _, h => by simp at h
  | x :: xs, k, 0, d, h => by simp at h; subst h; simp [enumD]
  | x :: xs, k, i + 1, d, h => by
    have := enumD_get (k := k + 1) (show xs[i]? = some d by simpa using h)
    have e : k + 1 + i = k + (i + 1) := by omega
    rw [e] at this
    simpa [enumD] using this
theorem enumD_len : ∀ {xs : List D} {k : Nat}, (enumD k xs).length = xs.length
  | [], _ => rfl
  | x :: xs, k => by simp [enumD, enumD_len]
/-- a new pair is frozen data -/
theorem rep_pair {A : Addr → Prop} {T : Addr} {d e : D} {x y : V} {K : PySem.W.Frag} (n : H T = none) (t : Trk A H) (h1 : Rep K H A d x) (h2 : Rep K H A e y) : Same H (upd H T (.tup [x, y])) ∧ Rep K (upd H T (.tup [x, y])) A (.tup [d, e]) (.ref T) :=
  PrimQ.tup (Q := fun v H' => Same H H' ∧ Rep K H' A (.tup [d, e]) v) (fun v H' s r => ⟨s, r⟩) t (RepL.cons h1 (RepL.one h2)) n
theorem dw_enum {a : Addr} {ds : List D} : DW c (Ite c.K a) (enumD 0 ds) (Still c (.lst ds) (.ref a)) where
  go := fun O δ σ H i E h hi => by
    obtain ⟨b, vs, e, q, r⟩ := h.rd0 E
    cases e
    rw [enumD_len] at hi
    exact ⟨vs, vs[i]'(by rw [← r.length]; exact hi), q, List.getElem?_eq_getElem _⟩
  stop := fun O δ σ H E h => by
    obtain ⟨b, vs, e, q, r⟩ := h.rd0 E
    cases e
    exact ⟨vs, q, by rw [enumD_len, r.length]; exact Nat.le_refl _⟩
  yld := fun O δ σ H i x H' E h hi y => by
    obtain ⟨b, vs, e, q, r⟩ := h.rd0 E
    cases e
    obtain ⟨T, x', rfl, n, rfl, y⟩ := y
    obtain ⟨d, hd, w⟩ := r.get_v (y vs q)
    obtain ⟨s, w'⟩ := rep_pair (d := .int ((0 + i : Nat))) (x := .int (i : Nat)) n E.trk (by simp [Rep]) w
    exact ⟨s, _, enumD_get hd, w'⟩
  st := fun O δ σ H O' δ' σ' H' h _ t => h.st t
theorem zipD_get : ∀ {xs ys : List D} {i : Nat} {d e : D}, xs[i]? = some d → ys[i]? = some e → (zipD xs ys)[i]? = some (.tup [d, e])
  | [], _, _, _, _, h, _ => by simp at h
  | _ :: _, [], _, _, _, _, h => by simp at h
  | x :: xs, y :: ys, 0, d, e, h, g => by simp at h g; subst h g; simp [zipD]
  | x :: xs, y :: ys, i + 1, d, e, h, g => by
    have := zipD_get (show xs[i]? = some d by simpa using h) (show ys[i]? = some e by simpa using g)
    simpa [zipD] using this
theorem zipD_len : ∀ {xs ys : List D}, (zipD xs ys).length = min xs.length ys.length
  | [], _ => by simp [zipD]
  | _ :: _, [] => by simp [zipD]
  | x :: xs, y :: ys => by simp [zipD, zipD_len]
theorem dw_zip {a b : Addr} {ds es : List D} : DW c (Itz c.K a b) (zipD ds es) (fun O δ σ H => Still c (.lst ds) (.ref a) O δ σ H ∧ Still c (.lst es) (.ref b) O δ σ H) where
  go := fun O δ σ H i E h hi => by
    obtain ⟨_, vs, e, q, r⟩ := h.1.rd0 E
    cases e
    obtain ⟨_, us, e, q2, r2⟩ := h.2.rd0 E
    cases e
    rw [zipD_len] at hi
    have h1 : i < vs.length := by rw [← r.length]; omega
    have h2 : i < us.length := by rw [← r2.length]; omega
    exact ⟨vs, us, vs[i], us[i], q, q2, List.getElem?_eq_getElem _, List.getElem?_eq_getElem _⟩
  stop := fun O δ σ H E h => by
    obtain ⟨_, vs, e, q, r⟩ := h.1.rd0 E
    cases e
    obtain ⟨_, us, e, q2, r2⟩ := h.2.rd0 E
    cases e
    exact ⟨vs, us, q, q2, by rw [zipD_len, r.length, r2.length]; omega⟩
  yld := fun O δ σ H i x H' E h hi y => by
    obtain ⟨_, vs, e, q, r⟩ := h.1.rd0 E
    cases e
    obtain ⟨_, us, e, q2, r2⟩ := h.2.rd0 E
    cases e
    obtain ⟨T, x', z', rfl, n, rfl, y1, y2⟩ := y
    obtain ⟨d, hd, w⟩ := r.get_v (y1 vs q)
    obtain ⟨d2, hd2, w2⟩ := r2.get_v (y2 us q2)
    obtain ⟨s, w'⟩ := rep_pair n E.trk w w2
    exact ⟨s, _, zipD_get hd hd2, w'⟩
  st := fun O δ σ H O' δ' σ' H' h _ t => ⟨h.1.st t, h.2.st t⟩
theorem dw_rev {a : Addr} {ds : List D} {n : Nat} (hn : n = ds.length) : DW c (Itv c.K a n) ds.reverse (Still c (.lst ds) (.ref a)) where
  go := fun O δ σ H i E h hi => by
    obtain ⟨b, vs, e, q, r⟩ := h.rd0 E
    cases e
    have hi : i < ds.length := by simpa using hi
    have l := r.length
    exact ⟨by omega, vs, vs[n - 1 - i]'(by omega), q, List.getElem?_eq_getElem _⟩
  stop := fun O δ σ H E h => by
    show n ≤ _
    simp [hn]
  yld := fun O δ σ H i x H' E h hi y => by
    obtain ⟨b, vs, e, q, r⟩ := h.rd0 E
    cases e
    obtain ⟨rfl, y⟩ := y
    obtain ⟨d, hd, w⟩ := r.get_v (y vs q)
    have hi : i < ds.length := by simpa using hi
    refine ⟨Same.refl _, d, ?_, w⟩
    rw [List.getElem?_reverse hi, ← hn]
    exact hd
  st := fun O δ σ H O' δ' σ' H' h _ t => h.st t
end
end Ev
/-! EvK: sources of loops, targets -/
namespace Ev
open PySem PySem.Spec PyProof.Rows L2

theorem _root_.L2.PI.imp {X : Cx} {tg e : Expr} {t t' : TI} (h : PI X tg e t) (m : ∀ σ H R, t' σ H R → t σ H R) : PI X tg e t' := ⟨fun pins s σ H R I q => h.run pins s σ H R I (m σ H R q)⟩
section
variable {X : Cx} {tg : Expr}
/-- a list, a tuple or a text, whichever comes -/
def iAny (K : PySem.W.Frag) (tl : TE) : TI := fun σ H R => tl σ H fun x H1 => (∃ a xs, x = .ref a ∧ SqL K H1 a xs ∧ R (Itl K a) H1) ∨ (∃ a xs, x = .ref a ∧ SqT K H1 a xs ∧ R (Itt K a) H1) ∨ ∃ z, x = .str z ∧ R (Its z) H1
theorem pi_any {l : Expr} {tl : TE} (hl : PE X l tl) : PI X tg l (iAny X.K tl) := by
  refine ⟨fun pins s σ H R I h => ?_⟩
  refine thn (hl.run pins s σ H _ I h) fun v s1 ⟨x, H1, I1, r1, q1⟩ => ?_
  rcases q1 with ⟨a, xs, e, hq, q⟩ | ⟨a, xs, e, hq, q⟩ | ⟨z, e, q⟩
  · subst e; cases r1
    obtain ⟨its, rv, p, hz⟩ := I1.list hq
    exact wpAny_pyIter_list p.isList (pi_one (tk := s1.toks) I1 _ (turn_list a _) ⟨_, Heap.get?_push_size _ rfl, rfl, rfl⟩ q)
  · subst e; cases r1
    obtain ⟨its, rv, p, hz⟩ := I1.tuple hq
    exact wpAny_pyIter_tuple (show s1.heap.IsTuple a its.toArray from p) (pi_one (tk := s1.toks) I1 _ (turn_tuple a _) ⟨_, Heap.get?_push_size _ rfl, rfl, rfl⟩ q)
  · subst e
    obtain ⟨t, rfl⟩ := r1
    cases ha : z.cps.all (· < 128)
    · exact wpAny_pyIter_wide ha (pi_one (tk := s1.toks) I1 _ (turn_str _ z t "str_iterator" (.inr rfl)) ⟨_, Heap.get?_push_size _ rfl, rfl, rfl⟩ q)
    · exact wpAny_pyIter_ascii ha (pi_one (tk := s1.toks) I1 _ (turn_str _ z t "str_ascii_iterator" (.inl rfl)) ⟨_, Heap.get?_push_size _ rfl, rfl, rfl⟩ q)
end
section
variable {X : Cx} {c : Cfg} {tg e : Expr} {fa fb : DEnv → Res (R × DEnv)} {fl : DEnv → Res (List R × DEnv)} {O O1 : Addr → Prop} {δ δ1 : DEnv} {σ : L2.St} {H H1 : Hp} {Rr : It → Hp → Prop}
theorem fIt_inv {ik : IK} (h : OkI c O δ σ H (fIt ik fl δ) Rr) : ∃ rs δ1 ds items, fl δ = .ok (rs, δ1) ∧ resL δ1 rs = some ds ∧ evI ik ds = some items ∧ OkI c O δ σ H (.ok (items, rs, δ1)) Rr := by
  unfold fIt at h
  cases e1 : fl δ with
  | exc k => rw [e1] at h; exact h.elim
  | stuck => rw [e1] at h; exact h.elim
  | ok y =>
    obtain ⟨rs, δ1⟩ := y
    rw [e1] at h
    simp only [bind_ok] at h
    cases e2 : resL δ1 rs with
    | none => rw [e2] at h; exact h.elim
    | some ds =>
      rw [e2] at h
      dsimp only at h
      cases e3 : evI ik ds with
      | none => rw [e3] at h; exact h.elim
      | some items => rw [e3] at h; exact ⟨rs, δ1, ds, items, rfl, e2, e3, h⟩
/-- what stands behind the source's expressions: shrunk and locked -/
theorem src_at {rs : List R} {vs : List V} (E : ER c O δ σ H) (p : PostL c O δ σ H rs δ1 vs H1) : ∃ O1, Tr O δ σ H O1 δ1 H1 ∧ ER c O1 δ1 σ H1 ∧ ∀ r v d, r ∈ rs → (∃ k : Nat, rs[k]? = some r ∧ vs[k]? = some v) → resR δ1 r = some d → Still c d v O1 (lockL δ1 rs) σ H1 := by
  obtain ⟨O1, t, E1, q⟩ := p
  refine ⟨_, Tr.shrunk E t, ER.shrunk E t E1, fun r v d hm ⟨k, h1, h2⟩ hd => ?_⟩
  obtain ⟨v', e, w⟩ := q.get h1
  rw [h2] at e; cases e
  exact RR.still (K := c.K) E t E1 w hd hm
theorem fL1_inv {rs : List R} (h : fL1 fa δ = .ok (rs, δ1)) : ∃ r, fa δ = .ok (r, δ1) ∧ rs = [r] := by
  unfold fL1 at h
  cases e : fa δ with
  | ok y => rw [e] at h; simp only [bind_ok] at h; cases h; exact ⟨y.1, rfl, rfl⟩
  | exc k => rw [e] at h; cases h
  | stuck => rw [e] at h; cases h
theorem PostE.l (p : PostE c O δ σ H r δ1 v H1) : PostL c O δ σ H [r] δ1 [v] H1 := let ⟨O1, t, E1, q⟩ := p; ⟨O1, t, E1, v, [], rfl, q, rfl⟩
theorem pd_vals (hK : X.K = c.K) (ha : DE X c e fa) : PI X tg e (tDI c (fIt .vals (fL1 fa))) := by
  refine (pi_any ha.pe).imp fun σ H R ⟨O, δ, E, h⟩ => ?_
  obtain ⟨rs, δ1, ds, items, e1, e2, e3, h⟩ := fIt_inv h
  obtain ⟨r, f1, er⟩ := fL1_inv e1
  subst er
  obtain ⟨d, rfl, d1⟩ := resL_one e2
  refine tD_bind E ⟨r, δ1, f1, fun x H1 p => ?_⟩
  obtain ⟨O1, t, E1, st⟩ := src_at E p.l
  have hs := st r x d (by simp) ⟨0, by simp, by simp⟩ d1
  rw [hK]
  cases d with
  | str z =>
    cases e3
    have hx : x = .str z := hs.rd0 (E1.sim Sim.lockL)
    exact .inr (.inr ⟨z, hx, h _ _ O1 H1 t E1 dw_str trivial⟩)
  | lst ds =>
    cases e3
    obtain ⟨a, vs, rfl, q, w⟩ := hs.rd0 (E1.sim Sim.lockL)
    exact .inl ⟨a, vs, rfl, q, h _ _ O1 H1 t E1 dw_list hs⟩
  | tup ds =>
    cases e3
    obtain ⟨a, vs, rfl, q, w⟩ := rd0_tup (hs.rd0 (E1.sim Sim.lockL))
    exact .inr (.inl ⟨a, vs, rfl, SqT.of q.2, h _ _ O1 H1 t E1 dw_tup hs⟩)
  | _ => cases e3
theorem rcap_eq : rcap = 2 ^ 62 := by decide
theorem pd_range1 {a : Expr} {p pos : Pos} (hg : Gl X "range") (hm : X.mg "range" = none) (ha : DL X c [a] fl) : PI X tg (.Call (.Name "range" p) [a] [] pos) (tDI c (fIt .range fl)) := by
  have st := ha.st
  simp only [List.all_cons, Bool.and_eq_true] at st
  refine (pi_range1 hg hm ha.pa (star_of st.1)).imp fun σ H R ⟨O, δ, E, h⟩ => ?_
  obtain ⟨rs, δ1, ds, items, e1, e2, e3, h⟩ := fIt_inv h
  refine ⟨O, δ, E, ?_⟩
  rw [e1]
  intro vs H1 p
  have ln := ha.ln _ _ _ e1
  obtain ⟨O1, t, E1, _⟩ := src_at E p
  obtain ⟨O2, t2, E2, q⟩ := p
  match rs, ln with
  | [r], _ =>
    obtain ⟨d, rfl, d1⟩ := resL_one e2
    obtain ⟨v, vs', rfl, w, w'⟩ := q
    have w' : vs' = [] := w'
    subst w'
    cases d with
    | int j =>
      have hv : v = .int j := w.rd0 E2 d1
      subst hv
      have e3 : (if j < rcap ∧ -rcap ≤ j then some (rangeD 0 j.toNat) else none) = some items := e3
      split at e3
      · rename_i hc
        cases e3
        rw [rcap_eq] at hc
        exact ⟨j, rfl, hc.2, hc.1, h _ _ O1 H1 t E1 dw_range trivial⟩
      · cases e3
    | _ => cases e3
theorem pd_range2 {a b : Expr} {p pos : Pos} (hg : Gl X "range") (hm : X.mg "range" = none) (ha : DL X c [a, b] fl) : PI X tg (.Call (.Name "range" p) [a, b] [] pos) (tDI c (fIt .range fl)) := by
  have st := ha.st
  simp only [List.all_cons, Bool.and_eq_true] at st
  refine (pi_range2 hg hm ha.pa (by rw [star_of st.1, star_of st.2.1]; rfl) (star_of st.2.1)).imp fun σ H R ⟨O, δ, E, h⟩ => ?_
  obtain ⟨rs, δ1, ds, items, e1, e2, e3, h⟩ := fIt_inv h
  refine ⟨O, δ, E, ?_⟩
  rw [e1]
  intro vs H1 p
  have ln := ha.ln _ _ _ e1
  obtain ⟨O1, t, E1, _⟩ := src_at E p
  obtain ⟨O2, t2, E2, q⟩ := p
  match rs, ln with
  | [r, r'], _ =>
    obtain ⟨d, d', rfl, d1, d2⟩ := resL_two e2
    obtain ⟨v, vs', rfl, w, v', vs'', rfl, w2, w'⟩ := q
    have w' : vs'' = [] := w'
    subst w'
    cases d with
    | int i =>
      cases d' with
      | int j =>
        have hv : v = .int i := w.rd0 E2 d1
        have hv' : v' = .int j := w2.rd0 E2 d2
        subst hv hv'
        have e3 : (if i < rcap ∧ -rcap ≤ i ∧ j < rcap ∧ -rcap ≤ j then some (rangeD i (j - i).toNat) else none) = some items := e3
        split at e3
        · rename_i hc
          cases e3
          rw [rcap_eq] at hc
          exact ⟨i, j, rfl, ⟨hc.2.1, hc.1, hc.2.2.2, hc.2.2.1⟩, h _ _ O1 H1 t E1 dw_range trivial⟩
        · cases e3
      | _ => cases e3
    | _ => cases d' <;> cases e3
theorem pd_enum {a : Expr} {p pos tpos : Pos} {elts : List Expr} {kk : Nat} (hg : Gl X "enumerate") (hm : X.mg "enumerate" = none) (hK : X.K = c.K) (ha : DL X c [a] fl) : PI X (.Tuple elts kk tpos) (.Call (.Name "enumerate" p) [a] [] pos) (tDI c (fIt .enum fl)) := by
  have st := ha.st
  simp only [List.all_cons, Bool.and_eq_true] at st
  refine (pi_enum hg hm ha.pa (star_of st.1)).imp fun σ H R ⟨O, δ, E, h⟩ => ?_
  obtain ⟨rs, δ1, ds, items, e1, e2, e3, h⟩ := fIt_inv h
  refine ⟨O, δ, E, ?_⟩
  rw [e1]
  intro vs H1 p
  have ln := ha.ln _ _ _ e1
  have hv := p
  obtain ⟨O1, t, E1, stl⟩ := src_at E p
  obtain ⟨O2, t2, E2, q⟩ := hv
  match rs, ln with
  | [r], _ =>
    obtain ⟨d, rfl, d1⟩ := resL_one e2
    obtain ⟨v, vs', rfl, w, w'⟩ := q
    have w' : vs' = [] := w'
    subst w'
    have hs := stl r v d (by simp) ⟨0, by simp, by simp⟩ d1
    rw [hK]
    cases d with
    | lst ds =>
      cases e3
      obtain ⟨a, vs, rfl, q, w⟩ := hs.rd0 (E1.sim Sim.lockL)
      exact ⟨a, vs, rfl, q, h _ _ O1 H1 t E1 dw_enum hs⟩
    | _ => cases e3
theorem pd_rev {a : Expr} {p pos : Pos} (hg : Gl X "reversed") (hm : X.mg "reversed" = none) (hK : X.K = c.K) (ha : DL X c [a] fl) : PI X tg (.Call (.Name "reversed" p) [a] [] pos) (tDI c (fIt .rev fl)) := by
  have st := ha.st
  simp only [List.all_cons, Bool.and_eq_true] at st
  refine (pi_reversed hg hm ha.pa (star_of st.1)).imp fun σ H R ⟨O, δ, E, h⟩ => ?_
  obtain ⟨rs, δ1, ds, items, e1, e2, e3, h⟩ := fIt_inv h
  refine ⟨O, δ, E, ?_⟩
  rw [e1]
  intro vs H1 p
  have ln := ha.ln _ _ _ e1
  have hv := p
  obtain ⟨O1, t, E1, stl⟩ := src_at E p
  obtain ⟨O2, t2, E2, q⟩ := hv
  match rs, ln with
  | [r], _ =>
    obtain ⟨d, rfl, d1⟩ := resL_one e2
    obtain ⟨v, vs', rfl, w, w'⟩ := q
    have w' : vs' = [] := w'
    subst w'
    have hs := stl r v d (by simp) ⟨0, by simp, by simp⟩ d1
    rw [hK]
    cases d with
    | lst ds =>
      cases e3
      obtain ⟨a, vs, rfl, q, w⟩ := hs.rd0 (E1.sim Sim.lockL)
      exact ⟨a, vs, rfl, q, h _ _ O1 H1 t E1 (dw_rev w.length.symm) hs⟩
    | _ => cases e3
end
end Ev
/-! EvK2: zip of two texts, of two tuples, of two lists -/
namespace Ev
open PySem PySem.Spec PyProof.Rows L2
/-- the signs of x and y as they stand at each turn, in new pairs -/
def ItzS (x y : Str) : It :=
  ⟨fun i H => i < x.cps.size ∧ i < y.cps.size,
    fun i H v H' => ∃ T c d, v = .ref T ∧ H T = none ∧ H' = upd H T (.tup [.str ⟨#[c]⟩, .str ⟨#[d]⟩]) ∧ x.cps[i]? = some c ∧ y.cps[i]? = some d,
    fun i H => i ≤ x.cps.size ∧ i ≤ y.cps.size ∧ (i = x.cps.size ∨ i = y.cps.size)⟩
theorem draws_text {prog : Program} {w : World} {A : Around} (hh : A.handled = none) (it : Addr) (x : Str) (t : Tok) :
    Draws prog w A it [it] x.cps.size (fun i v => ∃ c u, x.cps[i]? = some c ∧ v = .str ⟨#[c]⟩ u) (fun i h => h.IsStrIter it (strIterType x) x t i) := by
  unfold strIterType
  split
  · exact Draws.strAscii hh it x t
  · exact Draws.strWide hh it x t
theorem turn_zipS {P : Program} {w : World} {K : PySem.W.Frag} {elts : List Expr} {kk : Nat} {tpos : Pos} {x y : Str} {t1 t2 : Tok} {z TI TO i1 i2 : Addr} (S : ZipSep2 z TI TO i1 i2 [i1] [i2]) (hi : i1 ≠ i2) :
    Turn P w K (.Tuple elts kk tpos) (ItzS x y) [z, TI, TO, i1, i2] z (fun i h => IsZip h z TI TO .none ∧ IsPair h TI (.ref i1) (.ref i2) ∧ (∃ x y, IsPair h TO x y) ∧ h.IsStrIter i1 (strIterType x) x t1 i ∧ h.IsStrIter i2 (strIterType y) y t2 i) where
  mem := by simp
  obj := fun i h st c hc => by
    obtain ⟨hz, hTI, ⟨a, b, hTO⟩, ⟨o1, e1, _, d1⟩, ⟨o2, e2, _, d2⟩⟩ := st
    have e' : c = z ∨ c = TI ∨ c = TO ∨ c = i1 ∨ c = i2 := by simpa using hc
    rcases e' with q | q | q | q | q
    · rw [q]; exact ⟨_, hz, fun v q => nomatch q⟩
    · rw [q]; exact ⟨_, hTI, fun v q => nomatch q⟩
    · rw [q]; exact ⟨_, hTO, fun v q => nomatch q⟩
    · rw [q]; exact ⟨o1, e1, fun v q => by rw [d1] at q; cases q⟩
    · rw [q]; exact ⟨o2, e2, fun v q => by rw [d2] at q; cases q⟩
  keep := fun i h h' st k => by
    obtain ⟨hz, hTI, ⟨a, b, hTO⟩, ⟨o1, e1, r1⟩, ⟨o2, e2, r2⟩⟩ := st
    exact ⟨k z (by simp) _ hz, k TI (by simp) _ hTI, ⟨a, b, k TO (by simp) _ hTO⟩, ⟨o1, k i1 (by simp) o1 e1, r1⟩, ⟨o2, k i2 (by simp) o2 e2, r2⟩⟩
  item := by
    intro X hP hw hK hc i pins s σ H E I hf st hg
    subst hP hw hK
    obtain ⟨hz, hTI, ⟨a0, b0, hTO⟩, h1, h2⟩ := st
    have hh : X.A.handled = none := I.ok.hd hc
    have D1 := draws_text (prog := X.prog) (w := X.w) (A := X.A.in1) hh i1 x t1
    have D2 := draws_text (prog := X.prog) (w := X.w) (A := X.A.in1) hh i2 y t2
    have hzl : z < s.heap.objs.size := Heap.lt_size hz
    have hl1 : i1 < s.heap.objs.size := by obtain ⟨_, e1, _⟩ := h1; exact Heap.lt_size e1
    have hl2 : i2 < s.heap.objs.size := by obtain ⟨_, e2, _⟩ := h2; exact Heap.lt_size e2
    refine wpAny_pyNext_zipD2_item S D1 D2 hz hTI hTO h1 h2 hg.1 hg.2 fun x1 x2 h' tk p1 p2 z' TO' h1' h2' hT hsz hk => ?_
    obtain ⟨c, u, hxc, rfl⟩ := p1
    obtain ⟨d, u2, hyd, rfl⟩ := p2
    refine ⟨_, rfl, wpAny_letOwnedTupleGo_zip (s := { s with heap := h', toks := tk }) z' fun h'' z'' sb => ?_⟩
    have hT2 : h''.get? s.heap.objs.size = some { cls := .type "tuple", data := .seq #[.str ⟨#[c]⟩ u, .str ⟨#[d]⟩ u2] } := (sb.2 _ (Nat.ne_of_gt hzl)).trans hT
    have new : ObjOk X.prog X.w (upd H s.heap.objs.size (.tup [.str ⟨#[c]⟩, .str ⟨#[d]⟩])) h'' s.heap.objs.size (.tup [.str ⟨#[c]⟩, .str ⟨#[d]⟩]) :=
      ⟨by show 2 ≤ sizeLine; decide, [.str ⟨#[c]⟩ u, .str ⟨#[d]⟩ u2], .cons ⟨_, rfl⟩ (.cons ⟨_, rfl⟩ .nil), ⟨_, hT2, rfl, _, rfl⟩⟩
    have I1 : Inv X pins σ (upd H s.heap.objs.size (.tup [.str ⟨#[c]⟩, .str ⟨#[d]⟩])) { s with heap := h'', toks := tk } :=
      I.turnedNew (t' := tk) (ch := [z, TI, TO, i1, i2]) (fun c o hb q => (sb.2 c (fun q' => hb (by simp [q']))).trans (hk c o (fun q' => hb (by simp [q'])) (fun q' => hb (by simp [q'])) (fun q' => hb (by simp [q'])) (fun q' => hb (by simp [q'])) q)) hf (Nat.le_refl _) new
    refine ⟨.ref s.heap.objs.size, _, I1, rfl, ⟨_, c, d, rfl, I.hok.fresh (Nat.le_refl _), rfl, hxc, hyd⟩, ⟨z'', ?_, ⟨.str ⟨#[c]⟩ u, .str ⟨#[d]⟩ u2, ?_⟩, ?_, ?_⟩, fun c hcm => ?_⟩
    · exact (sb.2 _ S.TIz).trans (hk _ _ S.TIz S.TITO S.TIi1 S.TIi2 hTI)
    · exact (sb.2 _ S.TOz).trans TO'
    · exact D1.over h1' ⟨sb.1, sb.2⟩ (fun q => S.zf1 q)
    · exact D2.over h2' ⟨sb.1, sb.2⟩ (fun q => S.zf2 q)
    · have hlt : c < s.heap.objs.size := by
        have e' : c = z ∨ c = TI ∨ c = TO ∨ c = i1 ∨ c = i2 := by simpa using hcm
        rcases e' with q | q | q | q | q
        · rw [q]; exact hzl
        · rw [q]; exact Heap.lt_size hTI
        · rw [q]; exact Heap.lt_size hTO
        · rw [q]; exact hl1
        · rw [q]; exact hl2
      rw [upd_ne (Nat.ne_of_lt hlt)]
      exact (hf c hcm).1
  done := by
    intro X hP hw hK hc i pins s σ H E I hf st hg
    subst hP hw hK
    obtain ⟨hz, hTI, ⟨a0, b0, hTO⟩, h1, h2⟩ := st
    obtain ⟨g1, g2, g3⟩ := hg
    have hh : X.A.handled = none := I.ok.hd hc
    have D1 := draws_text (prog := X.prog) (w := X.w) (A := X.A.in1) hh i1 x t1
    have D2 := draws_text (prog := X.prog) (w := X.w) (A := X.A.in1) hh i2 y t2
    exact wpAny_pyNext_zipD2_end S D1 D2 hz hTI hTO h1 h2 g1 g2 g3 fun h' tk hk => ⟨rfl, I.turnedL (t' := tk) (ch := [z, TI, TO, i1, i2]) (fun c o hb q =>
      hk c o (fun q' => hb (by simp [q'])) (fun q' => hb (by simp [q'])) (fun q' => hb (by simp [q'])) (fun q' => hb (by simp [q'])) q) hf⟩
  self := fun A i s Q E st h => wpAny_pyIter_zip st.1 h
def iZip3 (K : PySem.W.Frag) (ta : TA) : TI := fun σ H R => ta σ H fun vs H1 => (∃ a b xs ys, vs = [.ref a, .ref b] ∧ ((SqL K H1 a xs ∧ SqL K H1 b ys ∧ R (Itz K a b) H1) ∨ (SqT K H1 a xs ∧ SqT K H1 b ys ∧ R (RZ.ItzT K a b) H1))) ∨ ∃ x y, vs = [.str x, .str y] ∧ R (ItzS x y) H1
theorem pi_zip3 {X : Cx} {e e2 : Expr} {ta : TA} {p pos tpos : Pos} {elts : List Expr} {kk : Nat} (hg : Gl X "zip") (hm : X.mg "zip" = none) (ha : PA X [e, e2] ta)
    (hs : starEach [e, e2] X.env = (false, eval e X.env) :: starEach [e2] X.env) (hpl : (backTo pos (starEach [e2] X.env)).any (·.1) = false) :
    PI X (.Tuple elts kk tpos) (.Call (.Name "zip" p) [e, e2] [] pos) (iZip3 X.K ta) := by
  refine ⟨fun pins s σ H R I h => ?_⟩
  refine Call_ (ld_blt I hg hm PyProof.Rows.boot_zip (PyProof.Rows.callWith_type1 (thn (ha.run pos pins s σ H _ I h) fun us s1 ⟨vs, H1, I1, r1, q1⟩ => ?_) hs hpl))
  have fresh5 : ∀ c, c ∈ [s1.heap.objs.size + 4, s1.heap.objs.size + 2, s1.heap.objs.size + 3, s1.heap.objs.size, s1.heap.objs.size + 1] → FpOk X pins H1 c := fun c hcm => by
    have e' : c = s1.heap.objs.size + 4 ∨ c = s1.heap.objs.size + 2 ∨ c = s1.heap.objs.size + 3 ∨ c = s1.heap.objs.size ∨ c = s1.heap.objs.size + 1 := by simpa using hcm
    have hle : s1.heap.objs.size ≤ c := by
      rcases e' with z | z | z | z | z
      · rw [z]; exact Nat.le_add_right _ _
      · rw [z]; exact Nat.le_add_right _ _
      · rw [z]; exact Nat.le_add_right _ _
      · rw [z]; exact Nat.le_refl _
      · rw [z]; exact Nat.le_add_right _ _
    exact I1.fpOk hle (I1.hok.fresh hle)
  rcases q1 with ⟨a, b, xs, ys, ex, q1⟩ | ⟨x, y, ex, q⟩
  · subst ex
    cases r1 with
    | cons r rr =>
      cases rr with
      | cons r' rr =>
        cases rr
        cases r
        cases r'
        rcases q1 with ⟨hqx, hqy, q⟩ | ⟨hqx, hqy, q⟩
        · obtain ⟨its, rv, p1, _⟩ := I1.list hqx
          obtain ⟨its2, rv2, p2, _⟩ := I1.list hqy
          refine call_zip_2 p1.isList p2.isList fun h' hz hTI hTO h1 h2 hsz hk => wpAny_pyIter_zip hz ?_
          have I2 : Inv X pins σ H1 { s1 with heap := h' } := I1.kept (t' := s1.toks) hk
          exact ⟨s1.heap.objs.size + 4, [s1.heap.objs.size + 4, s1.heap.objs.size + 2, s1.heap.objs.size + 3, s1.heap.objs.size, s1.heap.objs.size + 1], _, _, H1, rfl, I2, turn_zip (PySem.W.ktu_apart s1.heap.objs.size a b p1.lt p2.lt), ⟨hz, hTI, ⟨_, _, hTO⟩, h1, h2⟩, fresh5, q⟩
        · obtain ⟨its, rv, p1, _⟩ := I1.tuple hqx
          obtain ⟨its2, rv2, p2, _⟩ := I1.tuple hqy
          obtain ⟨o1, ho1, _⟩ := id p1
          obtain ⟨o2, ho2, _⟩ := id p2
          refine RZ.call_zipT (show s1.heap.IsTuple a its.toArray from p1) (show s1.heap.IsTuple b its2.toArray from p2) fun h' hz hTI hTO h1 h2 hsz hk => wpAny_pyIter_zip hz ?_
          have I2 : Inv X pins σ H1 { s1 with heap := h' } := I1.kept (t' := s1.toks) hk
          exact ⟨s1.heap.objs.size + 4, [s1.heap.objs.size + 4, s1.heap.objs.size + 2, s1.heap.objs.size + 3, s1.heap.objs.size, s1.heap.objs.size + 1], _, _, H1, rfl, I2, RZ.turn_zipT (PySem.W.ktu_apart s1.heap.objs.size a b (Heap.lt_size ho1) (Heap.lt_size ho2)), ⟨hz, hTI, ⟨_, _, hTO⟩, h1, h2⟩, fresh5, q⟩
  · subst ex
    obtain ⟨u, u2, rfl, rx, ry⟩ := vals2 r1
    obtain ⟨t1, rfl⟩ := rx
    obtain ⟨t2, rfl⟩ := ry
    refine zip_begins2 (begins_text x t1) (begins_text y t2) trivial trivial fun h' hz hTI hTO g1 g2 hsz hk => wpAny_pyIter_zip hz ?_
    have I2 : Inv X pins σ H1 { s1 with heap := h' } := I1.kept (t' := s1.toks) hk
    have S : ZipSep2 (s1.heap.objs.size + 4) (s1.heap.objs.size + 2) (s1.heap.objs.size + 3) s1.heap.objs.size (s1.heap.objs.size + 1) [s1.heap.objs.size] [s1.heap.objs.size + 1] := by
      constructor <;> simp
    exact ⟨s1.heap.objs.size + 4, [s1.heap.objs.size + 4, s1.heap.objs.size + 2, s1.heap.objs.size + 3, s1.heap.objs.size, s1.heap.objs.size + 1], _, _, H1, rfl, I2, turn_zipS S (by simp), ⟨hz, hTI, ⟨_, _, hTO⟩, ⟨_, g1, rfl, rfl⟩, ⟨_, g2, rfl, rfl⟩⟩, fresh5, q⟩
section
variable {c : Cfg}
theorem dw_zipT {a b : Addr} {ds es : List D} : DW c (RZ.ItzT c.K a b) (zipD ds es) (fun O δ σ H => Still c (.tup ds) (.ref a) O δ σ H ∧ Still c (.tup es) (.ref b) O δ σ H) where
  go := fun O δ σ H i E h hi => by
    obtain ⟨_, vs, e, q, r⟩ := rd0_tup (h.1.rd0 E)
    cases e
    obtain ⟨_, us, e, q2, r2⟩ := rd0_tup (h.2.rd0 E)
    cases e
    rw [zipD_len] at hi
    have h1 : i < vs.length := by rw [← r.length]; omega
    have h2 : i < us.length := by rw [← r2.length]; omega
    exact ⟨vs, us, vs[i], us[i], SqT.of q.2, SqT.of q2.2, List.getElem?_eq_getElem _, List.getElem?_eq_getElem _⟩
  stop := fun O δ σ H E h => by
    obtain ⟨_, vs, e, q, r⟩ := rd0_tup (h.1.rd0 E)
    cases e
    obtain ⟨_, us, e, q2, r2⟩ := rd0_tup (h.2.rd0 E)
    cases e
    exact ⟨vs, us, SqT.of q.2, SqT.of q2.2, by rw [zipD_len, r.length, r2.length]; omega⟩
  yld := fun O δ σ H i x H' E h hi y => by
    obtain ⟨_, vs, e, q, r⟩ := rd0_tup (h.1.rd0 E)
    cases e
    obtain ⟨_, us, e, q2, r2⟩ := rd0_tup (h.2.rd0 E)
    cases e
    obtain ⟨T, x', z', rfl, n, rfl, y1, y2⟩ := y
    obtain ⟨d, hd, w⟩ := r.get_v (y1 vs (SqT.of q.2))
    obtain ⟨d2, hd2, w2⟩ := r2.get_v (y2 us (SqT.of q2.2))
    obtain ⟨s, w'⟩ := rep_pair n E.trk w w2
    exact ⟨s, _, zipD_get hd hd2, w'⟩
  st := fun O δ σ H O' δ' σ' H' h _ t => ⟨h.1.st t, h.2.st t⟩
theorem dw_zipS {x y : Str} : DW c (ItzS x y) (zipD (x.cps.toList.map chr) (y.cps.toList.map chr)) (fun _ _ _ _ => True) where
  go := fun O δ σ H i E h hi => by
    rw [zipD_len] at hi
    simp only [List.length_map, Array.length_toList] at hi
    exact ⟨by omega, by omega⟩
  stop := fun O δ σ H E h => by
    rw [zipD_len]
    simp only [List.length_map, Array.length_toList]
    exact ⟨by omega, by omega, by omega⟩
  yld := fun O δ σ H i v H' E h hi q => by
    obtain ⟨T, a, b, rfl, n, rfl, e1, e2⟩ := q
    have e1' : x.cps.toList[i]? = some a := by simpa using e1
    have e2' : y.cps.toList[i]? = some b := by simpa using e2
    have w1 : Rep c.K H (All O δ σ) (chr a) (.str ⟨#[a]⟩) := by simp [Rep, chr]
    have w2 : Rep c.K H (All O δ σ) (chr b) (.str ⟨#[b]⟩) := by simp [Rep, chr]
    obtain ⟨s, w'⟩ := rep_pair n E.trk w1 w2
    exact ⟨s, _, zipD_get (by rw [List.getElem?_map, e1']; rfl) (by rw [List.getElem?_map, e2']; rfl), w'⟩
  st := fun O δ σ H O' δ' σ' H' h _ t => trivial
end
section
variable {X : Cx} {c : Cfg} {fl : DEnv → Res (List R × DEnv)}
theorem pd_zip3 {a b : Expr} {p pos tpos : Pos} {elts : List Expr} {kk : Nat} (hg : Gl X "zip") (hm : X.mg "zip" = none) (hK : X.K = c.K) (ha : DL X c [a, b] fl) : PI X (.Tuple elts kk tpos) (.Call (.Name "zip" p) [a, b] [] pos) (tDI c (fIt .zip fl)) := by
  have st := ha.st
  simp only [List.all_cons, Bool.and_eq_true] at st
  refine (pi_zip3 hg hm ha.pa (star_of st.1) (plain_of (by simp [st.2.1]))).imp fun σ H R ⟨O, δ, E, h⟩ => ?_
  obtain ⟨rs, δ1, ds, items, e1, e2, e3, h⟩ := fIt_inv h
  refine ⟨O, δ, E, ?_⟩
  rw [e1]
  intro vs H1 p
  have ln := ha.ln _ _ _ e1
  have hv := p
  obtain ⟨O1, t, E1, stl⟩ := src_at E p
  obtain ⟨O2, t2, E2, q⟩ := hv
  match rs, ln with
  | [r, r'], _ =>
    obtain ⟨d, d', rfl, d1, d2⟩ := resL_two e2
    obtain ⟨v, vs', rfl, w, v', vs'', rfl, w2, w'⟩ := q
    have w' : vs'' = [] := w'
    subst w'
    have hs := stl r v d (by simp) ⟨0, by simp, by simp⟩ d1
    have hs2 := stl r' v' d' (by simp) ⟨1, by simp, by simp⟩ d2
    rw [hK]
    cases d with
    | lst ds =>
      cases d' with
      | lst es =>
        cases e3
        obtain ⟨a, vs, rfl, q, w⟩ := hs.rd0 (E1.sim Sim.lockL)
        obtain ⟨b, us, rfl, q2, w2⟩ := hs2.rd0 (E1.sim Sim.lockL)
        exact .inl ⟨a, b, vs, us, rfl, .inl ⟨q, q2, h _ _ O1 H1 t E1 dw_zip ⟨hs, hs2⟩⟩⟩
      | _ => cases e3
    | tup ds =>
      cases d' with
      | tup es =>
        cases e3
        obtain ⟨a, vs, rfl, q, w⟩ := rd0_tup (hs.rd0 (E1.sim Sim.lockL))
        obtain ⟨b, us, rfl, q2, w2⟩ := rd0_tup (hs2.rd0 (E1.sim Sim.lockL))
        exact .inl ⟨a, b, vs, us, rfl, .inr ⟨SqT.of q.2, SqT.of q2.2, h _ _ O1 H1 t E1 dw_zipT ⟨hs, hs2⟩⟩⟩
      | _ => cases e3
    | str x =>
      cases d' with
      | str y =>
        cases e3
        have hx : v = .str x := hs.rd0 (E1.sim Sim.lockL)
        have hy : v' = .str y := hs2.rd0 (E1.sim Sim.lockL)
        subst hx hy
        exact .inr ⟨x, y, rfl, h _ _ O1 H1 t E1 dw_zipS trivial⟩
      | _ => cases e3
    | _ => cases d' <;> cases e3
end
end Ev
/-! EvL: targets, comprehensions -/
namespace Ev
open PySem PySem.Spec PyProof.Rows L2
section
variable {c : Cfg} {O O1 O2 O' : Addr → Prop} {δ δ0 δ1 δ2 δ' : DEnv} {σ σ' σ1 σ2 : L2.St} {H H1 H2 H' : Hp}
/-! stores -/
theorem put_inv {i : Nat} {s : S} (h : put δ i s = some δ1) : δ1 = δ.set i (some s) ∧ i < δ.length ∧ (δ[i]? = some none ∨ (∃ d, δ[i]? = some (some (.p d))) ∨ ∃ d, δ[i]? = some (some (.m false d))) := by
  unfold put at h
  split at h
  · rename_i e; cases h; exact ⟨rfl, (List.getElem?_eq_some_iff.mp e).1, .inl e⟩
  · rename_i d e; cases h; exact ⟨rfl, (List.getElem?_eq_some_iff.mp e).1, .inr (.inl ⟨d, e⟩)⟩
  · rename_i d e; cases h; exact ⟨rfl, (List.getElem?_eq_some_iff.mp e).1, .inr (.inr ⟨d, e⟩)⟩
  · cases h
theorem put_lk {i j : Nat} {s t : S} (h : put δ i s = some δ1) (l : t.lk = true) (e : δ[j]? = some (some t)) : i ≠ j := by
  rintro rfl
  obtain ⟨_, _, z⟩ := put_inv h
  rcases z with z | ⟨d, z⟩ | ⟨d, z⟩ <;> rw [e] at z <;> cases z <;> cases l
theorem slot_set {i j : Nat} {s : S} {v : V} {a : Addr} (h : SlotAt (δ.set i (some s)) (σ.set i (some v)) j a) : (i ≠ j ∧ SlotAt δ σ j a) ∨ (i = j ∧ v = .ref a ∧ ((∃ l d, s = .m l d) ∨ ∃ l d, s = .io l d)) := by
  obtain ⟨q, e⟩ := h
  by_cases ne : i = j
  · subst ne
    refine .inr ⟨rfl, ?_, ?_⟩
    · rcases get_set e with ⟨_, z⟩ | ⟨z, _⟩
      · exact Option.some.inj z
      · exact absurd rfl z
    · rcases q with ⟨l, d, q⟩ | ⟨l, d, q⟩
      · rcases get_set q with ⟨_, z⟩ | ⟨z, _⟩
        · exact .inl ⟨l, d, Option.some.inj z⟩
        · exact absurd rfl z
      · rcases get_set q with ⟨_, z⟩ | ⟨z, _⟩
        · exact .inr ⟨l, d, Option.some.inj z⟩
        · exact absurd rfl z
  · rw [List.getElem?_set_ne ne] at e q
    exact .inl ⟨ne, q, e⟩
/-- a name is bound to frozen data -/
theorem put_ok {i : Nat} {d : D} {v : V} (E : ER c O δ σ H) (h : put δ i (.p d) = some δ1) (r : Rep c.K H (All O δ σ) d v) : ER c O δ1 (σ.set i (some v)) H ∧ StR O δ σ H O δ1 (σ.set i (some v)) H := by
  obtain ⟨rfl, hi, _⟩ := put_inv h
  have le : ∀ j a, SlotAt (δ.set i (some (.p d))) (σ.set i (some v)) j a → SlotAt δ σ j a := fun j a q => by
    rcases slot_set q with ⟨_, q⟩ | ⟨_, _, ⟨l, d, z⟩ | ⟨l, d, z⟩⟩
    · exact q
    · cases z
    · cases z
  have k : ∀ a o, ¬ All O δ σ a → H a = some o → H a = some o ∧ ¬ All O (δ.set i (some (.p d))) (σ.set i (some v)) a := fun a o n e => ⟨e, fun z => n (z.imp id fun ⟨j, q⟩ => ⟨j, le j a q⟩)⟩
  have hs : i < σ.length := by rw [← E.len]; exact hi
  refine ⟨⟨by simp [E.len], E.tr, E.sub, E.io, E.tr0, fun j s e => ?_, fun j1 j2 a q1 q2 => E.inj j1 j2 a (le _ _ q1) (le _ _ q2), E.keep⟩, k, fun j s l e => ?_⟩
  · rcases get_set e with ⟨rfl, z⟩ | ⟨ne, e⟩
    · cases z
      exact ⟨v, List.getElem?_set_self hs, r.tr k⟩
    · have q := E.sl j s e
      cases s with
      | p d => obtain ⟨v, e1, r⟩ := q; exact ⟨v, by rw [List.getElem?_set_ne ne]; exact e1, r.tr k⟩
      | m l d => obtain ⟨b, e1, n, n0, r⟩ := q; exact ⟨b, by rw [List.getElem?_set_ne ne]; exact e1, n, n0, r.tr k fun o ho => ho⟩
      | io l d => obtain ⟨b, e1, n, r⟩ := q; exact ⟨b, by rw [List.getElem?_set_ne ne]; exact e1, n, r.tr k fun o ho => ho⟩
  · have ne := put_lk h l e
    rw [List.getElem?_set_ne ne, List.getElem?_set_ne ne]
    exact ⟨e, rfl⟩
/-- a name is bound to a new object -/
theorem put_own {i : Nat} {d : D} {a : Addr} (E : ER c O δ σ H) (h : put δ i (.m false d) = some δ1) (oa : O a) (n0 : c.H0 a = none) (nO : ¬ c.O0 a) (ns : ¬ Slot δ σ a) (r : OwnAt c.K H (All O δ σ) a d) : ER c (fun x => O x ∧ x ≠ a) δ1 (σ.set i (some (.ref a))) H ∧ StR O δ σ H (fun x => O x ∧ x ≠ a) δ1 (σ.set i (some (.ref a))) H := by
  obtain ⟨rfl, hi, _⟩ := put_inv h
  have le : ∀ j b, SlotAt (δ.set i (some (.m false d))) (σ.set i (some (.ref a))) j b → (i ≠ j ∧ SlotAt δ σ j b) ∨ (i = j ∧ b = a) := fun j b q => by
    rcases slot_set q with ⟨ne, q⟩ | ⟨e, z, _⟩
    · exact .inl ⟨ne, q⟩
    · cases z; exact .inr ⟨e, rfl⟩
  have sub : ∀ b, All (fun x => O x ∧ x ≠ a) (δ.set i (some (.m false d))) (σ.set i (some (.ref a))) b → All O δ σ b := fun b z => by
    rcases z with z | ⟨j, q⟩
    · exact .inl z.1
    · rcases le j b q with ⟨_, q⟩ | ⟨_, rfl⟩
      · exact .inr ⟨j, q⟩
      · exact .inl oa
  have k : ∀ b o, ¬ All O δ σ b → H b = some o → H b = some o ∧ ¬ All (fun x => O x ∧ x ≠ a) (δ.set i (some (.m false d))) (σ.set i (some (.ref a))) b := fun b o n e => ⟨e, fun z => n (sub b z)⟩
  have hs : i < σ.length := by rw [← E.len]; exact hi
  refine ⟨⟨by simp [E.len], fun b h => E.tr b h.1, fun b h => ⟨E.sub b h, fun z => nO (z ▸ h)⟩, E.io, E.tr0, fun j s e => ?_, fun j1 j2 b q1 q2 => ?_, E.keep⟩, k, fun j s l e => ?_⟩
  · rcases get_set e with ⟨rfl, z⟩ | ⟨ne, e⟩
    · cases z
      exact ⟨a, List.getElem?_set_self hs, fun z => z.2 rfl, n0, r.tr k fun o ho => ho⟩
    · have q := E.sl j s e
      cases s with
      | p d => obtain ⟨v, e1, r⟩ := q; exact ⟨v, by rw [List.getElem?_set_ne ne]; exact e1, r.tr k⟩
      | m l d => obtain ⟨b, e1, n, n0, r⟩ := q; exact ⟨b, by rw [List.getElem?_set_ne ne]; exact e1, fun z => n z.1, n0, r.tr k fun o ho => ho⟩
      | io l d => obtain ⟨b, e1, n, r⟩ := q; exact ⟨b, by rw [List.getElem?_set_ne ne]; exact e1, n, r.tr k fun o ho => ho⟩
  · rcases le _ _ q1 with ⟨n1, w1⟩ | ⟨e1, z1⟩ <;> rcases le _ _ q2 with ⟨n2, w2⟩ | ⟨e2, z2⟩
    · exact E.inj _ _ _ w1 w2
    · rw [z2] at w1; exact absurd ⟨_, w1⟩ ns
    · rw [z1] at w2; exact absurd ⟨_, w2⟩ ns
    · exact e1.symm.trans e2
  · have ne := put_lk h l e
    rw [List.getElem?_set_ne ne, List.getElem?_set_ne ne]
    exact ⟨e, rfl⟩
def tgIx : Tg → List Nat
  | .nm i => [i]
  | .tup is => is
theorem putL_ok : ∀ {is : List Nat} {ds : List D} {vs : List V} {δ δ1 : DEnv} {σ : L2.St}, ER c O δ σ H → putL δ is ds = some δ1 → RepL c.K H (All O δ σ) ds vs → ER c O δ1 (is.zip vs |>.foldl (fun σ p => σ.set p.1 (some p.2)) σ) H ∧ StR O δ σ H O δ1 (is.zip vs |>.foldl (fun σ p => σ.set p.1 (some p.2)) σ) H
  | [], [], vs, δ, δ1, σ, E, h, r => by
    simp only [putL] at h; cases h
    simp only [RepL] at r; subst r
    exact ⟨E, StR.refl⟩
  | [], _ :: _, _, _, _, _, _, h, _ => by simp [putL] at h
  | _ :: _, [], _, _, _, _, _, h, _ => by simp [putL] at h
  | i :: is, d :: ds, vs, δ, δ1, σ, E, h, r => by
    simp only [putL] at h
    simp only [RepL] at r
    obtain ⟨v, vs', rfl, r, rs⟩ := r
    cases e : put δ i (.p d) with
    | none => rw [e] at h; cases h
    | some δ2 =>
      rw [e] at h
      obtain ⟨E2, t2⟩ := put_ok E e r
      obtain ⟨E3, t3⟩ := putL_ok E2 h (rs.tr t2.k)
      exact ⟨E3, t2.trans t3⟩
/-- a loop's target takes an item -/
def gD (c : Cfg) (T : Tg) : TG := fun v σ H Q => ∃ (O : Addr → Prop) (δ : DEnv) (d : D) (δ1 : DEnv), ER c O δ σ H ∧ Rep c.K H (All O δ σ) d v ∧ bindTg δ T d = some δ1 ∧
  ∀ σ', ER c O δ1 σ' H → StR O δ σ H O δ1 σ' H → σ'.length = σ.length → (∀ j, j ∉ tgIx T → σ'[j]? = σ[j]?) → Q σ' H
theorem fold_len {l : List (Nat × V)} : ∀ {σ : L2.St}, (l.foldl (fun σ p => σ.set p.1 (some p.2)) σ).length = σ.length := by
  induction l with
  | nil => intro σ; rfl
  | cons p l ih => intro σ; rw [List.foldl_cons, ih, List.length_set]
theorem fold_out {is : List Nat} : ∀ {vs : List V} {σ : L2.St} {j : Nat}, j ∉ is → ((is.zip vs).foldl (fun σ p => σ.set p.1 (some p.2)) σ)[j]? = σ[j]? := by
  induction is with
  | nil => intro vs σ j _; rfl
  | cons i is ih =>
    intro vs σ j hj
    simp only [List.mem_cons, not_or] at hj
    cases vs with
    | nil => rfl
    | cons v vs => rw [List.zip_cons_cons, List.foldl_cons, ih hj.2, List.getElem?_set_ne (Ne.symm hj.1)]
end
section
variable {X : Cx} {c : Cfg} {pos : Pos}
theorem pgd_nm {i : Nat} {x : Str} (hN : X.N.Nodup) (hi : X.N[i]? = some x) (hx : Loc X.env.scope x) (hf : X.fn x = true ∨ X.env.scope.names.lookup x = some .local) : PG X (.Name x pos) (gD c (.nm i)) :=
  ⟨fun pins s σ H v u Q I r ⟨O, δ, d, δ1, E, rp, hb, q⟩ => (pg_name hN hi hx hf).run pins s σ H v u Q I r (by
    have hb : put δ i (.p d) = some δ1 := hb
    obtain ⟨E1, t1⟩ := put_ok E hb rp
    exact q _ E1 t1 List.length_set fun j hj => List.getElem?_set_ne (by simpa [tgIx, eq_comm] using hj))⟩
/-- names in a row -/
def gNames : List Nat → TGs
  | [] => gNil
  | i :: is => gCons (gName i) (gNames is)
theorem gNames_of : ∀ {is : List Nat} {vs : List V} {σ : L2.St} {H : Hp} {Q : L2.St → Hp → Prop}, is.length = vs.length → Q ((is.zip vs).foldl (fun σ p => σ.set p.1 (some p.2)) σ) H → gNames is vs σ H Q
  | [], [], σ, H, Q, _, q => ⟨rfl, q⟩
  | i :: is, v :: vs, σ, H, Q, h, q => ⟨v, vs, rfl, gNames_of (by simpa using h) q⟩
  | [], _ :: _, _, _, _, h, _ => by simp at h
  | _ :: _, [], _, _, _, h, _ => by simp at h
theorem putL_len : ∀ {is : List Nat} {ds : List D} {δ δ1 : DEnv}, putL δ is ds = some δ1 → is.length = ds.length
  | [], [], _, _, _ => rfl
  | [], _ :: _, _, _, h => by simp [putL] at h
  | _ :: _, [], _, _, h => by simp [putL] at h
  | i :: is, d :: ds, δ, δ1, h => by
    simp only [putL] at h
    split at h
    · simp [putL_len h]
    · cases h
theorem pgd_tup {is : List Nat} {es : List Expr} {k : Nat} (hc : X.calm = true) (hK : X.K = c.K) (h : PGs X es (gNames is)) (hn : (assignEach es X.env).length = is.length) (hst : (assignEach es X.env).findIdx? (·.1) = none) : PG X (.Tuple es k pos) (gD c (.tup is)) :=
  ⟨fun pins s σ H v u Q I r ⟨O, δ, d, δ1, E, rp, hb, q⟩ => (pg_tup hc h hn hst).run pins s σ H v u Q I r (by
    cases d with
    | tup ds =>
      have hb : putL δ is ds = some δ1 := hb
      simp only [Rep] at rp
      obtain ⟨a, vs, rfl, z, rs⟩ := rp
      obtain ⟨E1, t1⟩ := putL_ok E hb rs
      have ln : vs.length = is.length := by rw [← rs.length, putL_len hb]
      exact ⟨a, vs, rfl, by rw [hK]; exact SqT.of z.2, ln, gNames_of ln.symm (q _ E1 t1 fold_len fun j hj => fold_out hj)⟩
    | _ => cases hb)⟩
end
end Ev
/-! EvM: comprehensions -/
namespace Ev
open PySem PySem.Spec PyProof.Rows L2
section
variable {c : Cfg} {O O1 O2 O' : Addr → Prop} {δ δ0 δ1 δ2 δ' : DEnv} {σ σ' σ1 σ2 : L2.St} {H H1 H2 H' : Hp} {own : List Nat}
theorem wipeD_out : ∀ {own : List Nat} {δ : DEnv} {j : Nat}, j ∉ own → (wipeD δ own)[j]? = δ[j]?
  | [], _, _, _ => rfl
  | v :: vs, δ, j, h => by
    simp only [List.mem_cons, not_or] at h
    unfold wipeD
    rw [List.getElem?_set_ne (Ne.symm h.1)]
    exact wipeD_out h.2
theorem wipeD_len : ∀ {own : List Nat} {δ : DEnv}, (wipeD δ own).length = δ.length
  | [], _ => rfl
  | v :: vs, δ => by unfold wipeD; rw [List.length_set, wipeD_len]
theorem wipeD_in : ∀ {own : List Nat} {δ : DEnv} {j : Nat} {s : S}, j ∈ own → (wipeD δ own)[j]? ≠ some (some s)
  | [], _, _, _, h => absurd h (by simp)
  | v :: vs, δ, j, s, h => by
    unfold wipeD
    by_cases e : v = j
    · subst e
      intro z
      rcases get_set z with ⟨_, z⟩ | ⟨z, _⟩
      · cases z
      · exact z rfl
    · rw [List.getElem?_set_ne e]
      exact wipeD_in (by rcases List.mem_cons.mp h with h | h; exact absurd h.symm e; exact h)
theorem wipe_out' : ∀ {own : List Nat} {σ : L2.St} {j : Nat}, j ∉ own → (wipe σ own)[j]? = σ[j]?
  | [], _, _, _ => rfl
  | v :: vs, σ, j, h => by
    simp only [List.mem_cons, not_or] at h
    unfold wipe
    rw [List.getElem?_set_ne (Ne.symm h.1)]
    exact wipe_out' h.2
theorem wipe_in : ∀ {own : List Nat} {σ : L2.St} {j : Nat}, j ∈ own → j < σ.length → (wipe σ own)[j]? = some none
  | [], _, _, h, _ => absurd h (by simp)
  | v :: vs, σ, j, h, hl => by
    unfold wipe
    by_cases e : v = j
    · subst e
      exact List.getElem?_set_self (by rw [wipe_length]; exact hl)
    · rw [List.getElem?_set_ne e]
      exact wipe_in (by rcases List.mem_cons.mp h with h | h; exact absurd h.symm e; exact h) hl
theorem wipe_eq (hl : σ'.length = σ.length) (h : ∀ j, j ∉ own → σ'[j]? = σ[j]?) : wipe σ' own = wipe σ own := by
  apply List.ext_getElem?
  intro j
  by_cases hj : j ∈ own
  · by_cases hlt : j < σ.length
    · rw [wipe_in hj (by omega), wipe_in hj hlt]
    · rw [List.getElem?_eq_none (by rw [wipe_length]; omega), List.getElem?_eq_none (by rw [wipe_length]; omega)]
  · rw [wipe_out' hj, wipe_out' hj]
    exact h j hj
/-- no own name is an object's -/
def Bare (own : List Nat) (δ : DEnv) : Prop := ∀ (j : Nat) (s : S), j ∈ own → δ[j]? = some (some s) → ∃ d, s = .p d
theorem canWipe_bare : ∀ {own : List Nat} {δ : DEnv}, canWipe δ own = true → Bare own δ
  | [], _, _ => fun j s h => absurd h (by simp)
  | v :: vs, δ, h => by
    simp only [canWipe, Bool.and_eq_true] at h
    intro j s hj e
    rcases List.mem_cons.mp hj with rfl | hj
    · have h1 := h.1
      rw [e] at h1
      cases s with
      | p d => exact ⟨d, rfl⟩
      | m l d => cases h1
      | io l d => cases h1
    · exact canWipe_bare h.2 j s hj e
theorem Bare.sim (h : Bare own δ) (s : Sim δ δ') : Bare own δ' := fun j t hj e => by
  obtain ⟨u, e1, r⟩ := s.back e
  obtain ⟨d, rfl⟩ := h j u hj e1
  rcases r with ⟨d', h1, h2⟩ | ⟨_, _, _, h1, _⟩ | ⟨_, _, _, h1, _⟩ <;> cases h1
  exact ⟨_, h2⟩
theorem Bare.slot (h : Bare own δ) {i : Nat} {a : Addr} (q : SlotAt δ σ i a) : i ∉ own := fun hi => by
  rcases q.1 with ⟨l, d, e⟩ | ⟨l, d, e⟩ <;> (obtain ⟨_, z⟩ := h i _ hi e; cases z)
theorem wipe_slot (h : Bare own δ) {i : Nat} {a : Addr} : SlotAt (wipeD δ own) (wipe σ own) i a ↔ SlotAt δ σ i a := by
  constructor
  · rintro ⟨q, e⟩
    have hi : i ∉ own := fun hi => by rcases q with ⟨l, d, q⟩ | ⟨l, d, q⟩ <;> exact wipeD_in hi q
    rw [wipeD_out hi] at q
    rw [wipe_out' hi] at e
    exact ⟨q, e⟩
  · intro q
    have hi := h.slot q
    obtain ⟨q, e⟩ := q
    exact ⟨by rw [wipeD_out hi]; exact q, by rw [wipe_out' hi]; exact e⟩
theorem wipe_all (h : Bare own δ) {a : Addr} : All O (wipeD δ own) (wipe σ own) a ↔ All O δ σ a := by
  constructor
  · rintro (q | ⟨i, q⟩)
    · exact .inl q
    · exact .inr ⟨i, (wipe_slot h).mp q⟩
  · rintro (q | ⟨i, q⟩)
    · exact .inl q
    · exact .inr ⟨i, (wipe_slot h).mpr q⟩
theorem ER.wipe (E : ER c O δ σ H) (h : Bare own δ) : ER c O (wipeD δ own) (wipe σ own) H := by
  have k : ∀ a o, ¬ All O δ σ a → H a = some o → H a = some o ∧ ¬ All O (wipeD δ own) (L2.wipe σ own) a := fun a o n e => ⟨e, fun z => n ((wipe_all h).mp z)⟩
  refine ⟨by rw [wipeD_len, wipe_length]; exact E.len, E.tr, E.sub, E.io, E.tr0, fun i s e => ?_, fun i j a h1 h2 => E.inj i j a ((wipe_slot h).mp h1) ((wipe_slot h).mp h2), E.keep⟩
  have hi : i ∉ own := fun hi => wipeD_in hi e
  rw [wipeD_out hi] at e
  have q := E.sl i s e
  cases s with
  | p d => obtain ⟨v, e1, r⟩ := q; exact ⟨v, by rw [wipe_out' hi]; exact e1, r.tr k⟩
  | m l d => obtain ⟨a, e1, n, n0, r⟩ := q; exact ⟨a, by rw [wipe_out' hi]; exact e1, n, n0, r.tr k fun o ho => ho⟩
  | io l d => obtain ⟨a, e1, n, r⟩ := q; exact ⟨a, by rw [wipe_out' hi]; exact e1, n, r.tr k fun o ho => ho⟩
/-- a transition within the block, as the block's start sees it -/
theorem Tr.wipe (t : Tr O δ σ H O1 δ1 H1) (h : Bare own δ) : Tr O (wipeD δ own) (wipe σ own) H O1 (wipeD δ1 own) H1 := by
  have sl : ∀ i a, SlotAt (wipeD δ1 own) (L2.wipe σ own) i a → SlotAt δ1 σ i a ∧ i ∉ own := fun i a ⟨q, e⟩ => by
    have hi : i ∉ own := fun hi => by rcases q with ⟨l, d, q⟩ | ⟨l, d, q⟩ <;> exact wipeD_in hi q
    rw [wipeD_out hi] at q
    rw [wipe_out' hi] at e
    exact ⟨⟨q, e⟩, hi⟩
  refine ⟨fun a o n e => t.keep a o (fun ⟨i, q⟩ => n ⟨i, (wipe_slot h).mpr q⟩) e, t.th, t.new, t.sub, fun i a q => (wipe_slot h).mpr (t.le i a (sl i a q).1), fun i s e => ?_, fun i s l e => ?_⟩
  · have hi : i ∉ own := fun hi => wipeD_in hi e
    rw [wipeD_out hi] at e ⊢
    exact t.st i s e
  · have hi : i ∉ own := fun hi => wipeD_in hi e
    rw [wipeD_out hi] at e ⊢
    exact t.lk i s l e
theorem bindTg_out : ∀ {T : Tg} {d : D} {δ δ1 : DEnv} {j : Nat}, bindTg δ T d = some δ1 → j ∉ tgIx T → δ1[j]? = δ[j]?
  | .nm i, d, δ, δ1, j, h, hj => by
    obtain ⟨rfl, _⟩ := put_inv (show put δ i (.p d) = some δ1 from h)
    exact List.getElem?_set_ne (by simpa [tgIx, eq_comm] using hj)
  | .tup is, .tup ds, δ, δ1, j, h, hj => by
    have go : ∀ {is : List Nat} {ds : List D} {δ δ1 : DEnv}, putL δ is ds = some δ1 → j ∉ is → δ1[j]? = δ[j]? := by
      intro is
      induction is with
      | nil => intro ds δ δ1 h _; cases ds with
        | nil => simp only [putL] at h; cases h; rfl
        | cons => simp [putL] at h
      | cons i is ih =>
        intro ds δ δ1 h hj
        simp only [List.mem_cons, not_or] at hj
        cases ds with
        | nil => simp [putL] at h
        | cons d ds =>
          simp only [putL] at h
          split at h
          · rename_i δ2 e
            obtain ⟨rfl, _⟩ := put_inv e
            rw [ih h hj.2, List.getElem?_set_ne (Ne.symm hj.1)]
          · cases h
    exact go h hj
  | .tup is, .non, _, _, _, h, _ => by simp [bindTg] at h
  | .tup is, .bl _, _, _, _, h, _ => by simp [bindTg] at h
  | .tup is, .int _, _, _, _, h, _ => by simp [bindTg] at h
  | .tup is, .str _, _, _, _, h, _ => by simp [bindTg] at h
  | .tup is, .lst _, _, _, _, h, _ => by simp [bindTg] at h
  | .tup is, .dct _ _, _, _, _, h, _ => by simp [bindTg] at h
theorem put_bare {i : Nat} {d : D} (h : put δ i (.p d) = some δ1) (b : Bare own δ) : Bare own δ1 := fun j s hj e => by
  obtain ⟨rfl, _⟩ := put_inv h
  rcases get_set e with ⟨_, z⟩ | ⟨_, e⟩
  · cases z; exact ⟨d, rfl⟩
  · exact b j s hj e
theorem putL_bare : ∀ {is : List Nat} {ds : List D} {δ δ1 : DEnv}, putL δ is ds = some δ1 → Bare own δ → Bare own δ1
  | [], [], _, _, h, b => by simp only [putL] at h; cases h; exact b
  | [], _ :: _, _, _, h, _ => by simp [putL] at h
  | _ :: _, [], _, _, h, _ => by simp [putL] at h
  | i :: is, d :: ds, δ, δ1, h, b => by
    simp only [putL] at h
    split at h
    · rename_i δ2 e; exact putL_bare h (put_bare e b)
    · cases h
theorem bindTg_bare {T : Tg} {d : D} (h : bindTg δ T d = some δ1) (b : Bare own δ) : Bare own δ1 := by
  cases T with
  | nm i => exact put_bare (show put δ i (.p d) = some δ1 from h) b
  | tup is => cases d with
    | tup ds => exact putL_bare (show putL δ is ds = some δ1 from h) b
    | _ => cases h
theorem wipeD_eq (hl : δ'.length = δ.length) (h : ∀ j, j ∉ own → δ'[j]? = δ[j]?) : wipeD δ' own = wipeD δ own := by
  have ins : ∀ {own : List Nat} {δ : DEnv} {j : Nat}, j ∈ own → j < δ.length → (wipeD δ own)[j]? = some none := by
    intro own
    induction own with
    | nil => intro δ j h _; simp at h
    | cons v vs ih =>
      intro δ j hj hl
      unfold wipeD
      by_cases e : v = j
      · subst e; exact List.getElem?_set_self (by rw [wipeD_len]; exact hl)
      · rw [List.getElem?_set_ne e]
        exact ih (by rcases List.mem_cons.mp hj with h | h; exact absurd h.symm e; exact h) hl
  apply List.ext_getElem?
  intro j
  by_cases hj : j ∈ own
  · by_cases hlt : j < δ.length
    · rw [ins hj (by omega), ins hj hlt]
    · rw [List.getElem?_eq_none (by rw [wipeD_len]; omega), List.getElem?_eq_none (by rw [wipeD_len]; omega)]
  · rw [wipeD_out hj, wipeD_out hj]
    exact h j hj
theorem put_len {i : Nat} {s : S} (h : put δ i s = some δ1) : δ1.length = δ.length := by
  obtain ⟨rfl, _⟩ := put_inv h
  exact List.length_set
theorem bindTg_len {T : Tg} {d : D} (h : bindTg δ T d = some δ1) : δ1.length = δ.length := by
  have go : ∀ {is : List Nat} {ds : List D} {δ δ1 : DEnv}, putL δ is ds = some δ1 → δ1.length = δ.length := by
    intro is
    induction is with
    | nil => intro ds δ δ1 h; cases ds with
      | nil => simp only [putL] at h; cases h; rfl
      | cons => simp [putL] at h
    | cons i is ih =>
      intro ds δ δ1 h
      cases ds with
      | nil => simp [putL] at h
      | cons d ds =>
        simp only [putL] at h
        split at h
        · rename_i δ2 e; rw [ih h, put_len e]
        · cases h
  cases T with
  | nm i => exact put_len (show put δ i (.p d) = some δ1 from h)
  | tup is => cases d with
    | tup ds => exact go (show putL δ is ds = some δ1 from h)
    | _ => cases h
/-- an object that others own is written -/
theorem ER.updO (E : ER c O δ σ H) {a : Addr} {o : HO} (oa : O a) (n0 : c.H0 a = none) (ns : ¬ Slot δ σ a) : ER c O δ σ (upd H a o) := by
  have k : ∀ b u, ¬ All O δ σ b → H b = some u → (upd H a o) b = some u ∧ ¬ All O δ σ b := fun b u n e => ⟨by rw [upd_ne (show b ≠ a from fun z => n (.inl (by rw [z]; exact oa)))]; exact e, n⟩
  have ks : ∀ {i : Nat} {b : Addr} {u : HO}, SlotAt δ σ i b → H b = some u → (upd H a o) b = some u := fun {i b u} q e => by rw [upd_ne (show b ≠ a from fun z => ns ⟨i, by rw [← z]; exact q⟩)]; exact e
  refine ⟨E.len, fun b h => ?_, E.sub, E.io, E.tr0, fun i s e => ?_, E.inj, fun b u n e => ?_⟩
  · by_cases z : b = a
    · subst z; exact ⟨o, upd_same⟩
    · obtain ⟨u, e⟩ := E.tr b h; exact ⟨u, by rw [upd_ne z]; exact e⟩
  · have q := E.sl i s e
    cases s with
    | p d => obtain ⟨v, e1, r⟩ := q; exact ⟨v, e1, r.tr k⟩
    | m l d => obtain ⟨b, e1, n, n0', r⟩ := q; exact ⟨b, e1, n, n0', r.tr k fun u hu => ks ⟨.inl ⟨l, d, e⟩, e1⟩ hu⟩
    | io l d => obtain ⟨b, e1, n, r⟩ := q; exact ⟨b, e1, n, r.tr k fun u hu => ks ⟨.inr ⟨l, d, e⟩, e1⟩ hu⟩
  · by_cases z : b = a
    · subst z; rw [n0] at e; cases e
    · rw [upd_ne z]; exact E.keep b u n e
theorem ER.oslot (E : ER c O δ σ H) {a : Addr} (oa : O a) (nO : ¬ c.O0 a) : ¬ Slot δ σ a := fun ⟨i, q, e⟩ => by
  rcases q with ⟨l, d, q⟩ | ⟨l, d, q⟩
  · obtain ⟨b, e1, n, _⟩ := E.sl i _ q; rw [e] at e1; cases e1; exact n oa
  · obtain ⟨b, e1, n, _⟩ := E.sl i _ q; rw [e] at e1; cases e1; exact nO (E.io a ⟨_, n⟩)
/-! the slots put back -/
theorem backV_out : ∀ {own : List Nat} {δ0 δ : DEnv} {j : Nat}, j ∉ own → (backV δ0 δ own)[j]? = δ[j]?
  | [], _, _, _, _ => rfl
  | v :: vs, δ0, δ, j, h => by
    simp only [List.mem_cons, not_or] at h
    unfold backV
    split
    · rw [List.getElem?_set_ne (Ne.symm h.1)]; exact backV_out h.2
    · exact backV_out h.2
theorem backV_len : ∀ {own : List Nat} {δ0 δ : DEnv}, (backV δ0 δ own).length = δ.length
  | [], _, _ => rfl
  | v :: vs, δ0, δ => by
    unfold backV
    split
    · rw [List.length_set]; exact backV_len
    · exact backV_len
theorem backV_in : ∀ {own : List Nat} {δ0 δ : DEnv} {j : Nat}, j ∈ own → δ0.length = δ.length → (backV δ0 δ own)[j]? = δ0[j]?
  | [], _, _, _, h, _ => absurd h (by simp)
  | v :: vs, δ0, δ, j, h, hl => by
    unfold backV
    by_cases e : v = j
    · subst e
      cases q : δ0[v]? with
      | none =>
        dsimp only
        rw [List.getElem?_eq_none_iff] at q
        rw [List.getElem?_eq_none (by rw [backV_len]; omega)]
      | some s =>
        dsimp only
        rw [List.getElem?_set_self (by rw [backV_len, ← hl]; exact (List.getElem?_eq_some_iff.mp q).1)]
    · have hj : j ∈ vs := by rcases List.mem_cons.mp h with h | h; exact absurd h.symm e; exact h
      split
      · rw [List.getElem?_set_ne e]; exact backV_in hj hl
      · exact backV_in hj hl
theorem backR_lk {r : R} {i : Nat} {s : S} (l : s.lk = true) (e0 : δ0[i]? = some (some s)) (e : δ[i]? = some (some s)) : (backR δ0 δ r)[i]? = some (some s) := by
  cases r with
  | d x => exact e
  | o x => exact e
  | h j =>
    simp only [backR]
    split
    · rename_i l1 d1 l2 d2 h0 h1
      by_cases ne : j = i
      · subst ne
        rw [e0] at h0; cases h0
        rw [e] at h1; cases h1
        exact List.getElem?_set_self (List.getElem?_eq_some_iff.mp e).1
      · rw [List.getElem?_set_ne ne]; exact e
    · rename_i l1 d1 l2 d2 h0 h1
      by_cases ne : j = i
      · subst ne
        rw [e0] at h0; cases h0
        rw [e] at h1; cases h1
        exact List.getElem?_set_self (List.getElem?_eq_some_iff.mp e).1
      · rw [List.getElem?_set_ne ne]; exact e
    · exact e
theorem backL_lk : ∀ {rs : List R} {δ : DEnv} {i : Nat} {s : S}, s.lk = true → δ0[i]? = some (some s) → δ[i]? = some (some s) → (backL δ0 δ rs)[i]? = some (some s)
  | [], _, _, _, _, _, e => e
  | r :: rs, δ, i, s, l, e0, e => backL_lk (rs := rs) l e0 (backR_lk l e0 e)
end
end Ev
/-! EvN: comprehensions -/
namespace Ev
open PySem PySem.Spec PyProof.Rows L2
def fComp (own : List Nat) (tg : Tg) (ik : IK) (fl : DEnv → Res (List R × DEnv)) (fi : DEnv → Res (Bool × DEnv)) (fe : DEnv → Res (R × DEnv)) (δ : DEnv) : Res (R × DEnv) := (fl δ).bind fun z => match resL z.2 z.1 with
  | none => .stuck
  | some ds => match evI ik ds with
    | none => .stuck
    | some items => if canWipe z.2 own then (compLoop own tg fi fe items (lockL z.2 z.1) []).bind fun y => .ok (.o (.lst y.1), backV z.2 (backL z.2 y.2 z.1) own) else .stuck
section
variable {c : Cfg} {own : List Nat} {tg : Tg} {ik : IK} {fl : DEnv → Res (List R × DEnv)} {fi : DEnv → Res (Bool × DEnv)} {fe : DEnv → Res (R × DEnv)} {σ : L2.St}
theorem step_inv {x : D} {xs acc : List D} {δ : DEnv} {y : List D × DEnv} (h : compLoop own tg fi fe (x :: xs) δ acc = .ok y) : ∃ δ1 b δ2, bindTg (wipeD δ own) tg x = some δ1 ∧ fi δ1 = .ok (b, δ2) ∧
    ((b = true ∧ ∃ r δ3 d δ4, fe δ2 = .ok (r, δ3) ∧ escR δ3 r = some (d, δ4) ∧ acc.length < cap ∧ compLoop own tg fi fe xs δ4 (acc ++ [d]) = .ok y) ∨ (b = false ∧ compLoop own tg fi fe xs δ2 acc = .ok y)) := by
  simp only [compLoop] at h
  cases e1 : bindTg (wipeD δ own) tg x with
  | none => rw [e1] at h; cases h
  | some δ1 =>
    rw [e1] at h
    dsimp only at h
    cases e2 : fi δ1 with
    | exc k => rw [e2] at h; cases h
    | stuck => rw [e2] at h; cases h
    | ok w =>
      obtain ⟨b, δ2⟩ := w
      rw [e2] at h
      simp only [bind_ok] at h
      refine ⟨δ1, b, δ2, rfl, e2, ?_⟩
      cases b with
      | false => exact .inr ⟨rfl, by simpa using h⟩
      | true =>
        rw [if_pos rfl] at h
        cases e3 : fe δ2 with
        | exc k => rw [e3] at h; cases h
        | stuck => rw [e3] at h; cases h
        | ok w =>
          obtain ⟨r, δ3⟩ := w
          rw [e3] at h
          simp only [bind_ok] at h
          cases e4 : escR δ3 r with
          | none => rw [e4] at h; cases h
          | some w =>
            obtain ⟨d, δ4⟩ := w
            rw [e4] at h
            dsimp only at h
            split at h
            · rename_i hc; exact .inl ⟨rfl, r, δ3, d, δ4, rfl, e4, hc, h⟩
            · cases h
/-- where a comprehension stands ahead of turn i -/
structure CI (c : Cfg) (own : List Nat) (tg : Tg) (fi : DEnv → Res (Bool × DEnv)) (fe : DEnv → Res (R × DEnv)) (items : List D) (y : List D × DEnv) (σ : L2.St) (O1 : Addr → Prop) (δw : DEnv) (H1 : Hp) (Dl : Addr) (i : Nat) (H : Hp) (O : Addr → Prop) (δ : DEnv) (acc : List D) (av : List V) : Prop where
  ev : compLoop own tg fi fe (items.drop i) δ acc = .ok y
  E : ER c O (wipeD δ own) (wipe σ own) H
  t : Tr O1 δw (wipe σ own) H1 O (wipeD δ own) H
  od : O Dl
  hd : H Dl = some (.lst av)
  ra : RepL c.K H (All O (wipeD δ own) (wipe σ own)) acc av
theorem comp_ok {O : Addr → Prop} {δ : DEnv} {H : Hp} {Q : VK} (E : ER c O δ σ H) (hT : ∀ j ∈ tgIx tg, j ∈ own) (h : OkE c O δ σ H (fComp own tg ik fl fi fe δ) Q) : tLc (tDI c (fIt ik fl)) (gD c tg) (tDB c fi) (tD c fe) own σ H Q := by
  obtain ⟨rs, δ1, e1, h⟩ := OkE.bindL h
  dsimp only at h
  cases e2 : resL δ1 rs with
  | none => rw [e2] at h; exact h.elim
  | some ds =>
  rw [e2] at h
  dsimp only at h
  cases e3 : evI ik ds with
  | none => rw [e3] at h; exact h.elim
  | some items =>
  rw [e3] at h
  dsimp only at h
  split at h
  case isFalse => exact h.elim
  rename_i hw
  have B1 := canWipe_bare hw
  cases e4 : compLoop own tg fi fe items (lockL δ1 rs) [] with
  | exc k => rw [e4] at h; exact h.elim
  | stuck => rw [e4] at h; exact h.elim
  | ok y =>
  rw [e4] at h
  have h : ∀ v H', PostE c O δ σ H (.o (.lst y.1)) (backV δ1 (backL δ1 y.2 rs) own) v H' → Q v H' := h
  have ei : fIt ik fl δ = .ok (items, rs, δ1) := by
    unfold fIt
    rw [e1]
    simp only [bind_ok, e2, e3]
  refine ⟨O, δ, E, ?_⟩
  rw [ei]
  intro J G O1 H1 T1 E1 dw g1 Dl nD
  dsimp only at T1 E1 dw g1
  have B0 : Bare own (lockL δ1 rs) := B1.sim Sim.lockL
  have E0 : ER c O1 (lockL δ1 rs) σ H1 := E1.sim Sim.lockL
  have n0 : c.H0 Dl = none := E1.fresh0 nD
  have nO : ¬ c.O0 Dl := fun z => by obtain ⟨o, e⟩ := E1.tr _ (E1.sub _ z); rw [nD] at e; cases e
  -- the start
  have start : CI c own tg fi fe items y σ O1 (wipeD (lockL δ1 rs) own) H1 Dl 0 (upd H1 Dl (.lst [])) (fun x => O1 x ∨ x = Dl) (lockL δ1 rs) [] [] := by
    have Ew := E0.wipe B0
    refine ⟨by simpa using e4, Ew.grow (same_upd nD) (fun _ h => .inl h) fun a h => h.imp id fun e => by subst e; exact ⟨nD, _, upd_same⟩, Tr.grow (same_upd nD) (fun _ h => .inl h) fun a h => h.imp id fun e => by subst e; exact nD, .inr rfl, upd_same, RepL.nil⟩
  -- the source, seen from within
  have gin : ∀ {i : Nat} {H : Hp} {Oi : Addr → Prop} {δi : DEnv} {acc : List D} {av : List V}, CI c own tg fi fe items y σ O1 (wipeD (lockL δ1 rs) own) H1 Dl i H Oi δi acc av → G Oi (wipeD δi own) (wipe σ own) H := fun {i H Oi δi acc av} I => by
    refine dw.st _ _ _ _ _ _ _ _ g1 I.E ⟨fun a o n e => ?_, fun j s l e => ?_⟩
    · exact I.t.k a o (fun z => n ((wipe_all B0).mp z)) e
    · have hj : j ∉ own := fun hj => by obtain ⟨d, rfl⟩ := B0 j s hj e; cases l
      exact ⟨I.t.lk j s l (by rw [wipeD_out hj]; exact e), wipe_out' hj⟩
  refine ⟨fun i m H => m = items.length - i ∧ i ≤ items.length ∧ ∃ Oi δi acc av, CI c own tg fi fe items y σ O1 (wipeD (lockL δ1 rs) own) H1 Dl i H Oi δi acc av, ⟨items.length, by simp, Nat.zero_le _, _, _, _, _, start⟩, ?_⟩
  rintro i m H2 ⟨rfl, hi, Oi, δi, acc, av, I⟩
  by_cases hlt : i < items.length
  · refine .inr ⟨dw.go _ _ _ _ i I.E (gin I) hlt, fun H' => items.length - (i + 1) = items.length - (i + 1) ∧ i + 1 ≤ items.length ∧ ∃ Oi δi acc av, CI c own tg fi fe items y σ O1 (wipeD (lockL δ1 rs) own) H1 Dl (i + 1) H' Oi δi acc av, fun H' hx => ⟨items.length - (i + 1), by omega, rfl, hx.2⟩, fun x H3 yl => ?_⟩
    obtain ⟨s3, d, hd, rd⟩ := dw.yld _ _ _ _ i x H3 I.E (gin I) hlt yl
    have E3 : ER c Oi (wipeD δi own) (wipe σ own) H3 := I.E.grow s3 (fun _ h => h) fun _ h => .inl h
    have t3 : Tr O1 (wipeD (lockL δ1 rs) own) (wipe σ own) H1 Oi (wipeD δi own) H3 := I.t.trans (Tr.grow s3 (fun _ h => h) fun _ h => .inl h)
    have hdrop : items.drop i = d :: items.drop (i + 1) := by
      have := List.drop_eq_getElem_cons hlt
      rw [this]
      congr 1
      have e := List.getElem?_eq_getElem hlt
      rw [hd] at e
      exact (Option.some.inj e).symm
    have ev := I.ev
    rw [hdrop] at ev
    obtain ⟨δa, b, δb, hb, hf, rest⟩ := step_inv ev
    refine ⟨Oi, wipeD δi own, d, δa, E3, rd, hb, fun σ2 E4 st4 ln4 out4 => ?_⟩
    have wσ : wipe σ2 own = wipe σ own := by
      have : wipe σ2 own = wipe (wipe σ own) own := wipe_eq ln4 fun j hj => out4 j fun z => hj (hT j z)
      rw [this]
      exact wipe_eq (wipe_length _ _) fun j hj => wipe_out' hj
    have Ba : Bare own δa := bindTg_bare hb fun j s hj e => absurd e (wipeD_in hj)
    have wδ : wipeD δa own = wipeD δi own := by
      have : wipeD δa own = wipeD (wipeD δi own) own := wipeD_eq (bindTg_len hb) fun j hj => bindTg_out hb fun z => hj (hT j z)
      rw [this]
      exact wipeD_eq wipeD_len fun j hj => wipeD_out hj
    refine ⟨wσ, Oi, δa, E4, ?_⟩
    rw [hf]
    intro H4 ⟨O4, t4, E5⟩
    -- the turn's end, from anywhere within it
    have fin : ∀ {O5 : Addr → Prop} {δ5 : DEnv} {H5 : Hp} {acc5 : List D}, Tr Oi δa σ2 H3 O5 δ5 H5 → ER c O5 δ5 σ2 H5 → (ER c O5 (wipeD δ5 own) (wipe σ own) H5 ∧ Tr O1 (wipeD (lockL δ1 rs) own) (wipe σ own) H1 O5 (wipeD δ5 own) H5 ∧ O5 Dl ∧ H5 Dl = some (.lst av) ∧ RepL c.K H5 (All O5 (wipeD δ5 own) (wipe σ own)) acc av ∧ Bare own δ5) := fun {O5 δ5 H5 acc5} t5 E5 => by
      have B5 : Bare own δ5 := fun j s hj e => by
        cases s with
        | p d => exact ⟨d, rfl⟩
        | m l d =>
          obtain ⟨a, ea, _⟩ := E5.sl j _ e
          exact absurd hj (Ba.slot (t5.le j a ⟨.inl ⟨l, d, e⟩, ea⟩))
        | io l d =>
          obtain ⟨a, ea, _⟩ := E5.sl j _ e
          exact absurd hj (Ba.slot (t5.le j a ⟨.inr ⟨l, d, e⟩, ea⟩))
      have tw := t5.wipe Ba
      rw [wδ, wσ] at tw
      have Ew := E5.wipe B5
      rw [wσ] at Ew
      refine ⟨Ew, t3.trans tw, t5.sub _ I.od, ?_, (I.ra.tr (I.t.trans Tr.refl |> fun _ => (Tr.grow s3 (fun _ h => h) fun _ h => .inl h : Tr Oi (wipeD δi own) (wipe σ own) H2 Oi (wipeD δi own) H3).k)).tr tw.k, B5⟩
      exact tw.keep Dl _ (E3.oslot I.od nO) (s3 _ _ I.hd)
    rcases rest with ⟨rfl, r, δc, dd, δd, hfe, hes, hca, hrest⟩ | ⟨rfl, hrest⟩
    · rw [if_pos rfl]
      refine tD_bind E5 ⟨r, δc, hfe, fun v H5 p => ?_⟩
      obtain ⟨O6, t6, E6, r6⟩ := p.esc E5 hes
      obtain ⟨Ew, tw, od, hdl, ra, B6⟩ := fin (acc5 := acc) (t4.trans t6) E6
      have dn : ¬ Slot (wipeD δd own) (wipe σ own) Dl := Ew.oslot od nO
      refine ⟨av, hdl, by rw [← ra.length]; exact Nat.lt_of_lt_of_le hca (by rw [sizeLine_eq]; decide), rfl, hlt, O6, δd, acc ++ [dd], av ++ [v], hrest, Ew.updO od n0 dn, ?_, od, upd_same, ?_⟩
      · refine ⟨fun a o n e => ?_, fun a o e => ?_, tw.new, tw.sub, tw.le, tw.st, tw.lk⟩
        · rw [upd_ne (show a ≠ Dl from fun z => by rw [z, nD] at e; cases e)]
          exact tw.keep a o n e
        · rw [upd_ne (show a ≠ Dl from fun z => by rw [z, nD] at e; cases e)]
          exact tw.th a o e
      · have r6' : Rep c.K H5 (All O6 (wipeD δd own) (wipe σ own)) dd v := r6.tr fun a o n e => ⟨e, fun z => n (by rw [← wσ] at z; exact (wipe_all B6).mp z)⟩
        refine (ra.append (RepL.one r6')).tr fun a o n e => ⟨?_, n⟩
        rw [upd_ne (show a ≠ Dl from fun z => n (.inl (by rw [z]; exact od)))]
        exact e
    · rw [if_neg Bool.false_ne_true]
      obtain ⟨Ew, tw, od, hdl, ra, B6⟩ := fin (acc5 := acc) t4 E5
      exact ⟨rfl, hlt, O4, δb, acc, av, hrest, Ew, tw, od, hdl, ra⟩
  · have en : i = items.length := by omega
    subst en
    have ev := I.ev
    rw [List.drop_length] at ev
    simp only [compLoop] at ev
    cases ev
    refine .inl ⟨dw.stop _ _ _ _ I.E (gin I), h _ _ ?_⟩
    -- the slots put back
    dsimp only
    have Bi : ∀ (j : Nat) (s : S), j ∉ own → (wipeD δi own)[j]? = some (some s) → δi[j]? = some (some s) := fun j s hj e => by rwa [wipeD_out hj] at e
    have lenI : δi.length = δ1.length := by
      have a1 := I.E.len
      have a2 := E1.len
      rw [wipeD_len, wipe_length] at a1
      omega
    have lenB : (backL δ1 δi rs).length = δ1.length := by rw [(Sim.backL (δ0 := δ1) (rs := rs) (δ := δi)).1, lenI]
    -- an entry of the slots put back
    have ent : ∀ (j : Nat) (s : S), (backV δ1 (backL δ1 δi rs) own)[j]? = some (some s) → (j ∈ own ∧ δ1[j]? = some (some s) ∧ ∃ d, s = .p d) ∨ (j ∉ own ∧ (backL δ1 δi rs)[j]? = some (some s)) := fun j s e => by
      by_cases hj : j ∈ own
      · rw [backV_in hj lenB.symm] at e
        exact .inl ⟨hj, e, B1 j s hj e⟩
      · rw [backV_out hj] at e
        exact .inr ⟨hj, e⟩
    have sle : ∀ j a, SlotAt (backV δ1 (backL δ1 δi rs) own) σ j a → j ∉ own ∧ SlotAt (wipeD δi own) (wipe σ own) j a := fun j a ⟨q, e⟩ => by
      have go : ∀ s : S, (backV δ1 (backL δ1 δi rs) own)[j]? = some (some s) → ((∃ l d, s = .m l d) ∨ ∃ l d, s = .io l d) → j ∉ own ∧ SlotAt (wipeD δi own) (wipe σ own) j a := fun s e1 hs => by
        rcases ent j s e1 with ⟨_, _, d, rfl⟩ | ⟨hj, e2⟩
        · rcases hs with ⟨_, _, z⟩ | ⟨_, _, z⟩ <;> cases z
        · refine ⟨hj, ?_, by rw [wipe_out' hj]; exact e⟩
          rw [wipeD_out hj]
          have z : SlotAt δi σ j a := Sim.backL.slot.mp ⟨by rcases hs with ⟨l, d, rfl⟩ | ⟨l, d, rfl⟩; exact .inl ⟨l, d, e2⟩; exact .inr ⟨l, d, e2⟩, e⟩
          exact z.1
      rcases q with ⟨l, d, q⟩ | ⟨l, d, q⟩
      · exact go _ q (.inl ⟨l, d, rfl⟩)
      · exact go _ q (.inr ⟨l, d, rfl⟩)
    have sle1 : ∀ j a, SlotAt (backV δ1 (backL δ1 δi rs) own) σ j a → SlotAt δ1 σ j a := fun j a q =>
      Sim.lockL.slot.mp ((wipe_slot B0).mp (I.t.le j a (sle j a q).2))
    have allLe : ∀ a, All Oi (backV δ1 (backL δ1 δi rs) own) σ a → All Oi (wipeD δi own) (wipe σ own) a := fun a z => z.imp id fun ⟨j, q⟩ => ⟨j, (sle j a q).2⟩
    have k0 : ∀ a o, ¬ All Oi (wipeD δi own) (wipe σ own) a → H2 a = some o → H2 a = some o ∧ ¬ All Oi (backV δ1 (backL δ1 δi rs) own) σ a := fun a o n e => ⟨e, fun z => n (allLe a z)⟩
    have k1 : ∀ a o, ¬ All O1 δ1 σ a → H1 a = some o → H2 a = some o ∧ ¬ All Oi (backV δ1 (backL δ1 δi rs) own) σ a := fun a o n e => by
      obtain ⟨e2, n2⟩ := I.t.k a o (fun z => n (Sim.lockL.all.mp ((wipe_all B0).mp z))) e
      exact ⟨e2, fun z => n2 (allLe a z)⟩
    have Ef : ER c Oi (backV δ1 (backL δ1 δi rs) own) σ H2 := by
      refine ⟨by rw [backV_len, lenB]; exact E1.len, I.E.tr, I.E.sub, I.E.io, I.E.tr0, fun j s e => ?_, fun j1 j2 a q1 q2 => E1.inj j1 j2 a (sle1 j1 a q1) (sle1 j2 a q2), I.E.keep⟩
      rcases ent j s e with ⟨hj, e2, d, rfl⟩ | ⟨hj, e2⟩
      · obtain ⟨v, ev, r⟩ := E1.sl j _ e2
        exact ⟨v, ev, r.tr k1⟩
      · obtain ⟨s0, e5, rel⟩ := Sim.back (Sim.backL (δ0 := δ1) (rs := rs) (δ := δi)) e2
        have q := I.E.sl j s0 (by rw [wipeD_out hj]; exact e5)
        rcases rel with ⟨d, h1, h2⟩ | ⟨l, l', d, h1, h2⟩ | ⟨l, l', d, h1, h2⟩ <;> subst h1 h2
        · obtain ⟨v, ev, r⟩ := q; exact ⟨v, by rw [wipe_out' hj] at ev; exact ev, r.tr k0⟩
        · obtain ⟨a, ev, n, n0, r⟩ := q; exact ⟨a, by rw [wipe_out' hj] at ev; exact ev, n, n0, r.tr k0 fun o ho => ho⟩
        · obtain ⟨a, ev, n, r⟩ := q; exact ⟨a, by rw [wipe_out' hj] at ev; exact ev, n, r.tr k0 fun o ho => ho⟩
    have Tf : Tr O1 δ1 σ H1 Oi (backV δ1 (backL δ1 δi rs) own) H2 := by
      refine ⟨fun a o n e => I.t.keep a o (fun ⟨j, q⟩ => n ⟨j, Sim.lockL.slot.mp ((wipe_slot B0).mp q)⟩) e, I.t.th, I.t.new, I.t.sub, sle1, fun j s e => ?_, fun j s l e => ?_⟩
      · by_cases hj : j ∈ own
        · exact ⟨s, by rw [backV_in hj lenB.symm]; exact e⟩
        · obtain ⟨s1, e5, _⟩ := (Sim.lockL (rs := rs)).2.2 j s e
          obtain ⟨s2, e6⟩ := I.t.st j s1 (by rw [wipeD_out hj]; exact e5)
          rw [wipeD_out hj] at e6
          obtain ⟨s3, e7, _⟩ := (Sim.backL (δ0 := δ1) (rs := rs)).2.2 j s2 e6
          exact ⟨s3, by rw [backV_out hj]; exact e7⟩
      · have hj : j ∉ own := fun hj => by obtain ⟨d, rfl⟩ := B1 j s hj e; cases l
        have e5 := lockL_lk (rs := rs) l e
        have e6 := I.t.lk j s l (by rw [wipeD_out hj]; exact e5)
        rw [wipeD_out hj] at e6
        rw [backV_out hj]
        exact backL_lk l e e6
    refine ⟨Oi, T1.trans Tf, Ef, Dl, rfl, I.od, T1.none nD, av, I.hd, I.ra.tr k0⟩
end
end Ev
/-! EvO: statements -/
namespace Ev
open PySem PySem.Spec PyProof.Rows L2
/-- behind a statement -/
def OkS (c : Cfg) (O : Addr → Prop) (δ : DEnv) (σ : L2.St) (H : Hp) (z : Res (Fl × DEnv)) (D : Ends) : Prop := match z with
  | .ok (.nx, δ') => ∀ O' σ' H', ER c O' δ' σ' H' → StR O δ σ H O' δ' σ' H' → D.nx σ' H'
  | .ok (.bk, δ') => ∀ O' σ' H', ER c O' δ' σ' H' → StR O δ σ H O' δ' σ' H' → D.bk σ' H'
  | .ok (.ct, δ') => ∀ O' σ' H', ER c O' δ' σ' H' → StR O δ σ H O' δ' σ' H' → D.ct σ' H'
  | .ok (.rt r, δ') => ∀ O' σ' H' v, ER c O' δ' σ' H' → StR O δ σ H O' δ' σ' H' → RR c.K c.H0 O' δ' σ' H' r v → D.rt v H'
  | _ => False
def tDS (c : Cfg) (f : DEnv → Res (Fl × DEnv)) : TS := fun D σ H => ∃ O δ, ER c O δ σ H ∧ OkS c O δ σ H (f δ) D
section
variable {c : Cfg} {O O1 O2 O' : Addr → Prop} {δ δ0 δ1 δ2 δ' : DEnv} {σ σ' σ1 σ2 : L2.St} {H H1 H2 H' : Hp} {D : Ends}
theorem OkS.over {z : Res (Fl × DEnv)} (t : StR O δ σ H O1 δ1 σ1 H1) (h : OkS c O δ σ H z D) : OkS c O1 δ1 σ1 H1 z D := by
  cases z with
  | exc k => exact h.elim
  | stuck => exact h.elim
  | ok y =>
    obtain ⟨f, δ2⟩ := y
    cases f with
    | nx => exact fun O' σ' H' E s => h O' σ' H' E (t.trans s)
    | bk => exact fun O' σ' H' E s => h O' σ' H' E (t.trans s)
    | ct => exact fun O' σ' H' E s => h O' σ' H' E (t.trans s)
    | rt r => exact fun O' σ' H' v E s => h O' σ' H' v E (t.trans s)
theorem OkS.bind {f : Res (R × DEnv)} {g : R × DEnv → Res (Fl × DEnv)} (h : OkS c O δ σ H (f.bind g) D) : ∃ r δ1, f = .ok (r, δ1) ∧ OkS c O δ σ H (g (r, δ1)) D := by
  cases f with
  | ok y => exact ⟨y.1, y.2, rfl, h⟩
  | exc k => exact h.elim
  | stuck => exact h.elim
theorem OkS.bindL {f : Res (List R × DEnv)} {g : List R × DEnv → Res (Fl × DEnv)} (h : OkS c O δ σ H (f.bind g) D) : ∃ r δ1, f = .ok (r, δ1) ∧ OkS c O δ σ H (g (r, δ1)) D := by
  cases f with
  | ok y => exact ⟨y.1, y.2, rfl, h⟩
  | exc k => exact h.elim
  | stuck => exact h.elim
theorem OkS.bindB {f : Res (Bool × DEnv)} {g : Bool × DEnv → Res (Fl × DEnv)} (h : OkS c O δ σ H (f.bind g) D) : ∃ r δ1, f = .ok (r, δ1) ∧ OkS c O δ σ H (g (r, δ1)) D := by
  cases f with
  | ok y => exact ⟨y.1, y.2, rfl, h⟩
  | exc k => exact h.elim
  | stuck => exact h.elim
theorem OkS.bindS {f : Res (Fl × DEnv)} {g : Fl × DEnv → Res (Fl × DEnv)} (h : OkS c O δ σ H (f.bind g) D) : ∃ r δ1, f = .ok (r, δ1) ∧ OkS c O δ σ H (g (r, δ1)) D := by
  cases f with
  | ok y => exact ⟨y.1, y.2, rfl, h⟩
  | exc k => exact h.elim
  | stuck => exact h.elim
theorem ER.base0 (E : ER c O δ σ H) {r : R} {v : V} {O1 : Addr → Prop} {δ1 : DEnv} {H1 : Hp} (h : RR c.K H O1 δ1 σ H1 r v) : RR c.K c.H0 O1 δ1 σ H1 r v := h.base fun a n => E.fresh0 n
/-- an own object is written -/
theorem ER.updS (E : ER c O δ σ H) {i : Nat} {s s' : S} {a : Addr} {o : HO} {d' : Ev.D} (e : δ[i]? = some (some s)) (hs : (∃ d, s = .m false d ∧ s' = .m false d') ∨ ∃ d, s = .io false d ∧ s' = .io false d') (ea : σ[i]? = some (some (.ref a))) (oa : OwnAt c.K (upd H a o) (All O δ σ) a d') :
    ER c O (δ.set i (some s')) σ (upd H a o) ∧ StR O δ σ H O (δ.set i (some s')) σ (upd H a o) := by
  have hi : i < δ.length := (List.getElem?_eq_some_iff.mp e).1
  have sa : SlotAt δ σ i a := by rcases hs with ⟨d, rfl, _⟩ | ⟨d, rfl, _⟩; exact ⟨.inl ⟨_, d, e⟩, ea⟩; exact ⟨.inr ⟨_, d, e⟩, ea⟩
  have le : ∀ j b, SlotAt (δ.set i (some s')) σ j b → SlotAt δ σ j b := fun j b ⟨q, eb⟩ => by
    by_cases ne : i = j
    · subst ne
      rw [ea] at eb; cases eb
      exact sa
    · simp only [List.getElem?_set_ne ne] at q
      exact ⟨q, eb⟩
  have k : ∀ b u, ¬ All O δ σ b → H b = some u → (upd H a o) b = some u ∧ ¬ All O (δ.set i (some s')) σ b := fun b u n eb => ⟨by rw [upd_ne (show b ≠ a from fun z => n (.inr ⟨i, by rw [z]; exact sa⟩))]; exact eb, fun z => n (z.imp id fun ⟨j, q⟩ => ⟨j, le j b q⟩)⟩
  have k' : ∀ b u, ¬ All O δ σ b → (upd H a o) b = some u → (upd H a o) b = some u ∧ ¬ All O (δ.set i (some s')) σ b := fun b u n eb => ⟨eb, fun z => n (z.imp id fun ⟨j, q⟩ => ⟨j, le j b q⟩)⟩
  have ks : ∀ {j : Nat} {b : Addr} {u : HO}, i ≠ j → SlotAt δ σ j b → H b = some u → (upd H a o) b = some u := fun {j b u} ne q eb => by
    rw [upd_ne (show b ≠ a from fun z => ne (E.inj i j a sa (by rw [← z]; exact q)))]; exact eb
  refine ⟨⟨by rw [List.length_set]; exact E.len, fun b h => ?_, E.sub, E.io, E.tr0, fun j t ej => ?_, fun j1 j2 b q1 q2 => E.inj j1 j2 b (le _ _ q1) (le _ _ q2), fun b u n eb => ?_⟩, k, fun j t l ej => ?_⟩
  · by_cases z : b = a
    · subst z; exact ⟨o, upd_same⟩
    · obtain ⟨u, eu⟩ := E.tr b h; exact ⟨u, by rw [upd_ne z]; exact eu⟩
  · rcases get_set ej with ⟨rfl, z⟩ | ⟨ne, ej⟩
    · cases z
      have q := E.sl i s e
      rcases hs with ⟨d, rfl, rfl⟩ | ⟨d, rfl, rfl⟩
      · obtain ⟨b, eb, n, n0, _⟩ := q
        rw [ea] at eb; cases eb
        exact ⟨a, ea, n, n0, oa.tr k' fun u hu => hu⟩
      · obtain ⟨b, eb, n, _⟩ := q
        rw [ea] at eb; cases eb
        exact ⟨a, ea, n, oa.tr k' fun u hu => hu⟩
    · have q := E.sl j t ej
      cases t with
      | p d => obtain ⟨v, e1, r⟩ := q; exact ⟨v, e1, r.tr k⟩
      | m l d => obtain ⟨b, e1, n, n0, r⟩ := q; exact ⟨b, e1, n, n0, r.tr k fun u hu => ks ne ⟨.inl ⟨l, d, ej⟩, e1⟩ hu⟩
      | io l d => obtain ⟨b, e1, n, r⟩ := q; exact ⟨b, e1, n, r.tr k fun u hu => ks ne ⟨.inr ⟨l, d, ej⟩, e1⟩ hu⟩
  · by_cases z : b = a
    · subst z
      have q := E.sl i s e
      rcases hs with ⟨d, rfl, rfl⟩ | ⟨d, rfl, rfl⟩
      · obtain ⟨b', e1, _, n0, _⟩ := q
        rw [ea] at e1; cases e1
        rw [n0] at eb; cases eb
      · obtain ⟨b', e1, ib, _⟩ := q
        rw [ea] at e1; cases e1
        exact absurd ⟨_, ib⟩ n
    · rw [upd_ne z]; exact E.keep b u n eb
  · have ne : i ≠ j := fun z => by
      subst z
      rw [e] at ej; cases ej
      rcases hs with ⟨d, rfl, _⟩ | ⟨d, rfl, _⟩ <;> cases l
    exact ⟨by rw [List.getElem?_set_ne ne]; exact ej, rfl⟩
theorem upS_inv {i : Nat} {f : Ev.D → Option Ev.D} (h : upS δ i f = some δ') : ∃ s s' d d', δ[i]? = some (some s) ∧ f d = some d' ∧ δ' = δ.set i (some s') ∧ s.val = d ∧ ((s = .m false d ∧ s' = .m false d') ∨ (s = .io false d ∧ s' = .io false d')) := by
  unfold upS at h
  split at h
  · rename_i d e
    split at h
    · rename_i d' ed; cases h; exact ⟨_, _, d, d', e, ed, rfl, rfl, .inl ⟨rfl, rfl⟩⟩
    · cases h
  · rename_i d e
    split at h
    · rename_i d' ed; cases h; exact ⟨_, _, d, d', e, ed, rfl, rfl, .inr ⟨rfl, rfl⟩⟩
    · cases h
  · cases h
theorem own_of {i : Nat} {s : S} {d : Ev.D} (E : ER c O δ σ H) (e : δ[i]? = some (some s)) (hs : s = .m false d ∨ s = .io false d) : ∃ a, σ[i]? = some (some (V.ref a)) ∧ OwnAt c.K H (All O δ σ) a d ∧ SlotAt δ σ i a := by
  have q := E.sl i s e
  rcases hs with rfl | rfl
  · obtain ⟨a, e1, _, _, r⟩ := q; exact ⟨a, e1, r, .inl ⟨_, d, e⟩, e1⟩
  · obtain ⟨a, e1, _, r⟩ := q; exact ⟨a, e1, r, .inr ⟨_, d, e⟩, e1⟩
/-- the written slot's new object -/
theorem ER.upS (E : ER c O δ σ H) {i : Nat} {f : Ev.D → Option Ev.D} {o : HO} {a : Addr} (h : upS δ i f = some δ') (ea : σ[i]? = some (some (.ref a))) (oa : ∀ d d', f d = some d' → OwnAt c.K H (All O δ σ) a d → OwnAt c.K (upd H a o) (All O δ σ) a d') : ER c O δ' σ (upd H a o) ∧ StR O δ σ H O δ' σ (upd H a o) := by
  obtain ⟨s, s', d, d', e, ed, rfl, _, hs⟩ := upS_inv h
  obtain ⟨b, eb, ob, _⟩ := own_of E e (hs.imp (·.1) (·.1))
  rw [ea] at eb; cases eb
  exact E.updS e (by rcases hs with ⟨h1, h2⟩ | ⟨h1, h2⟩; exact .inl ⟨d, h1, h2⟩; exact .inr ⟨d, h1, h2⟩) ea (oa d d' ed ob)
end
section
variable {X : Cx} {c : Cfg} {e : Expr} {st : Stmt} {ss : List Stmt} {f : DEnv → Res (R × DEnv)} {g g2 : DEnv → Res (Fl × DEnv)} {pos : Pos}
theorem dss_nil : PSs X [] (tDS c fun δ => .ok (.nx, δ)) := pss_nil.imp fun D σ H ⟨O, δ, E, h⟩ => h O σ H E StR.refl
def fSeq (g g2 : DEnv → Res (Fl × DEnv)) (δ : DEnv) : Res (Fl × DEnv) := (g δ).bind fun z => match z.1 with
  | .nx => g2 z.2
  | f => .ok (f, z.2)
theorem dss_cons (h1 : PS X st (tDS c g)) (h2 : PSs X ss (tDS c g2)) : PSs X (st :: ss) (tDS c (fSeq g g2)) := by
  refine (pss_cons h1 h2).imp fun D σ H ⟨O, δ, E, h⟩ => ?_
  refine ⟨O, δ, E, ?_⟩
  obtain ⟨fl, δ1, e, h⟩ := OkS.bindS h
  rw [e]
  cases fl with
  | nx => exact fun O' σ' H' E' s => ⟨O', δ1, E', OkS.over s h⟩
  | bk => exact h
  | ct => exact h
  | rt r => exact h
theorem ds_pass : PS X (.Pass pos) (tDS c fun δ => .ok (.nx, δ)) := ps_pass.imp fun D σ H ⟨O, δ, E, h⟩ => h O σ H E StR.refl
theorem ds_brk : PS X (.Break pos) (tDS c fun δ => .ok (.bk, δ)) := ps_break.imp fun D σ H ⟨O, δ, E, h⟩ => h O σ H E StR.refl
theorem ds_cnt : PS X (.Continue pos) (tDS c fun δ => .ok (.ct, δ)) := ps_continue.imp fun D σ H ⟨O, δ, E, h⟩ => h O σ H E StR.refl
theorem ds_stuck : PS X st (tDS c fun δ => .exc 0) := ps_never.imp fun D σ H ⟨O, δ, E, h⟩ => h.elim
theorem ds_never {k : Nat} : PS X st (tDS c fun δ => .exc k) := ps_never.imp fun D σ H ⟨O, δ, E, h⟩ => h.elim
theorem ds_retN : PS X (.Return none pos) (tDS c fun δ => .ok (.rt (.d .non), δ)) := ps_retN.imp fun D σ H ⟨O, δ, E, h⟩ => h O σ H .non E StR.refl (by simp [RR, Rep])
def fRet (f : DEnv → Res (R × DEnv)) (δ : DEnv) : Res (Fl × DEnv) := (f δ).bind fun z => .ok (.rt z.1, z.2)
theorem ds_ret (he : DE X c e f) : PS X (.Return (some e) pos) (tDS c (fRet f)) := (ps_ret he.pe).imp fun D σ H ⟨O, δ, E, h⟩ => by
  obtain ⟨r, δ1, e1, h⟩ := OkS.bind h
  exact tD_bind E ⟨r, δ1, e1, fun v H1 ⟨O1, t, E1, q⟩ => h O1 σ H1 v E1 t.str (E.base0 q)⟩
def fEx (f : DEnv → Res (R × DEnv)) (δ : DEnv) : Res (Fl × DEnv) := (f δ).bind fun z => .ok (.nx, z.2)
theorem ds_ex (he : DE X c e f) (hs : swapsWith e none pos.line X.env = pure false) : PS X (.Expr e pos) (tDS c (fEx f)) := (ps_expr he.pe hs).imp fun D σ H ⟨O, δ, E, h⟩ => by
  obtain ⟨r, δ1, e1, h⟩ := OkS.bind h
  exact tD_bind E ⟨r, δ1, e1, fun v H1 ⟨O1, t, E1, q⟩ => h O1 σ H1 E1 t.str⟩
def fIf (f : DEnv → Res (R × DEnv)) (g g2 : DEnv → Res (Fl × DEnv)) (δ : DEnv) : Res (Fl × DEnv) := (f δ).bind fun z => (tstR z.2 z.1).bind fun y => if y.1 then g y.2 else g2 y.2
theorem tstS_ok {O : Addr → Prop} {δ : DEnv} {σ : L2.St} {H : Hp} {g : Bool × DEnv → Res (Fl × DEnv)} {D : Ends} (h : OkS c O δ σ H ((f δ).bind fun z => (tstR z.2 z.1).bind g) D) : ∃ r δ1 b, f δ = .ok (r, δ1) ∧ resR δ1 r = some (.bl b) ∧ OkS c O δ σ H (g (b, δ1)) D := by
  obtain ⟨r, δ1, e1, h⟩ := OkS.bind h
  dsimp only at h
  obtain ⟨b, δ2, e2, h'⟩ := OkS.bindB h
  obtain ⟨e3, e4⟩ := tstR_ok e2
  rw [e4] at h'
  exact ⟨r, δ1, b, e1, e3, h'⟩
theorem ds_if {a b : List Stmt} (ht : testable e = true) (he : DE X c e f) (ha : PSs X a (tDS c g)) (hb : PSs X b (tDS c g2)) : PS X (.If e a b pos) (tDS c (fIf f g g2)) := (ps_if (he.pt ht) ha hb).imp fun D σ H ⟨O, δ, E, h⟩ => by
  obtain ⟨r, δ1, y, e1, e2, h⟩ := tstS_ok h
  refine ⟨O, δ, E, ?_⟩
  rw [tstE_eq e1 e2]
  intro H1 ⟨O1, t, E1⟩
  cases y with
  | true => exact ⟨O1, δ1, E1, OkS.over t.str h⟩
  | false => exact ⟨O1, δ1, E1, OkS.over t.str h⟩
/-! stores -/
def fAsg (i : Nat) (f : DEnv → Res (R × DEnv)) (δ : DEnv) : Res (Fl × DEnv) := (f δ).bind fun z => match asgR z.2 i z.1 with
  | some δ1 => .ok (.nx, δ1)
  | none => .stuck
/-- a result goes to a name -/
theorem asg_ok {O : Addr → Prop} {δ δ1 δ2 : DEnv} {σ : L2.St} {H H1 : Hp} {i : Nat} {r : R} {v : V} (E : ER c O δ σ H) (p : PostE c O δ σ H r δ1 v H1) (h : asgR δ1 i r = some δ2) : ∃ O2, ER c O2 δ2 (σ.set i (some v)) H1 ∧ StR O δ σ H O2 δ2 (σ.set i (some v)) H1 := by
  cases r with
  | d x =>
    obtain ⟨O1, t, E1, q⟩ := p
    obtain ⟨E2, s⟩ := put_ok E1 h q
    exact ⟨O1, E2, t.str.trans s⟩
  | o x =>
    obtain ⟨O1, t, E1, a, rfl, oa, n, r⟩ := p
    have nO : ¬ c.O0 a := fun z => by obtain ⟨o, e⟩ := E.tr a (E.sub a z); rw [n] at e; cases e
    obtain ⟨E2, s⟩ := put_own E1 h oa (E.fresh0 n) nO (E1.oslot oa nO) r
    exact ⟨_, E2, t.str.trans s⟩
  | h j =>
    have h : (match escR δ1 (.h j) with | some (d, δ2) => put δ2 i (.p d) | none => none) = some δ2 := h
    cases e : escR δ1 (.h j) with
    | none => rw [e] at h; cases h
    | some y =>
      obtain ⟨d, δ3⟩ := y
      rw [e] at h
      obtain ⟨O2, t2, E2, q⟩ := p.esc E e
      obtain ⟨E3, s⟩ := put_ok E2 h q
      exact ⟨O2, E3, t2.str.trans s⟩
theorem fAsg_inv {O : Addr → Prop} {δ : DEnv} {σ : L2.St} {H : Hp} {i : Nat} {D : Ends} (h : OkS c O δ σ H (fAsg i f δ) D) : ∃ r δ1 δ2, f δ = .ok (r, δ1) ∧ asgR δ1 i r = some δ2 ∧ OkS c O δ σ H (.ok (.nx, δ2)) D := by
  obtain ⟨r, δ1, e1, h⟩ := OkS.bind h
  dsimp only at h
  cases e : asgR δ1 i r with
  | none => rw [e] at h; exact h.elim
  | some δ2 => rw [e] at h; exact ⟨r, δ1, δ2, e1, e, h⟩
theorem ds_asg {i : Nat} {x : Str} {p' : Pos} (hN : X.N.Nodup) (hi : X.N[i]? = some x) (hx : Loc X.env.scope x) (hf : X.fn x = true ∨ X.env.scope.names.lookup x = some .local) (he : DE X c e f) (hs : swapsWith e (some (.Name x p')) pos.line X.env = pure false) : PS X (.Assign [.Name x p'] e pos) (tDS c (fAsg i f)) :=
  (ps_set hN hi hx he.pe hs hf).imp fun D σ H ⟨O, δ, E, h⟩ => by
    obtain ⟨r, δ1, δ2, e1, e2, h⟩ := fAsg_inv h
    refine tD_bind E ⟨r, δ1, e1, fun v H1 p => ?_⟩
    obtain ⟨O2, E2, s⟩ := asg_ok E p e2
    exact h O2 _ H1 E2 s
def fAsgT (is : List Nat) (f : DEnv → Res (R × DEnv)) (δ : DEnv) : Res (Fl × DEnv) := (f δ).bind fun z => match resR z.2 z.1 with
  | some d => match bindTg z.2 (.tup is) d with
    | some δ1 => .ok (.nx, δ1)
    | none => .stuck
  | none => .stuck
theorem ds_asgT {is : List Nat} {tg : Expr} (hg : PG X tg (gD c (.tup is))) (he : DE X c e f) (hs : swapsWithSole [tg] e pos.line X.env = pure false) (hw : swappedStores [tg] e X.env = pure none) (h1 : (assignEach [tg] X.env).map (·.2) = [assign tg X.env]) : PS X (.Assign [tg] e pos) (tDS c (fAsgT is f)) :=
  (ps_asg he.pe hg hs hw h1).imp fun D σ H ⟨O, δ, E, h⟩ => by
    obtain ⟨r, δ1, e1, h⟩ := OkS.bind h
    dsimp only at h
    cases e2 : resR δ1 r with
    | none => rw [e2] at h; exact h.elim
    | some d =>
    rw [e2] at h
    dsimp only at h
    cases e3 : bindTg δ1 (.tup is) d with
    | none => rw [e3] at h; exact h.elim
    | some δ2 =>
    rw [e3] at h
    refine tD_bind E ⟨r, δ1, e1, fun v H1 ⟨O1, t, E1, q⟩ => ?_⟩
    cases d with
    | tup ds => exact ⟨O1, δ1, .tup ds, δ2, E1, q.rd0 E1 e2, e3, fun σ' E2 s _ _ => h O1 σ' H1 E2 (t.str.trans s)⟩
    | _ => cases e3
end
end Ev
/-! EvP: loops, comprehensions as expressions, methods -/
namespace Ev
open PySem PySem.Spec PyProof.Rows L2
section
variable {c : Cfg} {O O1 O2 O' : Addr → Prop} {δ δ0 δ1 δ2 δ' : DEnv} {σ σ' σ1 σ2 : L2.St} {H H1 H2 H' : Hp} {rs : List R}
/-- behind a loop the locks are as they were -/
theorem back_ok (T1 : Tr O δ σ H O1 δ1 H1) (E' : ER c O' δ' σ' H') (s : StR O1 (lockL δ1 rs) σ H1 O' δ' σ' H') : ER c O' (backL δ1 δ' rs) σ' H' ∧ StR O δ σ H O' (backL δ1 δ' rs) σ' H' := by
  refine ⟨E'.sim Sim.backL, T1.str.trans ⟨fun a o n e => ?_, fun i t l e => ?_⟩⟩
  · obtain ⟨e2, n2⟩ := s.k a o (fun z => n (Sim.lockL.all.mp z)) e
    exact ⟨e2, fun z => n2 (Sim.backL.all.mp z)⟩
  · obtain ⟨e2, e3⟩ := s.lk i t l (lockL_lk l e)
    exact ⟨backL_lk l e e2, e3⟩
theorem RR.back {K : PySem.W.Frag} {Hb : Hp} {r : R} {v : V} (h : RR K Hb O' δ' σ' H' r v) : RR K Hb O' (backL δ1 δ' rs) σ' H' r v := by
  have k : ∀ a o, ¬ All O' δ' σ' a → H' a = some o → H' a = some o ∧ ¬ All O' (backL δ1 δ' rs) σ' a := fun a o n e => ⟨e, fun z => n (Sim.backL.all.mp z)⟩
  cases r with
  | d d => exact Rep.tr k h
  | h i => obtain ⟨e, s, q⟩ := h; obtain ⟨s', q', _⟩ := (Sim.backL (δ0 := δ1) (rs := rs)).2.2 i s q; exact ⟨e, s', q'⟩
  | o d => obtain ⟨a, e, o, n, r⟩ := h; exact ⟨a, e, o, n, r.tr k fun o ho => ho⟩
end
section
variable {X : Cx} {c : Cfg} {tg it : Expr} {T : Tg} {ik : IK} {body : List Stmt} {fl : DEnv → Res (List R × DEnv)} {fb : DEnv → Res (Fl × DEnv)} {pos : Pos}
def fFor (T : Tg) (ik : IK) (fl : DEnv → Res (List R × DEnv)) (fb : DEnv → Res (Fl × DEnv)) (δ : DEnv) : Res (Fl × DEnv) := (fl δ).bind fun z => match resL z.2 z.1 with
  | none => .stuck
  | some ds => match evI ik ds with
    | none => .stuck
    | some items => (forLoop T fb items (lockL z.2 z.1)).bind fun y => .ok (y.1, backL z.2 y.2 z.1)
theorem ds_for (hp : PassesOwn (model X.prog X.w) X.A X.env X.xe) (hc : X.calm = true) (hi : PI X tg it (tDI c (fIt ik fl))) (hg : PG X tg (gD c T)) (hb : PSs X body (tDS c fb)) (hs : ∀ x, foldedSetIterable it X.env x = pure x) : PS X (.For tg it body [] pos) (tDS c (fFor T ik fl fb)) :=
  (ps_for hp hc hi hg hb hs).imp fun Z σ H ⟨O, δ, E, h⟩ => by
    obtain ⟨rs, δ1, e1, h⟩ := OkS.bindL h
    dsimp only at h
    cases e2 : resL δ1 rs with
    | none => rw [e2] at h; exact h.elim
    | some ds =>
    rw [e2] at h
    dsimp only at h
    cases e3 : evI ik ds with
    | none => rw [e3] at h; exact h.elim
    | some items =>
    rw [e3] at h
    dsimp only at h
    obtain ⟨fl', δe, e4, h⟩ := OkS.bindS h
    dsimp only at h
    have ei : fIt ik fl δ = .ok (items, rs, δ1) := by
      unfold fIt
      rw [e1]
      simp only [bind_ok, e2, e3]
    refine ⟨O, δ, E, ?_⟩
    rw [ei]
    intro J G O1 H1 T1 E1 dw g1
    dsimp only at T1 E1 dw g1
    have E0 : ER c O1 (lockL δ1 rs) σ H1 := E1.sim Sim.lockL
    refine ⟨fun i m σ' H' => m = items.length - i ∧ i ≤ items.length ∧ ∃ Oi δi, forLoop T fb (items.drop i) δi = .ok (fl', δe) ∧ ER c Oi δi σ' H' ∧ StR O1 (lockL δ1 rs) σ H1 Oi δi σ' H', ⟨items.length, by simp, Nat.zero_le _, O1, _, by simpa using e4, E0, StR.refl⟩, ?_⟩
    rintro i m σ2 H2 ⟨rfl, hi2, Oi, δi, ev, Ei, si⟩
    have gi : G Oi δi σ2 H2 := dw.st _ _ _ _ _ _ _ _ g1 Ei si
    by_cases hlt : i < items.length
    · refine .inr ⟨dw.go _ _ _ _ i Ei gi hlt, fun σ' H' => ∃ Oi δi, forLoop T fb (items.drop (i + 1)) δi = .ok (fl', δe) ∧ ER c Oi δi σ' H' ∧ StR O1 (lockL δ1 rs) σ H1 Oi δi σ' H', fun σ' H' hx => ⟨items.length - (i + 1), by omega, rfl, hlt, hx⟩, fun x H3 yl => ?_⟩
      obtain ⟨s3, d, hd, rd⟩ := dw.yld _ _ _ _ i x H3 Ei gi hlt yl
      have E3 : ER c Oi δi σ2 H3 := Ei.grow s3 (fun _ h => h) fun _ h => .inl h
      have t3 : StR O1 (lockL δ1 rs) σ H1 Oi δi σ2 H3 := si.trans (Tr.grow s3 (fun _ h => h) fun _ h => .inl h : Tr Oi δi σ2 H2 Oi δi H3).str
      have hdrop : items.drop i = d :: items.drop (i + 1) := by
        have := List.drop_eq_getElem_cons hlt
        rw [this]
        congr 1
        have e := List.getElem?_eq_getElem hlt
        rw [hd] at e
        exact (Option.some.inj e).symm
      rw [hdrop] at ev
      simp only [forLoop] at ev
      cases hbt : bindTg δi T d with
      | none => rw [hbt] at ev; cases ev
      | some δa =>
      rw [hbt] at ev
      dsimp only at ev
      refine ⟨Oi, δi, d, δa, E3, rd, hbt, fun σ4 E4 st4 _ _ => ?_⟩
      have s4 := t3.trans st4
      refine ⟨Oi, δa, E4, ?_⟩
      cases hf : fb δa with
      | exc k => rw [hf] at ev; cases ev
      | stuck => rw [hf] at ev; cases ev
      | ok w =>
        obtain ⟨fw, δw⟩ := w
        rw [hf] at ev
        simp only [bind_ok] at ev
        cases fw with
        | nx => exact fun O5 σ5 H5 E5 s5 => ⟨O5, δw, ev, E5, s4.trans s5⟩
        | ct => exact fun O5 σ5 H5 E5 s5 => ⟨O5, δw, ev, E5, s4.trans s5⟩
        | bk =>
          cases ev
          exact fun O5 σ5 H5 E5 s5 => let ⟨E6, s6⟩ := back_ok (rs := rs) T1 E5 (s4.trans s5); h O5 σ5 H5 E6 s6
        | rt r =>
          cases ev
          exact fun O5 σ5 H5 v E5 s5 q => let ⟨E6, s6⟩ := back_ok (rs := rs) T1 E5 (s4.trans s5); h O5 σ5 H5 v E6 s6 q.back
    · have en : i = items.length := by omega
      subst en
      rw [List.drop_length] at ev
      simp only [forLoop] at ev
      cases ev
      obtain ⟨E6, s6⟩ := back_ok (rs := rs) T1 Ei si
      exact .inl ⟨dw.stop _ _ _ _ Ei gi, h Oi σ2 H2 E6 s6⟩
def fWh (fuel : Nat) (fc : DEnv → Res (R × DEnv)) (fb : DEnv → Res (Fl × DEnv)) (δ : DEnv) : Res (Fl × DEnv) := whLoop (fun δ => (fc δ).bind fun z => tstR z.2 z.1) fb fuel δ
theorem ds_wh {e : Expr} {fc : DEnv → Res (R × DEnv)} {fuel : Nat} (hp : PassesOwn (model X.prog X.w) X.A X.env X.xe) (ht : testable e = true) (he : DE X c e fc) (hb : PSs X body (tDS c fb)) : PS X (.While e body [] pos) (tDS c (fWh fuel fc fb)) :=
  (ps_while hp (he.pt ht) hb).imp fun Z σ H ⟨O, δ, E, h⟩ => by
    cases e4 : fWh fuel fc fb δ with
    | exc k => rw [e4] at h; exact h.elim
    | stuck => rw [e4] at h; exact h.elim
    | ok y =>
    rw [e4] at h
    obtain ⟨fl', δe⟩ := y
    refine ⟨fun m σ' H' => ∃ Oi δi, whLoop (fun δ => (fc δ).bind fun z => tstR z.2 z.1) fb m δi = .ok (fl', δe) ∧ ER c Oi δi σ' H' ∧ StR O δ σ H Oi δi σ' H', ⟨fuel, O, δ, e4, E, StR.refl⟩, ?_⟩
    rintro m σ2 H2 ⟨Oi, δi, ev, Ei, si⟩
    cases m with
    | zero => simp [whLoop] at ev
    | succ m =>
      simp only [whLoop] at ev
      refine ⟨Oi, δi, Ei, ?_⟩
      show OkB c Oi δi σ2 H2 ((fc δi).bind fun z => tstR z.2 z.1) _
      cases hc : (fc δi).bind fun z => tstR z.2 z.1 with
      | exc k => rw [hc] at ev; cases ev
      | stuck => rw [hc] at ev; cases ev
      | ok w =>
        obtain ⟨b, δa⟩ := w
        rw [hc] at ev
        simp only [bind_ok] at ev
        intro H3 ⟨O3, t3, E3⟩
        have s3 := si.trans t3.str
        cases b with
        | false =>
          rw [if_neg Bool.false_ne_true] at ev ⊢
          cases ev
          exact h O3 σ2 H3 E3 s3
        | true =>
          rw [if_pos rfl] at ev ⊢
          refine ⟨fun σ' H' => ∃ Oi δi, whLoop (fun δ => (fc δ).bind fun z => tstR z.2 z.1) fb m δi = .ok (fl', δe) ∧ ER c Oi δi σ' H' ∧ StR O δ σ H Oi δi σ' H', fun σ' H' hx => ⟨m, Nat.lt_succ_self m, hx⟩, O3, δa, E3, ?_⟩
          cases hf : fb δa with
          | exc k => rw [hf] at ev; cases ev
          | stuck => rw [hf] at ev; cases ev
          | ok w =>
            obtain ⟨fw, δw⟩ := w
            rw [hf] at ev
            simp only [bind_ok] at ev
            cases fw with
            | nx => exact fun O5 σ5 H5 E5 s5 => ⟨O5, δw, ev, E5, s3.trans s5⟩
            | ct => exact fun O5 σ5 H5 E5 s5 => ⟨O5, δw, ev, E5, s3.trans s5⟩
            | bk =>
              cases ev
              exact fun O5 σ5 H5 E5 s5 => h O5 σ5 H5 E5 (s3.trans s5)
            | rt r =>
              cases ev
              exact fun O5 σ5 H5 v E5 s5 q => h O5 σ5 H5 v E5 (s3.trans s5) q
/-! comprehensions -/
structure DBlk (X : Cx) (c : Cfg) (scope : Scope) (tg : Expr) (T : Tg) (ifs : List Expr) (fi : DEnv → Res (Bool × DEnv)) (elt : Expr) (fe : DEnv → Res (R × DEnv)) : Prop where
  pg : ∀ (s : Shared) (H : Hp) (C : Addr) (cl : List (Str × Addr)) (fp : List Addr), PG (X.blk s H scope (compEnvC scope cl C X.env) fp) tg (gD c T)
  pt : ∀ (s : Shared) (H : Hp) (C : Addr) (cl : List (Str × Addr)) (fp : List Addr), PTs (X.blk s H scope (compEnvC scope cl C X.env) fp) ifs (tDB c fi)
  pe : ∀ (s : Shared) (H : Hp) (C : Addr) (cl : List (Str × Addr)) (fp : List Addr), PE (X.blk s H scope (compEnvC scope cl C X.env) fp) elt (tD c fe)
theorem de_comp {scope : Scope} {own : List (Str × Nat)} {ifs : List Expr} {fi : DEnv → Res (Bool × DEnv)} {elt : Expr} {fe : DEnv → Res (R × DEnv)} (hc : X.calm = true) (hN : X.N.Nodup) (hi : PI X tg it (tDI c (fIt ik fl))) (ok : BlkOk X.N X.env.scope scope own) (hT : ∀ j ∈ tgIx T, j ∈ own.map (·.2)) (B : DBlk X c scope tg T ifs fi elt fe) (hs : ∀ x, foldedSetIterable it X.env x = pure x) :
    DE X c (.ListComp elt [⟨tg, it, ifs, 0⟩] scope pos) (fComp (own.map (·.2)) T ik fl fi fe) :=
  .of ((pe_lc hc hN hi ok B.pg B.pt B.pe hs).imp fun σ H Q ⟨O, δ, E, h⟩ => comp_ok E hT h)
theorem ds_asgC {scope : Scope} {own : List (Str × Nat)} {ifs : List Expr} {fi : DEnv → Res (Bool × DEnv)} {elt : Expr} {fe : DEnv → Res (R × DEnv)} {i : Nat} {y : Str} {py spos : Pos} (hc : X.calm = true) (hN : X.N.Nodup) (hy : X.N[i]? = some y) (hyl : X.env.scope.names.lookup y = some .local) (hsw : swapsWith (.ListComp elt [⟨tg, it, ifs, 0⟩] scope pos) (some (.Name y py)) spos.line X.env = pure true)
    (hi : PI X tg it (tDI c (fIt ik fl))) (ok : BlkOk X.N X.env.scope scope own) (hT : ∀ j ∈ tgIx T, j ∈ own.map (·.2)) (B : DBlk X c scope tg T ifs fi elt fe) (hs : ∀ x, foldedSetIterable it X.env x = pure x) :
    PS X (.Assign [.Name y py] (.ListComp elt [⟨tg, it, ifs, 0⟩] scope pos) spos) (tDS c (fAsg i (fComp (own.map (·.2)) T ik fl fi fe))) :=
  (ps_setLc hc hN hy hyl hsw hi ok B.pg B.pt B.pe hs).imp fun Z σ H ⟨O, δ, E, h⟩ => by
    obtain ⟨r, δ1, δ2, e1, e2, h⟩ := fAsg_inv h
    refine comp_ok (Q := fun x H1 => gName i x σ H1 Z.nx) E hT ?_
    rw [e1]
    intro v H1 p
    obtain ⟨O2, E2, s⟩ := asg_ok E p e2
    exact h O2 _ H1 E2 s
theorem dts_nil : PTs X [] (tDB c fun δ => .ok (true, δ)) := ⟨fun pins s σ H Q I ⟨O, δ, E, h⟩ => pts_nil.run pins s σ H Q I (h H ⟨O, Tr.refl, E⟩)⟩
def fIf1 (f : DEnv → Res (R × DEnv)) (δ : DEnv) : Res (Bool × DEnv) := (f δ).bind fun z => (tstR z.2 z.1).bind fun y => if y.1 then .ok (true, y.2) else .ok (false, y.2)
theorem dts_one {e : Expr} {f : DEnv → Res (R × DEnv)} (ht : testable e = true) (he : DE X c e f) : PTs X [e] (tDB c (fIf1 f)) := ⟨fun pins s σ H Q I ⟨O, δ, E, h⟩ => (pts_one (he.pt ht)).run pins s σ H Q I (by
  refine ⟨O, δ, E, ?_⟩
  unfold fIf1 at h
  unfold tstE
  cases e1 : f δ with
  | exc k => rw [e1] at h; exact h.elim
  | stuck => rw [e1] at h; exact h.elim
  | ok y =>
    rw [e1] at h
    simp only [bind_ok] at h ⊢
    cases e2 : tstR y.2 y.1 with
    | exc k => rw [e2] at h; exact h.elim
    | stuck => rw [e2] at h; exact h.elim
    | ok w =>
      rw [e2] at h
      simp only [bind_ok] at h
      obtain ⟨b, δ'⟩ := w
      cases b with
      | true => exact h
      | false => exact h)⟩
/-! x op= e -/
def fAug (i : Nat) (p : Pr) (f : DEnv → Res (R × DEnv)) (δ : DEnv) : Res (Fl × DEnv) := match δ[i]? with
  | some (some (.p x)) => (f δ).bind fun z => match resR z.2 z.1 with
    | some y => match pev p [x, y] with
      | some (.sc v) => match put z.2 i (.p v) with
        | some δ1 => .ok (.nx, δ1)
        | none => .stuck
      | _ => .stuck
    | none => .stuck
  | _ => .stuck
theorem ds_aug {i : Nat} {x : Str} {p' : Pos} {e : Expr} {f : DEnv → Res (R × DEnv)} {op : Operator} {p : Pr} {r : R2} (hN : X.N.Nodup) (hi : X.N[i]? = some x) (hx : Loc X.env.scope x) (hf : X.fn x = true ∨ X.env.scope.names.lookup x = some .local) (he : DE X c e f) (ho : PIp X op r) (hp : P2 c.K p r) : PS X (.AugAssign (.Name x p') op e pos) (tDS c (fAug i p f)) :=
  (ps_aug hN hi hx he.pe ho hf).imp fun Z σ H ⟨O, δ, E, h⟩ => by
    unfold fAug at h
    split at h
    case h_2 => exact h.elim
    rename_i d e0
    obtain ⟨v0, ev0, r0⟩ := E.sl i _ e0
    obtain ⟨r, δ1, e1, h⟩ := OkS.bind h
    dsimp only at h
    cases e2 : resR δ1 r with
    | none => rw [e2] at h; exact h.elim
    | some d2 =>
    rw [e2] at h
    dsimp only at h
    split at h
    case h_2 => exact h.elim
    rename_i w e3
    cases e4 : put δ1 i (.p w) with
    | none => rw [e4] at h; exact h.elim
    | some δ2 =>
    rw [e4] at h
    refine ⟨v0, ev0, tD_bind E ⟨r, δ1, e1, fun y H1 ⟨O1, t, E1, q⟩ => ?_⟩⟩
    refine hp _ d d2 _ v0 y H1 _ e3 (r0.tr t.k).rd0 (q.rd0 E1 e2) E1.trk fun z H2 s2 pr => ?_
    have E2 : ER c O1 δ1 σ H2 := E1.grow s2 (fun _ h => h) fun _ h => .inl h
    have t2 : Tr O1 δ1 σ H1 O1 δ1 H2 := Tr.grow s2 (fun _ h => h) fun _ h => .inl h
    obtain ⟨E3, s3⟩ := put_ok E2 e4 pr
    exact h O1 _ H2 E3 ((t.trans t2).str.trans s3)
def rAugAdd : R2 := fun x y H Q => rAddI x y H Q ∨ rAddS x y H Q
theorem ip_addA : PIp X .Add rAugAdd := iop_add.or iop_add_str
theorem p2_iadd {K : PySem.W.Frag} : P2 K .iadd rAugAdd := by
  intro A d e z x y H Q hp hx hy ht q
  cases d with
  | int i => cases e with
    | int j => simp only [pev] at hp; cases hp; exact .inl ⟨i, j, hx, hy, q.sc (by simp [Rep])⟩
    | _ => simp [pev] at hp
  | str i => cases e with
    | str j =>
      simp only [pev] at hp
      split at hp
      · rename_i hc; cases hp; exact .inr ⟨i, j, hx, hy, capLe hc, q.sc (by simp [Rep])⟩
      · cases hp
    | _ => simp [pev] at hp
  | _ => cases e <;> simp [pev] at hp
theorem ip_subA : PIp X .Sub (rI0 fun i j => .int (i - j)) := iop_sub
/-! x[i] = e, x.append(e), .. -/
/-- x in slot i: its object's address -/
theorem slot_v {O : Addr → Prop} {δ δ1 : DEnv} {σ : L2.St} {H H1 : Hp} {O1 : Addr → Prop} {i : Nat} {g : D → Option D} {δ2 : DEnv} (E1 : ER c O1 δ1 σ H1) (h : upS δ1 i g = some δ2) : ∃ a d s, σ[i]? = some (some (V.ref a)) ∧ OwnAt c.K H1 (All O1 δ1 σ) a d ∧ (∃ d', g d = some d') ∧ δ1[i]? = some (some s) ∧ s.val = d := by
  obtain ⟨s, s', d, d', e, ed, rfl, hv, hs⟩ := upS_inv h
  obtain ⟨a, ea, oa, _⟩ := own_of E1 e (hs.imp (·.1) (·.1))
  exact ⟨a, d, s, ea, oa, ⟨d', ed⟩, e, hv⟩
theorem upd_lst {A : Addr → Prop} {K : PySem.W.Frag} {H : Hp} {a : Addr} {ds : List D} {vs : List V} (na : A a) (r : RepL K H A ds vs) : OwnAt K (upd H a (.lst vs)) A a (.lst ds) :=
  ⟨vs, upd_same, r.tr fun b o n e => ⟨by rw [upd_ne (show b ≠ a from fun z => n (by rw [z]; exact na))]; exact e, n⟩⟩
def fSetL (i : Nat) (fx f : DEnv → Res (R × DEnv)) (δ : DEnv) : Res (Fl × DEnv) := if slotL δ i then (f δ).bind fun z => (fx z.2).bind fun y => match resR y.2 y.1 with
    | some k => match escR y.2 z.1 with
      | some (d, δ1) => match upS δ1 i fun o => setI o k d with
        | some δ2 => .ok (.nx, δ2)
        | none => .stuck
      | none => .stuck
    | none => .stuck else .stuck
theorem slotL_ok {O : Addr → Prop} {δ : DEnv} {σ : L2.St} {H : Hp} {i : Nat} (E : ER c O δ σ H) (h : slotL δ i = true) : ∃ a vs, σ[i]? = some (some (V.ref a)) ∧ H a = some (.lst vs) := by
  unfold slotL at h
  split at h
  · rename_i ds e; obtain ⟨a, e1, _, _, vs, e2, _⟩ := E.sl i _ e; exact ⟨a, vs, e1, e2⟩
  · rename_i ds e; obtain ⟨a, e1, _, vs, e2, _⟩ := E.sl i _ e; exact ⟨a, vs, e1, e2⟩
  · cases h
theorem ds_setL {i : Nat} {x : Str} {p' p2 : Pos} {ix e : Expr} {fx f : DEnv → Res (R × DEnv)} (hN : X.N[i]? = some x) (hv : Vis X.env.scope x) (hd : (x == ("__debug__" : Str)) = false) (hcd : (x == ("__classdict__" : Str)) = false) (hx : DE X c ix fx) (he : DE X c e f)
    (hs : swapsWithSole [.Subscript (.Name x p') ix p2] e pos.line X.env = pure false) (hw : swappedStores [.Subscript (.Name x p') ix p2] e X.env = pure none) : PS X (.Assign [.Subscript (.Name x p') ix p2] e pos) (tDS c (fSetL i fx f)) :=
  (ps_asg he.pe (pg_sub (pe_var (i := i) hN hv hd hcd) hx.pe set_list (by have hh := hx.st; clear hs hw; revert hh hx; cases ix <;> intro hx hh <;> first | (intro _; rfl) | cases hh)) hs hw).imp fun Z σ H ⟨O, δ, E, h⟩ => by
    unfold fSetL at h
    split at h
    case isFalse => exact h.elim
    rename_i hsl
    obtain ⟨a, vs0, ea, _⟩ := slotL_ok E hsl
    obtain ⟨r, δ1, e1, h⟩ := OkS.bind h
    dsimp only at h
    obtain ⟨r2, δ2, e2, h⟩ := OkS.bind h
    dsimp only at h
    refine tD_bind E ⟨r, δ1, e1, fun v H1 p1 => ?_⟩
    obtain ⟨O1, t1, E1, q1⟩ := p1
    refine ⟨.ref a, ea, tD_bind E1 ⟨r2, δ2, e2, fun k H2 p2 => ?_⟩⟩
    obtain ⟨O2, t2, E2, q2⟩ := p2
    cases e3 : resR δ2 r2 with
    | none => rw [e3] at h; exact h.elim
    | some kd =>
    rw [e3] at h
    dsimp only at h
    cases e4 : escR δ2 r with
    | none => rw [e4] at h; exact h.elim
    | some w =>
    obtain ⟨d, δ3⟩ := w
    rw [e4] at h
    dsimp only at h
    cases e5 : upS δ3 i (fun o => setI o kd d) with
    | none => rw [e5] at h; exact h.elim
    | some δ4 =>
    rw [e5] at h
    have p : PostE c O δ σ H r δ2 v H2 := ⟨O2, t1.trans t2, E2, q1.tr E t1 t2⟩
    obtain ⟨O3, t3, E3, r3⟩ := p.esc E e4
    obtain ⟨s, s', d0, d1, es, hf, rfl, _, hs'⟩ := upS_inv e5
    obtain ⟨b, eb, oa, sb⟩ := own_of E3 es (hs'.imp (·.1) (·.1))
    rw [ea] at eb; cases eb
    have hk := q2.rd0 E2 e3
    cases d0 with
    | lst ds =>
      cases kd with
      | int k0 =>
        have hk : k = .int k0 := hk
        subst hk
        obtain ⟨vs, ha, rv⟩ := oa
        have hf : (match ixN ds.length k0 with | some j => some (D.lst (ds.set j d)) | none => none) = some d1 := hf
        cases ej : ixN ds.length k0 with
        | none => rw [ej] at hf; cases hf
        | some j =>
          rw [ej] at hf
          cases hf
          obtain ⟨E4, s4⟩ := E3.updS (o := .lst (vs.set j v)) es (hs'.imp (fun z => ⟨_, z.1, z.2⟩) fun z => ⟨_, z.1, z.2⟩) ea (upd_lst (.inr ⟨i, sb⟩) (rv.set j r3))
          exact ⟨a, vs, k0, j, rfl, rfl, ha, by rw [← rv.length]; exact ej, h O3 σ _ E4 (t3.str.trans s4)⟩
      | _ => cases hf
    | _ => cases kd <;> cases hf
/-! d[k] = e -/
def fSetD (i : Nat) (fx f : DEnv → Res (R × DEnv)) (δ : DEnv) : Res (Fl × DEnv) := if slotD δ i then (f δ).bind fun z => (fx z.2).bind fun y => match resR y.2 y.1 with
    | some k => match escR y.2 z.1 with
      | some (d, δ1) => match upS δ1 i fun o => setK o k d with
        | some δ2 => .ok (.nx, δ2)
        | none => .stuck
      | none => .stuck
    | none => .stuck else .stuck
def fSet (i : Nat) (fx f : DEnv → Res (R × DEnv)) (δ : DEnv) : Res (Fl × DEnv) := if slotL δ i then (f δ).bind fun z => (fx z.2).bind fun y => match resR y.2 y.1 with
    | some k => match escR y.2 z.1 with
      | some (d, δ1) => match upS δ1 i fun o => setI o k d with
        | some δ2 => .ok (.nx, δ2)
        | none => .stuck
      | none => .stuck
    | none => .stuck else if slotD δ i then (f δ).bind fun z => (fx z.2).bind fun y => match resR y.2 y.1 with
    | some k => match escR y.2 z.1 with
      | some (d, δ1) => match upS δ1 i fun o => setK o k d with
        | some δ2 => .ok (.nx, δ2)
        | none => .stuck
      | none => .stuck
    | none => .stuck else .stuck
theorem slotD_ok {O : Addr → Prop} {δ : DEnv} {σ : L2.St} {H : Hp} {i : Nat} (E : ER c O δ σ H) (h : slotD δ i = true) : ∃ a vs, σ[i]? = some (some (V.ref a)) ∧ H a = some (.dK vs) := by
  unfold slotD at h
  split at h
  · rename_i ks ds e; obtain ⟨a, e1, _, _, vs, e2, _⟩ := E.sl i _ e; exact ⟨a, vs, e1, e2⟩
  · rename_i ks ds e; obtain ⟨a, e1, _, vs, e2, _⟩ := E.sl i _ e; exact ⟨a, vs, e1, e2⟩
  · cases h
theorem keyD_v {K : PySem.W.Frag} {H : Hp} {A : Addr → Prop} {d : D} {k : Key} {v : V} (h : keyD d = some k) (r : Rd0 K H A d v) : v = kV k := by
  cases d <;> simp only [keyD] at h <;> cases h <;> exact r
theorem repL_put {K : PySem.W.Frag} {H : Hp} {A : Addr → Prop} {x : D} {v : V} {k : Key} (rx : Rep K H A x v) : ∀ {ks : List Key} {ds : List D} {kvs : List (Key × V)}, kvs.map Prod.fst = ks → RepL K H A ds (kvs.map Prod.snd) →
    RepL K H A (List.zipWith (fun j d => if j = k then x else d) ks ds) ((kvs.map fun kv => if kv.1 = k then (kv.1, v) else kv).map Prod.snd)
  | [], ds, kvs, e, r => by
    cases kvs with
    | nil => exact RepL.nil
    | cons => cases e
  | j :: ks, ds, kvs, e, r => by
    cases kvs with
    | nil => cases e
    | cons kv kvs =>
      cases e
      simp only [List.map_cons] at r
      cases ds with
      | nil => simp [RepL] at r
      | cons d ds =>
        simp only [RepL] at r
        obtain ⟨u, us, e1, r1, r2⟩ := r
        cases e1
        have ih := repL_put (k := k) rx (ks := kvs.map Prod.fst) rfl r2
        simp only [List.map_cons, List.zipWith_cons_cons]
        refine RepL.cons ?_ ih
        by_cases hk : kv.1 = k
        · rw [if_pos hk, if_pos hk]; exact rx
        · rw [if_neg hk, if_neg hk]; exact r1
theorem has_any (k : Key) (kvs : List (Key × V)) : hasK (kvs.map Prod.fst) k = kvs.any fun kv => decide (kv.1 = k) := by
  unfold hasK
  rw [List.any_map]; rfl
theorem put_keys (k : Key) (v : V) (kvs : List (Key × V)) : (putK kvs k v).map Prod.fst = putKs (kvs.map Prod.fst) k := by
  unfold putK putKs
  rw [has_any]
  split
  · rw [List.map_map]
    refine List.map_congr_left fun kv _ => ?_
    show (if kv.1 = k then (kv.1, v) else kv).1 = kv.1
    split <;> rfl
  · simp
theorem put_vals {K : PySem.W.Frag} {H : Hp} {A : Addr → Prop} {x : D} {v : V} (k : Key) (rx : Rep K H A x v) {ds : List D} {kvs : List (Key × V)} (r : RepL K H A ds (kvs.map Prod.snd)) : RepL K H A (putVs (kvs.map Prod.fst) ds k x) ((putK kvs k v).map Prod.snd) := by
  unfold putVs putK
  rw [has_any]
  split
  · exact repL_put rx rfl r
  · rw [List.map_append]
    exact r.append (RepL.cons rx RepL.nil)
theorem upd_dct {A : Addr → Prop} {K : PySem.W.Frag} {H : Hp} {a : Addr} {ks : List Key} {ds : List D} {kvs : List (Key × V)} (na : A a) (e : kvs.map Prod.fst = ks) (r : RepL K H A ds (kvs.map Prod.snd)) : OwnAt K (upd H a (.dK kvs)) A a (.dct ks ds) :=
  ⟨kvs, upd_same, e, r.tr fun b o n e => ⟨by rw [upd_ne (show b ≠ a from fun z => n (by rw [z]; exact na))]; exact e, n⟩⟩
theorem ds_setD {i : Nat} {x : Str} {p' p2 : Pos} {ix e : Expr} {fx f : DEnv → Res (R × DEnv)} (hu : X.A.units + 1 < cLine) (hN : X.N[i]? = some x) (hv : Vis X.env.scope x) (hd : (x == ("__debug__" : Str)) = false) (hcd : (x == ("__classdict__" : Str)) = false) (hx : DE X c ix fx) (he : DE X c e f)
    (hs : swapsWith e (some (.Subscript (.Name x p') ix p2)) pos.line X.env = pure false) : PS X (.Assign [.Subscript (.Name x p') ix p2] e pos) (tDS c (fSetD i fx f)) :=
  (ps_dput hu (pe_var (i := i) hN hv hd hcd) hx.pe he.pe hs).imp fun Z σ H ⟨O, δ, E, h⟩ => by
    unfold fSetD at h
    split at h
    case isFalse => exact h.elim
    rename_i hsl
    obtain ⟨a, vs0, ea, _⟩ := slotD_ok E hsl
    obtain ⟨r, δ1, e1, h⟩ := OkS.bind h
    dsimp only at h
    obtain ⟨r2, δ2, e2, h⟩ := OkS.bind h
    dsimp only at h
    refine tD_bind E ⟨r, δ1, e1, fun v H1 p1 => ?_⟩
    obtain ⟨O1, t1, E1, q1⟩ := p1
    refine ⟨.ref a, ea, tD_bind E1 ⟨r2, δ2, e2, fun k H2 p2 => ?_⟩⟩
    obtain ⟨O2, t2, E2, q2⟩ := p2
    cases e3 : resR δ2 r2 with
    | none => rw [e3] at h; exact h.elim
    | some kd =>
    rw [e3] at h
    dsimp only at h
    cases e4 : escR δ2 r with
    | none => rw [e4] at h; exact h.elim
    | some w =>
    obtain ⟨d, δ3⟩ := w
    rw [e4] at h
    dsimp only at h
    cases e5 : upS δ3 i (fun o => setK o kd d) with
    | none => rw [e5] at h; exact h.elim
    | some δ4 =>
    rw [e5] at h
    have p : PostE c O δ σ H r δ2 v H2 := ⟨O2, t1.trans t2, E2, q1.tr E t1 t2⟩
    obtain ⟨O3, t3, E3, r3⟩ := p.esc E e4
    obtain ⟨s, s', d0, d1, es, hf, rfl, _, hs'⟩ := upS_inv e5
    obtain ⟨b, eb, oa, sb⟩ := own_of E3 es (hs'.imp (·.1) (·.1))
    rw [ea] at eb; cases eb
    have hk := q2.rd0 E2 e3
    cases d0 with
    | dct ks ds =>
      cases ek : keyD kd with
      | none => simp only [setK, ek] at hf; cases hf
      | some k0 =>
        have hk := keyD_v ek hk
        subst hk
        obtain ⟨kvs, ha, hks, rv⟩ := oa
        simp only [setK, ek] at hf
        split at hf
        case isFalse => cases hf
        rename_i hlen
        cases hf
        subst hks
        obtain ⟨E4, s4⟩ := E3.updS (o := .dK (putK kvs k0 v)) es (hs'.imp (fun z => ⟨_, z.1, z.2⟩) fun z => ⟨_, z.1, z.2⟩) ea (upd_dct (.inr ⟨i, sb⟩) (put_keys k0 v kvs) (put_vals k0 r3 rv))
        refine ⟨a, _, rfl, DPut.k ha ?_, h O3 σ _ E4 (t3.str.trans s4)⟩
        rw [sizeLine_eq]
        rw [List.length_map] at hlen
        omega
    | _ => simp only [setK] at hf; cases hf
theorem ds_set {i : Nat} {x : Str} {p' p2 : Pos} {ix e : Expr} {fx f : DEnv → Res (R × DEnv)} (hu : X.A.units + 1 < cLine) (hN : X.N[i]? = some x) (hv : Vis X.env.scope x) (hd : (x == ("__debug__" : Str)) = false) (hcd : (x == ("__classdict__" : Str)) = false) (hx : DE X c ix fx) (he : DE X c e f)
    (hs : swapsWithSole [.Subscript (.Name x p') ix p2] e pos.line X.env = pure false) (hw : swappedStores [.Subscript (.Name x p') ix p2] e X.env = pure none) (hs2 : swapsWith e (some (.Subscript (.Name x p') ix p2)) pos.line X.env = pure false) : PS X (.Assign [.Subscript (.Name x p') ix p2] e pos) (tDS c (fSet i fx f)) :=
  ⟨fun pins s σ H D I ⟨O, δ, E, h⟩ => by
    by_cases hl : slotL δ i = true
    · refine (ds_setL hN hv hd hcd hx he hs hw).run pins s σ H D I ⟨O, δ, E, ?_⟩
      unfold fSet at h
      unfold fSetL
      rw [if_pos hl] at h ⊢
      exact h
    · refine (ds_setD hu hN hv hd hcd hx he hs2).run pins s σ H D I ⟨O, δ, E, ?_⟩
      unfold fSet at h
      unfold fSetD
      rw [if_neg hl] at h
      exact h⟩
end
end Ev
/-! EvQ: methods -/
namespace Ev
open PySem PySem.Spec PyProof.Rows L2
section
variable {X : Cx}
/-- xs.extend(ys), ys a list wherever it stands -/
def rExtR (K : PySem.W.Frag) : V → List V → Hp → VK → Prop := fun x vs H Q => ∃ l b xs zs, x = .ref l ∧ vs = [.ref b] ∧ H l = some (.lst xs) ∧ SqL K H b zs ∧ xs.length + zs.length ≤ sizeLine ∧ Q .non (upd H l (.lst (xs ++ zs)))
theorem mt_extR : MtR X "list.extend" (rExtR X.K) := by
  intro pins s σ H x vs v us Q I rx rv h
  obtain ⟨l, b, xs, zs, rfl, rfl, g1, g2, g3, q⟩ := h
  cases rx
  obtain ⟨u, eu, ru⟩ := vals1 rv
  subst eu
  cases ru
  obtain ⟨_, its, n, r, hl, e⟩ := I.lstM g1
  obtain ⟨jts, w, p2, _⟩ := I.list g2
  obtain ⟨m, sl, f⟩ := plain_at p2
  have hm := w.length
  have total : its.toArray.size + jts.toArray.size ≤ sizeLine := by rw [List.size_toArray, List.size_toArray]; omega
  have short : ¬ (!its.toArray.isEmpty && Builtin.List.listTooLong (its.toArray.size + jts.toArray.size)) = true := by rw [notLongL total, Bool.and_false]; exact Bool.false_ne_true
  refine call_meets F.slot_list_extend ⟨_, e, rfl⟩ F.entry_list_extend (F.args_list_extend_2 _ _) (q_extend l its.toArray n b jts.toArray m sl short (by rw [List.size_toArray]; omega) (by omega)) ⟨e, f, ?_⟩
  exact ⟨.non, _, I.lset (its' := its ++ jts) g1 e (by simp) (r.append w) (by rw [List.length_append]; omega), rfl, q⟩
end
section
variable {X : Cx} {c : Cfg} {pos : Pos}
def fMeth (k : MK) (i : Nat) (fl : DEnv → Res (List R × DEnv)) (δ : DEnv) : Res (Fl × DEnv) := if slotL δ i then (fl δ).bind fun z => match (if k = .extend then (resL z.2 z.1).map fun ds => (ds, z.2) else escL z.2 z.1) with
    | some (ds, δ1) => match upS δ1 i (methD k ds) with
      | some δ2 => .ok (.nx, δ2)
      | none => .stuck
    | none => .stuck else .stuck
theorem few_of {e : Expr} {env : Env} {cpos : Pos} (h : notStar e = true) : ((backTo cpos (starEach [e] env)).all (fun x => !x.1) && (backToKw cpos (keywordEach [] env)).all (fun x => x.1.isSome) && decide ([e].length + ([] : List Keyword).length + (if ([] : List Keyword).isEmpty then 0 else 1) < 30)) = true := by
  rw [star_of h]; rfl
theorem meth_inv {O : Addr → Prop} {δ : DEnv} {σ : L2.St} {H : Hp} {k : MK} {i : Nat} {fl : DEnv → Res (List R × DEnv)} {Z : Ends} (h : OkS c O δ σ H (fMeth k i fl δ) Z) : slotL δ i = true ∧ ∃ rs δ1 ds δ2 δ3, fl δ = .ok (rs, δ1) ∧ (if k = .extend then (resL δ1 rs).map fun ds => (ds, δ1) else escL δ1 rs) = some (ds, δ2) ∧ upS δ2 i (methD k ds) = some δ3 ∧ OkS c O δ σ H (.ok (.nx, δ3)) Z := by
  unfold fMeth at h
  split at h
  case isFalse => exact h.elim
  rename_i hsl
  obtain ⟨rs, δ1, e1, h⟩ := OkS.bindL h
  dsimp only at h
  split at h
  · rename_i ds δ2 e2
    split at h
    · rename_i δ3 e3; exact ⟨hsl, rs, δ1, ds, δ2, δ3, e1, e2, e3, h⟩
    · exact h.elim
  · exact h.elim
theorem ds_append {i : Nat} {x : Str} {p1 p2 p3 : Pos} {e : Expr} {fl : DEnv → Res (List R × DEnv)} (hN : X.N[i]? = some x) (hv : Vis X.env.scope x) (hd : (x == ("__debug__" : Str)) = false) (hcd : (x == ("__classdict__" : Str)) = false) (hl : (p2.endLine == p3.line) = true) (ha : DL X c [e] fl) :
    PS X (.Expr (.Call (.Attribute (.Name x p1) "append" p2) [e] [] p3) pos) (tDS c (fMeth .append i fl)) := by
  have st := ha.st
  simp only [List.all_cons, Bool.and_eq_true] at st
  refine (ps_expr (pe_bm PySem.F.plainAttrs_list PySem.F.slot_list_append PySem.F.type_list_append mt_append (pe_var (i := i) hN hv hd hcd) ha.pa rfl (few_of st.1) hl (star_of st.1) (plain_of st.2)) rfl).imp fun Z σ H ⟨O, δ, E, h⟩ => ?_
  obtain ⟨hsl, rs, δ1, ds, δ2, δ3, e1, e2, e3, h⟩ := meth_inv h
  obtain ⟨a, vs0, ea, ha0⟩ := slotL_ok E hsl
  refine ⟨.ref a, ea, .inl ⟨rfl, vs0, SqL.of ha0⟩, O, δ, E, ?_⟩
  rw [e1]
  intro vs H1 p
  rw [if_neg (by decide)] at e2
  obtain ⟨O2, t2, E2, r2⟩ := p.esc E e2
  obtain ⟨s, s', d0, d1, es, hf, rfl, _, hs'⟩ := upS_inv e3
  obtain ⟨b, eb, oa, sb⟩ := own_of E2 es (hs'.imp (·.1) (·.1))
  rw [ea] at eb; cases eb
  cases d0 with
  | lst ys =>
    match ds, r2, hf with
    | [d], r2, hf =>
      have hf : (if ys.length < cap then some (D.lst (ys ++ [d])) else none) = some d1 := hf
      split at hf
      · rename_i hc
        cases hf
        simp only [RepL] at r2
        obtain ⟨v, vs', rfl, r, rfl⟩ := r2
        obtain ⟨us, hu, ru⟩ := oa
        obtain ⟨E4, s4⟩ := E2.updS (o := .lst (us ++ [v])) es (hs'.imp (fun z => ⟨_, z.1, z.2⟩) fun z => ⟨_, z.1, z.2⟩) ea (upd_lst (.inr ⟨i, sb⟩) (ru.append (RepL.one r)))
        exact ⟨a, us, v, rfl, rfl, hu, by rw [← ru.length]; exact Nat.lt_of_lt_of_le hc (by rw [sizeLine_eq]; decide), h O2 σ _ E4 (t2.str.trans s4)⟩
      · cases hf
    | [], _, hf => cases hf
    | _ :: _ :: _, _, hf => cases hf
  | _ => cases hf
theorem ds_extend (hK : X.K = c.K) {i : Nat} {x : Str} {p1 p2 p3 : Pos} {e : Expr} {fl : DEnv → Res (List R × DEnv)} (hN : X.N[i]? = some x) (hv : Vis X.env.scope x) (hd : (x == ("__debug__" : Str)) = false) (hcd : (x == ("__classdict__" : Str)) = false) (hl : (p2.endLine == p3.line) = true) (ha : DL X c [e] fl) :
    PS X (.Expr (.Call (.Attribute (.Name x p1) "extend" p2) [e] [] p3) pos) (tDS c (fMeth .extend i fl)) := by
  have st := ha.st
  simp only [List.all_cons, Bool.and_eq_true] at st
  refine (ps_expr (pe_bm PySem.F.plainAttrs_list PySem.F.slot_list_extend PySem.F.type_list_extend mt_extR (pe_var (i := i) hN hv hd hcd) ha.pa rfl (few_of st.1) hl (star_of st.1) (plain_of st.2)) rfl).imp fun Z σ H ⟨O, δ, E, h⟩ => ?_
  obtain ⟨hsl, rs, δ1, ds, δ2, δ3, e1, e2, e3, h⟩ := meth_inv h
  obtain ⟨a, vs0, ea, ha0⟩ := slotL_ok E hsl
  refine ⟨.ref a, ea, .inl ⟨rfl, vs0, SqL.of ha0⟩, O, δ, E, ?_⟩
  rw [e1]
  intro vs H1 ⟨O1, t1, E1, q1⟩
  rw [if_pos rfl] at e2
  cases e4 : resL δ1 rs with
  | none => rw [e4] at e2; cases e2
  | some ds' =>
  rw [e4] at e2
  cases e2
  have r2 := q1.rd0 E1 e4
  obtain ⟨s, s', d0, d1, es, hf, rfl, _, hs'⟩ := upS_inv e3
  obtain ⟨b, eb, oa, sb⟩ := own_of E1 es (hs'.imp (·.1) (·.1))
  rw [ea] at eb; cases eb
  cases d0 with
  | lst ys =>
    match ds, r2, hf with
    | [.lst zs], r2, hf =>
      have hf : (if ys.length + zs.length ≤ cap then some (D.lst (ys ++ zs)) else none) = some d1 := hf
      split at hf
      · rename_i hc
        cases hf
        obtain ⟨v, rfl, b, ws, rfl, hb, rb⟩ := rd0L_one r2
        obtain ⟨us, hu, ru⟩ := oa
        obtain ⟨E4, s4⟩ := E1.updS (o := .lst (us ++ ws)) es (hs'.imp (fun z => ⟨_, z.1, z.2⟩) fun z => ⟨_, z.1, z.2⟩) ea (upd_lst (.inr ⟨i, sb⟩) (ru.append rb))
        exact ⟨a, b, us, ws, rfl, rfl, hu, (by rw [hK]; exact hb), by rw [← ru.length, ← rb.length]; exact capLe hc, h O1 σ _ E4 (t1.str.trans s4)⟩
      · cases hf
    | [], _, hf => cases hf
    | [.non], _, hf | [.bl _], _, hf | [.int _], _, hf | [.str _], _, hf | [.tup _], _, hf | [.dct _ _], _, hf => cases hf
    | _ :: _ :: _, _, hf => simp [methD] at hf
  | _ => cases hf
theorem ds_reverse {i : Nat} {x : Str} {p1 p2 p3 : Pos} (hN : X.N[i]? = some x) (hv : Vis X.env.scope x) (hd : (x == ("__debug__" : Str)) = false) (hcd : (x == ("__classdict__" : Str)) = false) (hl : (p2.endLine == p3.line) = true) :
    PS X (.Expr (.Call (.Attribute (.Name x p1) "reverse" p2) [] [] p3) pos) (tDS c (fMeth .reverse i fun δ => .ok ([], δ))) := by
  refine (ps_expr (pe_bm0 PySem.F.plainAttrs_list PySem.F.slot_list_reverse PySem.F.type_list_reverse mt_reverse (pe_var (i := i) hN hv hd hcd) rfl hl) rfl).imp fun Z σ H ⟨O, δ, E, h⟩ => ?_
  obtain ⟨hsl, rs, δ1, ds, δ2, δ3, e1, e2, e3, h⟩ := meth_inv h
  obtain ⟨a, vs0, ea, ha0⟩ := slotL_ok E hsl
  cases e1
  rw [if_neg (by decide)] at e2
  cases e2
  refine ⟨.ref a, ea, .inl ⟨rfl, vs0, SqL.of ha0⟩, ?_⟩
  obtain ⟨s, s', d0, d1, es, hf, rfl, _, hs'⟩ := upS_inv e3
  obtain ⟨b, eb, oa, sb⟩ := own_of E es (hs'.imp (·.1) (·.1))
  rw [ea] at eb; cases eb
  cases d0 with
  | lst ys =>
    cases hf
    obtain ⟨us, hu, ru⟩ := oa
    obtain ⟨E4, s4⟩ := E.updS (o := .lst us.reverse) es (hs'.imp (fun z => ⟨_, z.1, z.2⟩) fun z => ⟨_, z.1, z.2⟩) ea (upd_lst (.inr ⟨i, sb⟩) ru.reverse)
    exact ⟨a, us, rfl, rfl, hu, h O σ _ E4 s4⟩
  | _ => cases hf
/-! sep.join(xs) -/
theorem p2_join {K : PySem.W.Frag} : P2 K .join (fun x y H Q => ∃ (a : Str) (p : Addr) (ys : List Str), x = .str a ∧ y = .ref p ∧ (SqL K H p (ys.map V.str) ∨ SqT K H p (ys.map V.str)) ∧ (ys.map (·.length)).sum + ys.length * a.length ≤ 16777216 ∧ Q (.str (Txt.join a ys)) H) := by
  intro A d e z x y H Q hp hx hy ht q
  cases d with
  | str s =>
    have hp : (match seqOf e with | some xs => (match strsD xs with | some ys => if (ys.map (·.length)).sum + ys.length * s.length ≤ cap then some (PR.sc (.str (Txt.join s ys))) else none | none => none) | none => none) = some z := by
      cases e <;> exact hp
    cases e1 : seqOf e with
    | none => rw [e1] at hp; cases hp
    | some xs =>
    rw [e1] at hp
    dsimp only at hp
    cases e2 : strsD xs with
    | none => rw [e2] at hp; cases hp
    | some ys =>
    rw [e2] at hp
    dsimp only at hp
    split at hp
    · rename_i hc
      cases hp
      obtain ⟨a, vs, rfl, h1, r1⟩ := rd0_seq e1 hy
      have := repL_strs e2 r1
      subst this
      exact ⟨s, a, ys, hx, rfl, h1, Nat.le_trans hc (by decide), q.sc (by simp [Rep])⟩
    · cases hp
  | _ => cases e <;> cases hp
def fSm (p : Pr) (fa fb : DEnv → Res (R × DEnv)) (δ : DEnv) : Res (R × DEnv) := (fa δ).bind fun x => match resR x.2 x.1 with
  | some (.str s) => (fb x.2).bind fun y => match resR y.2 y.1 with
    | some d => match pev p [.str s, d] with
      | some w => .ok (w.r, y.2)
      | none => .stuck
    | none => .stuck
  | _ => .stuck
theorem sm_ok {O : Addr → Prop} {δ : DEnv} {σ : L2.St} {H : Hp} {Q : VK} {p : Pr} {fa fb : DEnv → Res (R × DEnv)} {r : R2} (E : ER c O δ σ H) (hp : P2 c.K p r) (h : OkE c O δ σ H (fSm p fa fb δ) Q) : tD c fa σ H fun x H1 => (∃ a, x = .str a) ∧ tD c fb σ H1 fun y H2 => r x y H2 Q := by
  obtain ⟨r1, δ1, f1, h⟩ := OkE.bind h
  dsimp only at h
  refine tD_bind E ⟨r1, δ1, f1, fun x H1 ⟨O1, t1, E1, q1⟩ => ?_⟩
  split at h
  · rename_i s d1
    have hx : x = .str s := q1.rd0 E1 d1
    subst hx
    refine ⟨⟨s, rfl⟩, ?_⟩
    obtain ⟨r2, δ2, f2, h⟩ := OkE.bind h
    dsimp only at h
    refine tD_bind E1 ⟨r2, δ2, f2, fun y H2 ⟨O2, t2, E2, q2⟩ => ?_⟩
    cases d2 : resR δ2 r2 with
    | none => rw [d2] at h; exact h.elim
    | some d =>
    rw [d2] at h
    dsimp only at h
    cases hp2 : pev p [.str s, d] with
    | none => rw [hp2] at h; exact h.elim
    | some w =>
    rw [hp2] at h
    exact hp _ (.str s) d w (.str s) y H2 Q hp2 rfl (q2.rd0 E2 d2) E2.trk fun v H' s pr => h v H' (prim_post E (t1.trans t2) E2 s pr)
  · exact h.elim
theorem de_join {o e : Expr} {p2 p3 : Pos} {fa fb : DEnv → Res (R × DEnv)} (hK : X.K = c.K) (hl : (p2.endLine == p3.line) = true) (hb : attributeBase o "join" X.env (eval o X.env) = eval o X.env) (ha : DE X c o fa) (he : DE X c e fb) : DE X c (.Call (.Attribute o "join" p2) [e] [] p3) (fSm .join fa fb) :=
  .of ((pe_join ha.pe he.pe (star_of he.st) hb hl).imp fun σ H Q ⟨O, δ, E, h⟩ => by
    have := sm_ok E (p2_join (K := c.K)) h
    obtain ⟨O', δ', E', h'⟩ := this
    refine ⟨O', δ', E', ?_⟩
    cases hf : fa δ' with
    | exc k => rw [hf] at h'; exact h'.elim
    | stuck => rw [hf] at h'; exact h'.elim
    | ok y =>
      rw [hf] at h'
      exact fun v H' p => ⟨(h' v H' p).1, by
        obtain ⟨O2, δ2, E2, h2⟩ := (h' v H' p).2
        refine ⟨O2, δ2, E2, ?_⟩
        cases hg : fb δ2 with
        | exc k => rw [hg] at h2; exact h2.elim
        | stuck => rw [hg] at h2; exact h2.elim
        | ok w =>
          rw [hg] at h2
          intro u H3 p3
          obtain ⟨a, q, ys, e1, e2, e3, e4, e5⟩ := h2 u H3 p3
          rw [hK]
          exact ⟨a, q, ys, e1, by rw [e2], e3, e4, e5⟩⟩)
end
end Ev
set_option maxHeartbeats 4000000
/-! EvQ2: sorted(set(..)) of texts -/
namespace Ev
open PySem PySem.Spec PySem.Froz PyProof.Rows L2
/-- a set of the texts l, whose table can be walked -/
def TxS (P : Program) (w : World) (h : Heap) (a : Addr) (l : List Str) : Prop :=
  ∃ D : SD, h.get? a = some (sObj "set" D) ∧ TxOk P w D l ∧ Ris D.2.2.place.toList ∧ (w.params.followText "set-order" = true ∨ D.2.2.led = true) ∧ l.Nodup
section
variable {P : Program} {w : World} {A : Around} {E : Value → Shared → Prop} {s : Shared} {a : Addr} {l : List Str}
theorem tail_tab (ep : Nat) (es : Array (Int × Value)) (t : SetTable) (wd : Bool) (r : Ris t.place.toList) : Ris (tailTx ep es t wd).2.2.place.toList ∧ (tailTx ep es t wd).2.2.led = t.led := by
  unfold tailTx
  split
  · exact ⟨relayAll_ris t es _, relayAll_led t es _⟩
  · exact ⟨r, rfl⟩
theorem add_tab (h : Int) (v : Value) (D : SD) (r : Ris D.2.2.place.toList) : Ris (addTx h v D).2.2.place.toList ∧ (addTx h v D).2.2.led = D.2.2.led := by
  have r1 := layNew_ris D.2.2 D.1 h v r
  have e1 := layNew_led D.2.2 D.1 h v
  unfold addTx
  split
  · obtain ⟨x, y⟩ := tail_tab D.2.1 (layNew D.2.2 D.1 h v).1 { (layNew D.2.2 D.1 h v).2.1 with plain := false } (layNew D.2.2 D.1 h v).2.2.1 r1
    exact ⟨x, y.trans e1⟩
  · obtain ⟨x, y⟩ := tail_tab D.2.1 (layNew D.2.2 D.1 h v).1 (layNew D.2.2 D.1 h v).2.1 (layNew D.2.2 D.1 h v).2.2.1 r1
    exact ⟨x, y.trans e1⟩
theorem TxS.keep {h h' : Heap} (R : TxS P w h a l) (k : ∀ o, h.get? a = some o → h'.get? a = some o) : TxS P w h' a l := by
  obtain ⟨D, ho, r⟩ := R
  exact ⟨D, k _ ho, r⟩
theorem txS_fresh {h : Heap} (ho : h.get? a = some { cls := .type "set", dict := none, data := .set #[] 0 (.fresh 0 0 (!w.params.followText "set-order")) }) : TxS P w h a [] := by
  refine ⟨(#[], 0, .fresh 0 0 (!w.params.followText "set-order")), ho, TxOk.nil (by cases w.params.followText "set-order" <;> rfl), List.Pairwise.nil, ?_, List.nodup_nil⟩
  cases h : w.params.followText "set-order"
  · exact .inr rfl
  · exact .inl rfl
/-- a text that is there already -/
theorem old_x {D : SD} {k : Str} {u : Tok} {Q : Bool → Shared → Prop} (ho : s.heap.get? a = some (sObj "set" D)) (F : TxOk P w D l) (hk : k ∈ l) (hb : l.length < scanBound) (h : Q false s) : wpAny (model P w) A (setAddHashed a (.str k u) (hashStr w k)) Q E s := by
  obtain ⟨es, ep, t⟩ := D
  have g1 : (sObj "set" (es, ep, t)).data = .set es ep t := rfl
  have g2 : t.fits es.size = true := F.fit
  have g3 : ElemsOf (strKind P w) es.toList := F.el
  have g4 : es.size < scanBound := by have : es.size = l.length := F.sz; omega
  have g5 : (strKind P w).is k (.str k u) = true := is_str k u
  obtain ⟨j, g6⟩ : ∃ j, List.findIdx? (fun e => (strKind P w).is k e.2) es.toList = some j := by
    cases hr : List.findIdx? (fun e => (strKind P w).is k e.2) es.toList with
    | some j => exact ⟨j, rfl⟩
    | none =>
      obtain ⟨e, he, q⟩ := (F.mem k).mp hk
      have := List.findIdx?_eq_none_iff.mp hr e he
      rw [q] at this
      cases this
  unfold setAddHashed setAddHashedIn
  refine wpAny_holding (wpAny_bind (wpAny_setState_of ho g1 g2 ?_))
  dsimp only
  rw [byScan_of rfl g4 g3]
  simp only [↓reduceIte]
  unfold setAddByScan
  refine wpAny_bind (wpAny_bind (wpAny_rule (wpAny_bind (wpAny_setScan_of (knd := strKind P w) (k := k) g5 ho g1 g2 g3 ?_))))
  rw [g6]
  exact wpAny_pure (wpAny_pure h)
theorem txS_add {k : Str} {u : Tok} {Q : Bool → Shared → Prop} (R : TxS P w s.heap a l) (hb : l.length + 1 < scanBound)
    (h : ∀ (b : Bool) (h' : Heap) (l' : List Str), (∀ c o, c ≠ a → s.heap.get? c = some o → h'.get? c = some o) → TxS P w h' a l' → l'.length ≤ l.length + 1 → (∀ x, x ∈ l' ↔ x = k ∨ x ∈ l) → Q b { s with heap := h' }) : wpAny (model P w) A (setAddHashed a (.str k u) (hashStr w k)) Q E s := by
  obtain ⟨D, ho, F, r, hl, nd⟩ := id R
  by_cases hk : k ∈ l
  · exact old_x ho F hk (by omega) (h false s.heap l (fun _ _ _ e => e) R (Nat.le_succ _) fun x => ⟨.inr, fun h => by rcases h with rfl | h; exact hk; exact h⟩)
  · obtain ⟨r2, l2⟩ := add_tab (hashStr w k) (.str k u) D r
    refine add_x ho F hk hb (h true _ (k :: l) (fun c o hc e => ?_) ⟨_, get_upd _ ho rfl, add_ok u F, r2, by rw [l2]; exact hl, List.nodup_cons.mpr ⟨hk, nd⟩⟩ (Nat.le_refl _) fun x => List.mem_cons)
    exact (Heap.get?_update_other _ _ (Ne.symm hc)).trans e
end
section
variable {P : Program} {w : World} {A : Around} {E : Value → Shared → Prop} {s : Shared}
/-- the loop that fills it -/
theorem fill_x {I : Addr} {fp wr : List Addr} {G : Array GenState → Array GenState → Prop} {n : Nat} {Pv : Nat → Value → Prop} {St : Nat → Shared → Prop} {R : Result → Shared → Prop}
    (W : WalksS P w A.in1 I fp wr G n Pv St) (S : Addr) (hS : S ∉ fp) (xs : List Str) (hn : n = xs.length) (hb : xs.length + 1 < scanBound) (hv : ∀ i v, Pv i v → ∃ k t, xs[i]? = some k ∧ v = .str k t) :
    ∀ (m i : Nat) (s : Shared), n - i = m → i ≤ n → St i s → (∃ l, l.length ≤ i ∧ (∀ x, x ∈ l ↔ x ∈ xs.take i) ∧ TxS P w s.heap S l) →
      (∀ s' l, Moved (S :: wr) G s s' → l.length ≤ n → (∀ x, x ∈ l ↔ x ∈ xs) → TxS P w s'.heap S l → R (.ok (.ret .none)) s') →
      codeAny (model P w) A (.builtin "set.update.loop" ⟨[.ref S, .ref I], []⟩) R s := by
  have nw : S ∉ wr := fun h => hS (W.sub _ h)
  have sub : ∀ b ∈ wr, b ∈ S :: wr := fun b hb => List.mem_cons_of_mem _ hb
  intro m
  induction m with
  | zero =>
    intro i s hm hi st ⟨l, hl, hx, T⟩ hR
    obtain rfl : i = n := by omega
    refine codeAny_builtin F.entry_set_update_loop ?_
    rw [Around.under_plainId F.plain_set_update_loop _]
    show wpAny _ A.in1 (pyNext (.ref I) >>= _) _ _ s
    refine wpAny_bind (W.done s _ _ st fun s' mv => ?_)
    show wpAny _ A.in1 (ret Value.none) _ _ s'
    rw [List.take_of_length_le (by omega)] at hx
    exact wpAny_pure (hR s' l (mv.mono sub) hl hx (T.keep fun o e => mv.heap S o nw e))
  | succ m ih =>
    intro i s hm hi st ⟨l, hl, hx, T⟩ hR
    have lt : i < n := by omega
    refine codeAny_builtin F.entry_set_update_loop ?_
    rw [Around.under_plainId F.plain_set_update_loop _]
    show wpAny _ A.in1 (pyNext (.ref I) >>= _) _ _ s
    refine wpAny_bind (W.item i s _ _ lt st fun v s' pv st' mv => ?_)
    obtain ⟨k, t, hk, rfl⟩ := hv i v pv
    have T' : TxS P w s'.heap S l := T.keep fun o e => mv.heap S o nw e
    show wpAny _ A.in1 (holding [Value.str k t] (setAdd S (.str k t)) >>= _) _ _ s'
    refine wpAny_bind (wpAny_holding ?_)
    unfold setAdd
    refine wpAny_holding (wpAny_bind ((strKind P w).pyHash (k := k) (strKind_is _ _ _ _) ?_))
    refine txS_add (s := { s' with toks := s'.toks + 1 }) T' (by omega) fun b h' l' ko T2 ll mx => ?_
    have ex : ∀ x, x ∈ l' ↔ x ∈ xs.take (i + 1) := fun x => by
      rw [List.take_add_one, hk, List.mem_append, mx, hx]
      simp only [Option.toList_some, List.mem_singleton]
      exact Or.comm
    refine wpAny_pure ⟨plainId_quiet F.plain_set_update_loop _, ih (i + 1) _ (by omega) lt (W.frame _ s' _ _ st' (Nat.le_succ _) fun b hb o e => ?_) ⟨l', by omega, ex, T2⟩ fun s2 l2 mv2 a1 a2 a3 => ?_⟩
    · exact ko b o (fun z => hS (z ▸ hb)) e
    · exact hR s2 l2 (Moved.trans W.gtrans ((mv.mono sub).then_heap (Nat.le_succ _) fun b o hb e => ko b o (fun z => hb (z ▸ List.mem_cons_self)) e) mv2) a1 a2 a3
end
end Ev
set_option maxHeartbeats 4000000
/-! EvQ3: set of texts made, sorted -/
namespace Ev
open PySem PySem.Spec PySem.Froz PyProof.Rows L2
def setO (w : World) : Obj := { cls := .type "set", dict := none, data := .set #[] 0 (.fresh 0 0 (!w.params.followText "set-order")) }
theorem strs_get : ∀ {us : List Value} {xs : List Str}, StrsAre us xs → ∀ (i : Nat) (v : Value), us[i]? = some v → ∃ k t, xs[i]? = some k ∧ v = .str k t
  | _, _, .nil, i, v, h => by simp at h
  | _, _, .cons n t r, 0, v, h => by cases h; exact ⟨n, t, rfl, rfl⟩
  | _, _, .cons n t r, i + 1, v, h => strs_get r i v h
section
variable {P : Program} {w : World} {A : Around} {E : Value → Shared → Prop} {s : Shared}
set_option maxHeartbeats 8000000 in
theorem set_list {lst : Addr} {items : Array Value} (xs : List Str) {Q : Value → Shared → Prop} (hl : s.heap.IsList lst items) (hit : StrsAre items.toList xs) (hh : A.handled = none) (hb : xs.length + 1 < scanBound)
    (h : ∀ (h' : Heap) (tk : Nat) (l : List Str), TxS P w h' s.heap.objs.size l → (∀ x, x ∈ l ↔ x ∈ xs) → l.length ≤ xs.length → (∀ b o, s.heap.get? b = some o → h'.get? b = some o) → Q (.ref s.heap.objs.size) { s with heap := h', toks := tk }) :
    wpAny (model P w) A (call (.type "set") [.ref lst]) Q E s := by
  obtain ⟨mc, mt, mro0⟩ := F.called_set.mro
  have f1 := F.called_set.made
  have f2 := F.called_set.sub
  have f3 := F.called_set.notType
  have f4 := F.called_set.canCreate
  have f5 := F.typeCall_set_1 (.ref lst)
  refine wpAny_call (codeAny_of_tree ?_)
  show wpAny _ _ (callAny (.type "set") _) _ _ _
  refine wpAny_pure ⟨Code.quiet_builtin _ (by decide +kernel), codeAny_builtin F.entry_type_call ?_⟩
  rw [Around.under_plain (weight_type_call_type "set" [.ref lst] []) rfl]
  repeat (any_goals (first | assumption | wp_step))

  refine codeAny_mono (code_set_led1 (.ref lst) (E := E) (Q₁ := fun z s1 => z = .ref s.heap.objs.size ∧ s1 = { s with heap := s.heap.push (setO w) }) ⟨rfl, rfl⟩) fun r1 s1 hr => ?_
  cases r1 with
  | error e => exact hr
  | ok fl =>
    cases fl with
    | ret z =>
      obtain ⟨rfl, rfl⟩ := hr
      have gS : (s.heap.push (setO w)).get? s.heap.objs.size = some (setO w) := Heap.get?_push_size _ rfl
      have gT : Shared.TypeIs { s with heap := s.heap.push (setO w) } (.ref s.heap.objs.size) "set" := ⟨_, gS, rfl⟩
      have f6 := F.called_set.init.lookup
      have f7 := F.called_set.init.bind (.ref s.heap.objs.size)
      repeat (any_goals (first | assumption | wp_step))

      refine codeAny_mono (codeAny_call_builtin (R := wants (fun r2 s2 => r2 = .none ∧ ∃ h' tk l, s2 = { s with heap := h', toks := tk } ∧ TxS P w h' s.heap.objs.size l ∧ (∀ x, x ∈ l ↔ x ∈ xs) ∧ l.length ≤ xs.length ∧ (∀ b o, s.heap.get? b = some o → h'.get? b = some o)) E) F.called_set.init.plain F.entry_set_init (check_set_init_1 gT ?_)) fun r2 s2 hr2 => ?_
      · obtain ⟨ol, lo, lc, ln, ld⟩ := hl
        obtain ⟨oc, od, oa, os⟩ := ol
        simp only at lc ld
        subst lc; subst ld
        have lo' : (s.heap.push (setO w)).get? lst = some { cls := .type "list", dict := od, data := .seq items ln, slots := os } := Heap.get?_push_of_some _ lo
        have k1 := F.sub_list_set
        have k2 := F.sub_list_frozenset
        have k3 : (Value.type "list" == Value.type "dict") = false := by decide
        have lst' : (s.heap.push (setO w)).IsList lst items := ⟨_, lo', rfl, ln, rfl⟩
        unfold Builtin.«set.__init__» noKeywords Builtin.Frozenset.updateFrom
        generalize hPI : pyIter = PI
        wp_walk
        subst hPI

        refine wpAny_pyIter_list lst' ?_
        refine wpAny_bind (wpAny_runValue ?_)
        have lS : lst < s.heap.objs.size := Heap.lt_size lo
        have hd3 : A.in1.in1.in1.handled = none := by simp [hh]
        have nI : lst ≠ (s.heap.push (setO w)).objs.size := by rw [Heap.size_push]; exact Nat.ne_of_lt (Nat.lt_succ_of_lt lS)
        have nS : s.heap.objs.size ∉ [(s.heap.push (setO w)).objs.size, lst] := by
          rw [Heap.size_push]; simp only [List.mem_cons, List.mem_singleton, List.not_mem_nil, or_false, not_or]
          exact ⟨Nat.ne_of_lt (Nat.lt_succ_self _), Nat.ne_of_gt lS⟩
        have isz : items.size = xs.length := by
          have := hit.length
          rwa [Array.length_toList] at this
        refine fill_x ((Walks.list hd3 _ lst nI items).toS) s.heap.objs.size nS xs isz hb (fun i v e => strs_get hit i v (by rw [Array.getElem?_toList]; exact e)) (items.size - 0) 0 _ (by omega) (Nat.zero_le _) ⟨⟨_, Heap.get?_push_size _ rfl, rfl, rfl⟩, (lst'.push _)⟩ ?_ ?_
        · exact ⟨[], Nat.zero_le _, fun x => by simp, txS_fresh (Heap.get?_push_of_some _ gS)⟩
        · intro s3 l mv a1 a2 a3
          obtain ⟨h3, g3, d3, t3, o3⟩ := s3
          obtain rfl : g3 = s.gens := mv.gens
          obtain rfl : d3 = s.drawn := mv.drawn
          obtain rfl : o3 = s.os := mv.os
          show wpAny _ _ _ _ _ _
          refine wpAny_pure ?_
          show wpAny _ _ (ret Value.none) _ _ _
          refine wpAny_pure ⟨rfl, h3, t3, l, rfl, a3, a2, by omega, fun b o e => ?_⟩
          have b0 : b < s.heap.objs.size := Heap.lt_size e
          refine mv.heap b o ?_ (Heap.get?_push_of_some _ (Heap.get?_push_of_some _ e))
          rw [Heap.size_push]
          simp only [List.mem_cons, List.mem_singleton, List.not_mem_nil, or_false, not_or]
          exact ⟨Nat.ne_of_lt b0, Nat.ne_of_lt (Nat.lt_succ_of_lt b0)⟩
      · cases r2 with
        | error e => exact hr2
        | ok fl2 =>
          cases fl2 with
          | ret z2 =>
            obtain ⟨rfl, h', tk, l, rfl, a1, a2, a3, a4⟩ := hr2
            repeat (any_goals (first | assumption | wp_step))
            exact h _ _ _ a1 a2 a3 a4
          | _ => exact hr2.elim
    | _ => exact hr.elim

set_option maxHeartbeats 8000000 in
theorem set_text {x0 : Str} {tk0 : Tok} {xs : List Str} {Q : Value → Shared → Prop} (hxs : xs = chrS x0) (hh : A.handled = none) (hb : xs.length + 1 < scanBound)
    (h : ∀ (h' : Heap) (tk : Nat) (l : List Str), TxS P w h' s.heap.objs.size l → (∀ x, x ∈ l ↔ x ∈ xs) → l.length ≤ xs.length → (∀ b o, s.heap.get? b = some o → h'.get? b = some o) → Q (.ref s.heap.objs.size) { s with heap := h', toks := tk }) :
    wpAny (model P w) A (call (.type "set") [.str x0 tk0]) Q E s := by
  obtain ⟨mc, mt, mro0⟩ := F.called_set.mro
  have f1 := F.called_set.made
  have f2 := F.called_set.sub
  have f3 := F.called_set.notType
  have f4 := F.called_set.canCreate
  have f5 := F.typeCall_set_1 (.str x0 tk0)
  refine wpAny_call (codeAny_of_tree ?_)
  show wpAny _ _ (callAny (.type "set") _) _ _ _
  refine wpAny_pure ⟨Code.quiet_builtin _ (by decide +kernel), codeAny_builtin F.entry_type_call ?_⟩
  rw [Around.under_plain (weight_type_call_type "set" [.str x0 tk0] []) rfl]
  repeat (any_goals (first | assumption | wp_step))

  refine codeAny_mono (code_set_led1 (.str x0 tk0) (E := E) (Q₁ := fun z s1 => z = .ref s.heap.objs.size ∧ s1 = { s with heap := s.heap.push (setO w) }) ⟨rfl, rfl⟩) fun r1 s1 hr => ?_
  cases r1 with
  | error e => exact hr
  | ok fl =>
    cases fl with
    | ret z =>
      obtain ⟨rfl, rfl⟩ := hr
      have gS : (s.heap.push (setO w)).get? s.heap.objs.size = some (setO w) := Heap.get?_push_size _ rfl
      have gT : Shared.TypeIs { s with heap := s.heap.push (setO w) } (.ref s.heap.objs.size) "set" := ⟨_, gS, rfl⟩
      have f6 := F.called_set.init.lookup
      have f7 := F.called_set.init.bind (.ref s.heap.objs.size)
      repeat (any_goals (first | assumption | wp_step))

      refine codeAny_mono (codeAny_call_builtin (R := wants (fun r2 s2 => r2 = .none ∧ ∃ h' tk l, s2 = { s with heap := h', toks := tk } ∧ TxS P w h' s.heap.objs.size l ∧ (∀ x, x ∈ l ↔ x ∈ xs) ∧ l.length ≤ xs.length ∧ (∀ b o, s.heap.get? b = some o → h'.get? b = some o)) E) F.called_set.init.plain F.entry_set_init (check_set_init_1 gT ?_)) fun r2 s2 hr2 => ?_
      · unfold Builtin.«set.__init__» noKeywords Builtin.Frozenset.updateFrom
        have k1 := PySem.F.sub_str_set
        have k2 := PySem.F.sub_str_frozenset
        have k3 : (Value.type "str" == Value.type "dict") = false := by decide
        have k4 : ∀ s1 : Shared, s1.TypeIs (.str x0 tk0) "str" := fun s1 => typeIs_str s1 x0 tk0
        generalize hPI : pyIter = PI
        wp_walk
        subst hPI

        refine wpAny_pyIter_str fun ob St hW h0 => ?_
        refine wpAny_bind (wpAny_runValue ?_)
        have hd3 : A.in1.in1.in1.handled = none := by simp [hh]
        have nS : s.heap.objs.size ∉ [(s.heap.push (setO w)).objs.size] := by
          rw [Heap.size_push]; simp only [List.mem_cons, List.mem_singleton, List.not_mem_nil, or_false, not_or]
          omega
        have isz : x0.cps.size = xs.length := by rw [hxs, chrS, List.length_map, Array.length_toList]
        refine fill_x ((hW _ hd3).toS) s.heap.objs.size nS xs isz hb (fun i v e => by
          obtain ⟨c, u, e1, e2⟩ := e
          refine ⟨⟨#[c]⟩, u, ?_, e2⟩
          rw [hxs, chrS, List.getElem?_map, Array.getElem?_toList, e1]
          rfl) (x0.cps.size - 0) 0 _ (by omega) (Nat.zero_le _) h0 ?_ ?_
        · exact ⟨[], Nat.zero_le _, fun x => by simp, txS_fresh (Heap.get?_push_of_some _ gS)⟩
        · intro s3 l mv a1 a2 a3
          obtain ⟨h3, g3, d3, t3, o3⟩ := s3
          obtain rfl : g3 = s.gens := mv.gens
          obtain rfl : d3 = s.drawn := mv.drawn
          obtain rfl : o3 = s.os := mv.os
          show wpAny _ _ _ _ _ _
          refine wpAny_pure ?_
          show wpAny _ _ (ret Value.none) _ _ _
          refine wpAny_pure ⟨rfl, h3, t3, l, rfl, a3, a2, by omega, fun b o e => ?_⟩
          have b0 : b < s.heap.objs.size := Heap.lt_size e
          refine mv.heap b o ?_ (Heap.get?_push_of_some _ (Heap.get?_push_of_some _ e))
          rw [Heap.size_push]
          simp only [List.mem_cons, List.mem_singleton, List.not_mem_nil, or_false, not_or]
          exact ⟨Nat.ne_of_lt b0, Nat.ne_of_lt (Nat.lt_succ_of_lt b0)⟩
      · cases r2 with
        | error e => exact hr2
        | ok fl2 =>
          cases fl2 with
          | ret z2 =>
            obtain ⟨rfl, h', tk, l, rfl, a1, a2, a3, a4⟩ := hr2
            repeat (any_goals (first | assumption | wp_step))
            exact h _ _ _ a1 a2 a3 a4
          | _ => exact hr2.elim
    | _ => exact hr.elim
end
end Ev
set_option maxHeartbeats 4000000
/-! EvQ4: sorted of a set of texts -/
namespace Ev
open PySem PySem.Spec PySem.Froz PyProof.Rows L2
theorem perm_sub : ∀ (l m : List Str), l.Nodup → (∀ x ∈ l, x ∈ m) → m.length ≤ l.length → l.Perm m
  | [], m, _, _, h => by rw [List.eq_nil_of_length_eq_zero (Nat.le_zero.mp h)]
  | x :: l, m, nd, hs, hl => by
    obtain ⟨n1, n2⟩ := List.nodup_cons.mp nd
    have hx := hs x List.mem_cons_self
    have hm := List.perm_cons_erase hx
    refine (List.Perm.cons x (perm_sub l (m.erase x) n2 (fun y hy => ?_) ?_)).trans hm.symm
    · exact (List.mem_erase_of_ne (show y ≠ x from fun z => n1 (by rw [← z]; exact hy))).mpr (hs y (List.mem_cons_of_mem _ hy))
    · rw [List.length_erase_of_mem hx]
      simp only [List.length_cons] at hl
      omega
theorem nodup_len : ∀ {l m : List Str}, l.Nodup → (∀ x ∈ l, x ∈ m) → l.length ≤ m.length
  | [], m, _, _ => Nat.zero_le _
  | x :: l, m, nd, hs => by
    obtain ⟨n1, n2⟩ := List.nodup_cons.mp nd
    have hx := hs x List.mem_cons_self
    have ih := nodup_len (m := m.erase x) n2 fun y hy => (List.mem_erase_of_ne (show y ≠ x from fun z => n1 (by rw [← z]; exact hy))).mpr (hs y (List.mem_cons_of_mem _ hy))
    rw [List.length_erase_of_mem hx] at ih
    have := List.length_pos_of_mem hx
    simp only [List.length_cons]
    omega
theorem strs_of : ∀ (vs : List Value), (∀ v ∈ vs, ∃ x t, v = Value.str x t) → ∃ ss, StrsAre vs ss
  | [], _ => ⟨[], .nil⟩
  | v :: vs, h => by
    obtain ⟨x, t, rfl⟩ := h v List.mem_cons_self
    obtain ⟨ss, r⟩ := strs_of vs fun u hu => h u (List.mem_cons_of_mem _ hu)
    exact ⟨x :: ss, .cons x t r⟩
theorem strs_mem {vs : List Value} {ss : List Str} (r : StrsAre vs ss) (x : Str) : x ∈ ss ↔ ∃ t, Value.str x t ∈ vs := by
  induction r with
  | nil => simp
  | cons y t r ih =>
    constructor
    · intro h
      rcases List.mem_cons.mp h with rfl | h
      · exact ⟨t, List.mem_cons_self⟩
      · obtain ⟨u, hu⟩ := ih.mp h
        exact ⟨u, List.mem_cons_of_mem _ hu⟩
    · rintro ⟨u, hu⟩
      rcases List.mem_cons.mp hu with h | h
      · cases h; exact List.mem_cons_self
      · exact List.mem_cons_of_mem _ (ih.mpr ⟨u, h⟩)
section
variable {P : Program} {w : World} {A : Around} {E : Value → Shared → Prop} {s : Shared} {a : Addr} {l : List Str}
theorem el_str {D : SD} (F : TxOk P w D l) : ∀ e ∈ D.1.toList, ∃ x t, e.2 = Value.str x t ∧ x ∈ l := fun e he => by
  obtain ⟨⟨k, hk, _⟩, _⟩ := F.el e he
  have h2 : Value.isStrOf k e.2 = true := hk
  cases hv : e.2 with
  | str x t =>
    refine ⟨x, t, rfl, (F.mem x).mpr ⟨e, he, ?_⟩⟩
    rw [hv]
    exact is_str x t
  | _ => rw [hv] at h2; simp [Value.isStrOf] at h2
theorem sorted_tx {Q : Value → Shared → Prop} (R : TxS P w s.heap a l) (hh : A.handled = none) (hl : l.length < scanBound)
    (hQ : ∀ s' p (out : Array Value) (c : Nat) (ss : List Str), (∀ b o, s.heap.get? b = some o → s'.heap.get? b = some o) → s'.gens = s.gens → s'.os = s.os → s.heap.objs.size ≤ p →
      s'.heap.get? p = some (seqObj "list" out c) → StrsAre out.toList ss → ss.Perm l → sortedS ss = true → Q (.ref p) s') :
    wpAny (model P w) A (call (.builtin "sorted") [.ref a]) Q E s := by
  obtain ⟨D, ho, F, hr, hled, nd⟩ := R
  have hsz : D.1.size = l.length := F.sz
  refine Calls.call_function_entry kind_sorted plain_sorted entry_sorted (args_sorted1 _) ?_
  unfold Builtin.«sorted»
  refine wpAny_bind (m := checkCount "sorted" 1 1 _) (wpAny_pure ?_)
  refine wpAny_bind (collect_set (A := A.in1) (es := D.1) (ep := D.2.1) (t := D.2.2) hh ⟨_, ho, rfl, rfl⟩ F.fit (by omega) hr hled fun s1 vs k1 hz g1 o1 pm => ?_)
  obtain ⟨ss0, hS⟩ := strs_of vs fun v hv => by
    obtain ⟨e, he, q⟩ := List.mem_map.mp (pm.mem_iff.mp hv)
    obtain ⟨x, t, e2, _⟩ := el_str F e he
    exact ⟨x, t, by rw [← q]; exact e2⟩
  have hvl : vs.length = l.length := by rw [pm.length_eq, List.length_map, Array.length_toList]; exact hsz
  have p0 : ss0.Perm l := by
    have hl0 : ss0.length = l.length := by rw [← hS.length]; exact hvl
    have sub : l ⊆ ss0 := fun x hx => by
      obtain ⟨e, he, q⟩ := (F.mem x).mp hx
      have h2 : Value.isStrOf x e.2 = true := q
      obtain ⟨y, t, e2, _⟩ := el_str F e he
      rw [e2] at h2
      have : y = x := by simpa [Value.isStrOf] using h2
      subst this
      exact (strs_mem hS y).mpr ⟨t, pm.mem_iff.mpr (by rw [← e2]; exact List.mem_map_of_mem he)⟩
    exact (perm_sub l ss0 nd (fun x hx => sub hx) (by omega)).symm
  have big : vs.length ≤ sizeLine := by rw [hvl]; exact fits_of_scanBound hl
  refine wpAny_bind (wpAny_newList ?_ big)
  have hoL : (s1.heap.push (seqObj "list" vs.toArray 0)).get? s1.heap.objs.size = some (seqObj "list" vs.toArray 0) := Heap.get?_push_size _ rfl
  refine wpAny_bind (wpAny_holding (wpAny_call_entry slot_list_sort ⟨_, hoL, rfl⟩ entry_list_sort (list_sort_treeKAny strKind_oneLt hoL hS.keysOf (fun v₁ v₂ rest e => keyKind_strs (by rw [← e]; exact hS)) big fun st' a1 a2 => ⟨_, rfl, ?_⟩) (args_list_sort _)))
  obtain ⟨ss', b1, b2, b3⟩ := sorted_out_str hS a1 a2
  obtain ⟨c, hc⟩ := sortedHeap_at (vs := vs) (out := (arrOf st').map (·.2)) hoL
  refine wpAny_pure ⟨_, rfl, hQ _ s1.heap.objs.size _ c ss' (fun b u e => ?_) g1 o1 hz hc b1 (b2.trans p0) b3⟩
  have q := k1 b u e
  have hlt := Heap.lt_size q
  show (sortedHeap (s1.heap.push (seqObj "list" vs.toArray 0)) s1.heap.objs.size vs _).get? b = some u
  rw [sortedHeap_old (Nat.ne_of_lt hlt) (by rw [size_push']; exact Nat.lt_succ_of_lt hlt)]
  exact Heap.get?_push_of_some _ q
end
/-- sorted(set(x)): x a list of texts, or a text -/
def tSS (K : PySem.W.Frag) (ta : TE) : TE := fun σ H Q => ta σ H fun x H1 => ∃ xs : List Str, xs.length < 4000 ∧ ((∃ l, x = .ref l ∧ SqL K H1 l (xs.map V.str)) ∨ ∃ z, x = .str z ∧ xs = chrS z) ∧
  ∀ (ys : List Str) (p : Addr), ys.Nodup → (∀ y, y ∈ ys ↔ y ∈ xs) → sortedS ys = true → H1 p = none → Q (.ref p) (upd H1 p (.lst (ys.map V.str)))
theorem pe_ss {X : Cx} {a : Expr} {ta : TE} {p p2 q pos : Pos} (hc : X.calm = true) (hg : Gl X "sorted") (hm : X.mg "sorted" = none) (hg2 : Gl X "set") (hm2 : X.mg "set" = none) (ha : PE X a ta)
    (na : starEach [a] X.env = (false, eval a X.env) :: starEach [] X.env) : PE X (.Call (.Name "sorted" p) [.Call (.Name "set" p2) [a] [] q] [] pos) (tSS X.K ta) := by
  refine ⟨fun pins s σ H Q I h => ?_⟩
  refine Call_ (ld_blt I hg hm boot_sorted ?_)
  refine PyProof.Rows.callWith_builtin1 (PyProof.Rows.args_cons ?_ rfl) rfl rfl
  refine Call_ (ld_blt I hg2 hm2 boot_set ?_)
  refine PyProof.Rows.callWith_type1 (PyProof.Rows.args_cons (thn (ha.run pins s σ H _ I h) fun v s1 ⟨x, H1, I1, r1, q1⟩ => PyProof.Rows.args_nil ?_) na) na rfl
  obtain ⟨xs, hl, hx, q1⟩ := q1
  have fin : ∀ (h' : Heap) (tk : Nat) (l : List Str), TxS X.prog X.w h' s1.heap.objs.size l → (∀ x, x ∈ l ↔ x ∈ xs) → l.length ≤ xs.length → (∀ b o, s1.heap.get? b = some o → h'.get? b = some o) →
      wpAny (model X.prog X.w) X.A (spliced (backTo pos (starEach [] X.env))) (fun vs s₂ => wpAny (model X.prog X.w) X.A (call (.builtin "sorted") (Value.ref s1.heap.objs.size :: vs)) (EP X pins σ Q) X.xe s₂) X.xe { s1 with heap := h', toks := tk } := fun h' tk l T mx ll ko => by
    refine PyProof.Rows.args_nil ?_
    refine sorted_tx (s := { s1 with heap := h', toks := tk }) T (I1.ok.hd hc) (by unfold scanBound; omega) fun s' p out c ss k g o hp hget hi hperm hs => ?_
    obtain ⟨D, _, _, _, _, nd⟩ := T
    have I2 : Inv X pins σ H1 { s1 with heap := h', toks := tk } := I1.kept ko
    have hlen : (ss.map V.str).length ≤ sizeLine := by
      rw [List.length_map, hperm.length_eq, sizeLine_eq]; omega
    have hn : H1 p = none := I2.hok.fresh hp
    have hp0 : h'.get? p = none := by
      cases z : h'.get? p with
      | none => rfl
      | some o => exact absurd (Nat.lt_of_lt_of_le (Heap.lt_size z) hp) (Nat.lt_irrefl _)
    have J : Inv X pins σ (upd H1 p (.lst (ss.map V.str))) { ({ s1 with heap := h', toks := tk } : Shared) with heap := s'.heap, gens := s'.gens, drawn := s'.drawn, toks := s'.toks } :=
      I2.call (ch := []) (Un.laidN k hp0 hn) (I2.hok.laidN k hn ⟨hlen, out.toList, c, vals_of_strs hi, hget⟩) (by rw [g]; exact I2.bare) (fun _ z => nomatch z)
    have e : s' = { ({ s1 with heap := h', toks := tk } : Shared) with heap := s'.heap, gens := s'.gens, drawn := s'.drawn, toks := s'.toks } := by
      cases s'
      cases s1
      cases o
      rfl
    rw [e]
    exact ⟨.ref p, _, J, rfl, q1 ss p (hperm.nodup_iff.mpr nd) (fun y => by rw [hperm.mem_iff, mx]) hs hn⟩
  rcases hx with ⟨lst, rfl, hq⟩ | ⟨z, rfl, rfl⟩
  · cases r1
    obtain ⟨its, rv, pl, hz⟩ := I1.list hq
    exact set_list xs pl.isList (by simpa using rv.strs) (I1.ok.hd hc) (by unfold scanBound; omega) fin
  · obtain ⟨t, rfl⟩ := r1
    exact set_text rfl (I1.ok.hd hc) (by unfold scanBound; omega) fin
end Ev
/-! EvR: the look: a term of ours tells what a piece of the text does -/
namespace Ev
open PySem PySem.Spec PyProof.Rows L2

/-- a def's surroundings: its slots, the text's defs by number, the modules' constants -/
structure Sur where
  N : List Str
  nms : List Str
  consts : List (Str × D)
abbrev Nms := List (Str × NameKind)
def bltNames : List Str := ["len", "tuple", "list", "sum", "all", "any", "int", "str", "abs", "max", "min", "isinstance", "range", "enumerate", "zip", "reversed", "bool", "dict", "sorted", "set", "ValueError"]
def isGl (ns : Nms) (x : Str) : Bool := decide (ns.lookup x = some .globalImplicit)
def isVis (ns : Nms) (x : Str) : Bool := decide (ns.lookup x = some .local) || decide (ns.lookup x = some .cell) || decide (ns.lookup x = some .free)
def isLoc (ns : Nms) (x : Str) : Bool := decide (ns.lookup x = some .local) || decide (ns.lookup x = some .cell)
def okNm (x : Str) : Bool := decide ((x == ("__debug__" : Str)) = false) && decide ((x == ("__classdict__" : Str)) = false) && decide (x ≠ ("__name__" : Str))
/-- x stands in slot i -/
def atS (s : Sur) (i : Nat) (x : Str) : Bool := decide (s.N[i]? = some x) && okNm x
def binOk : Pr → Operator → Bool
  | .add, .Add => true | .sub, .Sub => true | .mul, .Mult => true | .mod, .Mod => true | .fdiv, .FloorDiv => true | .pow, .Pow => true
  | _, _ => false
def cmpOk : Pr → CmpOp → Bool
  | .eq, .Eq => true | .ne, .NotEq => true | .lt, .Lt => true | .le, .LtE => true | .gt, .Gt => true | .ge, .GtE => true | .inn, .In => true | .notin, .NotIn => true | .isB, .Is => true | .notB, .IsNot => true
  | _, _ => false
def augOk : Pr → Operator → Bool
  | .iadd, .Add => true | .sub, .Sub => true
  | _, _ => false
/-- a built-in function or class by its name -/
def callNm : Pr → Option Str
  | .len => some "len" | .tuple => some "tuple" | .list => some "list" | .sum => some "sum" | .all => some "all" | .any => some "any" | .int => some "int" | .str => some "str" | .abs => some "abs" | .max => some "max" | .min => some "min" | .sorted => some "sorted"
  | _ => none
def tyNames : List String := ["int", "bool", "str", "tuple", "list", "dict"]
def isiOk (ns : Nms) (T : Str) : Pr → Bool
  | .isinst [t] => tyNames.contains t && decide (T = Str.ofString t) && isGl ns T && isGl ns "isinstance"
  | _ => false
def cmpArgs (p : Pr) (a : Expr) (op : CmpOp) (b : Expr) : Option (List Expr) := match p, op with
  | .isN, .Is => (match b with | .Constant .none _ _ => some [a] | _ => none)
  | .notN, .IsNot => (match b with | .Constant .none _ _ => some [a] | _ => none)
  | _, _ => if cmpOk p op then some [a, b] else none
def slArgs (p : Pr) (a : Expr) (lo hi : Option Expr) : Option (List Expr) := match p, lo, hi with
  | .sl false false, none, none => some [a]
  | .sl true false, some l, none => some [a, l]
  | .sl false true, none, some h => some [a, h]
  | _, _, _ => none
def callArgs (ns : Nms) (p : Pr) (f : Str) (args : List Expr) : Option (List Expr) := match args with
  | [] => none
  | [a, .Name T _] => if decide (f = "isinstance") then (if isiOk ns T p then some [a] else none) else if callNm p = some f ∧ isGl ns f = true then some args else none
  | _ :: _ => if callNm p = some f ∧ isGl ns f = true then some args else none
/-- -1 as it is written -/
def isM1 : Expr → Bool
  | .UnaryOp .USub (.Constant (.int i) _ _) _ => decide (i = 1)
  | _ => false
def rgArgs (ns : Nms) (neg : Bool) (a : Expr) (op : CmpOp) (b : Expr) : Option (List Expr) := match op, b with
  | .In, .Call (.Name f _) [x, y] [] _ => if !neg && decide (f = "range") && isGl ns "range" then some [a, x, y] else none
  | .NotIn, .Call (.Name f _) [x, y] [] _ => if neg && decide (f = "range") && isGl ns "range" then some [a, x, y] else none
  | _, _ => none
def rlArgs (ns : Nms) (f : Str) : List Expr → Option (List Expr)
  | [.Call (.Name g _) [x] [] _] => if decide (f = "list") && decide (g = "range") && isGl ns "range" && isGl ns "list" then some [x] else none
  | _ => none
def rlArgs2 (ns : Nms) (f : Str) : List Expr → Option (List Expr)
  | [.Call (.Name g _) [x, y] [] _] => if decide (f = "list") && decide (g = "range") && isGl ns "range" && isGl ns "list" then some [x, y] else none
  | _ => none
def ssArgs (ns : Nms) (f : Str) : List Expr → Option (List Expr)
  | [.Call (.Name g _) [x] [] _] => if decide (f = "sorted") && decide (g = "set") && isGl ns "set" && isGl ns "sorted" then some [x] else none
  | _ => none
def cmpA (ns : Nms) (p : Pr) (a : Expr) (op : CmpOp) (b : Expr) : Option (List Expr) := match p with
  | .inrg neg => rgArgs ns neg a op b
  | p => cmpArgs p a op b
def callA (ns : Nms) (p : Pr) (f : Str) (args : List Expr) : Option (List Expr) := match p with
  | .rlist => rlArgs ns f args
  | .rlist2 => rlArgs2 ns f args
  | .sset => ssArgs ns f args
  | p => callArgs ns p f args
def litK : List (Option Expr) → List Str → Bool
  | [], [] => true
  | some (.Constant (.str x) _ _) :: es, y :: ys => decide (x = y) && litK es ys
  | _, _ => false
def litV : List Expr → List Key → Bool
  | [], [] => true
  | .Constant (.str x) _ _ :: es, .inr y :: ys => decide (x = y) && litV es ys
  | .Constant (.int x) _ _ :: es, .inl y :: ys => decide (x = y) && litV es ys
  | _, _ => false
def nodupS : List Str → Bool
  | [] => true
  | x :: xs => decide (x ∉ xs) && nodupS xs
def prArgs (ns : Nms) (p : Pr) : Expr → Option (List Expr)
  | .BinOp a op b _ => if binOk p op then some [a, b] else none
  | .UnaryOp .USub a _ => if decide (p = .neg) then some [a] else none
  | .Compare a [op] [b] _ => cmpA ns p a op b
  | .Subscript a i _ => match i with
    | .Slice lo hi none _ => slArgs p a lo hi
    | .Slice none none (some st) _ => if isM1 st && decide (p = .rev) then some [a] else none
    | .Slice _ _ _ _ => none
    | _ => if decide (p = .idx) || decide (p = .didx) then some [a, i] else none
  | .Call (.Name f _) args [] _ => callA ns p f args
  | .Call (.Name f _) [a] [⟨some k, d, _⟩] _ => if decide (k = Str.ofString "default") && isGl ns f && ((decide (p = .maxd) && decide (f = "max")) || (decide (p = .mind) && decide (f = "min"))) then some [a, d] else none
  | .Dict [] [] _ => if decide (p = .dict0) then some [] else none
  | .Dict ks vs _ => match p with
    | .dlit xs ys => if litK ks xs && litV vs ys && nodupS xs && decide (ks ≠ []) && decide (ks.length ≤ 15) && decide (ks.length = vs.length) then some [] else none
    | _ => none
  | _ => none
def itArgs (ns : Nms) (ik : IK) (tg it : Expr) : Option (List Expr) := match ik with
  | .vals => some [it]
  | .range => (match it with
    | .Call (.Name f _) [a] [] _ => if decide (f = "range") && isGl ns "range" then some [a] else none
    | .Call (.Name f _) [a, b] [] _ => if decide (f = "range") && isGl ns "range" then some [a, b] else none
    | _ => none)
  | .enum => (match tg, it with
    | .Tuple _ _ _, .Call (.Name f _) [a] [] _ => if decide (f = "enumerate") && isGl ns "enumerate" then some [a] else none
    | _, _ => none)
  | .zip => (match tg, it with
    | .Tuple _ _ _, .Call (.Name f _) [a, b] [] _ => if decide (f = "zip") && isGl ns "zip" then some [a, b] else none
    | _, _ => none)
  | .rev => (match it with
    | .Call (.Name f _) [a] [] _ => if decide (f = "reversed") && isGl ns "reversed" then some [a] else none
    | _ => none)
  | _ => none
def chkNames (s : Sur) (ns : Nms) : List Nat → List Expr → Bool
  | [], [] => true
  | i :: is, .Name x _ :: es => atS s i x && isLoc ns x && chkNames s ns is es
  | _, _ => false
def chkTg (s : Sur) (ns : Nms) : Tg → Expr → Bool
  | .nm i, .Name x _ => atS s i x && isLoc ns x
  | .tup is, .Tuple es _ _ => chkNames s ns is es
  | _, _ => false
def eqScal : D → D → Bool
  | .int i, .int j => i == j
  | .str x, .str y => decide (x = y)
  | .bl x, .bl y => x == y
  | _, _ => false
def chkCon (s : Sur) (ns : Nms) (d : D) : Expr → Bool
  | .Constant .none _ _ => (match d with | .non => true | _ => false)
  | .Constant (.bool b) _ _ => (match d with | .bl b' => b == b' | _ => false)
  | .Constant (.int i) _ _ => (match d with | .int j => i == j | _ => false)
  | .Constant (.str x) _ _ => (match d with | .str y => decide (x = y) | _ => false)
  | .Name x _ => isGl ns x && okNm x && (match s.consts.lookup x with | some d' => eqScal d' d | none => false)
  | _ => false
def blkB (s : Sur) (ns : Nms) (scope : Scope) (own : List (Str × Nat)) : Bool :=
  (match scope.kind with | .function => true | _ => false) && (scope.names.all fun y => decide (scope.names.lookup y.1 = some y.2)) && (own.all fun p => decide (s.N[p.2]? = some p.1)) &&
    (scope.names.all fun y => match y.2 with
      | .free => decide (ns.lookup y.1 = some .cell) || decide (ns.lookup y.1 = some .free)
      | .local => decide (y.1 ∈ own.map (·.1)) || decide (y.1 ∉ s.N)
      | .cell => decide (y.1 ∈ own.map (·.1)) || decide (y.1 ∉ s.N)
      | _ => true)
def ownP (s : Sur) (own : List Nat) : List (Str × Nat) := own.map fun j => (s.N.getD j "", j)
def joinOk : Expr → Bool
  | .Call _ _ _ _ => false
  | _ => true
mutual
def chkE (s : Sur) (ns : Nms) : E → Expr → Bool
  | .con d, e => chkCon s ns d e
  | .var i, e => (match e with | .Name x _ => atS s i x && isVis ns x | _ => false)
  | .tup es, e => (match e with | .Tuple xs _ _ => decide (xs.length ≤ cap) && chkL s ns es xs | _ => false)
  | .lst es, e => (match e with | .List xs _ => decide (xs.length ≤ cap) && chkL s ns es xs | _ => false)
  | .pr p es, e => (match prArgs ns p e with | some xs => chkL s ns es xs | none => false)
  | .and es, e => (match e with | .BoolOp .And xs _ => !xs.isEmpty && xs.all testable && chkL s ns es xs | _ => false)
  | .or es, e => (match e with | .BoolOp .Or xs _ => !xs.isEmpty && xs.all testable && chkL s ns es xs | _ => false)
  | .not a, e => (match e with | .UnaryOp .Not x _ => testable x && chkE s ns a x | _ => false)
  | .ite c a b, e => (match e with | .IfExp x y z _ => testable x && chkE s ns c x && chkE s ns a y && chkE s ns b z | _ => false)
  | .chain p q a b c, e => (match e with | .Compare x [op, op'] [y, z] _ => cmpOk p op && cmpOk q op' && chkE s ns a x && chkE s ns b y && chkE s ns c z | _ => false)
  | .sl2 a b c, e => (match e with | .Subscript x (.Slice (some y) (some z) none _) _ => chkE s ns a x && chkE s ns b y && chkE s ns c z | _ => false)
  | .sm p a b, e => (match e with | .Call (.Attribute o m p2) [x] [] p3 => decide (p = .join) && decide (m = "join") && (p2.endLine == p3.line) && joinOk o && chkE s ns a o && chkE s ns b x | _ => false)
  | .call f es, e => (match e with | .Call (.Name nm _) xs [] _ => decide (s.nms[f]? = some nm) && isGl ns nm && okNm nm && chkL s ns es xs | _ => false)
  | .comp own tg ik it ifs elt, e => (match e with
    | .ListComp el [⟨tg', it', ifs', 0⟩] scope _ => blkB s ns scope (ownP s own) && (match tg with | .nm i => decide (i ∈ own) | .tup is => is.all fun i => decide (i ∈ own)) && chkTg s scope.names tg tg' && notStar it' &&
        (match itArgs ns ik tg' it' with | some xs => chkL s ns it xs | none => false) && decide (ifs'.length ≤ 1) && ifs'.all testable && chkL s scope.names ifs ifs' && chkE s scope.names elt el
    | _ => false)
def chkL (s : Sur) (ns : Nms) : List E → List Expr → Bool
  | [], [] => true
  | e :: es, x :: xs => chkE s ns e x && chkL s ns es xs
  | _, _ => false
end
/-- no comprehension -/
def noComp : Expr → Bool
  | .ListComp _ _ _ _ | .SetComp _ _ _ _ | .DictComp _ _ _ _ _ => false
  | _ => true
def noTup : Expr → Bool
  | .Tuple _ _ _ => false
  | _ => true
/-- name = comprehension -/
def compAsg (ns : Nms) (x : Str) (p' : Pos) : Expr → Bool
  | .ListComp _ _ scope pos => decide (ns.lookup x = some .cell) || (decide (ns.lookup x = some .local) && (p'.line == pos.line) && !(scope.names.any fun (n, k) => n == x && (k == .local || k == .cell)))
  | e => noComp e
def methNm : MK → Str
  | .append => "append" | .extend => "extend" | .reverse => "reverse" | .clear => "clear"
mutual
def chkT (s : Sur) (ns : Nms) : T → Stmt → Bool
  | .ex e, st => (match st with | .Expr x _ => noComp x && chkE s ns e x | _ => false)
  | .asg tg e, st => (match st with
    | .Assign [t] x _ => (match t with
      | .Name y p' => chkTg s ns tg t && compAsg ns y p' x && chkE s ns e x
      | .Tuple _ _ _ => chkTg s ns tg t && noComp x && noTup x && chkE s ns e x
      | _ => false)
    | _ => false)
  | .aug i p e, st => (match st with | .AugAssign (.Name x _) op y _ => atS s i x && isLoc ns x && augOk p op && chkE s ns e y | _ => false)
  | .set i ix e, st => (match st with | .Assign [.Subscript (.Name x _) y _] z _ => atS s i x && isVis ns x && noComp z && chkE s ns ix y && chkE s ns e z | _ => false)
  | .meth k i es, st => (match st with | .Expr (.Call (.Attribute (.Name x _) m p2) xs [] p3) _ => atS s i x && isVis ns x && decide (m = methNm k) && (p2.endLine == p3.line) && (match k with | .append => xs.length == 1 | .extend => xs.length == 1 | .reverse => xs.length == 0 | .clear => false) && chkL s ns es xs | _ => false)
  | .ite c a b, st => (match st with | .If x y z _ => testable x && chkE s ns c x && chkTs s ns a y && chkTs s ns b z | _ => false)
  | .wh c b, st => (match st with | .While x y [] _ => testable x && chkE s ns c x && chkTs s ns b y | _ => false)
  | .fr tg ik it b, st => (match st with
    | .For tg' it' y [] _ => chkTg s ns tg tg' && notStar it' && (match itArgs ns ik tg' it' with | some xs => chkL s ns it xs | none => false) && chkTs s ns b y
    | _ => false)
  | .ret e, st => (match st with | .Return (some x) _ => chkE s ns e x | _ => false)
  | .retN, st => (match st with | .Return none _ => true | _ => false)
  | .pass, st => (match st with | .Pass _ => true | _ => false)
  | .brk, st => (match st with | .Break _ => true | _ => false)
  | .cnt, st => (match st with | .Continue _ => true | _ => false)
  | .raise k, st => true
def chkTs (s : Sur) (ns : Nms) : List T → List Stmt → Bool
  | [], [] => true
  | t :: ts, x :: xs => chkT s ns t x && chkTs s ns ts xs
  | _, _ => false
end
end Ev
/-! EvR2: sorted whole numbers, ranges as values, a list backwards -/
namespace Ev
open PySem PySem.Spec PyProof.Rows L2
theorem insI_perm (x : Int) : ∀ ys, (insI x ys).Perm (x :: ys)
  | [] => .refl _
  | y :: ys => by
    unfold insI
    split
    · exact .refl _
    · exact ((insI_perm x ys).cons y).trans (.swap x y ys)
theorem sortI_perm : ∀ xs, (sortI xs).Perm xs
  | [] => .refl _
  | x :: xs => (insI_perm x _).trans ((sortI_perm xs).cons x)
theorem insI_sorted (x : Int) : ∀ {ys : List Int}, ys.Pairwise (· ≤ ·) → (insI x ys).Pairwise (· ≤ ·)
  | [], _ => by simp [insI]
  | y :: ys, h => by
    unfold insI
    have h' := List.pairwise_cons.mp h
    split
    · rename_i hl
      refine List.pairwise_cons.mpr ⟨fun z hz => ?_, h⟩
      rcases List.mem_cons.mp hz with rfl | hz
      · exact hl
      · exact Int.le_trans hl (h'.1 z hz)
    · rename_i hl
      refine List.pairwise_cons.mpr ⟨fun z hz => ?_, insI_sorted x h'.2⟩
      rcases List.mem_cons.mp ((insI_perm x ys).mem_iff.mp hz) with rfl | hz
      · omega
      · exact h'.1 z hz
theorem sortI_sorted : ∀ xs : List Int, (sortI xs).Pairwise (· ≤ ·)
  | [] => .nil
  | x :: xs => insI_sorted x (sortI_sorted xs)
theorem sorted_uniq : ∀ {xs ys : List Int}, xs.Perm ys → xs.Pairwise (· ≤ ·) → ys.Pairwise (· ≤ ·) → xs = ys
  | [], ys, p, _, _ => (List.nil_perm.mp p).symm
  | x :: xs, [], p, _, _ => absurd p.length_eq (by simp)
  | x :: xs, y :: ys, p, h1, h2 => by
    have a := List.pairwise_cons.mp h1
    have b := List.pairwise_cons.mp h2
    have e : x = y := by
      have m1 : x ∈ y :: ys := p.mem_iff.mp List.mem_cons_self
      have m2 : y ∈ x :: xs := p.mem_iff.mpr List.mem_cons_self
      rcases List.mem_cons.mp m1 with e | m1
      · exact e
      · rcases List.mem_cons.mp m2 with e | m2
        · exact e.symm
        · have := a.1 y m2
          have := b.1 x m1
          omega
    subst e
    rw [sorted_uniq (List.Perm.cons_inv p) a.2 b.2]
def leS (x y : Str) : Prop := ¬ y.cps.toList < x.cps.toList
theorem leS_trans {x y z : Str} (h : leS x y) (g : leS y z) : leS x z := List.le_trans (α := Nat) h g
theorem leS_anti {x y : Str} (h : leS x y) (g : leS y x) : x = y := by
  have e : x.cps.toList = y.cps.toList := List.le_antisymm (α := Nat) h g
  cases x; cases y
  exact congrArg Str.mk (Array.toList_inj.mp e)
theorem leS_of_lt {x y : Str} (h : y.cps.toList < x.cps.toList) : leS y x := fun g => absurd (List.lt_trans (α := Nat) h g) (List.lt_irrefl (α := Nat) _)
theorem insS_perm (x : Str) : ∀ ys, (insS x ys).Perm (x :: ys)
  | [] => .refl _
  | y :: ys => by
    unfold insS
    split
    · exact ((insS_perm x ys).cons y).trans (.swap x y ys)
    · exact .refl _
theorem sortS_perm : ∀ xs, (sortS xs).Perm xs
  | [] => .refl _
  | x :: xs => (insS_perm x _).trans ((sortS_perm xs).cons x)
theorem insS_sorted (x : Str) : ∀ {ys : List Str}, ys.Pairwise leS → (insS x ys).Pairwise leS
  | [], _ => by simp [insS]
  | y :: ys, h => by
    unfold insS
    have h' := List.pairwise_cons.mp h
    split
    · rename_i hl
      refine List.pairwise_cons.mpr ⟨fun z hz => ?_, insS_sorted x h'.2⟩
      rcases List.mem_cons.mp ((insS_perm x ys).mem_iff.mp hz) with rfl | hz
      · exact leS_of_lt hl
      · exact h'.1 z hz
    · rename_i hl
      refine List.pairwise_cons.mpr ⟨fun z hz => ?_, h⟩
      rcases List.mem_cons.mp hz with rfl | hz
      · exact hl
      · exact leS_trans (y := y) hl (h'.1 z hz)
theorem sortS_sorted : ∀ xs : List Str, (sortS xs).Pairwise leS
  | [] => .nil
  | x :: xs => insS_sorted x (sortS_sorted xs)
theorem sortedS_pw : ∀ {l : List Str}, sortedS l = true → l.Pairwise leS
  | [], _ => .nil
  | x :: r, h => by
    have go : ∀ (r : List Str) (x : Str), risingS x r = true → (x :: r).Pairwise leS := by
      intro r
      induction r with
      | nil => intro x _; simp
      | cons y r ih =>
        intro x h
        have h : (!ltCps y.cps.toList x.cps.toList && risingS y r) = true := h
        simp only [Bool.and_eq_true, Bool.not_eq_true', PyProof.Rows.ltCps_eq, decide_eq_false_iff_not] at h
        have h2 := ih y h.2
        refine List.pairwise_cons.mpr ⟨fun z hz => ?_, h2⟩
        rcases List.mem_cons.mp hz with rfl | hz
        · exact h.1
        · exact leS_trans (y := y) h.1 ((List.pairwise_cons.mp h2).1 z hz)
    exact go r x h
theorem sortedS_uniq : ∀ {xs ys : List Str}, xs.Perm ys → xs.Pairwise leS → ys.Pairwise leS → xs = ys
  | [], ys, p, _, _ => (List.nil_perm.mp p).symm
  | x :: xs, [], p, _, _ => absurd p.length_eq (by simp)
  | x :: xs, y :: ys, p, h1, h2 => by
    have a := List.pairwise_cons.mp h1
    have b := List.pairwise_cons.mp h2
    have e : x = y := by
      have m1 : x ∈ y :: ys := p.mem_iff.mp List.mem_cons_self
      have m2 : y ∈ x :: xs := p.mem_iff.mpr List.mem_cons_self
      rcases List.mem_cons.mp m1 with e | m1
      · exact e
      · rcases List.mem_cons.mp m2 with e | m2
        · exact e.symm
        · exact leS_anti (a.1 y m2) (b.1 x m1)
    subst e
    rw [sortedS_uniq (List.Perm.cons_inv p) a.2 b.2]
section
variable {X : Cx} {c : Cfg} {a e : Expr} {fa : DEnv → Res (R × DEnv)} {K : PySem.W.Frag} {pos : Pos}
theorem repL_strsD {H : Hp} {A : Addr → Prop} : ∀ {xs : List D} {ns : List Str} {vs : List V}, strsD xs = some ns → RepL K H A xs vs → vs = ns.map V.str
  | [], ns, vs, e, h => by simp only [strsD] at e; cases e; simpa [RepL] using h
  | x :: xs, ns, vs, e, h => by
    simp only [RepL] at h
    obtain ⟨v, vs', rfl, r, rs⟩ := h
    cases x with
    | str i =>
      simp only [strsD] at e
      cases e2 : strsD xs with
      | none => rw [e2] at e; cases e
      | some r2 =>
        rw [e2] at e; cases e
        have r : v = .str i := by simpa [Rep] using r
        rw [r, repL_strsD e2 rs]; rfl
    | _ => simp [strsD] at e
theorem repL_ofStrs {H : Hp} {A : Addr → Prop} : ∀ ns : List Str, RepL K H A (ns.map .str) (ns.map V.str)
  | [] => RepL.nil
  | n :: ns => RepL.cons (by simp [Rep]) (repL_ofStrs ns)
theorem strsK_eq : ∀ {ks : List Key} {ss : List Str}, strsK ks = some ss → ks = ss.map Sum.inr
  | [], ss, e => by simp only [strsK] at e; cases e; rfl
  | .inl i :: ks, ss, e => by simp [strsK] at e
  | .inr x :: ks, ss, e => by
    simp only [strsK] at e
    cases e2 : strsK ks with
    | none => rw [e2] at e; cases e
    | some r => rw [e2] at e; cases e; rw [strsK_eq e2]; rfl
def rSortedD : List V → Hp → VK → Prop := fun xs H Q => ∃ (a : Addr) (kvs : List (Key × V)) (ks : List Str), xs = [.ref a] ∧ L2.Rd H a (.dK kvs) ∧ kvs.map (·.1) = ks.map Sum.inr ∧ ks.length < 64 ∧
    ∀ ys p, ys.Perm ks → sortedS ys = true → H p = none → Q (.ref p) (upd H p (.lst (ys.map V.str)))
/-! sorted: texts, any length; the signs of a text -/
theorem signs_are {x : Str} {acc : Array Value} (h : ItemsOf (SignAt x) acc x.cps.size) : StrsAre acc.toList (chrS x) := by
  have go : ∀ (l : List Nat) (vs : List Value), vs.length = l.length → (∀ (j : Nat) v, vs[j]? = some v → ∃ c u, l[j]? = some c ∧ v = .str ⟨#[c]⟩ u) → StrsAre vs (l.map fun c => (⟨#[c]⟩ : Str)) := by
    intro l
    induction l with
    | nil => intro vs hl _; rw [List.eq_nil_of_length_eq_zero hl]; exact .nil
    | cons c l ih =>
      intro vs hl hv
      cases vs with
      | nil => cases hl
      | cons v vs =>
        obtain ⟨c', u, e, rfl⟩ := hv 0 v rfl
        cases e
        exact .cons _ u (ih vs (by simpa using hl) fun j w hw => by
          obtain ⟨c2, u2, e2, e3⟩ := hv (j + 1) w hw
          exact ⟨c2, u2, e2, e3⟩)
  refine go x.cps.toList acc.toList (by rw [Array.length_toList, Array.length_toList]; exact h.1) fun j v hv => ?_
  obtain ⟨c, u, e, e2⟩ := h.2 j v (by rw [← Array.getElem?_toList]; exact hv)
  exact ⟨c, u, by rw [Array.getElem?_toList]; exact e, e2⟩
section
variable {P : Program} {w : World} {A : Around} {E : Value → Shared → Prop} {s : Shared}
theorem sorted_text {x : Str} {t : Tok} {Q : Value → Shared → Prop} (hh : A.handled = none) (hx : x.cps.size ≤ sizeLine)
    (hQ : ∀ s' p (out : Array Value) (c : Nat) (ss : List Str), (∀ b o, s.heap.get? b = some o → s'.heap.get? b = some o) → s'.gens = s.gens → s'.os = s.os → (∃ h1 : Heap, (∀ b o, s.heap.get? b = some o → h1.get? b = some o) ∧ h1.objs.size ≤ p) →
      s'.heap.get? p = some (seqObj "list" out c) → StrsAre out.toList ss → ss.Perm (chrS x) → sortedS ss = true → Q (.ref p) s') :
    wpAny (model P w) A (call (.builtin "sorted") [.str x t]) Q E s := by
  refine Calls.call_function_entry kind_sorted plain_sorted entry_sorted (args_sorted1 _) ?_
  unfold Builtin.«sorted»
  refine wpAny_bind (m := checkCount "sorted" 1 1 _) (wpAny_pure ?_)
  refine wpAny_bind (wpAny_collect_str (A := A.in1) hh x t (fun s1 acc k1 g1 d1 o1 it => ?_) hx)
  have hS := signs_are it
  obtain ⟨vs, rfl⟩ : ∃ vs : List Value, acc = vs.toArray := ⟨acc.toList, by simp⟩
  have hS : StrsAre vs (chrS x) := by simpa using hS
  have hvl : vs.length ≤ sizeLine := by
    have := it.1
    rw [List.size_toArray] at this
    omega
  show wpAny _ _ (newList vs.toArray.toList >>= _) _ _ _
  refine wpAny_bind (wpAny_newList ?_ (by simpa using hvl))
  have hoL : (s1.heap.push (seqObj "list" vs.toArray 0)).get? s1.heap.objs.size = some (seqObj "list" vs.toArray 0) := Heap.get?_push_size _ rfl
  refine wpAny_bind (wpAny_holding (wpAny_call_entry slot_list_sort ⟨_, hoL, rfl⟩ entry_list_sort (list_sort_treeKAny strKind_oneLt hoL hS.keysOf (fun v₁ v₂ rest e => keyKind_strs (by rw [← e]; exact hS)) hvl fun st' a1 a2 => ⟨_, rfl, ?_⟩) (args_list_sort _)))
  obtain ⟨ss', b1, b2, b3⟩ := sorted_out_str hS a1 a2
  obtain ⟨c, hc⟩ := sortedHeap_at (vs := vs) (out := (arrOf st').map (·.2)) hoL
  refine wpAny_pure ⟨_, rfl, hQ _ s1.heap.objs.size _ c ss' (fun b u e => ?_) g1 o1 ⟨s1.heap, k1, Nat.le_refl _⟩ hc b1 b2 b3⟩
  have q := k1 b u e
  have hlt := Heap.lt_size q
  show (sortedHeap (s1.heap.push (seqObj "list" vs.toArray 0)) s1.heap.objs.size vs _).get? b = some u
  rw [sortedHeap_old (Nat.ne_of_lt hlt) (by rw [size_push']; exact Nat.lt_succ_of_lt hlt)]
  exact Heap.get?_push_of_some _ q
end
def rSortedS2 (K : PySem.W.Frag) : List V → Hp → VK → Prop := fun vs H Q => ∃ (a : Addr) (xs : List Str), vs = [V.ref a] ∧ SqL K H a (xs.map V.str) ∧ xs.length ≤ 1000000 ∧
  ∀ (ys : List Str) (p : Addr), ys.Perm xs → sortedS ys = true → H p = none → Q (.ref p) (upd H p (.lst (ys.map V.str)))
theorem cr_sortedS2 : CallR X (.builtin "sorted") (rSortedS2 X.K) := by
  intro pins s σ H vs us Q I r h
  obtain ⟨a, xs, rfl, hs, h64, q⟩ := h
  obtain ⟨its, rv, hl, _⟩ := I.list hs
  rw [Vals.ref1 r]
  have hlen0 := rv.length
  rw [List.length_map] at hlen0
  have big : xs.length ≤ sizeLine := by rw [sizeLine_eq]; omega
  refine PyProof.Rows.sorted_strsAny hl.isList rv.strs (by rw [← hlen0]; exact big) fun out ys h1 h2 h3 => ?_
  obtain ⟨ep, he'⟩ := PyProof.Rows.sortedAll_at s.heap its out
  have hlen : (ys.map V.str).length ≤ sizeLine := by rw [List.length_map, h2.length_eq]; exact big
  exact ⟨.ref _, upd H (s.heap.objs.size + 1) (.lst (ys.map V.str)), I.laid (t' := s.toks) (fun _ _ => PyProof.Rows.sortedAll_old) (Nat.le_succ _) ⟨hlen, out.toList, ep, vals_of_strs h1, he'⟩, rfl, q ys _ h2 h3 (I.hok.fresh (Nat.le_succ _))⟩
def rSortedT2 : List V → Hp → VK → Prop := fun vs H Q => ∃ x : Str, vs = [V.str x] ∧ x.length ≤ 1000000 ∧
  ∀ (ys : List Str) (p : Addr), ys.Perm (chrS x) → sortedS ys = true → H p = none → Q (.ref p) (upd H p (.lst (ys.map V.str)))
theorem cr_sortedT2 (hc : X.calm = true) : CallR X (.builtin "sorted") rSortedT2 := by
  intro pins s σ H vs us Q I r h
  obtain ⟨x, rfl, hx, q⟩ := h
  obtain ⟨u, rfl, t, rfl⟩ := vals1 r
  have big : x.cps.size ≤ sizeLine := by rw [sizeLine_eq]; have : x.cps.size = x.length := rfl; omega
  refine sorted_text (I.ok.hd hc) big fun s' p out c ss k g o hp hg hi hperm hs => ?_
  have hlen : (ss.map V.str).length ≤ sizeLine := by
    rw [List.length_map, hperm.length_eq, chrS, List.length_map, Array.length_toList]; exact big
  obtain ⟨h1, k1, hp⟩ := hp
  have hn : H p = none := (I.hok.kept k1).fresh hp
  have hp0 : s.heap.get? p = none := by
    cases q : s.heap.get? p with
    | none => rfl
    | some o => exact absurd (Nat.lt_of_lt_of_le (Heap.lt_size (k1 _ _ q)) hp) (Nat.lt_irrefl _)
  have J : Inv X pins σ (upd H p (.lst (ss.map V.str))) { s with heap := s'.heap, gens := s'.gens, drawn := s'.drawn, toks := s'.toks } :=
    I.call (ch := []) (Un.laidN k hp0 hn) (I.hok.laidN k hn ⟨hlen, out.toList, c, vals_of_strs hi, hg⟩) (by rw [g]; exact I.bare) (fun _ z => nomatch z)
  have e : s' = { s with heap := s'.heap, gens := s'.gens, drawn := s'.drawn, toks := s'.toks } := by
    cases s'
    cases s
    cases o
    rfl
  rw [e]
  exact ⟨.ref p, _, J, rfl, q ss p hperm hs hn⟩
def rSortedAny (K : PySem.W.Frag) : List V → Hp → VK → Prop := fun vs H Q => rSortedI K vs H Q ∨ rSortedS2 K vs H Q ∨ rSortedD vs H Q ∨ rSortedT2 vs H Q
theorem cr_sortedAny (hc : X.calm = true) : CallR X (.builtin "sorted") (rSortedAny X.K) := by
  intro pins s σ H vs us Q I r h
  rcases h with h | h | h | h
  · exact cr_sortedI pins s σ H vs us Q I r h
  · exact cr_sortedS2 pins s σ H vs us Q I r h
  · exact call_sortedD hc pins s σ H vs us Q I r h
  · exact cr_sortedT2 hc pins s σ H vs us Q I r h
theorem repL_ofInts {H : Hp} {A : Addr → Prop} : ∀ ns : List Int, RepL K H A (ns.map .int) (ns.map V.int)
  | [] => RepL.nil
  | n :: ns => RepL.cons (by simp [Rep]) (repL_ofInts ns)
theorem pl_sorted : PL K .sorted (rSortedAny K) := by
  intro A ds z xs H Q hp hx ht q
  match ds, hx, hp with
  | [.lst ys], hx, hp =>
    obtain ⟨v, rfl, a, vs, rfl, h1, r1⟩ := rd0L_one hx
    simp only [pev] at hp
    cases e : intsD ys with
    | some ns =>
      rw [e] at hp; cases hp
      have := repL_ints e r1
      subst this
      refine .inl ⟨a, ns, rfl, h1, fun ns' p hp hs hn => ?_⟩
      rw [sorted_uniq (hp.trans (sortI_perm ns).symm) hs (sortI_sorted ns)]
      exact q.list (repL_ofInts _) hn
    | none =>
      rw [e] at hp
      dsimp only at hp
      cases e2 : strsD ys with
      | none => rw [e2] at hp; cases hp
      | some ss =>
        rw [e2] at hp
        dsimp only at hp
        split at hp
        case isFalse => cases hp
        rename_i h64
        cases hp
        have := repL_strsD e2 r1
        subst this
        refine .inr (.inl ⟨a, ss, rfl, h1, h64, fun ns' p hp hs hn => ?_⟩)
        rw [sortedS_uniq (hp.trans (sortS_perm ss).symm) (sortedS_pw hs) (sortS_sorted ss)]
        exact q.list (repL_ofStrs _) hn
  | [.dct ks ds], hx, hp =>
    obtain ⟨v, rfl, a, kvs, rfl, h1, hk, r1⟩ := rd0L_one hx
    simp only [pev] at hp
    cases e : strsK ks with
    | none => rw [e] at hp; cases hp
    | some ss =>
      rw [e] at hp
      dsimp only at hp
      split at hp
      case isFalse => cases hp
      rename_i h64
      cases hp
      refine .inr (.inr (.inl ⟨a, kvs, ss, rfl, .inl h1, hk.trans (strsK_eq e), h64, fun ns' p hp hs hn => ?_⟩))
      rw [sortedS_uniq (hp.trans (sortS_perm ss).symm) (sortedS_pw hs) (sortS_sorted ss)]
      exact q.list (repL_ofStrs _) hn
  | [.str x], hx, hp =>
    simp only [pev] at hp
    split at hp
    case isFalse => cases hp
    rename_i h64
    cases hp
    refine .inr (.inr (.inr ⟨x, by obtain ⟨v, rfl, e⟩ := rd0L_one hx; exact congrArg (fun z => [z]) e, h64, fun ns' p hp hs hn => ?_⟩))
    rw [sortedS_uniq (hp.trans (sortS_perm _).symm) (sortedS_pw hs) (sortS_sorted _)]
    exact q.list (repL_ofStrs _) hn
  | [.non], hx, hp | [.bl _], hx, hp | [.int _], hx, hp | [.tup _], hx, hp => cases hp
  | [], hx, hp => cases hp
  | _ :: _ :: _, hx, hp => simp [pev] at hp
/-! max and min of a list of whole numbers, with a default -/
def rDflt (K : PySem.W.Frag) (f : Int → Int → Int) : List V → List V → Hp → VK → Prop := fun vs zs H Q => ∃ (a : Addr) (ns : List Int) (d : Int), vs = [V.ref a] ∧ zs = [.int d] ∧ SqL K H a (ns.map V.int) ∧ Q (.int (bestI f d ns)) H
theorem alike_ints (ns : List Int) : PySem.W.AlikeAll (ns.map PyData.int) := by
  refine ⟨fun x hx y hy => ?_, fun x hx => ?_⟩
  · obtain ⟨i, _, rfl⟩ := List.mem_map.mp hx
    obtain ⟨j, _, rfl⟩ := List.mem_map.mp hy
    simp [PySem.W.alike]
  · obtain ⟨i, _, rfl⟩ := List.mem_map.mp hx
    intro h; cases h
theorem dep_ints0 : ∀ l : List Int, PyData.depthAll (l.map .int) = 0
  | [] => rfl
  | i :: l => by simp only [List.map_cons, PyData.depthAll, PyData.depth, dep_ints0 l]; rfl
theorem cr_minDf (hc : X.calm = true) (hu : X.A.units + 1 < cLine) : CallRK X (.builtin "min") [Str.ofString "default"] (rDflt X.K min) := by
  intro pins s σ H vs zs us ws Q I r rz h
  obtain ⟨a, ns, d, rfl, rfl, hs, q⟩ := h
  obtain rfl := Vals.ref1 r
  obtain ⟨w1, rfl, e1⟩ := vals1 rz
  obtain ⟨its, rv, hl, _⟩ := I.list hs
  have hi := rv.ints
  refine PySem.W.min_list_default (I.ok.hd hc) hl.isList (xs := ns.map .int) (as := []) (ints_readAll _ hi) (alike_ints ns) (by rw [dep_ints0]; omega) (fun h0 h' tk hk => ?_) fun y ys i v h' tk bs e2 e3 e4 hk => ?_
  · have : ns = [] := by simpa using h0
    subst this
    exact ⟨.int d, H, I.kept hk, e1, q⟩
  · cases ns with
    | nil => cases e2
    | cons n ns =>
      cases e2
      rw [PySem.W.minD_ints] at e4
      cases e4
      exact ⟨.int _, H, I.kept hk, ⟨_, rfl⟩, q⟩
theorem cr_maxDf (hc : X.calm = true) (hu : X.A.units + 1 < cLine) : CallRK X (.builtin "max") [Str.ofString "default"] (rDflt X.K max) := by
  intro pins s σ H vs zs us ws Q I r rz h
  obtain ⟨a, ns, d, rfl, rfl, hs, q⟩ := h
  obtain rfl := Vals.ref1 r
  obtain ⟨w1, rfl, e1⟩ := vals1 rz
  obtain ⟨its, rv, hl, _⟩ := I.list hs
  have hi := rv.ints
  refine PySem.W.max_list_default (I.ok.hd hc) hl.isList (xs := ns.map .int) (as := []) (ints_readAll _ hi) (alike_ints ns) (by rw [dep_ints0]; omega) (fun h0 h' tk hk => ?_) fun y ys i v h' tk bs e2 e3 e4 hk => ?_
  · have : ns = [] := by simpa using h0
    subst this
    exact ⟨.int d, H, I.kept hk, e1, q⟩
  · cases ns with
    | nil => cases e2
    | cons n ns =>
      cases e2
      rw [PySem.W.maxD_ints] at e4
      cases e4
      exact ⟨.int _, H, I.kept hk, ⟨_, rfl⟩, q⟩
theorem p2_dflt {p : Pr} {f : Int → Int → Int} (h : ∀ xs d, pev p [.lst xs, .int d] = match intsD xs with | some ns => some (.sc (.int (bestI f d ns))) | none => none) (h0 : ∀ d e z, pev p [d, e] = some z → ∃ xs i, d = .lst xs ∧ e = .int i) : P2 K p (fun x y H Q => rDflt K f [x] [y] H Q) := by
  intro A d e z x y H Q hp hx hy ht q
  obtain ⟨xs, i, rfl, rfl⟩ := h0 d e z hp
  rw [h] at hp
  obtain ⟨a, vs, rfl, h1, r1⟩ := hx
  have hy : y = .int i := hy
  subst hy
  cases e2 : intsD xs with
  | none => rw [e2] at hp; cases hp
  | some ns =>
    rw [e2] at hp; cases hp
    have := repL_ints e2 r1
    subst this
    exact ⟨a, ns, i, rfl, rfl, h1, q.sc (by simp [Rep])⟩
theorem p2_maxd : P2 K .maxd (fun x y H Q => rDflt K max [x] [y] H Q) := p2_dflt (fun _ _ => rfl) fun d e z h => by
  cases d <;> cases e <;> first | (simp [pev] at h; done) | exact ⟨_, _, rfl, rfl⟩
theorem p2_mind : P2 K .mind (fun x y H Q => rDflt K min [x] [y] H Q) := p2_dflt (fun _ _ => rfl) fun d e z h => by
  cases d <;> cases e <;> first | (simp [pev] at h; done) | exact ⟨_, _, rfl, rfl⟩
theorem de_dflt {b : Expr} {fb : DEnv → Res (R × DEnv)} {x : Str} {id : String} {p : Pr} {f : Int → Int → Int} {p1 p2 : Pos} (hc : CallRK X (.builtin id) [Str.ofString "default"] (rDflt X.K f)) (hp : P2 X.K p (fun x y H Q => rDflt X.K f [x] [y] H Q)) (hK : X.K = c.K) (hg : Gl X x) (hm : X.mg x = none) (hv : bootBuiltins x = some (.builtin id)) (hn : x ≠ "__name__") (hdb : (x == ("__debug__" : Str)) = false)
    (ha : DE X c a fa) (hb : DE X c b fb) : DE X c (.Call (.Name x p1) [a] [⟨some (Str.ofString "default"), b, p2⟩] pos) (fPr p (fL2 fa fb)) :=
  .of ((pe_callBK hc hg hm hv (pa_cons ha.pe pa_nil (star_of ha.st)) (pk_cons hb.pe pk_nil) hn hdb (by rw [star_of ha.st]; rfl) (plain_of (by simp [ha.st]))).imp fun σ H Q ⟨O, δ, E, h⟩ => two_ok (c := c) (r := fun x y H Q => rDflt X.K f [x] [y] H Q) E (by rw [← hK]; exact hp) h)
theorem de_dict0 : DE X c (.Dict [] [] pos) (fPr .dict0 fun δ => .ok ([], δ)) :=
  .of (pe_dnewK.imp fun σ H Q ⟨O, δ, E, h⟩ => fun p hn => h _ _ (prim_post E Tr.refl E (z := .new (.dct [] [])) (same_upd hn) ⟨p, rfl, hn, [], upd_same, rfl, RepL.nil⟩))
theorem pps_lit : ∀ {ks : List (Option Expr)} {vs : List Expr} {xs : List Str} {ys : List Key}, litK ks xs = true → litV vs ys = true → ks.length = vs.length → PPs X pos ks vs ((xs.zip ys).map fun p => (tC (.str p.1), tC (kV p.2)))
  | [], [], xs, ys, h1, h2, _ => by
    cases xs with
    | nil => exact pps_nil
    | cons x xs => cases h1
  | [], _ :: _, _, _, _, _, h => by cases h
  | _ :: _, [], _, _, _, _, h => by cases h
  | k :: ks, v :: vs, xs, ys, h1, h2, hl => by
    unfold litK at h1
    split at h1
    · rename_i e; cases e
    · rename_i x j q es y ys' e1 
      cases e1
      simp only [Bool.and_eq_true, decide_eq_true_eq] at h1
      obtain ⟨rfl, h1⟩ := h1
      have hl2 : ks.length = vs.length := by simpa using hl
      unfold litV at h2
      split at h2
      · rename_i e; cases e
      · rename_i e; cases e
        simp only [Bool.and_eq_true, decide_eq_true_eq] at h2
        obtain ⟨rfl, h2⟩ := h2
        exact pps_cons pe_str pe_str (pps_lit h1 h2 hl2)
      · rename_i e; cases e
        simp only [Bool.and_eq_true, decide_eq_true_eq] at h2
        obtain ⟨rfl, h2⟩ := h2
        exact pps_cons pe_str pe_int (pps_lit h1 h2 hl2)
      · cases h2
    · cases h1
theorem tPairs_lit {σ : L2.St} {H : Hp} {Q : List (V × V) → Hp → Prop} : ∀ {l : List (Str × Key)}, Q (l.map fun p => (.str p.1, kV p.2)) H → tPairs (l.map fun p => (tC (.str p.1), tC (kV p.2))) σ H Q
  | [], h => h
  | p :: l, h => by
    show tPairs (l.map fun p => (tC (.str p.1), tC (kV p.2))) σ H fun ps H3 => Q ((.str p.1, kV p.2) :: ps) H3
    exact tPairs_lit h
theorem putK_new {kvs : List (Key × V)} {k : Key} {v : V} (h : k ∉ kvs.map Prod.fst) : putK kvs k v = kvs ++ [(k, v)] := by
  unfold putK
  rw [if_neg]
  intro h2
  rw [List.any_eq_true] at h2
  obtain ⟨p, hp, e⟩ := h2
  exact h (by rw [← of_decide_eq_true e]; exact List.mem_map_of_mem hp)
theorem mergeK_new : ∀ (l : List (Str × Key)) (kvs : List (Key × V)), nodupS (l.map Prod.fst) = true → (∀ x ∈ l.map Prod.fst, (Sum.inr x : Key) ∉ kvs.map Prod.fst) → mergeK kvs (l.map fun p => (.inr p.1, kV p.2)) = kvs ++ l.map fun p => (.inr p.1, kV p.2)
  | [], kvs, _, _ => by simp [mergeK]
  | p :: l, kvs, h1, h2 => by
    simp only [List.map_cons, nodupS, Bool.and_eq_true, decide_eq_true_eq] at h1
    have e1 : mergeK kvs ((p :: l).map fun p => (.inr p.1, kV p.2)) = mergeK (putK kvs (.inr p.1) (kV p.2)) (l.map fun p => (.inr p.1, kV p.2)) := rfl
    rw [e1, putK_new (h2 p.1 (by simp)), mergeK_new l _ h1.2 fun x hx => ?_]
    · simp
    · intro h3
      rw [List.map_append, List.mem_append] at h3
      rcases h3 with h3 | h3
      · exact h2 x (List.mem_cons_of_mem _ hx) h3
      · have : (Sum.inr x : Key) = .inr p.1 := by simpa using h3
        cases this
        exact h1.1 hx
theorem repL_kD {H : Hp} {A : Addr → Prop} : ∀ ys : List Key, RepL K H A (ys.map kD) (ys.map kV)
  | [] => RepL.nil
  | .inl i :: ys => RepL.cons (by simp [Rep, kD, kV]) (repL_kD ys)
  | .inr x :: ys => RepL.cons (by simp [Rep, kD, kV]) (repL_kD ys)
theorem lit_len : ∀ {ks : List (Option Expr)} {xs : List Str}, litK ks xs = true → ks.length = xs.length ∧ ks.all (·.isSome) = true
  | [], [], _ => ⟨rfl, rfl⟩
  | [], _ :: _, h => by cases h
  | k :: ks, xs, h => by
    unfold litK at h
    split at h
    · rename_i e; cases e
    · rename_i e1
      cases e1
      simp only [Bool.and_eq_true, decide_eq_true_eq] at h
      obtain ⟨a, b⟩ := lit_len h.2
      exact ⟨by simp [a], by simp [b]⟩
    · cases h
theorem litV_len : ∀ {vs : List Expr} {ys : List Key}, litV vs ys = true → vs.length = ys.length
  | [], [], _ => rfl
  | [], _ :: _, h => by cases h
  | k :: ks, xs, h => by
    unfold litV at h
    split at h
    · rename_i e; cases e
    · rename_i e1
      cases e1
      simp only [Bool.and_eq_true, decide_eq_true_eq] at h
      have a := litV_len h.2
      simp [a]
    · rename_i e1
      cases e1
      simp only [Bool.and_eq_true, decide_eq_true_eq] at h
      have a := litV_len h.2
      simp [a]
    · cases h
theorem de_dlit {ks : List (Option Expr)} {vs : List Expr} {xs : List Str} {ys : List Key} (h1 : litK ks xs = true) (h2 : litV vs ys = true) (hn : nodupS xs = true) (h0 : ks ≠ []) (h15 : ks.length ≤ 15) (hl : ks.length = vs.length) : DE X c (.Dict ks vs pos) (fPr (.dlit xs ys) fun δ => .ok ([], δ)) := by
  obtain ⟨la, hall⟩ := lit_len h1
  have lb := litV_len h2
  have hf : (xs.zip ys).map Prod.fst = xs := List.map_fst_zip (by omega)
  have hs : (xs.zip ys).map Prod.snd = ys := List.map_snd_zip (by omega)
  refine .of ((pe_disp (pps_lit h1 h2 hl) hall hl h0 h15).imp fun σ H Q ⟨O, δ, E, h⟩ => fun p hn2 => tPairs_lit ⟨upd_same, (xs.zip ys).map fun p => (.inr p.1, kV p.2), by rw [List.map_map]; rfl, by rw [List.length_map, List.length_zip]; omega, ?_⟩)
  rw [upd_upd, mergeK_new _ _ (by rw [hf]; exact hn) (fun x _ h => by cases h), List.nil_append]
  refine h _ _ (prim_post E Tr.refl E (z := .new (.dct (xs.map .inr) (ys.map kD))) (same_upd hn2) ⟨p, rfl, hn2, _, upd_same, ?_, ?_⟩)
  · rw [List.map_map, ← hf, List.map_map, hf]; rfl
  · have : (List.map (fun p : Str × Key => ((Sum.inr p.1 : Key), kV p.2)) (xs.zip ys)).map Prod.snd = ys.map kV := by
      rw [List.map_map, ← hs, List.map_map, hs]; rfl
    rw [this]
    exact repL_kD ys
theorem lookK_val {H : Hp} {A : Addr → Prop} {k : Key} {d : D} : ∀ {kvs : List (Key × V)} {ds : List D}, RepL K H A ds (kvs.map Prod.snd) → lookK (kvs.map Prod.fst) ds k = some d → ∃ v, valV kvs k = some v ∧ Rep K H A d v
  | [], ds, _, h => by cases ds <;> cases h
  | p :: kvs, [], _, h => by cases h
  | p :: kvs, d0 :: ds, r, h => by
    simp only [List.map_cons, RepL] at r
    obtain ⟨v, vs, e, r1, r2⟩ := r
    obtain ⟨rfl, rfl⟩ := List.cons.inj e
    simp only [List.map_cons, lookK] at h
    by_cases hk : p.1 = k
    · rw [if_pos hk] at h; cases h
      exact ⟨_, valV_pos hk, r1⟩
    · rw [if_neg hk] at h
      rw [valV_neg hk]
      exact lookK_val r2 h
theorem rep_scal2 {H : Hp} {A A' : Addr → Prop} {H' : Hp} {d : D} {v : V} (h : d.scal = true) (r : Rep K H A d v) : Rep K H' A' d v := by
  cases d <;> first | (simp only [Rep] at r ⊢; exact r) | cases h
theorem p2_didx : P2 K .didx (fun x y H Q => ∃ a v, x = .ref a ∧ DGet H a y (some v) ∧ Q v H) := by
  intro A d e z x y H Q hp hx hy ht q
  cases d with
  | dct ks ds =>
    simp only [pev] at hp
    cases e1 : keyD e with
    | none => rw [e1] at hp; cases hp
    | some k =>
      rw [e1] at hp
      dsimp only at hp
      cases e2 : lookK ks ds k with
      | none => rw [e2] at hp; cases hp
      | some d0 =>
        rw [e2] at hp
        dsimp only at hp
        split at hp
        case isFalse => cases hp
        rename_i hs
        cases hp
        obtain ⟨a, kvs, rfl, h1, rfl, r1⟩ := hx
        have := keyD_v e1 hy
        subst this
        obtain ⟨v, hv, rv⟩ := lookK_val r1 e2
        refine ⟨a, v, rfl, ?_, q.sc (rep_scal2 hs rv)⟩
        rw [← hv]
        exact DGet.k h1
  | _ => simp [pev] at hp
theorem de_didx (hK : X.K = c.K) (hu : X.A.units + 1 < cLine) (ha : DE X c a fa) (hb : DE X c b fb) : DE X c (.Subscript a b pos) (fPr .didx (fL2 fa fb)) :=
  .of ((pe_dget hu ha.pe hb.pe (ix_of hb.st)).imp fun σ H Q ⟨O, δ, E, h⟩ => two_ok (r := fun x y H Q => ∃ a v, x = .ref a ∧ DGet H a y (some v) ∧ Q v H) E (by rw [← hK]; exact p2_didx) h)
theorem de_rev {k : Nat} {p1 p2 p3 : Pos} (hK : X.K = c.K) (ha : DE X c a fa) : DE X c (.Subscript a (.Slice none none (some (.UnaryOp .USub (.Constant (.int 1) k p1) p2)) p3) pos) (fPr .rev (fL1 fa)) :=
  .of ((pe_revL ha.pe).imp fun σ H Q ⟨O, δ, E, h⟩ => one_ok (r := fun x H1 Q => ∃ a xs, x = .ref a ∧ SqL X.K H1 a xs ∧ ∀ p, H1 p = none → Q (.ref p) (upd H1 p (.lst xs.reverse))) E (fun A d z x H Q hp hx ht q => by
    rw [hK]
    cases d with
    | lst ys =>
      simp only [pev] at hp; cases hp
      obtain ⟨a, vs, rfl, h1, r1⟩ := hx
      exact ⟨a, vs, rfl, h1, fun p hn => q.list r1.reverse hn⟩
    | _ => simp [pev] at hp) h)
theorem rg_eq (n : Int) : rgV 0 n = (List.range n.toNat).map fun k => V.int (0 + (k : Nat)) := by
  unfold rgV; rw [Int.sub_zero]
theorem repL_range {H : Hp} {A : Addr → Prop} (lo : Int) : ∀ l : List Nat, RepL K H A (l.map fun k => D.int (lo + (k : Nat))) (l.map fun k => V.int (lo + (k : Nat)))
  | [] => RepL.nil
  | n :: ns => RepL.cons (by simp [Rep]) (repL_range lo ns)
theorem de_rlist {p1 p2 q : Pos} (hc : X.calm = true) (hg : Gl X "range") (hm : X.mg "range" = none) (hg2 : Gl X "list") (hm2 : X.mg "list" = none) (ha : DE X c a fa) : DE X c (.Call (.Name "list" p1) [.Call (.Name "range" p2) [a] [] q] [] pos) (fPr .rlist (fL1 fa)) :=
  .of ((pe_listRg hc hg2 hm2 (prg_1 hg hm ha.pe (star_of ha.st))).imp fun σ H Q ⟨O, δ, E, h⟩ => by
    refine one_ok (p := .rlist) (r := fun x H1 Q => ∃ n, x = .int n ∧ RgOk 0 n ∧ ∀ q, H1 q = none → Q (.ref q) (upd H1 q (.lst (rgV 0 n)))) E (fun A d z x H Q hp hx ht q => ?_) h
    cases d with
    | int n =>
      simp only [pev] at hp
      split at hp
      · rename_i hb
        cases hp
        have hx : x = .int n := hx
        refine ⟨n, hx, ⟨by decide, by decide, by omega, by omega, by omega⟩, fun p hn => ?_⟩
        rw [rg_eq]
        exact q.list (repL_range 0 _) hn
      · cases hp
    | _ => simp [pev] at hp)
theorem repL_rg {H : Hp} {A : Addr → Prop} (a b : Int) : RepL K H A (rangeD a (b - a).toNat) (rgV a b) := by
  unfold rgV rangeD
  exact repL_range a _
theorem de_rlist2 {a b : Expr} {fa fb : DEnv → Res (R × DEnv)} {p1 p2 q pos : Pos} (hc : X.calm = true) (hg : Gl X "range") (hm : X.mg "range" = none) (hg2 : Gl X "list") (hm2 : X.mg "list" = none) (ha : DE X c a fa) (hb : DE X c b fb) : DE X c (.Call (.Name "list" p1) [.Call (.Name "range" p2) [a, b] [] q] [] pos) (fPr .rlist2 (fL2 fa fb)) :=
  .of ((pe_listRg hc hg2 hm2 (prg_2 hg hm ha.pe hb.pe (star_of ha.st) (star_of hb.st) (plain_of (by simp [hb.st])))).imp fun σ H Q ⟨O, δ, E, h⟩ => by
    refine two_ok (p := .rlist2) (r := fun x y H1 Q => ∃ i j, x = .int i ∧ y = .int j ∧ RgOk i j ∧ ∀ q, H1 q = none → Q (.ref q) (upd H1 q (.lst (rgV i j)))) E (fun A d e z x y H Q hp hx hy ht q => ?_) h
    cases d with
    | int i =>
      cases e with
      | int j =>
        simp only [pev] at hp
        split at hp
        · rename_i hb
          cases hp
          have hx : x = .int i := hx
          have hy : y = .int j := hy
          refine ⟨i, j, hx, hy, ⟨by omega, by omega, by omega, by omega, by omega⟩, fun p hn => ?_⟩
          exact q.list (repL_rg _ _) hn
        · cases hp
      | _ => simp [pev] at hp
    | _ => simp [pev] at hp)
theorem op_notin_rng : OpR X (compareOp .NotIn) (fun x y H Q => ∃ i a lo hi, x = V.int i ∧ y = V.ref a ∧ H a = some (.rng lo hi) ∧ Q (.bl (!decide (lo ≤ i ∧ i < hi))) H) := by
  intro pins s σ H x y v u Q I rx ry h
  obtain ⟨i, a, lo, hi, rfl, rfl, ha, q⟩ := h
  obtain ⟨k, rfl⟩ := rx
  obtain rfl : u = Value.ref a := ry
  obtain ⟨t1, t2, t3, ho⟩ := I.hok a _ ha
  show wpAny _ _ (do return Value.bool (!(← contains (Value.ref a) (Value.int i k)))) _ _ s
  refine wpAny_bind (wpAny_contains_slot (T := "range") ⟨_, ho, rfl⟩ F.slot_range_contains (call_meets F.slot_range_contains ⟨_, ho, rfl⟩ F.entry_range_contains (F.args_range_contains_2 _ _) (q_contains a lo hi i t1 t2 t3 k)
    ⟨ho, wpAny_truthy_bool (wpAny_pure ⟨.bl _, H, I, rfl, ?_⟩)⟩))
  rw [place1]
  exact q
def fCons (fx : DEnv → Res (R × DEnv)) (fl : DEnv → Res (List R × DEnv)) (δ : DEnv) : Res (List R × DEnv) := (fx δ).bind fun z => (fl z.2).bind fun y => .ok (z.1 :: y.1, y.2)
theorem fCons_inv {fx : DEnv → Res (R × DEnv)} {fl : DEnv → Res (List R × DEnv)} {δ δ3 : DEnv} {rs : List R} (h : fCons fx fl δ = .ok (rs, δ3)) : ∃ r rs' δ1, fx δ = .ok (r, δ1) ∧ fl δ1 = .ok (rs', δ3) ∧ rs = r :: rs' := by
  unfold fCons at h
  cases e1 : fx δ with
  | exc k => rw [e1] at h; cases h
  | stuck => rw [e1] at h; cases h
  | ok y =>
    obtain ⟨r, δ1⟩ := y
    rw [e1] at h
    dsimp only [bind_ok] at h
    cases e2 : fl δ1 with
    | exc k => rw [e2] at h; cases h
    | stuck => rw [e2] at h; cases h
    | ok y =>
      obtain ⟨rs', δ2⟩ := y
      rw [e2] at h
      cases h
      exact ⟨r, rs', δ1, rfl, e2, rfl⟩
theorem pev_inrg {neg : Bool} {ds : List D} {w : PR} (h : pev (.inrg neg) ds = some w) : ∃ x a b, ds = [.int x, .int a, .int b] ∧ w = .sc (.bl (if neg then !decide (a ≤ x ∧ x < b) else decide (a ≤ x ∧ x < b))) := by
  unfold pev at h
  split at h <;> first | (cases h; done) | skip
  all_goals first
    | (rename_i heq; cases heq; done)
    | (rename_i heq; cases heq; simp only [Option.some.injEq] at h; exact ⟨_, _, _, rfl, h.symm⟩)
theorem inrg_ok {neg : Bool} {r : R2} {fx : DEnv → Res (R × DEnv)} {fl : DEnv → Res (List R × DEnv)} {O : Addr → Prop} {δ : DEnv} {σ : L2.St} {H : Hp} {Q : VK} (E : ER c O δ σ H) (h : OkE c O δ σ H (fPr (.inrg neg) (fCons fx fl) δ) Q)
    (hr : ∀ i p lo hi (H : Hp), H p = some (.rng lo hi) → Q (.bl (if neg then !decide (lo ≤ i ∧ i < hi) else decide (lo ≤ i ∧ i < hi))) H → r (.int i) (.ref p) H Q) :
    tOp r (tD c fx) (fun σ H Q => tDL c fl σ H fun vs H1 => ∃ i j, vs = [V.int i, V.int j] ∧ ∀ p, H1 p = none → Q (.ref p) (upd H1 p (.rng i j))) σ H Q := by
  obtain ⟨rs, δ3, ds, w, e1, e2, e3, h⟩ := fPr_inv h
  obtain ⟨r1, rs', δ1, f1, f2, rfl⟩ := fCons_inv e1
  obtain ⟨x, a, b, rfl, rfl⟩ := pev_inrg e3
  refine tD_bind E ⟨r1, δ1, f1, fun v H1 ⟨O1, t1, E1, q1⟩ => ⟨O1, δ1, E1, ?_⟩⟩
  rw [f2]
  intro vs H2 ⟨O2, t2, E2, q2⟩
  simp only [resL] at e2
  cases g1 : resR δ3 r1 with
  | none => rw [g1] at e2; cases e2
  | some d1 =>
    rw [g1] at e2
    cases g2 : resL δ3 rs' with
    | none => rw [g2] at e2; cases e2
    | some ds2 =>
      rw [g2] at e2
      cases e2
      have hv : v = .int x := (q1.tr E t1 t2).rd0 E2 g1
      have hvs := RRs.rd0 E2 q2 g2
      obtain ⟨v1, v2, rfl, w1, w2⟩ := rd0L_two hvs
      have w1 : v1 = .int a := w1
      have w2 : v2 = .int b := w2
      subst hv w1 w2
      refine ⟨a, b, rfl, fun p hn => hr x p a b _ upd_same ?_⟩
      exact h _ _ (prim_post E (t1.trans t2) E2 (z := .sc (.bl _)) (same_upd hn) rfl)
theorem de_inrg {x a b : Expr} {p2 q : Pos} {fx : DEnv → Res (R × DEnv)} {fl : DEnv → Res (List R × DEnv)} (neg : Bool) (hg : Gl X "range") (hm : X.mg "range" = none) (hx : DE X c x fx) (ha : DL X c [a, b] fl) :
    DE X c (.Compare x [if neg then .NotIn else .In] [.Call (.Name "range" p2) [a, b] [] q] pos) (fPr (.inrg neg) (fCons fx fl)) := by
  have st := ha.st
  simp only [List.all_cons, Bool.and_eq_true] at st
  have hp := pe_callTy (X := X) (p := p2) (pos := q) cr_range2 hg hm boot_range ha.pa (by decide +kernel) (by decide +kernel) (star_of st.1) (plain_of (by simp [st.2.1]))
  cases neg with
  | false => exact ⟨(pe_cmpR op_in_rng hx.pe hp (mark_of rfl)).imp fun σ H Q ⟨O, δ, E, h⟩ => inrg_ok (neg := false) E h fun i p lo hi H hH q => ⟨i, p, lo, hi, rfl, rfl, hH, q⟩,
    fun _ => (pt_cmpR op_in_rng hx.pe hp (mark_of rfl)).imp fun σ H Q ⟨O, δ, E, h⟩ => inrg_ok (neg := false) (Q := fun x H' => ∃ k, x = .bl k ∧ Q k H') E h.val fun i p lo hi H hH q => ⟨i, p, lo, hi, rfl, rfl, hH, q⟩, rfl⟩
  | true => exact ⟨(pe_cmpR op_notin_rng hx.pe hp (mark_of rfl)).imp fun σ H Q ⟨O, δ, E, h⟩ => inrg_ok (neg := true) E h fun i p lo hi H hH q => ⟨i, p, lo, hi, rfl, rfl, hH, q⟩,
    fun _ => (pt_cmpR op_notin_rng hx.pe hp (mark_of rfl)).imp fun σ H Q ⟨O, δ, E, h⟩ => inrg_ok (neg := true) (Q := fun x H' => ∃ k, x = .bl k ∧ Q k H') E h.val fun i p lo hi H hH q => ⟨i, p, lo, hi, rfl, rfl, hH, q⟩, rfl⟩
end
end Ev
/-! EvR3: list of a text; sorted of a set -/
namespace Ev
open PySem PySem.Spec PyProof.Rows L2
section
variable {K : PySem.W.Frag} {X : Cx} {c : Cfg} {a : Expr} {fa : DEnv → Res (R × DEnv)} {pos : Pos}
def rListB (K : PySem.W.Frag) : List V → Hp → VK → Prop := fun xs H Q => rListA K xs H Q ∨ ∃ z, xs = [.str z] ∧ z.length ≤ 1000000 ∧ ∀ l, H l = none → Q (.ref l) (upd H l (.lst ((chrS z).map V.str)))
theorem cr_listB (hc : X.calm = true) : CallR X (.type "list") (rListB X.K) := by
  intro pins s σ H xs us Q I r h
  rcases h with h | ⟨z, rfl, hz, q⟩
  · exact call_list_of pins s σ H xs us Q I r h
  · obtain ⟨u, rfl, t, rfl⟩ := vals1 r
    have big : z.cps.size ≤ sizeLine := by rw [sizeLine_eq]; have : z.cps.size = z.length := rfl; omega
    refine call_list_str (hn := big) (I.ok.hd hc) z t fun h' tk acc c' hk hS it => ?_
    have hA := signs_are it
    have hlen : ((chrS z).map V.str).length ≤ sizeLine := by rw [List.length_map, chrS, List.length_map, Array.length_toList]; exact big
    exact ⟨.ref s.heap.objs.size, upd H s.heap.objs.size (.lst ((chrS z).map V.str)), I.laid (t' := tk) hk (Nat.le_refl _) ⟨hlen, acc.toList, c', vals_of_strs hA, by rw [hS]⟩, rfl, q _ (I.hok.fresh (Nat.le_refl _))⟩
theorem pl_listB : PL K .list (rListB K) := by
  intro A ds z xs H Q hp hx ht q
  match ds, hx, hp with
  | [.str x], hx, hp =>
    obtain ⟨v, rfl, r⟩ := rd0L_one hx
    simp only [pev] at hp
    split at hp
    · rename_i hl
      cases hp
      have r : v = .str x := r
      subst r
      exact .inr ⟨x, rfl, hl, fun l hn => q.list (repL_ofStrs _) hn⟩
    · cases hp
  | [.lst ys], hx, hp =>
    obtain ⟨v, rfl, r⟩ := rd0L_one hx
    simp only [pev, seqOf] at hp
    cases hp
    obtain ⟨a, vs, rfl, h1, r1⟩ := rd0_seq (d := .lst ys) rfl r
    exact .inl ⟨a, vs, rfl, h1, fun l hl => q.list r1 hl⟩
  | [.tup ys], hx, hp =>
    obtain ⟨v, rfl, r⟩ := rd0L_one hx
    simp only [pev, seqOf] at hp
    cases hp
    obtain ⟨a, vs, rfl, h1, r1⟩ := rd0_seq (d := .tup ys) rfl r
    exact .inl ⟨a, vs, rfl, h1, fun l hl => q.list r1 hl⟩
  | [.non], hx, hp | [.bl _], hx, hp | [.int _], hx, hp | [.dct _ _], hx, hp => simp [pev, seqOf] at hp
  | [], hx, hp => cases hp
  | _ :: _ :: _, hx, hp => simp [pev] at hp
theorem fold_ge : ∀ (ns : List Int) (n : Int), (∀ y ∈ n :: ns, y ≤ ns.foldl max n) ∧ ns.foldl max n ∈ n :: ns
  | [], n => ⟨fun y h => by rw [List.mem_singleton.mp h]; exact Int.le_refl _, List.mem_cons_self⟩
  | m :: ns, n => by
    obtain ⟨a, b⟩ := fold_ge ns (max n m)
    rw [List.foldl_cons]
    have h0 := a (max n m) List.mem_cons_self
    refine ⟨fun y hy => ?_, ?_⟩
    · rcases List.mem_cons.mp hy with rfl | hy
      · omega
      · rcases List.mem_cons.mp hy with rfl | hy
        · omega
        · exact a y (List.mem_cons_of_mem _ hy)
    · rcases List.mem_cons.mp b with h | h
      · rw [h]
        by_cases hnm : n ≤ m
        · rw [show max n m = m by omega]; simp
        · rw [show max n m = n by omega]; simp
      · simp [h]
def rMaxB (K : PySem.W.Frag) : List V → Hp → VK → Prop := fun xs H Q => rMaxA xs H Q ∨ rMax K xs H Q
theorem cr_maxB (hc : X.calm = true) : CallR X (.builtin "max") (rMaxB X.K) := by
  intro pins s σ H xs us Q I r h
  rcases h with h | h
  · exact call_max2 hc pins s σ H xs us Q I r h
  · exact cr_max hc pins s σ H xs us Q I r h
theorem pl_maxB : PL K .max (rMaxB K) := by
  intro A ds z xs H Q hp hx ht q
  match ds, hx, hp with
  | [d, e], hx, hp =>
    obtain ⟨v, u, rfl, r1, r2⟩ := rd0L_two hx
    cases d <;> cases e <;> simp only [pev] at hp <;> first | cases hp | skip
    have r1 : v = _ := r1
    have r2 : u = _ := r2
    subst r1 r2
    exact .inl ⟨_, _, rfl, q.sc (by simp [Rep])⟩
  | [.lst ys], hx, hp =>
    obtain ⟨v, rfl, a, vs, rfl, h1, r1⟩ := rd0L_one hx
    simp only [pev] at hp
    cases e : intsD ys with
    | none => rw [e] at hp; cases hp
    | some ns =>
      rw [e] at hp
      cases ns with
      | nil => cases hp
      | cons n ns =>
        cases hp
        have := repL_ints e r1
        subst this
        refine .inr ⟨a, n :: ns, rfl, h1, by simp, fun m hm hmx => ?_⟩
        obtain ⟨f1, f2⟩ := fold_ge ns n
        have e1 := f1 m hm
        have e2 := hmx _ f2
        rw [show m = ns.foldl max n by omega]
        exact q.sc (by simp [Rep])
  | [.non], hx, hp | [.bl _], hx, hp | [.int _], hx, hp | [.str _], hx, hp | [.tup _], hx, hp | [.dct _ _], hx, hp => simp [pev] at hp
  | [], hx, hp => cases hp
  | _ :: _ :: _ :: _, hx, hp => simp [pev] at hp
theorem ded_mem : ∀ (xs : List Str) (x : Str), x ∈ dedS xs ↔ x ∈ xs
  | [], x => Iff.rfl
  | y :: ys, x => by
    unfold dedS
    split
    · rename_i h
      rw [ded_mem ys x]
      exact ⟨List.mem_cons_of_mem _, fun h2 => by rcases List.mem_cons.mp h2 with rfl | h2; exact h; exact h2⟩
    · rw [List.mem_cons, List.mem_cons, ded_mem ys x]
theorem ded_nodup : ∀ xs : List Str, (dedS xs).Nodup
  | [] => List.nodup_nil
  | y :: ys => by
    unfold dedS
    split
    · exact ded_nodup ys
    · rename_i h
      exact List.nodup_cons.mpr ⟨fun h2 => h ((ded_mem ys y).mp h2), ded_nodup ys⟩
theorem ss_uniq {xs ys : List Str} (nd : ys.Nodup) (mx : ∀ y, y ∈ ys ↔ y ∈ xs) (hs : sortedS ys = true) : ys = sortS (dedS xs) := by
  have p : ys.Perm (dedS xs) := by
    refine perm_sub ys (dedS xs) nd (fun x hx => (ded_mem xs x).mpr ((mx x).mp hx)) ?_

    exact nodup_len (ded_nodup xs) fun x hx => (mx x).mpr ((ded_mem xs x).mp hx)
  exact sortedS_uniq (p.trans (sortS_perm (dedS xs)).symm) (sortedS_pw hs) (sortS_sorted _)
def rSS (K : PySem.W.Frag) : V → Hp → VK → Prop := fun x H1 Q => ∃ xs : List Str, xs.length < 4000 ∧ ((∃ l, x = .ref l ∧ SqL K H1 l (xs.map V.str)) ∨ ∃ z, x = .str z ∧ xs = chrS z) ∧
  ∀ (ys : List Str) (p : Addr), ys.Nodup → (∀ y, y ∈ ys ↔ y ∈ xs) → sortedS ys = true → H1 p = none → Q (.ref p) (upd H1 p (.lst (ys.map V.str)))
theorem p1_sset : P1 K .sset (rSS K) := by
  intro A d z x H Q hp hx ht q
  cases d with
  | lst ys =>
    simp only [pev] at hp
    cases e2 : strsD ys with
    | none => rw [e2] at hp; cases hp
    | some ss =>
      rw [e2] at hp
      dsimp only at hp
      split at hp
      case isFalse => cases hp
      rename_i hl
      cases hp
      obtain ⟨a, vs, rfl, h1, r1⟩ := hx
      have := repL_strsD e2 r1
      subst this
      refine ⟨ss, hl, .inl ⟨a, rfl, h1⟩, fun ys p nd mx hs hn => ?_⟩
      rw [ss_uniq nd mx hs]
      exact q.list (repL_ofStrs _) hn
  | str x0 =>
    simp only [pev] at hp
    split at hp
    case isFalse => cases hp
    rename_i hl
    cases hp
    have hx : x = .str x0 := hx
    subst hx
    refine ⟨chrS x0, by rw [chrS, List.length_map, Array.length_toList]; exact hl, .inr ⟨x0, rfl, rfl⟩, fun ys p nd mx hs hn => ?_⟩
    rw [ss_uniq nd mx hs]
    exact q.list (repL_ofStrs _) hn
  | _ => simp [pev] at hp
theorem de_ss {p1 p2 q : Pos} (hK : X.K = c.K) (hc : X.calm = true) (hg : Gl X "sorted") (hm : X.mg "sorted" = none) (hg2 : Gl X "set") (hm2 : X.mg "set" = none) (ha : DE X c a fa) : DE X c (.Call (.Name "sorted" p1) [.Call (.Name "set" p2) [a] [] q] [] pos) (fPr .sset (fL1 fa)) :=
  .of ((pe_ss hc hg hm hg2 hm2 ha.pe (star_of ha.st)).imp fun σ H Q ⟨O, δ, E, h⟩ => one_ok (r := rSS X.K) E (by rw [← hK]; exact p1_sset) h)
end
end Ev
/-! EvS: the look is right: expressions -/
namespace Ev
open PySem PySem.Spec PyProof.Rows L2
structure XOk (X : Cx) (c : Cfg) (s : Sur) (ns : Nms) (C : Calls) : Prop where
  calm : X.calm = true
  K : X.K = c.K
  N : X.N = s.N
  nd : s.N.Nodup
  kind : X.env.scope.kind = .function
  nm : ∀ x k, ns.lookup x = some k → X.env.scope.names.lookup x = some k ∨ (k = .free ∧ X.env.scope.names.lookup x = some .cell)
  fnc : ∀ x, ns.lookup x = some .cell → X.fn x = true
  mgb : ∀ b ∈ bltNames, X.mg b = none
  con : ∀ x d, s.consts.lookup x = some d → d.scal = true → ∃ u, X.mg x = some u ∧ RelV (toV d) u
  xe : PassesOwn (model X.prog X.w) X.A X.env X.xe
  room : ∃ n, Room n X.A ∧ ∀ (f : Nat) (nm : Str), s.nms[f]? = some nm → ∃ fa fd ps, X.mg nm = some (.ref fa) ∧ PySem.W.keepIn X.K (.ref fa) = true ∧ Binds X.K fd ps [] ∧ FnOk X.prog X.w X.K X.mg X.base CX0 n fa fd ps (spD X.K C f)
theorem lookup_rel_free {sc : Scope} : ∀ {names : List (Str × NameKind)} {x : Str}, names.lookup x = some .free →
    (names.map fun (n, k) => if (k == NameKind.free && sc.kind == .function && sc.names.lookup n == some .cell) then (n, NameKind.cell) else (n, k)).lookup x = some .free ∨
    (names.map fun (n, k) => if (k == NameKind.free && sc.kind == .function && sc.names.lookup n == some .cell) then (n, NameKind.cell) else (n, k)).lookup x = some .cell
  | [], _, h => by simp at h
  | (n, k0) :: r, x, h => by
    have ih := @lookup_rel_free sc r x
    show List.lookup x ((if (k0 == NameKind.free && sc.kind == .function && sc.names.lookup n == some .cell) = true then (n, NameKind.cell) else (n, k0)) :: (r.map _)) = some .free ∨ List.lookup x ((if (k0 == NameKind.free && sc.kind == .function && sc.names.lookup n == some .cell) = true then (n, NameKind.cell) else (n, k0)) :: (r.map _)) = some .cell
    cases hx : x == n with
    | true =>
      simp only [List.lookup_cons, hx] at h
      cases h
      by_cases hc : (NameKind.free == NameKind.free && sc.kind == .function && sc.names.lookup n == some .cell) = true
      · rw [if_pos hc]; simp only [List.lookup_cons, hx]; simp
      · rw [if_neg hc]; simp only [List.lookup_cons, hx]; simp
    | false =>
      simp only [List.lookup_cons, hx] at h
      by_cases hc : (k0 == NameKind.free && sc.kind == .function && sc.names.lookup n == some .cell) = true
      · rw [if_pos hc]; simp only [List.lookup_cons, hx]; exact ih h
      · rw [if_neg hc]; simp only [List.lookup_cons, hx]; exact ih h
section
variable {X : Cx} {c : Cfg} {s : Sur} {ns : Nms} {C : Calls}
theorem XOk.blk {sh : Shared} {H : Hp} {scope : Scope} {cl : List (Str × Addr)} {Cc : Addr} {fp : List Addr} (ok : XOk X c s ns C) (h : scope.kind = .function) : XOk (X.blk sh H scope (compEnvC scope cl Cc X.env) fp) c s scope.names C where
  calm := ok.calm
  K := ok.K
  N := ok.N
  nd := ok.nd
  kind := h
  nm := fun x k e => by
    by_cases hk : k = .free
    · subst hk
      rcases lookup_rel_free (sc := X.env.scope) e with e | e
      · exact .inl e
      · exact .inr ⟨rfl, e⟩
    · exact .inl (lookup_relS_keep (sc := X.env.scope) hk e)
  fnc := fun x e => by
    show (scope.names.lookup x == some .cell) = true
    rw [e]; rfl
  mgb := ok.mgb
  con := ok.con
  xe := PassesOwn.never
  room := ok.room
theorem XOk.gl (ok : XOk X c s ns C) {x : Str} (h : isGl ns x = true) : Gl X x := by
  rcases ok.nm x _ (of_decide_eq_true h) with e | ⟨e, _⟩
  · exact e
  · cases e
theorem XOk.vis (ok : XOk X c s ns C) {x : Str} (h : isVis ns x = true) : Vis X.env.scope x := by
  simp only [isVis, Bool.or_eq_true, decide_eq_true_eq] at h
  rcases h with (h | h) | h
  · rcases ok.nm x _ h with e | ⟨e, _⟩
    · exact .inl e
    · cases e
  · rcases ok.nm x _ h with e | ⟨e, _⟩
    · exact .inr (.inl e)
    · cases e
  · rcases ok.nm x _ h with e | ⟨_, e⟩
    · exact .inr (.inr e)
    · exact .inr (.inl e)
theorem XOk.loc (ok : XOk X c s ns C) {x : Str} (h : isLoc ns x = true) : Loc X.env.scope x ∧ (X.fn x = true ∨ X.env.scope.names.lookup x = some .local) := by
  simp only [isLoc, Bool.or_eq_true, decide_eq_true_eq] at h
  rcases h with h | h
  · rcases ok.nm x _ h with e | ⟨e, _⟩
    · exact ⟨.inl e, .inr e⟩
    · cases e
  · rcases ok.nm x _ h with e | ⟨e, _⟩
    · exact ⟨.inr e, .inl (ok.fnc x h)⟩
    · cases e
theorem okNm_and {x : Str} (h : okNm x = true) : (x == ("__debug__" : Str)) = false ∧ (x == ("__classdict__" : Str)) = false ∧ x ≠ ("__name__" : Str) := by
  simp only [okNm, Bool.and_eq_true, decide_eq_true_eq] at h
  exact ⟨h.1.1, h.1.2, h.2⟩
theorem XOk.at (ok : XOk X c s ns C) {i : Nat} {x : Str} (h : atS s i x = true) : X.N[i]? = some x ∧ (x == ("__debug__" : Str)) = false ∧ (x == ("__classdict__" : Str)) = false ∧ x ≠ ("__name__" : Str) := by
  simp only [atS, Bool.and_eq_true, decide_eq_true_eq] at h
  rw [ok.N]
  exact ⟨h.1, okNm_and h.2⟩
inductive DEs (X : Cx) (c : Cfg) (C : Calls) : List E → List Expr → Prop where
  | nil : DEs X c C [] []
  | cons {a : E} {e : Expr} {irs : List E} {es : List Expr} (h : DE X c e (evE C a)) (hs : DEs X c C irs es) : DEs X c C (a :: irs) (e :: es)
theorem dl_of : ∀ {irs : List E} {es : List Expr}, DEs X c C irs es → DL X c es (evL C irs)
  | [], [], _ => by
    have : evL C [] = fun δ => .ok ([], δ) := by funext δ; rw [evL]
    rw [this]; exact dl_nil
  | [], _ :: _, h => by cases h
  | _ :: _, [], h => by cases h
  | ir :: irs, e :: es, h => by
    cases h with
    | cons h hs =>
      have : evL C (ir :: irs) = (fun δ => (evE C ir δ).bind fun z => (evL C irs z.2).bind fun y => .ok (z.1 :: y.1, y.2)) := by funext δ; rw [evL]
      rw [this]; exact dl_cons h (dl_of hs)
theorem evL_one (a : E) : evL C [a] = fL1 (evE C a) := by
  funext δ; rw [evL]; unfold fL1; congr 1
theorem evL_two (a b : E) : evL C [a, b] = fL2 (evE C a) (evE C b) := by
  funext δ; rw [evL]; unfold fL2; congr 1
theorem evE_pr (p : Pr) (es : List E) : evE C (.pr p es) = fPr p (evL C es) := by funext δ; rw [evE]; rfl
theorem evAnd_two (a b : E) (es : List E) : evAnd C (a :: b :: es) = fAnd (evE C a) (evAnd C (b :: es)) := by funext δ; rw [evAnd]; rfl; simp
theorem evOr_two (a b : E) (es : List E) : evOr C (a :: b :: es) = fOr (evE C a) (evOr C (b :: es)) := by funext δ; rw [evOr]; rfl; simp
theorem db_ands {pos : Pos} : ∀ {irs : List E} {es : List Expr}, DEs X c C irs es → es.isEmpty = false → es.all testable = true → DB X c (.BoolOp .And es pos) (evAnd C irs)
  | [], [], _, h, _ => by cases h
  | [], _ :: _, h, _, _ => by cases h
  | _ :: _, [], h, _, _ => by cases h
  | [a], [e], h, _, ht => by
    cases h with
    | cons h hs =>
      have : evAnd C [a] = evE C a := by funext δ; rw [evAnd]
      rw [this]; exact db_one (by simpa using ht) h
  | a :: b :: irs, e :: e' :: es, h, _, ht => by
    cases h with
    | cons h hs =>
      simp only [List.all_cons, Bool.and_eq_true] at ht
      rw [evAnd_two]; exact db_and ht.1 h (db_ands hs rfl (by simp [ht.2.1, ht.2.2]))
  | [_], _ :: _ :: _, h, _, _ => by cases h with | cons _ h => cases h
  | _ :: _ :: _, [_], h, _, _ => by cases h with | cons _ h => cases h
theorem db_ors {pos : Pos} : ∀ {irs : List E} {es : List Expr}, DEs X c C irs es → es.isEmpty = false → es.all testable = true → DB X c (.BoolOp .Or es pos) (evOr C irs)
  | [], [], _, h, _ => by cases h
  | [], _ :: _, h, _, _ => by cases h
  | _ :: _, [], h, _, _ => by cases h
  | [a], [e], h, _, ht => by
    cases h with
    | cons h hs =>
      have : evOr C [a] = evE C a := by funext δ; rw [evOr]
      rw [this]; exact db_one (by simpa using ht) h
  | a :: b :: irs, e :: e' :: es, h, _, ht => by
    cases h with
    | cons h hs =>
      simp only [List.all_cons, Bool.and_eq_true] at ht
      rw [evOr_two]; exact db_or ht.1 h (db_ors hs rfl (by simp [ht.2.1, ht.2.2]))
  | [_], _ :: _ :: _, h, _, _ => by cases h with | cons _ h => cases h
  | _ :: _ :: _, [_], h, _, _ => by cases h with | cons _ h => cases h
theorem des_one {irs : List E} {e : Expr} (h : DEs X c C irs [e]) : ∃ a, irs = [a] ∧ DE X c e (evE C a) := by
  cases h with | cons h hs => cases hs; exact ⟨_, rfl, h⟩
theorem des_two {irs : List E} {e e' : Expr} (h : DEs X c C irs [e, e']) : ∃ a b, irs = [a, b] ∧ DE X c e (evE C a) ∧ DE X c e' (evE C b) := by
  cases h with | cons h hs => cases hs with | cons h2 hs => cases hs; exact ⟨_, _, rfl, h, h2⟩
theorem p2of {p : Pr} {r : PySem.W.Frag → R2} (hK : X.K = c.K) (h : P2 X.K p (r X.K)) : P2 c.K p (r X.K) := by rw [← hK]; exact h
theorem p2_isB {K : PySem.W.Frag} : P2 K .isB rIsB := by
  intro A d e z x y H Q hp hx hy ht q
  cases d <;> cases e <;> simp only [pev] at hp <;> first | cases hp | skip
  have hx : x = _ := hx
  have hy : y = _ := hy
  subst hx hy
  exact ⟨_, _, rfl, rfl, q.sc (by simp [Rep])⟩
theorem p2_notB {K : PySem.W.Frag} : P2 K .notB rNotB := by
  intro A d e z x y H Q hp hx hy ht q
  cases d <;> cases e <;> simp only [pev] at hp <;> first | cases hp | skip
  have hx : x = _ := hx
  have hy : y = _ := hy
  subst hx hy
  exact ⟨_, _, rfl, rfl, q.sc (by simp [Rep])⟩
theorem cmp_of (ok : XOk X c s ns C) {p : Pr} {op : CmpOp} (h : cmpOk p op = true) : ∃ r, OpR X (compareOp op) r ∧ P2 c.K p r := by
  obtain ⟨n, hr, _⟩ := ok.room
  have hu := hr.units
  have K := ok.K
  unfold cmpOk at h
  split at h
  · exact ⟨_, op_eqD hu, by rw [K]; exact p2_eq⟩
  · exact ⟨_, op_neD hu, by rw [K]; exact p2_ne⟩
  · exact ⟨_, op_ltA, p2_ord (f := fun i j => decide (i < j)) (g := fun i j => decide (i < j)) fun ds => rfl⟩
  · exact ⟨_, op_leA, p2_ord (f := fun i j => decide (i ≤ j)) (g := fun i j => decide (i ≤ j)) fun ds => rfl⟩
  · exact ⟨_, op_gtA, p2_ord (f := fun i j => decide (j < i)) (g := fun i j => decide (j < i)) fun ds => rfl⟩
  · exact ⟨_, op_geA, p2_ord (f := fun i j => decide (j ≤ i)) (g := fun i j => decide (j ≤ i)) fun ds => rfl⟩
  · exact ⟨_, op_inA (by have := hr.un; omega), by rw [K]; exact p2_in false fun d e => rfl⟩
  · exact ⟨_, op_notinA (by have := hr.un; omega), by rw [K]; exact p2_in true fun d e => rfl⟩
  · exact ⟨_, op_isBl, p2_isB⟩
  · exact ⟨_, op_notBl, p2_notB⟩
  · cases h
theorem bin_of (ok : XOk X c s ns C) {p : Pr} {op : Operator} (h : binOk p op = true) : ∃ r, OpR X (binaryOp op) r ∧ P2 c.K p r := by
  have K := ok.K
  unfold binOk at h
  split at h
  · exact ⟨_, op_addAll, by rw [K]; exact p2_add⟩
  · exact ⟨_, op_sub, p2_sub⟩
  · exact ⟨_, op_mulAll, by rw [K]; exact p2_mul⟩
  · exact ⟨_, op_mod, p2_mod⟩
  · exact ⟨_, op_fdiv, p2_fdiv⟩
  · exact ⟨_, op_pow, p2_pow⟩
  · cases h
theorem eqScal_ok {d e : D} (h : eqScal d e = true) : d = e ∧ d.scal = true := by
  cases d <;> cases e <;> simp [eqScal] at h <;> subst h <;> exact ⟨rfl, rfl⟩
theorem con_ok (ok : XOk X c s ns C) {d : D} {e : Expr} (h : chkCon s ns d e = true) : DE X c e (evE C (.con d)) := by
  have ev : evE C (.con d) = fun δ => .ok (.d d, δ) := by funext δ; rw [evE]
  rw [ev]
  cases e with
  | Constant k j pos =>
    cases k <;> simp only [chkCon] at h
    all_goals first | cases h | skip
    all_goals (cases d <;> simp at h)
    · exact de_none
    · subst h; exact de_bl
    · subst h; exact de_int
    · subst h; exact de_str
  | Name x pos =>
    simp only [chkCon, Bool.and_eq_true] at h
    obtain ⟨⟨h1, h2⟩, h3⟩ := h
    obtain ⟨h4, _, _⟩ := okNm_and h2
    split at h3
    · rename_i d' e'
      obtain ⟨rfl, sc⟩ := eqScal_ok h3
      obtain ⟨u, hm, r⟩ := ok.con x d' e' sc
      exact .of ((pe_glob (ok.gl h1) hm r h4).imp fun σ H Q ⟨O, δ, E, h⟩ => h _ _ (PostE.data E (by cases d' <;> first | (simp [Rep, toV]; done) | (simp [D.scal] at sc; done))))
    · cases h3
  | _ => cases h
theorem mg_of (ok : XOk X c s ns C) {b : Str} (h : b ∈ bltNames) : X.mg b = none := ok.mgb b h
theorem call_of (ok : XOk X c s ns C) {p : Pr} {f : Str} {a : Expr} {xs : List Expr} {es : List E} {q pos : Pos} (h : callNm p = some f) (g : isGl ns f = true) (hs : DEs X c C es (a :: xs)) : DE X c (.Call (.Name f q) (a :: xs) [] pos) (fPr p (evL C es)) := by
  have K := ok.K
  have G := ok.gl g
  have L := dl_of hs
  cases p <;> simp only [callNm, Option.some.injEq] at h <;> first | (exact absurd h (by simp)) | subst h
  · exact de_callB call_len (by rw [K]; exact pl_len) G (ok.mgb _ (by decide +kernel)) (by decide +kernel) (by decide +kernel) (by decide +kernel) L
  · exact de_callT call_tuple_of (by rw [K]; exact pl_tuple) G (ok.mgb _ (by decide +kernel)) (by decide +kernel) (by decide +kernel) (by decide +kernel) L
  · exact de_callT (cr_listB ok.calm) (by rw [K]; exact pl_listB) G (ok.mgb _ (by decide +kernel)) (by decide +kernel) (by decide +kernel) (by decide +kernel) L
  · exact de_callB (cr_sum ok.calm) (by rw [K]; exact pl_sum) G (ok.mgb _ (by decide +kernel)) (by decide +kernel) (by decide +kernel) (by decide +kernel) L
  · exact de_callB (cr_all ok.calm) (by rw [K]; exact pl_all) G (ok.mgb _ (by decide +kernel)) (by decide +kernel) (by decide +kernel) (by decide +kernel) L
  · exact de_callB (cr_any ok.calm) (by rw [K]; exact pl_any) G (ok.mgb _ (by decide +kernel)) (by decide +kernel) (by decide +kernel) (by decide +kernel) L
  · exact de_callT call_int1 pl_int G (ok.mgb _ (by decide +kernel)) (by decide +kernel) (by decide +kernel) (by decide +kernel) L
  · exact de_callT call_str_int pl_str G (ok.mgb _ (by decide +kernel)) (by decide +kernel) (by decide +kernel) (by decide +kernel) L
  · exact de_callB (cr_sortedAny ok.calm) (by rw [K]; exact pl_sorted) G (ok.mgb _ (by decide +kernel)) (by decide +kernel) (by decide +kernel) (by decide +kernel) L
  · exact de_callB (cr_maxB ok.calm) (by rw [K]; exact pl_maxB) G (ok.mgb _ (by decide +kernel)) (by decide +kernel) (by decide +kernel) (by decide +kernel) L
  · exact de_callB (call_min2 ok.calm) pl_min G (ok.mgb _ (by decide +kernel)) (by decide +kernel) (by decide +kernel) (by decide +kernel) L
  · exact de_callB call_abs pl_abs G (ok.mgb _ (by decide +kernel)) (by decide +kernel) (by decide +kernel) (by decide +kernel) L
end
end Ev
/-! EvT: the look is right: expressions, all -/
namespace Ev
open PySem PySem.Spec PyProof.Rows L2
section
variable {X : Cx} {c : Cfg} {s : Sur} {ns : Nms} {C : Calls}
theorem it_of (ok : XOk X c s ns C) {ik : IK} {tg it : Expr} {xs : List Expr} {es : List E} (h : itArgs ns ik tg it = some xs) (hs : DEs X c C es xs) : PI X tg it (tDI c (fIt ik (evL C es))) := by
  have K := ok.K
  cases ik
  · simp only [itArgs] at h; cases h
    obtain ⟨a, rfl, ha⟩ := des_one hs
    rw [evL_one]; exact pd_vals K ha
  · simp only [itArgs] at h
    split at h
    · split at h
      · rename_i g; cases h
        simp only [Bool.and_eq_true, decide_eq_true_eq] at g
        obtain ⟨rfl, g⟩ := g
        exact pd_range1 (ok.gl g) (ok.mgb _ (by decide +kernel)) (dl_of hs)
      · cases h
    · split at h
      · rename_i g; cases h
        simp only [Bool.and_eq_true, decide_eq_true_eq] at g
        obtain ⟨rfl, g⟩ := g
        exact pd_range2 (ok.gl g) (ok.mgb _ (by decide +kernel)) (dl_of hs)
      · cases h
    · cases h
  · simp only [itArgs] at h
    split at h
    · split at h
      · rename_i g; cases h
        simp only [Bool.and_eq_true, decide_eq_true_eq] at g
        obtain ⟨rfl, g⟩ := g
        exact pd_enum (ok.gl g) (ok.mgb _ (by decide +kernel)) K (dl_of hs)
      · cases h
    · cases h
  · simp only [itArgs] at h
    split at h
    · split at h
      · rename_i g; cases h
        simp only [Bool.and_eq_true, decide_eq_true_eq] at g
        obtain ⟨rfl, g⟩ := g
        exact pd_zip3 (ok.gl g) (ok.mgb _ (by decide +kernel)) K (dl_of hs)
      · cases h
    · cases h
  · simp only [itArgs] at h
    split at h
    · split at h
      · rename_i g; cases h
        simp only [Bool.and_eq_true, decide_eq_true_eq] at g
        obtain ⟨rfl, g⟩ := g
        exact pd_rev (ok.gl g) (ok.mgb _ (by decide +kernel)) K (dl_of hs)
      · cases h
    · cases h
  · simp [itArgs] at h
theorem cmpPr_of (ok : XOk X c s ns C) {p : Pr} {a b : Expr} {op : CmpOp} {pos : Pos} {xs : List Expr} {es : List E} (h : cmpArgs p a op b = some xs) (hs : DEs X c C es xs) : DE X c (.Compare a [op] [b] pos) (fPr p (evL C es)) := by
  unfold cmpArgs at h
  split at h
  · split at h
    · cases h
      obtain ⟨a, rfl, ha⟩ := des_one hs
      rw [evL_one]; exact de_isN ha
    · cases h
  · split at h
    · cases h
      obtain ⟨a, rfl, ha⟩ := des_one hs
      rw [evL_one]; exact de_notN ha
    · cases h
  · split at h
    · rename_i g; cases h
      obtain ⟨a, b, rfl, ha, hb⟩ := des_two hs
      obtain ⟨r, h1, h2⟩ := cmp_of ok g
      rw [evL_two]; exact de_cmp h1 h2 ha hb
    · cases h
theorem sl_of (ok : XOk X c s ns C) {p : Pr} {a : Expr} {lo hi : Option Expr} {pos p2 : Pos} {xs : List Expr} {es : List E} (h : slArgs p a lo hi = some xs) (hs : DEs X c C es xs) : DE X c (.Subscript a (.Slice lo hi none p2) pos) (fPr p (evL C es)) := by
  have K := ok.K
  unfold slArgs at h
  split at h
  · cases h
    obtain ⟨a, rfl, ha⟩ := des_one hs
    rw [evL_one]; exact de_sl1 K ha
  · cases h
    obtain ⟨a, b, rfl, ha, hb⟩ := des_two hs
    rw [evL_two]; exact de_sl2 K ha hb
  · cases h
    obtain ⟨a, b, rfl, ha, hb⟩ := des_two hs
    rw [evL_two]; exact de_sl3 K ha hb
  · cases h
theorem isi_of (ok : XOk X c s ns C) {p : Pr} {T : Str} {a : Expr} {es : List E} {q1 q2 pos : Pos} (h : isiOk ns T p = true) (hs : DEs X c C es [a]) : DE X c (.Call (.Name "isinstance" q1) [a, .Name T q2] [] pos) (fPr p (evL C es)) := by
  unfold isiOk at h
  split at h
  · rename_i t
    simp only [Bool.and_eq_true, decide_eq_true_eq] at h
    obtain ⟨⟨⟨h1, rfl⟩, h3⟩, h4⟩ := h
    obtain ⟨a, rfl, ha⟩ := des_one hs
    rw [evL_one]
    have h1 : t ∈ tyNames := by simpa using h1
    have key : ∀ t ∈ tyNames, Str.ofString t ∈ bltNames ∧ bootBuiltins (Str.ofString t) = some (.type t) ∧ Str.ofString t ≠ ("__name__" : Str) ∧ (Str.ofString t == ("__debug__" : Str)) = false := by
      simp only [tyNames, List.mem_cons, List.not_mem_nil, or_false]
      rintro t (rfl | rfl | rfl | rfl | rfl | rfl) <;> exact ⟨by decide +kernel, by decide +kernel, by decide +kernel, by decide +kernel⟩
    obtain ⟨k1, k2, k3, k4⟩ := key t h1
    exact de_isi (ok.gl h4) (ok.mgb _ (by decide +kernel)) (ok.gl h3) (ok.mgb _ k1) t k2 k3 k4 ok.K ha
  · cases h
theorem callPr_of (ok : XOk X c s ns C) {p : Pr} {f : Str} {args xs : List Expr} {es : List E} {q pos : Pos} (h : callArgs ns p f args = some xs) (hs : DEs X c C es xs) : DE X c (.Call (.Name f q) args [] pos) (fPr p (evL C es)) := by
  unfold callArgs at h
  split at h
  · cases h
  · split at h
    · rename_i g
      have g := of_decide_eq_true g
      subst g
      split at h
      · rename_i g; cases h; exact isi_of ok g hs
      · cases h
    · split at h
      · rename_i g; cases h; exact call_of ok g.1 g.2 hs
      · cases h
  · split at h
    · rename_i g; cases h; exact call_of ok g.1 g.2 hs
    · cases h
theorem evL_fCons (a : E) (es : List E) : evL C (a :: es) = fCons (evE C a) (evL C es) := by funext δ; rw [evL]; rfl
theorem rev_of (ok : XOk X c s ns C) {a st : Expr} {pos p2 : Pos} {fa : DEnv → Res (R × DEnv)} (h : isM1 st = true) (ha : DE X c a fa) : DE X c (.Subscript a (.Slice none none (some st) p2) pos) (fPr .rev (fL1 fa)) := by
  unfold isM1 at h
  split at h
  · have h := of_decide_eq_true h
    subst h
    exact de_rev ok.K ha
  · cases h
theorem cmpA_of (ok : XOk X c s ns C) {p : Pr} {a b : Expr} {op : CmpOp} {pos : Pos} {xs : List Expr} {es : List E} (h : cmpA ns p a op b = some xs) (hs : DEs X c C es xs) : DE X c (.Compare a [op] [b] pos) (fPr p (evL C es)) := by
  unfold cmpA at h
  split at h
  · rename_i neg
    unfold rgArgs at h
    split at h
    · split at h
      · rename_i g; cases h
        simp only [Bool.and_eq_true, decide_eq_true_eq, Bool.not_eq_true'] at g
        obtain ⟨⟨rfl, rfl⟩, g⟩ := g
        cases hs with | cons h1 hs => cases hs with | cons h2 hs => cases hs with | cons h3 hs =>
        cases hs
        rw [evL_fCons]; exact de_inrg false (ok.gl g) (ok.mgb _ (by decide +kernel)) h1 (dl_of (.cons h2 (.cons h3 .nil)))
      · cases h
    · split at h
      · rename_i g; cases h
        simp only [Bool.and_eq_true, decide_eq_true_eq] at g
        obtain ⟨⟨rfl, rfl⟩, g⟩ := g
        cases hs with | cons h1 hs => cases hs with | cons h2 hs => cases hs with | cons h3 hs =>
        cases hs
        rw [evL_fCons]; exact de_inrg true (ok.gl g) (ok.mgb _ (by decide +kernel)) h1 (dl_of (.cons h2 (.cons h3 .nil)))
      · cases h
    · cases h
  · exact cmpPr_of ok h hs
theorem callA_of (ok : XOk X c s ns C) {p : Pr} {f : Str} {args xs : List Expr} {es : List E} {q pos : Pos} (h : callA ns p f args = some xs) (hs : DEs X c C es xs) : DE X c (.Call (.Name f q) args [] pos) (fPr p (evL C es)) := by
  unfold callA at h
  split at h
  · unfold rlArgs at h
    split at h
    · split at h
      · rename_i g; cases h
        simp only [Bool.and_eq_true, decide_eq_true_eq] at g
        obtain ⟨⟨⟨rfl, rfl⟩, g1⟩, g2⟩ := g
        obtain ⟨a, rfl, ha⟩ := des_one hs
        rw [evL_one]
        exact de_rlist ok.calm (ok.gl g1) (ok.mgb _ (by decide +kernel)) (ok.gl g2) (ok.mgb _ (by decide +kernel)) ha
      · cases h
    · cases h
  · unfold rlArgs2 at h
    split at h
    · split at h
      · rename_i g; cases h
        simp only [Bool.and_eq_true, decide_eq_true_eq] at g
        obtain ⟨⟨⟨rfl, rfl⟩, g1⟩, g2⟩ := g
        obtain ⟨a, b, rfl, ha, hb⟩ := des_two hs
        rw [evL_two]
        exact de_rlist2 ok.calm (ok.gl g1) (ok.mgb _ (by decide +kernel)) (ok.gl g2) (ok.mgb _ (by decide +kernel)) ha hb
      · cases h
    · cases h
  · unfold ssArgs at h
    split at h
    · split at h
      · rename_i g; cases h
        simp only [Bool.and_eq_true, decide_eq_true_eq] at g
        obtain ⟨⟨⟨rfl, rfl⟩, g1⟩, g2⟩ := g
        obtain ⟨a, rfl, ha⟩ := des_one hs
        rw [evL_one]
        exact de_ss ok.K ok.calm (ok.gl g2) (ok.mgb _ (by decide +kernel)) (ok.gl g1) (ok.mgb _ (by decide +kernel)) ha
      · cases h
    · cases h
  · exact callPr_of ok h hs
theorem pr_of (ok : XOk X c s ns C) {p : Pr} {e : Expr} {xs : List Expr} {es : List E} (h : prArgs ns p e = some xs) (hs : DEs X c C es xs) : DE X c e (evE C (.pr p es)) := by
  rw [evE_pr]
  unfold prArgs at h
  split at h
  · split at h
    · rename_i g; cases h
      obtain ⟨a, b, rfl, ha, hb⟩ := des_two hs
      obtain ⟨r, h1, h2⟩ := bin_of ok g
      rw [evL_two]; exact de_bin h1 h2 ha hb
    · cases h
  · split at h
    · rename_i g; cases h
      have g := of_decide_eq_true g
      subst g
      obtain ⟨a, rfl, ha⟩ := des_one hs
      rw [evL_one]; exact de_neg ha
    · cases h
  · exact cmpA_of ok h hs
  · split at h
    · exact sl_of ok h hs
    · split at h
      · rename_i g; cases h
        simp only [Bool.and_eq_true, decide_eq_true_eq] at g
        obtain ⟨g, rfl⟩ := g
        obtain ⟨a, rfl, ha⟩ := des_one hs
        rw [evL_one]; exact rev_of ok g ha
      · cases h
    · cases h
    · split at h
      · rename_i g; cases h
        rw [Bool.or_eq_true, decide_eq_true_eq, decide_eq_true_eq] at g
        obtain ⟨a, b, rfl, ha, hb⟩ := des_two hs
        obtain ⟨n, hr, _⟩ := ok.room
        have hu : X.A.units + 1 < cLine := by have := hr.units; omega
        rcases g with rfl | rfl
        · rw [evL_two]; exact de_ix ok.K ha hb
        · rw [evL_two]; exact de_didx ok.K hu ha hb
      · cases h
  · exact callA_of ok h hs
  · split at h
    · rename_i g; cases h
      simp only [Bool.and_eq_true, Bool.or_eq_true, decide_eq_true_eq] at g
      obtain ⟨⟨rfl, g⟩, g2⟩ := g
      obtain ⟨a, b, rfl, ha, hb⟩ := des_two hs
      obtain ⟨n, hr, _⟩ := ok.room
      have hu : X.A.units + 1 < cLine := by have := hr.units; omega
      rw [evL_two]
      rcases g2 with ⟨rfl, rfl⟩ | ⟨rfl, rfl⟩
      · exact de_dflt (cr_maxDf ok.calm hu) p2_maxd ok.K (ok.gl g) (ok.mgb _ (by decide +kernel)) (by decide +kernel) (by decide +kernel) (by decide +kernel) ha hb
      · exact de_dflt (cr_minDf ok.calm hu) p2_mind ok.K (ok.gl g) (ok.mgb _ (by decide +kernel)) (by decide +kernel) (by decide +kernel) (by decide +kernel) ha hb
    · cases h
  · split at h
    · rename_i g; cases h
      have g := of_decide_eq_true g
      subst g
      cases hs
      have : evL C [] = fun δ => .ok ([], δ) := by funext δ; rw [evL]
      rw [this]; exact de_dict0
    · cases h
  · split at h
    · split at h
      · rename_i g; cases h
        simp only [Bool.and_eq_true, decide_eq_true_eq] at g
        obtain ⟨⟨⟨⟨⟨g1, g2⟩, g3⟩, g4⟩, g5⟩, g6⟩ := g
        cases hs
        have : evL C [] = fun δ => .ok ([], δ) := by funext δ; rw [evL]
        rw [this]; exact de_dlit g1 g2 g3 g4 g5 g6
      · cases h
    · cases h
  · cases h
theorem names_of (ok : XOk X c s ns C) : ∀ {is : List Nat} {es : List Expr}, chkNames s ns is es = true → PGs X es (gNames is) ∧ (assignEach es X.env).length = is.length ∧ (assignEach es X.env).findIdx? (·.1) = none
  | [], [], _ => ⟨pgs_nil, rfl, rfl⟩
  | [], _ :: _, h => by cases h
  | _ :: _, [], h => by cases h
  | i :: is, e :: es, h => by
    cases e with
    | Name x pos =>
      simp only [chkNames, Bool.and_eq_true] at h
      obtain ⟨⟨h1, h2⟩, h3⟩ := h
      obtain ⟨a, b, d⟩ := names_of ok h3
      obtain ⟨l1, l2⟩ := ok.loc h2
      refine ⟨pgs_cons (pg_name (by rw [ok.N]; exact ok.nd) (ok.at h1).1 l1 l2) a, ?_, ?_⟩
      · show ((false, _) :: assignEach es X.env).length = _
        simp [b]
      · show ((false, _) :: assignEach es X.env).findIdx? (·.1) = _
        rw [List.findIdx?_cons]; simp [d]
    | _ => cases h
theorem tg_of (ok : XOk X c s ns C) {tg : Tg} {e : Expr} (h : chkTg s ns tg e = true) : PG X e (gD c tg) := by
  unfold chkTg at h
  split at h
  · simp only [Bool.and_eq_true] at h
    obtain ⟨l1, l2⟩ := ok.loc h.2
    exact pgd_nm (by rw [ok.N]; exact ok.nd) (ok.at h.1).1 l1 l2
  · obtain ⟨a, b, d⟩ := names_of ok h
    exact pgd_tup ok.calm ok.K a b d
  · cases h
end
end Ev
/-! EvU: the look is right: the whole -/
namespace Ev
open PySem PySem.Spec PyProof.Rows L2
section
variable {X : Cx} {c : Cfg} {s : Sur} {ns : Nms} {C : Calls}
structure CompD (X : Cx) (c : Cfg) (C : Calls) (tg' it' : Expr) (ifs' : List Expr) (scope : Scope) (el : Expr) (pr : List (Str × Nat)) (own : List Nat) (tg : Tg) (ik : IK) (it ifs : List E) (elt : E) : Prop where
  hi : PI X tg' it' (tDI c (fIt ik (evL C it)))
  ok : BlkOk X.N X.env.scope scope pr
  hp : pr.map (·.2) = own
  hT : ∀ j ∈ tgIx tg, j ∈ pr.map (·.2)
  B : DBlk X c scope tg' tg ifs' (evIfs C ifs) el (evE C elt)
  hs : ∀ x, foldedSetIterable it' X.env x = pure x
def tgIn (own : List Nat) (tg : Tg) : Bool := match tg with | .nm i => decide (i ∈ own) | .tup is => is.all fun i => decide (i ∈ own)
theorem ownP_map {own : List Nat} : (ownP s own).map (·.2) = own := by simp [ownP, Function.comp_def]
theorem comp_d (ok : XOk X c s ns C) {own : List Nat} {tg : Tg} {ik : IK} {it ifs : List E} {elt : E} {tg' it' el : Expr} {ifs' xs : List Expr} {scope : Scope}
    (h1 : blkB s ns scope (ownP s own) = true) (h2 : tgIn own tg = true) (h3 : chkTg s scope.names tg tg' = true) (h4 : notStar it' = true) (h5 : itArgs ns ik tg' it' = some xs) (h6 : DEs X c C it xs) (h7 : ifs'.length ≤ 1) (h8 : ifs'.all testable = true)
    (h9 : ∀ X' : Cx, XOk X' c s scope.names C → DEs X' c C ifs ifs') (h10 : ∀ X' : Cx, XOk X' c s scope.names C → DE X' c el (evE C elt)) : CompD X c C tg' it' ifs' scope el (ownP s own) own tg ik it ifs elt := by
  simp only [blkB, Bool.and_eq_true, List.all_eq_true, decide_eq_true_eq] at h1
  obtain ⟨⟨⟨b1, b2⟩, b3⟩, b4⟩ := h1
  have hk : scope.kind = .function := by revert b1; cases scope.kind <;> simp
  refine ⟨it_of ok h5 h6, ⟨hk, b2, by rw [ok.N]; exact b3, fun y hy e => ?_, fun y hy e => ?_⟩, ownP_map, ?_, ⟨?_, ?_, ?_⟩, fun x => fold_of h4⟩
  · have := b4 y hy
    rw [e] at this
    simp only [Bool.or_eq_true, decide_eq_true_eq] at this
    rcases this with q | q
    · rcases ok.nm _ _ q with z | ⟨z, _⟩
      · exact .inl z
      · cases z
    · rcases ok.nm _ _ q with z | ⟨_, z⟩
      · exact .inr z
      · exact .inl z
  · have := b4 y hy
    rw [ok.N]
    rcases e with e | e <;> (rw [e] at this; simpa only [Bool.or_eq_true, decide_eq_true_eq] using this)
  · rw [ownP_map]
    cases tg with
    | nm i => intro j hj; simp [tgIx] at hj; subst hj; simpa [tgIn] using h2
    | tup is => intro j hj; simp only [tgIx] at hj; simp only [tgIn, List.all_eq_true, decide_eq_true_eq] at h2; exact h2 j hj
  · exact fun sh H Cc cl fp => tg_of (ok.blk hk) h3
  · intro sh H Cc cl fp
    have q := h9 _ (ok.blk (sh := sh) (H := H) (cl := cl) (Cc := Cc) (fp := fp) hk)
    cases q with
    | nil =>
      have : evIfs C [] = fun δ => .ok (true, δ) := by funext δ; rw [evIfs]
      rw [this]; exact dts_nil
    | cons h hs =>
      cases hs with
      | nil =>
        rename_i a e
        have : evIfs C [a] = fIf1 (evE C a) := by
          funext δ; rw [evIfs]; unfold fIf1; congr 1
        rw [this]; exact dts_one (by simpa using h8) h
      | cons => simp at h7
  · exact fun sh H Cc cl fp => (h10 _ (ok.blk hk)).pe
theorem evE_comp (own : List Nat) (tg : Tg) (ik : IK) (it ifs : List E) (elt : E) : evE C (.comp own tg ik it ifs elt) = fComp own tg ik (evL C it) (evIfs C ifs) (evE C elt) := by
  funext δ; rw [evE]; rfl
theorem CompD.de {tg' it' el : Expr} {ifs' : List Expr} {scope : Scope} {pos : Pos} {pr : List (Str × Nat)} {own : List Nat} {tg : Tg} {ik : IK} {it ifs : List E} {elt : E} (d : CompD X c C tg' it' ifs' scope el pr own tg ik it ifs elt) (ok : XOk X c s ns C) :
    DE X c (.ListComp el [⟨tg', it', ifs', 0⟩] scope pos) (evE C (.comp own tg ik it ifs elt)) := by
  rw [evE_comp, ← d.hp]
  exact de_comp ok.calm (by rw [ok.N]; exact ok.nd) d.hi d.ok d.hT d.B d.hs
theorem join_base {o : Expr} {env : Env} {w : Sem Value} (h : joinOk o = true) : attributeBase o "join" env w = w := by
  cases o <;> first | rfl | cases h
theorem callE_of (ok : XOk X c s ns C) {f : Nat} {nm : Str} {q pos : Pos} {xs : List Expr} {es : List E} (h1 : s.nms[f]? = some nm) (h2 : isGl ns nm = true) (h3 : okNm nm = true) (hs : DEs X c C es xs) : DE X c (.Call (.Name nm q) xs [] pos) (evE C (.call f es)) := by
  have ev : evE C (.call f es) = fCall C f (evL C es) := by funext δ; rw [evE]; rfl
  obtain ⟨n, hr, hf⟩ := ok.room
  obtain ⟨fa, fd, ps, a1, a2, a3, a4⟩ := hf f nm h1
  rw [ev]
  cases hs with
  | nil =>
    have : evL C [] = fun δ => .ok ([], δ) := by funext δ; rw [evL]
    rw [this]; exact de_call0 a4 hr (ok.gl h2) a1 a2 a3 ok.K (okNm_and h3).1
  | cons h hs => exact de_call a4 hr (ok.gl h2) a1 a2 a3 ok.K (okNm_and h3).1 (dl_of (.cons h hs))
end
section
variable {c : Cfg} {s : Sur} {C : Calls}
mutual
theorem sndE : ∀ (ir : E) {e : Expr} {X : Cx} {ns : Nms}, XOk X c s ns C → chkE s ns ir e = true → DE X c e (evE C ir)
  | .con d, e, X, ns, ok, h => con_ok ok (by rw [chkE] at h; exact h)
  | .var i, e, X, ns, ok, h => by
    unfold chkE at h
    split at h
    · simp only [Bool.and_eq_true] at h
      obtain ⟨a1, a2, a3, a4⟩ := ok.at h.1
      have ev : evE C (.var i) = evVar i := by funext δ; rw [evE]; rfl
      rw [ev]; exact de_var a1 (ok.vis h.2) ok.K a2 a3
    · cases h
  | .tup es, e, X, ns, ok, h => by
    unfold chkE at h
    split at h
    · simp only [Bool.and_eq_true, decide_eq_true_eq] at h
      have ev : evE C (.tup es) = fTup (evL C es) := by funext δ; rw [evE]; rfl
      rw [ev]; exact de_tup h.1 (dl_of (sndL es ok h.2))
    · cases h
  | .lst es, e, X, ns, ok, h => by
    unfold chkE at h
    split at h
    · simp only [Bool.and_eq_true, decide_eq_true_eq] at h
      have ev : evE C (.lst es) = fLst (evL C es) := by funext δ; rw [evE]; rfl
      rw [ev]; exact de_lst h.1 (dl_of (sndL es ok h.2))
    · cases h
  | .pr p es, e, X, ns, ok, h => by
    unfold chkE at h
    split at h
    · rename_i xs g; exact pr_of ok g (sndL es ok h)
    · cases h
  | .and es, e, X, ns, ok, h => by
    unfold chkE at h
    split at h
    · simp only [Bool.and_eq_true, Bool.not_eq_true'] at h
      have ev : evE C (.and es) = evAnd C es := by funext δ; rw [evE]
      rw [ev]; exact (db_ands (sndL es ok h.2) h.1.1 h.1.2).de
    · cases h
  | .or es, e, X, ns, ok, h => by
    unfold chkE at h
    split at h
    · simp only [Bool.and_eq_true, Bool.not_eq_true'] at h
      have ev : evE C (.or es) = evOr C es := by funext δ; rw [evE]
      rw [ev]; exact (db_ors (sndL es ok h.2) h.1.1 h.1.2).de
    · cases h
  | .not a, e, X, ns, ok, h => by
    unfold chkE at h
    split at h
    · simp only [Bool.and_eq_true] at h
      have ev : evE C (.not a) = fNot (evE C a) := by funext δ; rw [evE]; rfl
      rw [ev]; exact de_not h.1 (sndE a ok h.2)
    · cases h
  | .ite t a b, e, X, ns, ok, h => by
    unfold chkE at h
    split at h
    · simp only [Bool.and_eq_true] at h
      have ev : evE C (.ite t a b) = fIte (evE C t) (evE C a) (evE C b) := by funext δ; rw [evE]; rfl
      rw [ev]; exact de_ite h.1.1.1 (sndE t ok h.1.1.2) (sndE a ok h.1.2) (sndE b ok h.2)
    · cases h
  | .chain p q a b d, e, X, ns, ok, h => by
    unfold chkE at h
    split at h
    · simp only [Bool.and_eq_true] at h
      obtain ⟨r1, o1, p1⟩ := cmp_of ok h.1.1.1.1
      obtain ⟨r2, o2, p2⟩ := cmp_of ok h.1.1.1.2
      have ev : evE C (.chain p q a b d) = fChain p q (evE C a) (evE C b) (evE C d) := by funext δ; rw [evE]; rfl
      rw [ev]; exact de_chain o1 o2 p1 p2 (sndE a ok h.1.1.2) (sndE b ok h.1.2) (sndE d ok h.2)
    · cases h
  | .sl2 a b d, e, X, ns, ok, h => by
    unfold chkE at h
    split at h
    · simp only [Bool.and_eq_true] at h
      have ev : evE C (.sl2 a b d) = fSl2 (evE C a) (evE C b) (evE C d) := by funext δ; rw [evE]; rfl
      rw [ev]; exact de_sl4 ok.K (sndE a ok h.1.1) (sndE b ok h.1.2) (sndE d ok h.2)
    · cases h
  | .sm p a b, e, X, ns, ok, h => by
    unfold chkE at h
    split at h
    · simp only [Bool.and_eq_true, decide_eq_true_eq] at h
      obtain ⟨⟨⟨⟨⟨rfl, rfl⟩, h3⟩, h4⟩, h5⟩, h6⟩ := h
      have ev : evE C (.sm .join a b) = fSm .join (evE C a) (evE C b) := by funext δ; rw [evE]; rfl
      rw [ev]; exact de_join ok.K h3 (join_base h4) (sndE a ok h5) (sndE b ok h6)
    · cases h
  | .call f es, e, X, ns, ok, h => by
    unfold chkE at h
    split at h
    · simp only [Bool.and_eq_true, decide_eq_true_eq] at h
      exact callE_of ok h.1.1.1 h.1.1.2 h.1.2 (sndL es ok h.2)
    · cases h
  | .comp own tg ik it ifs elt, e, X, ns, ok, h => by
    unfold chkE at h
    split at h
    · simp only [Bool.and_eq_true, decide_eq_true_eq] at h
      obtain ⟨⟨⟨⟨⟨⟨⟨⟨h1, h2⟩, h3⟩, h4⟩, h5⟩, h7⟩, h8⟩, h9⟩, h10⟩ := h
      split at h5
      · rename_i xs g
        exact (comp_d ok h1 (by unfold tgIn; exact h2) h3 h4 g (sndL it ok h5) h7 h8 (fun X' ok' => sndL ifs ok' h9) (fun X' ok' => sndE elt ok' h10)).de ok
      · cases h5
    · cases h
theorem sndL : ∀ (irs : List E) {es : List Expr} {X : Cx} {ns : Nms}, XOk X c s ns C → chkL s ns irs es = true → DEs X c C irs es
  | [], [], X, ns, ok, h => .nil
  | [], _ :: _, X, ns, ok, h => by unfold chkL at h; cases h
  | _ :: _, [], X, ns, ok, h => by unfold chkL at h; cases h
  | a :: irs, e :: es, X, ns, ok, h => by
    rw [chkL] at h
    simp only [Bool.and_eq_true] at h
    exact .cons (sndE a ok h.1) (sndL irs ok h.2)
end
end
end Ev
/-! EvV: the look is right: statements -/
namespace Ev
open PySem PySem.Spec PyProof.Rows L2
section
variable {X : Cx} {c : Cfg} {s : Sur} {ns : Nms} {C : Calls} {W : Nat}
theorem sw_none {e : Expr} {t : Option Expr} {l : Nat} {env : Env} (h : noComp e = true) : swapsWith e t l env = pure false := by
  cases e <;> first | rfl | cases h
theorem sw_cell {elt : Expr} {gs : List Comprehension} {scope : Scope} {pos py : Pos} {y : Str} {l : Nat} {env : Env} (hy : env.scope.names.lookup y = some .cell) : swapsWith (.ListComp elt gs scope pos) (some (.Name y py)) l env = pure false := by
  have ky : env.kindOf y = some .cell := hy
  have kz : (some NameKind.cell == some NameKind.local) = false := rfl
  unfold swapsWith
  simp only [ky, kz, Bool.and_false, Bool.false_and]
theorem chk_lc (ok : XOk X c s ns C) {ir : E} {el : Expr} {gs : List Comprehension} {scope : Scope} {pos : Pos} (h : chkE s ns ir (.ListComp el gs scope pos) = true) : ∃ own tg ik it ifs elt tg' it' ifs', ir = .comp own tg ik it ifs elt ∧ gs = [⟨tg', it', ifs', 0⟩] ∧ CompD X c C tg' it' ifs' scope el (ownP s own) own tg ik it ifs elt := by
  cases ir with
  | comp own tg ik it ifs elt =>
    unfold chkE at h
    split at h
    · rename_i heq
      cases heq
      simp only [Bool.and_eq_true, decide_eq_true_eq] at h
      obtain ⟨⟨⟨⟨⟨⟨⟨⟨h1, h2⟩, h3⟩, h4⟩, h5⟩, h7⟩, h8⟩, h9⟩, h10⟩ := h
      split at h5
      · rename_i xs g
        exact ⟨own, tg, ik, it, ifs, elt, _, _, _, rfl, rfl, comp_d ok h1 (by unfold tgIn; exact h2) h3 h4 g (sndL it ok h5) h7 h8 (fun X' ok' => sndL ifs ok' h9) (fun X' ok' => sndE elt ok' h10)⟩
      · cases h5
    · cases h
  | con d => unfold chkE at h; cases h
  | pr p es => unfold chkE at h; simp [prArgs] at h
  | _ => unfold chkE at h; cases h
theorem asg_of (ok : XOk X c s ns C) {i : Nat} {e : E} {x : Expr} {y : Str} {p' pos : Pos} (h1 : atS s i y = true) (h2 : isLoc ns y = true) (h3 : compAsg ns y p' x = true) (h4 : chkE s ns e x = true) : PS X (.Assign [.Name y p'] x pos) (tDS c (fAsg i (evE C e))) := by
  obtain ⟨l1, l2⟩ := ok.loc h2
  have hN : X.N.Nodup := by rw [ok.N]; exact ok.nd
  have hi := (ok.at h1).1
  have go : noComp x = true → PS X (.Assign [.Name y p'] x pos) (tDS c (fAsg i (evE C e))) := fun h => ds_asg hN hi l1 l2 (sndE e ok h4) (sw_none h)
  cases x with
  | ListComp el gs scope cp =>
    simp only [compAsg, Bool.or_eq_true, decide_eq_true_eq, Bool.and_eq_true, Bool.not_eq_true'] at h3
    rcases h3 with h3 | ⟨⟨h3, h5⟩, h6⟩
    · have hc : X.env.scope.names.lookup y = some .cell := by
        rcases ok.nm _ _ h3 with z | ⟨z, _⟩
        · exact z
        · cases z
      exact ds_asg hN hi l1 l2 (sndE e ok h4) (sw_cell hc)
    · have hc : X.env.scope.names.lookup y = some .local := by
        rcases ok.nm _ _ h3 with z | ⟨z, _⟩
        · exact z
        · cases z
      obtain ⟨own, tg, ik, it, ifs, elt, tg', it', ifs', rfl, rfl, d⟩ := chk_lc ok h4
      rw [evE_comp, ← d.hp]
      exact ds_asgC ok.calm hN hi hc (sw_true ok.kind hc h5 h6) d.hi d.ok d.hT d.B d.hs
  | _ => exact go h3
theorem augE_of (ok : XOk X c s ns C) {i : Nat} {p : Pr} {op : Operator} {e : E} {x : Expr} {y : Str} {p' pos : Pos} (h1 : atS s i y = true) (h2 : isLoc ns y = true) (h3 : augOk p op = true) (h4 : DE X c x (evE C e)) : PS X (.AugAssign (.Name y p') op x pos) (tDS c (fAug i p (evE C e))) := by
  obtain ⟨l1, l2⟩ := ok.loc h2
  have hN : X.N.Nodup := by rw [ok.N]; exact ok.nd
  have hi := (ok.at h1).1
  unfold augOk at h3
  split at h3
  · exact ds_aug hN hi l1 l2 h4 ip_addA p2_iadd
  · exact ds_aug hN hi l1 l2 h4 ip_subA p2_sub
  · cases h3
theorem chkTg_nm {tg : Tg} {y : Str} {p' : Pos} (h : chkTg s ns tg (.Name y p') = true) : ∃ i, tg = .nm i ∧ atS s i y = true ∧ isLoc ns y = true := by
  cases tg with
  | nm i => simp only [chkTg, Bool.and_eq_true] at h; exact ⟨i, rfl, h⟩
  | tup is => cases h
theorem chkTg_tup {tg : Tg} {es : List Expr} {k : Nat} {p' : Pos} (h : chkTg s ns tg (.Tuple es k p') = true) : ∃ is, tg = .tup is := by
  cases tg with
  | nm i => cases h
  | tup is => exact ⟨is, rfl⟩
theorem meth_of (ok : XOk X c s ns C) {k : MK} {i : Nat} {es : List E} {x m : Str} {xs : List Expr} {p1 p2 p3 pos : Pos} (h5 : (match k with | .append => xs.length == 1 | .extend => xs.length == 1 | .reverse => xs.length == 0 | .clear => false) = true) (h1 : atS s i x = true) (h2 : isVis ns x = true) (h3 : m = methNm k) (h4 : (p2.endLine == p3.line) = true) (h6 : DEs X c C es xs) :
    PS X (.Expr (.Call (.Attribute (.Name x p1) m p2) xs [] p3) pos) (tDS c (fMeth k i (evL C es))) := by
  obtain ⟨hi, a2, a3, _⟩ := ok.at h1
  have hv := ok.vis h2
  subst h3
  cases k with
  | append =>
    match xs, h5 with
    | [e], _ => exact ds_append hi hv a2 a3 h4 (dl_of h6)
  | extend =>
    match xs, h5 with
    | [e], _ => exact ds_extend ok.K hi hv a2 a3 h4 (dl_of h6)
  | reverse =>
    match xs, h5 with
    | [], _ =>
      cases h6
      have : evL C [] = fun δ => .ok ([], δ) := by funext δ; rw [evL]
      rw [this]; exact ds_reverse hi hv a2 a3 h4
  | clear => cases h5
end
section
variable {c : Cfg} {s : Sur} {C : Calls} {W : Nat}
mutual
theorem sndT : ∀ (t : T) {st : Stmt} {X : Cx} {ns : Nms}, XOk X c s ns C → chkT s ns t st = true → PS X st (tDS c (evT W C t))
  | .ex e, st, X, ns, ok, h => by
    unfold chkT at h
    split at h
    · simp only [Bool.and_eq_true] at h
      have ev : evT W C (.ex e) = fEx (evE C e) := by funext δ; rw [evT]; rfl
      rw [ev]; exact ds_ex (sndE e ok h.2) (sw_none h.1)
    · cases h
  | .asg tg e, st, X, ns, ok, h => by
    unfold chkT at h
    split at h
    · split at h
      · simp only [Bool.and_eq_true] at h
        obtain ⟨i, rfl, a1, a2⟩ := chkTg_nm h.1.1
        have ev : evT W C (.asg (.nm i) e) = fAsg i (evE C e) := by funext δ; rw [evT]; rfl
        rw [ev]; exact asg_of ok a1 a2 h.1.2 h.2
      · simp only [Bool.and_eq_true] at h
        have g := tg_of ok h.1.1.1
        obtain ⟨is, rfl⟩ := chkTg_tup h.1.1.1
        have ev : evT W C (.asg (.tup is) e) = fAsgT is (evE C e) := by funext δ; rw [evT]; rfl
        have q := sndE e ok h.2
        have n1 := h.1.1.2
        have n2 := h.1.2
        rw [ev]
        refine ds_asgT g q (by unfold swapsWithSole; exact sw_none n1) ?_ rfl
        rename_i x _ _ _ _ _
        clear h q n1
        cases x <;> first | rfl | cases n2
      · cases h
    · cases h
  | .aug i p e, st, X, ns, ok, h => by
    unfold chkT at h
    split at h
    · simp only [Bool.and_eq_true] at h
      have ev : evT W C (.aug i p e) = fAug i p (evE C e) := by funext δ; rw [evT]; rfl
      rw [ev]; exact augE_of ok h.1.1.1 h.1.1.2 h.1.2 (sndE e ok h.2)
    · cases h
  | .set i ix e, st, X, ns, ok, h => by
    unfold chkT at h
    split at h
    · simp only [Bool.and_eq_true] at h
      have ev : evT W C (.set i ix e) = fSet i (evE C ix) (evE C e) := by funext δ; rw [evT]; rfl
      obtain ⟨hi, a2, a3, _⟩ := ok.at h.1.1.1.1
      obtain ⟨n, hr, _⟩ := ok.room
      rw [ev]; exact ds_set (by have := hr.units; omega) hi (ok.vis h.1.1.1.2) a2 a3 (sndE ix ok h.1.2) (sndE e ok h.2) (by unfold swapsWithSole; exact sw_none h.1.1.2) rfl (sw_none h.1.1.2)
    · cases h
  | .meth k i es, st, X, ns, ok, h => by
    unfold chkT at h
    split at h
    · simp only [Bool.and_eq_true, decide_eq_true_eq] at h
      have ev : evT W C (.meth k i es) = fMeth k i (evL C es) := by funext δ; rw [evT]; rfl
      rw [ev]; exact meth_of ok h.1.2 h.1.1.1.1.1 h.1.1.1.1.2 h.1.1.1.2 h.1.1.2 (sndL es ok h.2)
    · cases h
  | .ite t a b, st, X, ns, ok, h => by
    unfold chkT at h
    split at h
    · simp only [Bool.and_eq_true] at h
      have ev : evT W C (.ite t a b) = fIf (evE C t) (evTs W C a) (evTs W C b) := by funext δ; rw [evT]; rfl
      rw [ev]; exact ds_if h.1.1.1 (sndE t ok h.1.1.2) (sndTs a ok h.1.2) (sndTs b ok h.2)
    · cases h
  | .wh t b, st, X, ns, ok, h => by
    unfold chkT at h
    split at h
    · simp only [Bool.and_eq_true] at h
      have ev : evT W C (.wh t b) = fWh W (evE C t) (evTs W C b) := by funext δ; rw [evT]; rfl
      rw [ev]; exact ds_wh ok.xe h.1.1 (sndE t ok h.1.2) (sndTs b ok h.2)
    · cases h
  | .fr tg ik it b, st, X, ns, ok, h => by
    unfold chkT at h
    split at h
    · simp only [Bool.and_eq_true] at h
      obtain ⟨⟨⟨h1, h2⟩, h3⟩, h4⟩ := h
      split at h3
      · rename_i xs g
        have ev : evT W C (.fr tg ik it b) = fFor tg ik (evL C it) (evTs W C b) := by funext δ; rw [evT]; rfl
        rw [ev]; exact ds_for ok.xe ok.calm (it_of ok g (sndL it ok h3)) (tg_of ok h1) (sndTs b ok h4) (fun x => fold_of h2)
      · cases h3
    · cases h
  | .ret e, st, X, ns, ok, h => by
    unfold chkT at h
    split at h
    · have ev : evT W C (.ret e) = fRet (evE C e) := by funext δ; rw [evT]; rfl
      rw [ev]; exact ds_ret (sndE e ok h)
    · cases h
  | .retN, st, X, ns, ok, h => by
    unfold chkT at h
    split at h
    · have ev : evT W C .retN = fun δ => .ok (.rt (.d .non), δ) := by funext δ; rw [evT]
      rw [ev]; exact ds_retN
    · cases h
  | .pass, st, X, ns, ok, h => by
    unfold chkT at h
    split at h
    · have ev : evT W C .pass = fun δ => .ok (.nx, δ) := by funext δ; rw [evT]
      rw [ev]; exact ds_pass
    · cases h
  | .brk, st, X, ns, ok, h => by
    unfold chkT at h
    split at h
    · have ev : evT W C .brk = fun δ => .ok (.bk, δ) := by funext δ; rw [evT]
      rw [ev]; exact ds_brk
    · cases h
  | .cnt, st, X, ns, ok, h => by
    unfold chkT at h
    split at h
    · have ev : evT W C .cnt = fun δ => .ok (.ct, δ) := by funext δ; rw [evT]
      rw [ev]; exact ds_cnt
    · cases h
  | .raise k, st, X, ns, ok, h => by
    have ev : evT W C (.raise k) = fun δ => .exc k := by funext δ; rw [evT]
    rw [ev]; exact ds_never
theorem sndTs : ∀ (ts : List T) {sts : List Stmt} {X : Cx} {ns : Nms}, XOk X c s ns C → chkTs s ns ts sts = true → PSs X sts (tDS c (evTs W C ts))
  | [], [], X, ns, ok, h => by
    have ev : evTs W C [] = fun δ => .ok (.nx, δ) := by funext δ; rw [evTs]
    rw [ev]; exact dss_nil
  | [], _ :: _, X, ns, ok, h => by unfold chkTs at h; cases h
  | _ :: _, [], X, ns, ok, h => by unfold chkTs at h; cases h
  | t :: ts, st :: sts, X, ns, ok, h => by
    unfold chkTs at h
    simp only [Bool.and_eq_true] at h
    have ev : evTs W C (t :: ts) = fSeq (evT W C t) (evTs W C ts) := by funext δ; rw [evTs]; rfl
    rw [ev]; exact dss_cons (sndT t ok h.1) (sndTs ts ok h.2)
end
end
end Ev
/-! EvW: the defs -/
namespace Ev
open PySem PySem.Spec PyProof.Rows L2
section
variable {K : PySem.W.Frag} {H H' : Hp} {O O' I : Addr → Prop} {ms : List Bool} {ds : List D} {vs : List V}
theorem argOk_len : ∀ {ms : List Bool} {ds : List D} {vs : List V}, ArgOk K H O I ms ds vs → ms.length = ds.length ∧ ds.length = vs.length
  | [], [], vs, h => by simp only [ArgOk] at h; subst h; exact ⟨rfl, rfl⟩
  | [], _ :: _, _, h => h.elim
  | _ :: _, [], _, h => h.elim
  | m :: ms, d :: ds, vs, h => by
    simp only [ArgOk] at h
    obtain ⟨v, vs', rfl, _, h⟩ := h
    obtain ⟨a, b⟩ := argOk_len h
    exact ⟨by simp [a], by simp [b]⟩
theorem argOk_get : ∀ {ms : List Bool} {ds : List D} {vs : List V} {i : Nat} {m : Bool} {d : D}, ArgOk K H O I ms ds vs → ms[i]? = some m → ds[i]? = some d → ∃ v, vs[i]? = some v ∧ (if m then ∃ a, v = V.ref a ∧ I a ∧ OwnAt K H O a d else Rep K H O d v)
  | [], [], _, _, _, _, _, e, _ => by simp at e
  | [], _ :: _, _, _, _, _, h, _, _ => h.elim
  | _ :: _, [], _, _, _, _, h, _, _ => h.elim
  | m0 :: ms, d0 :: ds, vs, 0, m, d, h, e, g => by
    simp only [ArgOk] at h
    obtain ⟨v, vs', rfl, q, _⟩ := h
    simp at e g; subst e g
    exact ⟨v, by simp, q⟩
  | m0 :: ms, d0 :: ds, vs, i + 1, m, d, h, e, g => by
    simp only [ArgOk] at h
    obtain ⟨v, vs', rfl, _, h⟩ := h
    obtain ⟨u, a, b⟩ := argOk_get (i := i) h (by simpa using e) (by simpa using g)
    exact ⟨u, by simpa using a, b⟩
def arg0 (z : Bool × D) : Option S := some (if z.1 then S.io false z.2 else S.p z.2)
theorem start0_get {fn : Fn} {i : Nat} {t : S} (hl : fn.ps.length = ds.length) (h : (start0 fn ds)[i]? = some (some t)) : ∃ m d, fn.ps[i]? = some m ∧ ds[i]? = some d ∧ t = (if m then S.io false d else S.p d) := by
  unfold start0 at h
  by_cases hi : i < ds.length
  · rw [List.getElem?_append_left (by simp [hl, hi])] at h
    rw [List.getElem?_map] at h
    have h1 : fn.ps[i]? = some (fn.ps[i]'(by omega)) := List.getElem?_eq_getElem _
    have h2 : ds[i]? = some ds[i] := List.getElem?_eq_getElem _
    have h3 : (fn.ps.zip ds)[i]? = some (fn.ps[i]'(by omega), ds[i]) := by rw [List.getElem?_zip_eq_some]; exact ⟨h1, h2⟩
    rw [h3] at h
    simp only [Option.map_some, Option.some.injEq] at h
    exact ⟨_, _, h1, h2, h.symm⟩
  · rw [List.getElem?_append_right (by simp [hl]; omega)] at h
    rw [List.getElem?_replicate] at h
    split at h <;> cases h
theorem start_get {N : List Str} {i : Nat} {v : V} (h : vs[i]? = some v) : (L2.start N vs)[i]? = some (some v) := by
  unfold L2.start
  have hi : i < vs.length := (List.getElem?_eq_some_iff.mp h).1
  rw [List.getElem?_append_left (by simpa using hi), List.getElem?_map, h]; rfl
theorem er_start {fn : Fn} {N : List Str} (ha : ArgOk K H O I fn.ps ds vs) (ap : IoApart fn.ps vs) (io : ∀ a, I a → O a) (tr : ∀ a, O a → ∃ o, H a = some o) (hn : fn.n = N.length) (hp : fn.ps.length ≤ N.length) :
    ER ⟨K, H, O, fun i a => fn.ps[i]? = some true ∧ vs[i]? = some (V.ref a) ∧ I a⟩ O (start0 fn ds) (L2.start N vs) H ∧ (∀ a, Slot (start0 fn ds) (L2.start N vs) a → O a) := by
  obtain ⟨l1, l2⟩ := argOk_len ha
  have slot : ∀ i a, SlotAt (start0 fn ds) (L2.start N vs) i a → fn.ps[i]? = some true ∧ vs[i]? = some (V.ref a) ∧ I a := fun i a ⟨q, e⟩ => by
    have key : ∀ t, (start0 fn ds)[i]? = some (some t) → (∀ d, t ≠ S.p d) → fn.ps[i]? = some true ∧ vs[i]? = some (V.ref a) ∧ I a := fun t ht hne => by
      obtain ⟨m, d, h1, h2, rfl⟩ := start0_get l1 ht
      cases m with
      | false => exact absurd rfl (hne d)
      | true =>
        obtain ⟨v, hv, b, rfl, Ib, _⟩ := argOk_get ha h1 h2
        rw [start_get hv] at e
        cases e
        exact ⟨h1, hv, Ib⟩
    rcases q with ⟨l, d, q⟩ | ⟨l, d, q⟩
    · exact key _ q (by intro d h; cases h)
    · exact key _ q (by intro d h; cases h)
  have sO : ∀ a, Slot (start0 fn ds) (L2.start N vs) a → O a := fun a ⟨i, q⟩ => io a (slot i a q).2.2
  have k : ∀ a o, ¬ O a → H a = some o → H a = some o ∧ ¬ All O (start0 fn ds) (L2.start N vs) a := fun a o n e => ⟨e, fun z => n (z.elim id (sO a))⟩
  refine ⟨⟨?_, tr, fun _ h => h, fun a ⟨i, h⟩ => io a h.2.2, tr, fun i t ht => ?_, fun i j a h1 h2 => ?_, fun _ _ _ e => e⟩, sO⟩
  · unfold start0 L2.start
    simp only [List.length_append, List.length_map, List.length_replicate, List.length_zip]
    omega
  · obtain ⟨m, d, h1, h2, rfl⟩ := start0_get l1 ht
    obtain ⟨v, hv, q⟩ := argOk_get ha h1 h2
    cases m with
    | false => exact ⟨v, start_get hv, Rep.tr k (by simpa using q)⟩
    | true =>
      obtain ⟨a, rfl, Ia, oa⟩ := q
      exact ⟨a, start_get hv, ⟨h1, hv, Ia⟩, oa.tr k fun o e => e⟩
  · obtain ⟨a1, a2, _⟩ := slot i a h1
    obtain ⟨b1, b2, _⟩ := slot j a h2
    exact ap i j a a1 b1 a2 b2
theorem iosOf_ok : ∀ {ms : List Bool} {δ : DEnv} {vs : List V} {l : List D}, iosOf ms δ = some l → ms.length = vs.length → (∀ (i : Nat) (lk : Bool) (d : D), ms[i]? = some true → δ[i]? = some (some (.io lk d)) → ∃ a, vs[i]? = some (V.ref a) ∧ OwnAt K H O a d) → IoOk K H O ms vs l
  | [], δ, vs, l, h, _, _ => by
    simp only [iosOf] at h; cases h; simp [IoOk]
  | m :: ms, δ, [], l, h, hl, _ => by simp at hl
  | true :: ms, δ, v :: vs, l, h, hl, q => by
    match δ, h with
    | some (.io lk d) :: δ, h =>
      simp only [iosOf] at h
      split at h
      · rename_i r e
        cases h
        obtain ⟨a, h1, h2⟩ := q 0 lk d rfl rfl
        simp at h1; subst h1
        exact ⟨d, r, rfl, ⟨a, rfl, h2⟩, iosOf_ok e (by simpa using hl) fun i lk d h1 h2 => by
          obtain ⟨b, h3, h4⟩ := q (i + 1) lk d (by simpa using h1) (by simpa using h2)
          exact ⟨b, by simpa using h3, h4⟩⟩
      · cases h
    | some (.p d) :: δ, h => simp [iosOf] at h
    | some (.m _ d) :: δ, h => simp [iosOf] at h
    | none :: δ, h => simp [iosOf] at h
    | [], h => simp [iosOf] at h
  | false :: ms, δ, v :: vs, l, h, hl, q => by
    match δ, h with
    | x :: δ, h =>
      simp only [iosOf] at h
      exact iosOf_ok (vs := vs) h (by simpa using hl) fun i lk d h1 h2 => by
        obtain ⟨b, h3, h4⟩ := q (i + 1) lk d (by simpa using h1) (by simpa using h2)
        exact ⟨b, by simpa using h3, h4⟩
    | [], h => simp [iosOf] at h
theorem fin_ok {fn : Fn} {δ0 δ' : DEnv} {σ0 σ' : L2.St} {r : R} {v : V} {z : D × Bool × List D} (E : ER ⟨K, H, O, fun i a => fn.ps[i]? = some true ∧ vs[i]? = some (V.ref a) ∧ I a⟩ O' δ' σ' H') (st : StR O δ0 σ0 H O' δ' σ' H') (s0 : ∀ a, Slot δ0 σ0 a → O a) (rr : RR K H O' δ' σ' H' r v)
    (hl : fn.ps.length = vs.length) (h : finF fn.ps δ' r = .ok z) : RetOk K H O I fn.ps vs z v H' (All O' δ' σ') := by
  unfold finF at h
  split at h
  · rename_i d b l e1 e2
    cases h
    refine ⟨fun a o n e => E.keep a o (fun ⟨i, h⟩ => n h.2.2) e, fun a h => .inl (E.sub a h), fun a h => ?_, fun a h => E.all_some h, fun hb => ?_, fun hb => ?_, ?_⟩
    · cases q : H a with
      | none => exact .inr rfl
      | some o =>
        refine .inl ?_
        refine Classical.byContradiction fun n => ?_
        exact (st.k a o (fun z => n (z.elim id (s0 a))) q).2 h
    · cases r with
      | d x => simp only [finR] at e1; cases e1; exact rr
      | o x => simp only [finR] at e1; cases e1; cases hb
      | h i =>
        simp only [finR] at e1
        split at e1
        · cases e1; cases hb
        · rename_i d' e3
          cases e1
          obtain ⟨v', h1, h2⟩ := E.sl i _ e3
          rw [rr.1] at h1; cases h1
          exact h2
        · cases e1
    · cases r with
      | d x => simp only [finR] at e1; cases e1; cases hb
      | o x =>
        simp only [finR] at e1; cases e1
        obtain ⟨a, h1, h2, h3, h4⟩ := rr
        exact ⟨a, h1, .inl h2, h3, h4⟩
      | h i =>
        simp only [finR] at e1
        split at e1
        · rename_i lk d' e3
          cases e1
          obtain ⟨a, h1, h2, h3, h4⟩ := E.sl i _ e3
          rw [rr.1] at h1; cases h1
          exact ⟨a, rfl, .inr ⟨i, .inl ⟨_, _, e3⟩, rr.1⟩, h3, h4⟩
        · cases e1; cases hb
        · cases e1
    · refine iosOf_ok e2 hl fun i lk d h1 h2 => ?_
      obtain ⟨a, g1, g2, g3⟩ := E.sl i _ h2
      exact ⟨a, g2.2.1, g3⟩
  · cases h
end
/-- a def of the table -/
structure DefOk (K : PySem.W.Frag) (mg : Str → Option Value) (nms : List Str) (consts : List (Str × D)) (nm : Str) (fn : Fn) (N ps : List Str) (st : Stmt) (fa : Addr) (fd : FuncData) : Prop where
  F : FunD K nm nm (defArgs st) (defBody st) (defScope st) [] [] fa fd
  S : FnScope N ps (defScope st)
  pl : fn.ps.length = ps.length
  nl : fn.n = N.length
  chk : chkTs ⟨N, nms, consts⟩ (defScope st).names fn.body (defBody st) = true
  mgf : mg nm = some (.ref fa)
  bd : Binds K fd ps []
structure TabOk (K : PySem.W.Frag) (mg : Str → Option Value) (nms : List Str) (consts : List (Str × D)) (tab : List Fn) : Prop where
  defs : ∀ (f : Nat) (nm : Str), nms[f]? = some nm → ∃ fn N ps st fa fd, tab[f]? = some fn ∧ DefOk K mg nms consts nm fn N ps st fa fd
  blt : ∀ b ∈ bltNames, mg b = none
  con : ∀ x d, consts.lookup x = some d → d.scal = true → ∃ u, mg x = some u ∧ RelV (toV d) u
theorem pre_len {N P : List Str} (h : N.take P.length = P) : P.length ≤ N.length := by
  have := congrArg List.length h
  simp at this; omega
abbrev Lvl (P : Program) (w : World) (K : PySem.W.Frag) (mg : Str → Option Value) (base : Heap) (nms : List Str) (tab : List Fn) (W n : Nat) : Prop := ∀ (f : Nat) (nm : Str), nms[f]? = some nm → ∃ fa fd ps, mg nm = some (.ref fa) ∧ PySem.W.keepIn K (.ref fa) = true ∧ Binds K fd ps [] ∧ FnOk P w K mg base CX0 n fa fd ps (spD K (calls W tab n) f)
theorem def_run {P : Program} {w : World} {K : PySem.W.Frag} {mg : Str → Option Value} {base : Heap} {nms : List Str} {consts : List (Str × D)} {tab : List Fn} {W : Nat} (T : TabOk K mg nms consts tab) {n f : Nat} {nm : Str} {fn : Fn} {N ps : List Str} {st : Stmt} {fa : Addr} {fd : FuncData}
    (ih : Lvl P w K mg base nms tab W n) (ht : tab[f]? = some fn) (D : DefOk K mg nms consts nm fn N ps st fa fd) : FnOk P w K mg base CX0 (n + 1) fa fd ps (spD K (calls W tab (n + 1)) f) := by
    have hmd : (calls W tab (n + 1)).md f = some fn.ps := by show (tab[f]?).map (·.ps) = _; rw [ht]; rfl
    refine D.F.ok D.S (fun vs H Q E h => ?_) fun cdv A outer s H vs Q E hr h => ?_
    · obtain ⟨ms, ds, z, O, I, hm, _, ha, _⟩ := h
      rw [hmd] at hm; cases hm
      obtain ⟨l1, l2⟩ := argOk_len ha
      rw [← l2, ← l1, D.pl]
    · obtain ⟨ms, ds, z, O, I, hm, hrun, ha, ap, io, hI, tr, q⟩ := h
      rw [hmd] at hm; cases hm
      obtain ⟨l1, l2⟩ := argOk_len ha
      obtain ⟨E0', s0⟩ := er_start ha ap io tr D.nl (by rw [D.pl]; exact pre_len D.S.pre)
      have ok : XOk (cxOf CX0 P w K mg base N nm (defScope st) fa cdv A outer s H E).nox ⟨K, H, O, fun i a => fn.ps[i]? = some true ∧ vs[i]? = some (V.ref a) ∧ I a⟩ ⟨N, nms, consts⟩ (defScope st).names (calls W tab n) :=
        ⟨rfl, rfl, rfl, D.S.nd, D.S.kind, fun x k e => .inl e, fun _ _ => rfl, T.blt, T.con, PassesOwn.never, n, hr, ih⟩
      refine ⟨_, (sndTs (W := W) fn.body ok D.chk).nox, O, start0 fn ds, E0', ?_⟩
      have hrun : (match tab[f]? with | some fn => runFn W (calls W tab n) fn ds | none => .stuck) = .ok z := hrun
      rw [ht] at hrun
      dsimp only at hrun
      unfold runFn at hrun
      rw [if_pos l1.symm] at hrun
      cases e : evTs W (calls W tab n) fn.body (start0 fn ds) with
      | exc k => rw [e] at hrun; cases hrun
      | stuck => rw [e] at hrun; cases hrun
      | ok y =>
        obtain ⟨fl, δ'⟩ := y
        rw [e] at hrun
        cases fl with
        | nx =>
          intro O' σ' H' E' st'
          exact q _ _ _ (fin_ok (fn := fn) E' st' s0 (r := .d .non) (v := .non) (by simp [RR, Rep]) (by omega) hrun)
        | rt r =>
          intro O' σ' H' v E' st' rr
          exact q _ _ _ (fin_ok (fn := fn) E' st' s0 rr (by omega) hrun)
        | bk => cases hrun
        | ct => cases hrun
theorem tab_run {P : Program} {w : World} {K : PySem.W.Frag} {mg : Str → Option Value} {base : Heap} {nms : List Str} {consts : List (Str × D)} {tab : List Fn} (W : Nat) (T : TabOk K mg nms consts tab) : ∀ (n : Nat), Lvl P w K mg base nms tab W n
  | 0 => fun f nm h => by
    obtain ⟨fn, N, ps, st, fa, fd, ht, D⟩ := T.defs f nm h
    refine ⟨fa, fd, ps, D.mgf, D.F.kp, D.bd, fun vs H Q E h => ?_, fun A outer s H args us vs Q E _ _ _ _ h => ?_⟩
    · obtain ⟨ms, ds, z, O, I, _, hr, _⟩ := h; simp [calls] at hr
    · obtain ⟨ms, ds, z, O, I, _, hr, _⟩ := h; simp [calls] at hr
  | n + 1 => fun f nm h => by
    obtain ⟨fn, N, ps, st, fa, fd, ht, D⟩ := T.defs f nm h
    exact ⟨fa, fd, ps, D.mgf, D.F.kp, D.bd, def_run T (tab_run W T n) ht D⟩
end Ev
/-! EvX: the law's end -/
namespace Ev
open PySem PySem.Spec PyProof.Rows L2
theorem law_sp {K : PySem.W.Frag} {C : Calls} {L : Nat} {ns : List Int} {a : Addr} {H : Hp} {E : XK} (hS : SqL K H a (ns.map V.int)) (hO : Only H) (hmd : C.md L = some [false]) (hrun : C.run L [.lst (ns.map D.int)] = .ok (.bl true, false, [])) :
    spD K C L [.ref a] H (fun v _ => v = .bl true) E := by
  have intsR : ∀ l : List Int, RepL K H (fun _ => False) (l.map D.int) (l.map V.int) := fun l => by
    induction l with
    | nil => exact RepL.nil
    | cons n l ih => exact RepL.cons (by simp [Rep]) ih
  refine ⟨[false], [.lst (ns.map D.int)], _, fun _ => False, fun _ => False, hmd, hrun, ⟨_, _, rfl, ?_, rfl⟩, fun i j b h => ?_, fun _ h => h, fun _ h => h.elim, fun _ h => h.elim, fun v H' O' R => ?_⟩
  · rw [if_neg Bool.false_ne_true]
    simp only [Rep]
    refine ⟨a, ns.map V.int, rfl, ?_, intsR ns⟩
    rcases hS with h | h
    · exact .inl ⟨fun h => h, h⟩
    · exact .inr h
  · cases i <;> simp at h
  · have := R.data rfl
    simpa [Rep] using this
theorem free_of {K : PySem.W.Frag} {h : Heap} {mg : Str → Option Value} {fa : List He.Fa} {fn : List He.DefD} (X : K.In h) (G : h.Ns mainGlobals mg) (c : He.SaysD fa fn K) {pre : List He.Fa} (e : fa = pre ++ bltNames.map .free) : ∀ b ∈ bltNames, mg b = none := fun b hb =>
  He.free_ok X G (c.facts (f := .free b) (by rw [e]; exact List.mem_append_right _ (List.mem_map_of_mem hb)))
theorem def_of {K : PySem.W.Frag} {h : Heap} {mg : Str → Option Value} {fa : List He.Fa} {fnD : List He.DefD} {nms : List Str} {consts : List (Str × D)} {nm : Str} {fn : Fn} {N ps : List Str} {st : Stmt} (X : K.In h) (G : h.Ns mainGlobals mg) (c : He.SaysD fa fnD K) (i : Nat)
    (hd : fnD[i]? = some ⟨(nm, none), nm, nm, defArgs st, defBody st, defScope st, [], []⟩) (hf : fa[i]? = some (.glo nm)) (S : FnScope N ps (defScope st)) (pl : fn.ps.length = ps.length) (nl : fn.n = N.length) (chk : chkTs ⟨N, nms, consts⟩ (defScope st).names fn.body (defBody st) = true)
    (bd : ∀ (kV doc pm : Value) (an : Option Addr) (cdv ct : Value) (us : List Value), us.length = ps.length → bindArgs (PySem.W.fnOf nm nm (defArgs st) (defBody st) (defScope st) .none kV doc pm an cdv ct) ⟨us, []⟩ = pure (ps.zip us)) :
    ∃ fd, DefOk K mg nms consts nm fn N ps st (He.ga K nm) fd := by
  obtain ⟨fd, F⟩ := c.def_ i hd
  exact ⟨fd, F, S, pl, nl, chk, He.glo_ok X G (c.fact i hf), FunD.bindsN F bd⟩
end Ev
set_option maxHeartbeats 2000000
/-! GenA: the drawn patterns of the laws: next, letters, leaf -/
namespace Ev
open PySem
def IsPool (d : D) : Prop := ∃ a b c, d = .lst [.int a, .int b, .int c]
def nextF : Fn := ⟨5, [true, false], [.ite (.pr .gt [(.pr .idx [(.var 0), (.con (.int 0))]), (.con (.int 0))]) [.asg (.nm 2) (.pr .mod [(.pr .idx [(.var 0), (.con (.int 0))]), (.var 1)]), .set 0 (.con (.int 0)) (.pr .fdiv [(.pr .idx [(.var 0), (.con (.int 0))]), (.var 1)]), .ret (.var 2)] [], .set 0 (.con (.int 2)) (.pr .add [(.pr .idx [(.var 0), (.con (.int 2))]), (.con (.int 1))]), .asg (.nm 3) (.pr .mod [(.pr .add [(.pr .idx [(.var 0), (.con (.int 1))]), (.pr .mul [(.con (.int 7919)), (.pr .idx [(.var 0), (.con (.int 2))])])]), (.con (.int 1000000007))]), .asg (.nm 4) (.pr .mod [(.pr .mul [(.pr .add [(.var 3), (.con (.int 11))]), (.pr .add [(.var 3), (.con (.int 48271))])]), (.con (.int 998244353))]), .ret (.pr .mod [(.pr .fdiv [(.pr .mod [(.pr .mul [(.var 4), (.var 4)]), (.con (.int 2147483647))]), (.con (.int 8))]), (.var 1)])]⟩
def poolF : Fn := ⟨1, [false], [.ret (.lst [(.pr .max [(.con (.int 0)), (.pr .sub [(.var 0), (.pr .pow [(.con (.int 10)), (.con (.int 18))])])]), (.pr .mod [(.var 0), (.pr .pow [(.con (.int 10)), (.con (.int 18))])]), (.con (.int 0))])]⟩
def lettersF (nx : Nat) : Fn := ⟨1, [true], [.ret (.pr .idx [(.lst [(.con (.str "ab")), (.con (.str "abc")), (.con (.str " ~")), (.con (.str "$&")), (.con (.str "(*+.")), (.con (.str "09AZaz"))]), (.call nx [(.var 0), (.con (.int 6))])])]⟩
def leafF (nx : Nat) : Fn := ⟨6, [true, false, false], [.asg (.nm 3) (.call nx [(.var 0), (.con (.int 8))]), .ite (.pr .eq [(.var 3), (.con (.int 0))]) [.ret (.tup [(.con (.str "none"))])] [], .ite (.and [(.pr .eq [(.var 3), (.con (.int 1))]), (.var 2)]) [.ret (.tup [(.con (.str "blank"))])] [], .asg (.nm 4) (.comp [5] (.nm 5) .vals [(.var 1)] [(.pr .eq [(.call nx [(.var 0), (.con (.int 2))]), (.con (.int 1))])] (.var 5)), .ite (.pr .eq [(.var 4), (.lst [])]) [.asg (.nm 4) (.lst [(.pr .idx [(.var 1), (.call nx [(.var 0), (.pr .len [(.var 1)])])])])] [], .ret (.tup [(.con (.str "sign")), (.sm .join (.con (.str "")) (.var 4))])]⟩
/-- numbers below base, the pool a pool again -/
structure NextOk (C : Calls) (nx : Nat) : Prop where
  md : C.md nx = some [true, false]
  run : ∀ (pool : D) (base : Int), IsPool pool → 0 < base → base < 1073741824 → ∃ v pool', 0 ≤ v ∧ v < base ∧ IsPool pool' ∧ C.run nx [pool, .int base] = .ok (.int v, false, [pool'])
theorem pEq_int (neg : Bool) (i j : Int) : pEq neg (.int i) (.int j) = some (.sc (.bl (if neg then !decide (i = j) else decide (i = j)))) := by
  simp [pEq, toPy, SeqAt.shaped, PyData.canLay0, PyData.depth, PyData.eqv]
  have hb : (i == j) = decide (i = j) := by
    by_cases h : i = j
    · simp [h]
    · rw [beq_eq_false_iff_ne.mpr h]; simp [h]
  rw [hb]
theorem next_run (W : Nat) (C : Calls) (pool : D) (base : Int) (hp : IsPool pool) (h1 : 0 < base) (h2 : base < 1073741824) : ∃ v pool', 0 ≤ v ∧ v < base ∧ IsPool pool' ∧ runFn W C nextF [pool, .int base] = .ok (.int v, false, [pool']) := by
  obtain ⟨a, b, c, rfl⟩ := hp
  by_cases ha : 0 < a
  · exact ⟨a % base, .lst [.int (a / base), .int b, .int c], Int.emod_nonneg _ (by omega), Int.emod_lt_of_pos _ h1, ⟨_, _, _, rfl⟩, by simp [runFn, evTs, evT, evE, evL, evAnd, evOr, evIfs, start0, resL, resR, S.val, pev, seqOf, L2.atI, dLt, PR.r, tstR, put, asgR, slotL, escR, escL, upS, setI, L2.ixN, finF, finR, iosOf, callR, loan, apart, okP, sameK, valIx, ioIx, putIos, frzL, isOwn, D.scal, D.flat, methD, bindTg, wipeD, canWipe, backV, backL, lockL, lockR, backR, S.lock, pIn, nextF, ha, h1, h2]⟩
  · have b1 : 0 ≤ (b + 7919 * (c + 1)) % 1000000007 := Int.emod_nonneg _ (by omega)
    have b2 : (b + 7919 * (c + 1)) % 1000000007 < 1000000007 := Int.emod_lt_of_pos _ (by omega)
    generalize hN : (b + 7919 * (c + 1)) % 1000000007 = N at b1 b2
    have c1 : 0 ≤ (N + 11) * (N + 48271) % 998244353 := Int.emod_nonneg _ (by omega)
    have c2 : (N + 11) * (N + 48271) % 998244353 < 998244353 := Int.emod_lt_of_pos _ (by omega)
    generalize hM : (N + 11) * (N + 48271) % 998244353 = M at c1 c2
    have m1 : -pow2 < N + 11 ∧ N + 11 < pow2 := by unfold pow2; omega
    have m2 : -pow2 < M ∧ M < pow2 := by unfold pow2; omega
    have m0 : -pow2 < 7919 ∧ 7919 < pow2 := by unfold pow2; omega
    refine ⟨M * M % 2147483647 / 8 % base, .lst [.int a, .int b, .int (c + 1)], Int.emod_nonneg _ (by omega), Int.emod_lt_of_pos _ h1, ⟨_, _, _, rfl⟩, ?_⟩
    simp [runFn, evTs, evT, evE, evL, evAnd, evOr, evIfs, start0, resL, resR, S.val, pev, seqOf, L2.atI, dLt, PR.r, tstR, put, asgR, slotL, escR, escL, upS, setI, L2.ixN, finF, finR, iosOf, callR, loan, apart, okP, sameK, valIx, ioIx, putIos, frzL, isOwn, D.scal, D.flat, methD, bindTg, wipeD, canWipe, backV, backL, lockL, lockR, backR, S.lock, pIn, nextF, ha, h1, h2, m0, m1, m2, hN, hM]
theorem pool_run (W : Nat) (C : Calls) (c : Int) : ∃ pool, IsPool pool ∧ runFn W C poolF [.int c] = .ok (pool, true, []) :=
  ⟨.lst [.int (if 1000000000000000000 < c then c - 1000000000000000000 else 0), .int (c % 1000000000000000000), .int 0], ⟨_, _, _, rfl⟩, by simp [runFn, evTs, evT, evE, evL, evAnd, evOr, evIfs, start0, resL, resR, S.val, pev, seqOf, L2.atI, dLt, PR.r, tstR, put, asgR, slotL, escR, escL, upS, setI, L2.ixN, finF, finR, iosOf, callR, loan, apart, okP, sameK, valIx, ioIx, putIos, frzL, isOwn, D.scal, D.flat, methD, bindTg, wipeD, canWipe, backV, backL, lockL, lockR, backR, S.lock, pIn, poolF]⟩
abbrev lets : List Nat := [97, 98, 99, 32, 126, 36, 38, 40, 42, 43, 46, 48, 57, 65, 90, 122]
def someText (x : Str) : Prop := 1 ≤ x.length ∧ x.length ≤ 1000 ∧ PyData.strOk x = true ∧ x.cps.toList.Pairwise (· < ·) ∧ ∀ c ∈ x.cps.toList, c ∈ lets
theorem letters_run (W : Nat) (C : Calls) {nx : Nat} (N : NextOk C nx) (pool : D) (hp : IsPool pool) : ∃ x pool', someText x ∧ IsPool pool' ∧ runFn W C (lettersF nx) [pool] = .ok (.str x, false, [pool']) := by
  obtain ⟨v, pool', h0, h1, hp', hr⟩ := N.run pool 6 hp (by omega) (by omega)
  have hm := N.md
  have hv : v = 0 ∨ v = 1 ∨ v = 2 ∨ v = 3 ∨ v = 4 ∨ v = 5 := by omega
  rcases hv with rfl | rfl | rfl | rfl | rfl | rfl
  · exact ⟨"ab", pool', by unfold someText; decide +kernel, hp', by simp [runFn, evTs, evT, evE, evL, evAnd, evOr, evIfs, start0, resL, resR, S.val, pev, seqOf, L2.atI, dLt, PR.r, tstR, put, asgR, slotL, escR, escL, upS, setI, L2.ixN, finF, finR, iosOf, callR, loan, apart, okP, sameK, valIx, ioIx, putIos, frzL, isOwn, D.scal, D.flat, methD, bindTg, wipeD, canWipe, backV, backL, lockL, lockR, backR, S.lock, pIn, lettersF, hm, hr]⟩
  · exact ⟨"abc", pool', by unfold someText; decide +kernel, hp', by simp [runFn, evTs, evT, evE, evL, evAnd, evOr, evIfs, start0, resL, resR, S.val, pev, seqOf, L2.atI, dLt, PR.r, tstR, put, asgR, slotL, escR, escL, upS, setI, L2.ixN, finF, finR, iosOf, callR, loan, apart, okP, sameK, valIx, ioIx, putIos, frzL, isOwn, D.scal, D.flat, methD, bindTg, wipeD, canWipe, backV, backL, lockL, lockR, backR, S.lock, pIn, lettersF, hm, hr]⟩
  · exact ⟨" ~", pool', by unfold someText; decide +kernel, hp', by simp [runFn, evTs, evT, evE, evL, evAnd, evOr, evIfs, start0, resL, resR, S.val, pev, seqOf, L2.atI, dLt, PR.r, tstR, put, asgR, slotL, escR, escL, upS, setI, L2.ixN, finF, finR, iosOf, callR, loan, apart, okP, sameK, valIx, ioIx, putIos, frzL, isOwn, D.scal, D.flat, methD, bindTg, wipeD, canWipe, backV, backL, lockL, lockR, backR, S.lock, pIn, lettersF, hm, hr]⟩
  · exact ⟨"$&", pool', by unfold someText; decide +kernel, hp', by simp [runFn, evTs, evT, evE, evL, evAnd, evOr, evIfs, start0, resL, resR, S.val, pev, seqOf, L2.atI, dLt, PR.r, tstR, put, asgR, slotL, escR, escL, upS, setI, L2.ixN, finF, finR, iosOf, callR, loan, apart, okP, sameK, valIx, ioIx, putIos, frzL, isOwn, D.scal, D.flat, methD, bindTg, wipeD, canWipe, backV, backL, lockL, lockR, backR, S.lock, pIn, lettersF, hm, hr]⟩
  · exact ⟨"(*+.", pool', by unfold someText; decide +kernel, hp', by simp [runFn, evTs, evT, evE, evL, evAnd, evOr, evIfs, start0, resL, resR, S.val, pev, seqOf, L2.atI, dLt, PR.r, tstR, put, asgR, slotL, escR, escL, upS, setI, L2.ixN, finF, finR, iosOf, callR, loan, apart, okP, sameK, valIx, ioIx, putIos, frzL, isOwn, D.scal, D.flat, methD, bindTg, wipeD, canWipe, backV, backL, lockL, lockR, backR, S.lock, pIn, lettersF, hm, hr]⟩
  · exact ⟨"09AZaz", pool', by unfold someText; decide +kernel, hp', by simp [runFn, evTs, evT, evE, evL, evAnd, evOr, evIfs, start0, resL, resR, S.val, pev, seqOf, L2.atI, dLt, PR.r, tstR, put, asgR, slotL, escR, escL, upS, setI, L2.ixN, finF, finR, iosOf, callR, loan, apart, okP, sameK, valIx, ioIx, putIos, frzL, isOwn, D.scal, D.flat, methD, bindTg, wipeD, canWipe, backV, backL, lockL, lockR, backR, S.lock, pIn, lettersF, hm, hr]⟩
end Ev
set_option maxHeartbeats 2000000
/-! GenB: patterns, a leaf drawn -/
namespace Ev
open PySem
inductive Pat where
  | none | blank | sign (x : Str) | row (ps : List Pat) | pick (ps : List Pat) | again (p : Pat) | held (x : Str) (p : Pat) | price (n : Int) (p : Pat)
mutual
def enc : Pat → D
  | .none => .tup [.str "none"]
  | .blank => .tup [.str "blank"]
  | .sign x => .tup [.str "sign", .str x]
  | .row ps => .tup [.str "row", .tup (encL ps)]
  | .pick ps => .tup [.str "pick", .tup (encL ps)]
  | .again p => .tup [.str "again", enc p]
  | .held x p => .tup [.str "held", .str x, enc p]
  | .price n p => .tup [.str "price", .int n, enc p]
def encL : List Pat → List D
  | [] => []
  | p :: ps => enc p :: encL ps
end
mutual
def Pat.blk : Pat → Bool
  | .none => false
  | .blank => true
  | .sign _ => false
  | .row ps => allBlk ps
  | .pick ps => anyBlk ps
  | .again _ => true
  | .held _ p => p.blk
  | .price _ p => p.blk
def allBlk : List Pat → Bool
  | [] => true
  | p :: ps => p.blk && allBlk ps
def anyBlk : List Pat → Bool
  | [] => false
  | p :: ps => p.blk || anyBlk ps
end
/-- a text of a sign make -/
structure SignOk (x : Str) : Prop where
  ne : x.cps.toList ≠ []
  rise : x.cps.toList.Pairwise (· < ·)
  lets : ∀ c ∈ x.cps.toList, c ∈ lets
def Leaf (p : Pat) : Prop := p = .none ∨ p = .blank ∨ ∃ x : Str, SignOk x ∧ p = .sign x
theorem pEq_nil (neg : Bool) : pEq neg (.lst []) (.lst []) = some (.sc (.bl (!neg))) := by
  simp [pEq, toPy, toPyL, SeqAt.shaped, PyData.canLay0, PyData.canLayAll0, PyData.depth, PyData.depthAll, PyData.eqv, PyData.eqvAll]
theorem leaf_loop {C : Calls} {nx : Nat} (N : NextOk C nx) (L B V : D) (s4 : Option S) : ∀ (items : List Nat) (pool : D) (acc : List D) (s5 : Option S), IsPool pool → acc.length + items.length ≤ 2000 →
    ∃ (pool' : D) (ys : List Nat) (s5' : Option S), IsPool pool' ∧ ys.Sublist items ∧ compLoop [5] (.nm 5) (fun δ => evIfs C [.pr .eq [.call nx [.var 0, .con (.int 2)], .con (.int 1)]] δ) (fun δ => evE C (.var 5) δ) (items.map chr) [some (.io false pool), some (.p L), some (.p B), some (.p V), s4, s5] acc
      = .ok (acc ++ ys.map chr, [some (.io false pool'), some (.p L), some (.p B), some (.p V), s4, s5'])
  | [], pool, acc, s5, hp, _ => ⟨pool, [], s5, hp, .slnil, by simp [compLoop]⟩
  | x :: items, pool, acc, s5, hp, hl => by
    obtain ⟨v, pool1, h0, h1, hp1, hr⟩ := N.run pool 2 hp (by omega) (by omega)
    have hm := N.md
    simp only [List.length_cons] at hl
    by_cases hv : v = 1
    · obtain ⟨pool', ys, s5', hp', hy, e⟩ := leaf_loop N L B V s4 items pool1 (acc ++ [chr x]) (some (.p (chr x))) hp1 (by simp; omega)
      refine ⟨pool', x :: ys, s5', hp', hy.cons₂ x, ?_⟩
      have hc : acc.length < 1000000 := by omega
      simp only [List.map_cons, List.append_assoc, List.singleton_append, List.cons_append, List.nil_append] at e ⊢
      rw [← e]
      conv => lhs; unfold compLoop
      simp [runFn, evTs, evT, evE, evL, evAnd, evOr, evIfs, start0, resL, resR, S.val, pev, seqOf, L2.atI, dLt, PR.r, tstR, put, asgR, slotL, escR, escL, upS, setI, L2.ixN, finF, finR, iosOf, callR, loan, apart, okP, sameK, valIx, ioIx, putIos, frzL, isOwn, D.scal, D.flat, methD, bindTg, wipeD, canWipe, backV, backL, lockL, lockR, backR, S.lock, pIn, hm, hr, pEq_int, hv, hc]
    · obtain ⟨pool', ys, s5', hp', hy, e⟩ := leaf_loop N L B V s4 items pool1 acc (some (.p (chr x))) hp1 (by omega)
      refine ⟨pool', ys, s5', hp', hy.cons x, ?_⟩
      rw [← e]
      simp only [List.map_cons]
      conv => lhs; unfold compLoop
      simp [runFn, evTs, evT, evE, evL, evAnd, evOr, evIfs, start0, resL, resR, S.val, pev, seqOf, L2.atI, dLt, PR.r, tstR, put, asgR, slotL, escR, escL, upS, setI, L2.ixN, finF, finR, iosOf, callR, loan, apart, okP, sameK, valIx, ioIx, putIos, frzL, isOwn, D.scal, D.flat, methD, bindTg, wipeD, canWipe, backV, backL, lockL, lockR, backR, S.lock, pIn, hm, hr, pEq_int, hv]
end Ev
set_option maxHeartbeats 2000000
/-! GenC: a leaf drawn -/
namespace Ev
open PySem
def one (c : Nat) : Str := ⟨#[c]⟩
theorem strsD_chr : ∀ ys : List Nat, strsD (ys.map chr) = some (ys.map one)
  | [] => rfl
  | y :: ys => by
    show (match strsD (ys.map chr) with | some r => some (one y :: r) | none => none) = _
    rw [strsD_chr ys]; rfl
theorem sum_one : ∀ ys : List Nat, ((ys.map one).map (·.length)).sum = ys.length
  | [] => rfl
  | y :: ys => by
    have : (one y).length = 1 := rfl
    simp only [List.map_cons, List.sum_cons, this, sum_one ys, List.length_cons]; omega
theorem fold_ok (P : Nat → Prop) (g : Str) (hg : ∀ c ∈ g.cps, P c) : ∀ (ps : List Str) (acc : Array Nat), (∀ c ∈ acc, P c) → (∀ p ∈ ps, ∀ c ∈ p.cps, P c) → ∀ c ∈ ps.foldl (fun acc p => acc ++ g.cps ++ p.cps) acc, P c
  | [], acc, h, _ => h
  | p :: ps, acc, h, h2 => fold_ok P g hg ps _ (fun c hc => by
      simp only [Array.mem_append] at hc
      rcases hc with (hc | hc) | hc
      · exact h c hc
      · exact hg c hc
      · exact h2 p List.mem_cons_self c hc) fun q hq => h2 q (List.mem_cons_of_mem _ hq)
theorem join_ok (P : Nat → Prop) (g : Str) (hg : ∀ c ∈ g.cps, P c) (ps : List Str) (h : ∀ p ∈ ps, ∀ c ∈ p.cps, P c) : ∀ c ∈ (Txt.join g ps).cps, P c := by
  cases ps with
  | nil => intro c hc; exact absurd hc (by simp [Txt.join, Builtin.Str.glued, Str.empty])
  | cons p ps =>
    exact fold_ok P g hg ps p.cps (h p List.mem_cons_self) fun q hq => h q (List.mem_cons_of_mem _ hq)
theorem strOk_iff {x : Str} : PyData.strOk x = true ↔ ∀ c ∈ x.cps, c < 0x110000 := by
  unfold PyData.strOk
  simp only [Array.all_eq_true, decide_eq_true_eq]
  constructor
  · intro h c hc
    obtain ⟨i, hi, rfl⟩ := Array.mem_iff_getElem.mp hc
    exact h i hi
  · exact fun h i hi => h _ (Array.getElem_mem hi)
theorem join_one {x : Str} (hx : PyData.strOk x = true) (ys : List Nat) (h : ∀ c ∈ ys, c ∈ x.cps.toList) : PyData.strOk (Txt.join ("" : Str) (ys.map one)) = true := by
  rw [strOk_iff] at hx ⊢
  refine join_ok _ _ (fun c hc => absurd hc (by simp [Str.ofString_eq_toList])) _ fun p hp c hc => ?_
  obtain ⟨y, hy, rfl⟩ := List.mem_map.mp hp
  have : c = y := by simpa [one] using hc
  subst this
  exact hx c (by simpa using h c hy)
theorem fold_cat (g : Str) (hg : g.cps.toList = []) : ∀ (ps : List Str) (acc : Array Nat), (ps.foldl (fun acc p => acc ++ g.cps ++ p.cps) acc).toList = acc.toList ++ (ps.map (·.cps.toList)).flatten
  | [], acc => by simp
  | p :: ps, acc => by
    rw [List.foldl_cons, fold_cat g hg ps]
    simp [hg]
theorem flat_one : ∀ ys : List Nat, ((ys.map one).map (·.cps.toList)).flatten = ys
  | [] => rfl
  | y :: ys => by
    show (one y).cps.toList ++ ((ys.map one).map (·.cps.toList)).flatten = _
    rw [flat_one ys]; rfl
theorem join_cps (g : Str) (hg : g.cps.toList = []) (ys : List Nat) : (Txt.join g (ys.map one)).cps.toList = ys := by
  cases ys with
  | nil => rfl
  | cons y ys =>
    show (((ys.map one).foldl (fun acc p => acc ++ g.cps ++ p.cps) (one y).cps).toList) = _
    rw [fold_cat g hg, flat_one]; rfl
theorem SignOk.str {x : Str} (h : SignOk x) : PyData.strOk x = true := strOk_iff.mpr fun c hc => by
  have h1 := h.lets c (by simpa using hc)
  have h2 : ∀ c ∈ Ev.lets, c < 0x110000 := by decide +kernel
  exact h2 c h1
theorem sign_ok {x : Str} (hx : someText x) {ys : List Nat} (hs : ys.Sublist x.cps.toList) (h0 : ys ≠ []) : SignOk (Txt.join ("" : Str) (ys.map one)) := by
  have e := join_cps ("" : Str) (by decide +kernel) ys
  exact ⟨by rw [e]; exact h0, by rw [e]; exact hx.2.2.2.1.sublist hs, fun c hc => by rw [e] at hc; exact hx.2.2.2.2 c (hs.subset hc)⟩
theorem toPyL_chr : ∀ ys : List Nat, toPyL (ys.map chr) = some (ys.map fun c => PyData.str (one c))
  | [] => rfl
  | y :: ys => by
    show (match (some (PyData.str (one y))) with | some a => (match toPyL (ys.map chr) with | some r => some (a :: r) | none => none) | none => none) = _
    rw [toPyL_chr ys]; rfl
theorem lay_chr : ∀ ys : List Nat, (∀ c ∈ ys, c < 0x110000) → PyData.canLayAll0 (ys.map fun c => PyData.str (one c)) = true ∧ PyData.depthAll (ys.map fun c => PyData.str (one c)) = 0
  | [], _ => ⟨rfl, rfl⟩
  | y :: ys, h => by
    obtain ⟨a, b⟩ := lay_chr ys fun c hc => h c (List.mem_cons_of_mem _ hc)
    have hy := h y List.mem_cons_self
    refine ⟨?_, ?_⟩
    · show (PyData.strOk (one y) && PyData.canLayAll0 _) = true
      rw [a, Bool.and_true]
      exact strOk_iff.mpr fun c hc => by have : c = y := by simpa [one] using hc
                                         omega
    · show max 0 (PyData.depthAll _) = 0
      rw [b]; rfl
theorem pEq_chr (y : Nat) (ys : List Nat) (h : ∀ c ∈ y :: ys, c < 0x110000) : pEq false (.lst ((y :: ys).map chr)) (.lst []) = some (.sc (.bl false)) := by
  obtain ⟨a, b⟩ := lay_chr (y :: ys) h
  have e : toPy (.lst ((y :: ys).map chr)) = some (.list ((y :: ys).map fun c => PyData.str (one c))) := by
    show (match toPyL ((y :: ys).map chr) with | some r => some (PyData.list r) | none => none) = _
    rw [toPyL_chr]
  unfold pEq
  rw [e]
  have s1 : SeqAt.shaped (.list ((y :: ys).map fun c => PyData.str (one c))) = true := by
    show (PyData.canLayAll0 _ && decide (PyData.depthAll _ + 1 ≤ 64)) = true
    rw [a, b]; rfl
  show (if (SeqAt.shaped _ && SeqAt.shaped (.list [])) = true then _ else _) = _
  rw [s1]
  rfl
abbrev leafIte (nx : Nat) : T := .ite (.pr .eq [(.var 4), (.lst [])]) [.asg (.nm 4) (.lst [(.pr .idx [(.var 1), (.call nx [(.var 0), (.pr .len [(.var 1)])])])])] []
abbrev leafRet : T := .ret (.tup [(.con (.str "sign")), (.sm .join (.con (.str "")) (.var 4))])
abbrev leafSt (pool : D) (x : Str) (B V : D) (ys : List Nat) (s5 : Option S) : DEnv := [some (.io false pool), some (.p (.str x)), some (.p B), some (.p V), some (.m false (.lst (ys.map chr))), s5]
theorem leaf_ret {W : Nat} {C : Calls} (pool : D) (x : Str) (B V : D) (ys : List Nat) (hy : ys.length ≤ 1000) (s5 : Option S) : evT W C leafRet (leafSt pool x B V ys s5) = .ok (.rt (.d (enc (.sign (Txt.join ("" : Str) (ys.map one))))), leafSt pool x B V ys s5) := by
  have hc : ys.length ≤ 1000000 := by omega
  have h0 : ("" : Str).length = 0 := rfl
  have hj : pev .join [.str "", .lst (ys.map chr)] = some (.sc (.str (Txt.join ("" : Str) (ys.map one)))) := by
    simp only [pev, seqOf, strsD_chr, sum_one, List.length_map, h0]
    rw [if_pos (by simp; omega)]
  simp [evT, evE, evL, resR, S.val, hj, PR.r, escL, escR, enc]
theorem leaf_ite {W : Nat} {C : Calls} {nx : Nat} (N : NextOk C nx) (x : Str) (hx : someText x) (B V : D) (pool : D) (hp : IsPool pool) (ys : List Nat) (hy : ys.length ≤ 1000) (hm : ys.Sublist x.cps.toList) (s5 : Option S) :
    ∃ (pool' : D) (zs : List Nat), IsPool pool' ∧ zs.length ≤ 1000 ∧ (zs.Sublist x.cps.toList ∧ zs ≠ []) ∧ evT W C (leafIte nx) (leafSt pool x B V ys s5) = .ok (.nx, leafSt pool' x B V zs s5) := by
  have md := N.md
  cases ys with
  | cons y ys =>
    have he := pEq_chr y ys fun c hc => strOk_iff.mp hx.2.2.1 c (by simpa using hm.subset hc)
    refine ⟨pool, y :: ys, hp, hy, ⟨hm, by simp⟩, ?_⟩
    simp only [List.map_cons] at he
    simp [runFn, evTs, evT, evE, evL, evAnd, evOr, evIfs, start0, resL, resR, S.val, pev, seqOf, L2.atI, dLt, PR.r, tstR, put, asgR, slotL, escR, escL, upS, setI, L2.ixN, finF, finR, iosOf, callR, loan, apart, okP, sameK, valIx, ioIx, putIos, frzL, isOwn, D.scal, D.flat, methD, bindTg, wipeD, canWipe, backV, backL, lockL, lockR, backR, S.lock, pIn, he]
  | nil =>
    have hl : (0 : Int) < (x.length : Int) := by have := hx.1; omega
    have hl2 : (x.length : Int) < 1073741824 := by have := hx.2.1; omega
    obtain ⟨v, pool', h0, h1, hp', hr⟩ := N.run pool x.length hp hl hl2
    have hv : v.toNat < x.cps.toList.length := by
      have : x.cps.toList.length = x.length := by simp [Str.length]
      omega
    have hat : L2.atI x.cps.toList v = some (x.cps.toList[v.toNat]'hv) := by
      have e : v = ((v.toNat : Nat) : Int) := by omega
      exact (congrArg (L2.atI x.cps.toList) e).trans (L2.atI_nat (List.getElem?_eq_getElem hv))
    have hc : x.length ≤ 1000000 := by have := hx.2.1; omega
    refine ⟨pool', [x.cps.toList[v.toNat]'hv], hp', by simp, ⟨List.singleton_sublist.mpr (List.getElem_mem hv), by simp⟩, ?_⟩
    · have e0 := pEq_nil false
      simp [runFn, evTs, evT, evE, evL, evAnd, evOr, evIfs, start0, resL, resR, S.val, pev, seqOf, dLt, PR.r, tstR, put, asgR, slotL, escR, escL, upS, setI, finF, finR, iosOf, callR, loan, apart, okP, sameK, valIx, ioIx, putIos, frzL, isOwn, D.scal, D.flat, methD, bindTg, wipeD, canWipe, backV, backL, lockL, lockR, backR, S.lock, pIn, e0, md, hr, hc, hat, chr]
end Ev
set_option maxHeartbeats 2000000
/-! GenD: a leaf drawn, the whole -/
namespace Ev
open PySem
abbrev leafComp (nx : Nat) : E := .comp [5] (.nm 5) .vals [(.var 1)] [(.pr .eq [(.call nx [(.var 0), (.con (.int 2))]), (.con (.int 1))])] (.var 5)
theorem leaf_comp {C : Calls} {nx : Nat} (N : NextOk C nx) (x : Str) (hx : someText x) (B V : D) (pool : D) (hp : IsPool pool) : ∃ (pool' : D) (ys : List Nat), IsPool pool' ∧ ys.length ≤ 1000 ∧ ys.Sublist x.cps.toList ∧
    evE C (leafComp nx) [some (.io false pool), some (.p (.str x)), some (.p B), some (.p V), none, none] = .ok (.o (.lst (ys.map chr)), [some (.io false pool'), some (.p (.str x)), some (.p B), some (.p V), none, none]) := by
  have hl : x.cps.toList.length ≤ 1000 := by have := hx.2.1; simpa [Str.length] using this
  obtain ⟨pool', ys, s5', hp', hy, e⟩ := leaf_loop N (.str x) B V none x.cps.toList pool [] none hp (by simp; simpa using (by omega : x.cps.toList.length ≤ 2000))
  refine ⟨pool', ys, hp', by have := hy.length_le; omega, hy, ?_⟩
  rw [evE]
  have h1 : evL C [.var 1] [some (.io false pool), some (.p (.str x)), some (.p B), some (.p V), none, none] = .ok ([.d (.str x)], [some (.io false pool), some (.p (.str x)), some (.p B), some (.p V), none, none]) := by simp [evL, evE]
  rw [h1]
  simp only [bind_ok, resL, resR, evI]
  rw [if_pos (by simp [canWipe])]
  have e2 : lockL [some (S.io false pool), some (S.p (.str x)), some (S.p B), some (S.p V), none, none] [R.d (.str x)] = [some (S.io false pool), some (S.p (.str x)), some (S.p B), some (S.p V), none, none] := rfl
  rw [e2, e]
  simp [backL, backR, backV]
theorem leaf_run {W : Nat} {C : Calls} {nx : Nat} (N : NextOk C nx) (x : Str) (hx : someText x) (b : Bool) (pool : D) (hp : IsPool pool) : ∃ (p : Pat) (pool' : D), (Leaf p ∧ (b = false → p.blk = false)) ∧ IsPool pool' ∧ runFn W C (leafF nx) [pool, .str x, .bl b] = .ok (enc p, false, [pool']) := by
  obtain ⟨v, pool1, h0, h1, hp1, hr⟩ := N.run pool 8 hp (by omega) (by omega)
  have hm := N.md
  by_cases v0 : v = 0
  · refine ⟨.none, pool1, ⟨.inl rfl, fun _ => rfl⟩, hp1, ?_⟩
    simp [runFn, evTs, evT, evE, evL, evAnd, evOr, evIfs, start0, resL, resR, S.val, pev, seqOf, L2.atI, dLt, PR.r, tstR, put, asgR, slotL, escR, escL, upS, setI, L2.ixN, finF, finR, iosOf, callR, loan, apart, okP, sameK, valIx, ioIx, putIos, frzL, isOwn, D.scal, D.flat, methD, bindTg, wipeD, canWipe, backV, backL, lockL, lockR, backR, S.lock, pIn, leafF, hm, hr, pEq_int, v0, enc]
  · by_cases v1 : v = 1 ∧ b = true
    · refine ⟨.blank, pool1, ⟨.inr (.inl rfl), fun h => absurd (v1.2.symm.trans h) (by decide)⟩, hp1, ?_⟩
      obtain ⟨rfl, rfl⟩ := v1
      simp [runFn, evTs, evT, evE, evL, evAnd, evOr, evIfs, start0, resL, resR, S.val, pev, seqOf, L2.atI, dLt, PR.r, tstR, put, asgR, slotL, escR, escL, upS, setI, L2.ixN, finF, finR, iosOf, callR, loan, apart, okP, sameK, valIx, ioIx, putIos, frzL, isOwn, D.scal, D.flat, methD, bindTg, wipeD, canWipe, backV, backL, lockL, lockR, backR, S.lock, pIn, leafF, hm, hr, pEq_int, enc]
    · obtain ⟨pool2, ys, hp2, hy, hc, e⟩ := leaf_comp N x hx (.bl b) (.int v) pool1 hp1
      obtain ⟨pool3, zs, hp3, hz, hcz, e3⟩ := leaf_ite (W := W) N x hx (.bl b) (.int v) pool2 hp2 ys hy hc none
      have e4 := leaf_ret (W := W) (C := C) pool3 x (.bl b) (.int v) zs hz none
      refine ⟨.sign (Txt.join ("" : Str) (zs.map one)), pool3, ⟨.inr (.inr ⟨_, sign_ok hx hcz.1 hcz.2, rfl⟩), fun _ => rfl⟩, hp3, ?_⟩
      have s0 : evT W C (.asg (.nm 3) (.call nx [(.var 0), (.con (.int 8))])) [some (.io false pool), some (.p (.str x)), some (.p (.bl b)), none, none, none] = .ok (.nx, [some (.io false pool1), some (.p (.str x)), some (.p (.bl b)), some (.p (.int v)), none, none]) := by
        simp [runFn, evTs, evT, evE, evL, evAnd, evOr, evIfs, start0, resL, resR, S.val, pev, seqOf, L2.atI, dLt, PR.r, tstR, put, asgR, slotL, escR, escL, upS, setI, L2.ixN, finF, finR, iosOf, callR, loan, apart, okP, sameK, valIx, ioIx, putIos, frzL, isOwn, D.scal, D.flat, methD, bindTg, wipeD, canWipe, backV, backL, lockL, lockR, backR, S.lock, pIn, hm, hr]
      have s1 : evT W C (.ite (.pr .eq [(.var 3), (.con (.int 0))]) [.ret (.tup [(.con (.str "none"))])] []) [some (.io false pool1), some (.p (.str x)), some (.p (.bl b)), some (.p (.int v)), none, none] = .ok (.nx, [some (.io false pool1), some (.p (.str x)), some (.p (.bl b)), some (.p (.int v)), none, none]) := by
        simp [runFn, evTs, evT, evE, evL, evAnd, evOr, evIfs, start0, resL, resR, S.val, pev, seqOf, L2.atI, dLt, PR.r, tstR, put, asgR, slotL, escR, escL, upS, setI, L2.ixN, finF, finR, iosOf, callR, loan, apart, okP, sameK, valIx, ioIx, putIos, frzL, isOwn, D.scal, D.flat, methD, bindTg, wipeD, canWipe, backV, backL, lockL, lockR, backR, S.lock, pIn, pEq_int, v0]
      have s2 : evT W C (.ite (.and [(.pr .eq [(.var 3), (.con (.int 1))]), (.var 2)]) [.ret (.tup [(.con (.str "blank"))])] []) [some (.io false pool1), some (.p (.str x)), some (.p (.bl b)), some (.p (.int v)), none, none] = .ok (.nx, [some (.io false pool1), some (.p (.str x)), some (.p (.bl b)), some (.p (.int v)), none, none]) := by
        by_cases v2 : v = 1
        · have : b = false := by cases b; rfl; exact absurd ⟨v2, rfl⟩ v1
          subst this
          simp [runFn, evTs, evT, evE, evL, evAnd, evOr, evIfs, start0, resL, resR, S.val, pev, seqOf, L2.atI, dLt, PR.r, tstR, put, asgR, slotL, escR, escL, upS, setI, L2.ixN, finF, finR, iosOf, callR, loan, apart, okP, sameK, valIx, ioIx, putIos, frzL, isOwn, D.scal, D.flat, methD, bindTg, wipeD, canWipe, backV, backL, lockL, lockR, backR, S.lock, pIn, pEq_int, v2]
        · simp [runFn, evTs, evT, evE, evL, evAnd, evOr, evIfs, start0, resL, resR, S.val, pev, seqOf, L2.atI, dLt, PR.r, tstR, put, asgR, slotL, escR, escL, upS, setI, L2.ixN, finF, finR, iosOf, callR, loan, apart, okP, sameK, valIx, ioIx, putIos, frzL, isOwn, D.scal, D.flat, methD, bindTg, wipeD, canWipe, backV, backL, lockL, lockR, backR, S.lock, pIn, pEq_int, v2]
      have s3 : evT W C (.asg (.nm 4) (leafComp nx)) [some (.io false pool1), some (.p (.str x)), some (.p (.bl b)), some (.p (.int v)), none, none] = .ok (.nx, leafSt pool2 x (.bl b) (.int v) ys none) := by
        rw [evT, e]; simp [asgR, put]
      have e0 : start0 (leafF nx) [pool, .str x, .bl b] = [some (.io false pool), some (.p (.str x)), some (.p (.bl b)), none, none, none] := rfl
      unfold runFn
      rw [if_pos (show [pool, D.str x, D.bl b].length = (leafF nx).ps.length from rfl), e0]
      show (evTs W C [_, _, _, _, leafIte nx, leafRet] _).bind _ = _
      simp only [evTs, s0, s1, s2, s3, e3, e4, bind_ok]
      simp [finF, finR, iosOf, leafF]
end Ev
set_option maxHeartbeats 2000000
/-! GenE: parts drawn -/
namespace Ev
open PySem
mutual
def Pat.size : Pat → Nat
  | .none => 1
  | .blank => 1
  | .sign _ => 1
  | .row ps => 1 + sizeL ps
  | .pick ps => 1 + sizeL ps
  | .again p => 1 + p.size
  | .held _ p => 1 + p.size
  | .price _ p => 1 + p.size
def sizeL : List Pat → Nat
  | [] => 0
  | p :: ps => p.size + sizeL ps
end
mutual
def Pat.dep : Pat → Nat
  | .none => 1
  | .blank => 1
  | .sign _ => 1
  | .row ps => 1 + depL ps
  | .pick ps => 1 + depL ps
  | .again p => 1 + p.dep
  | .held _ p => 1 + p.dep
  | .price _ p => 1 + p.dep
def depL : List Pat → Nat
  | [] => 0
  | p :: ps => max p.dep (depL ps)
end
abbrev heldNames : List Str := ["x", "yy", "left", "pick", "none", "abcdefgh"]
mutual
def Pat.good : Pat → Prop
  | .none => True
  | .blank => True
  | .sign x => SignOk x
  | .row ps => (2 ≤ ps.length ∧ ps.length ≤ 6) ∧ goodL ps
  | .pick ps => (2 ≤ ps.length ∧ ps.length ≤ 6) ∧ goodL ps
  | .again p => p.blk = false ∧ p.good
  | .held x p => x ∈ heldNames ∧ p.good
  | .price n p => (0 ≤ n ∧ n ≤ 1000) ∧ p.good
def goodL : List Pat → Prop
  | [] => True
  | p :: ps => p.good ∧ goodL ps
end
structure Fits (p : Pat) (d : Nat) : Prop where
  dep : p.dep ≤ d
  good : p.good
theorem Leaf.fits {p : Pat} (h : Leaf p) {d : Nat} (hd : 1 ≤ d) : Fits p d ∧ p.size = 1 := by
  rcases h with rfl | rfl | ⟨x, hx, rfl⟩
  · exact ⟨⟨hd, trivial⟩, rfl⟩
  · exact ⟨⟨hd, trivial⟩, rfl⟩
  · exact ⟨⟨hd, hx⟩, rfl⟩
/-- a pattern drawn, at most d deep -/
structure DrawOk (C : Calls) (pt d : Nat) : Prop where
  md : C.md pt = some [true, false, false, true, false]
  run : ∀ (pool : D) (x : Str) (deep r : Nat) (b : Bool), IsPool pool → someText x → 1 ≤ deep → deep ≤ d → 1 ≤ r → ∃ (p : Pat) (pool' : D) (r' : Nat), IsPool pool' ∧ p.size + r' = r ∧ (Fits p deep ∧ (b = false → p.blk = false)) ∧
    C.run pt [pool, .str x, .int deep, .lst [.int r], .bl b] = .ok (enc p, false, [pool', .lst [.int r']])
abbrev partsBody (pt : Nat) : List T := [.set 3 (.con (.int 0)) (.pr .add [(.pr .idx [(.var 3), (.con (.int 0))]), (.con (.int 1))]), .meth .append 5 [(.call pt [(.var 0), (.var 1), (.pr .sub [(.var 2), (.con (.int 1))]), (.var 3), (.var 6)])]]
def partsF (pt : Nat) : Fn := ⟨7, [true, false, false, true, false], [.asg (.nm 5) (.lst []), .set 3 (.con (.int 0)) (.pr .sub [(.pr .idx [(.var 3), (.con (.int 0))]), (.pr .len [(.var 4)])]), .fr (.nm 6) .vals [(.var 4)] (partsBody pt), .ret (.pr .tuple [(.var 5)])]⟩
abbrev partsSt (pool : D) (x : Str) (deep c : Nat) (L : D) (acc : List D) (s6 : Option S) : DEnv := [some (.io false pool), some (.p (.str x)), some (.p (.int deep)), some (.io false (.lst [.int c])), some (.p L), some (.m false (.lst acc)), s6]
/-- none that can be blank where False stands -/
def NotBlk : List Bool → List Pat → Prop
  | b :: bs, p :: ps => (b = false → p.blk = false) ∧ NotBlk bs ps
  | _, _ => True
theorem goodL_append : ∀ {ps qs : List Pat}, goodL ps → goodL qs → goodL (ps ++ qs)
  | [], _, _, h => h
  | p :: ps, qs, h, g => ⟨h.1, goodL_append h.2 g⟩
theorem parts_loop {W : Nat} {C : Calls} {pt d : Nat} (P : DrawOk C pt d) (x : Str) (hx : someText x) (deep : Nat) (h1 : 2 ≤ deep) (h2 : deep ≤ d + 1) (L : D) : ∀ (bs : List Bool) (pool : D) (c : Nat) (acc : List D) (s6 : Option S), IsPool pool → (s6 = none ∨ ∃ e, s6 = some (.p e)) → acc.length + bs.length ≤ 1000 →
    ∃ (ps : List Pat) (pool' : D) (c' : Nat) (s6' : Option S), ps.length = bs.length ∧ IsPool pool' ∧ sizeL ps + c' = c + bs.length ∧ depL ps ≤ deep - 1 ∧ (goodL ps ∧ NotBlk bs ps) ∧
      forLoop (.nm 6) (fun δ => evTs W C (partsBody pt) δ) (bs.map .bl) (partsSt pool x deep c L acc s6) = .ok (.nx, partsSt pool' x deep c' L (acc ++ encL ps) s6')
  | [], pool, c, acc, s6, hp, _, _ => ⟨[], pool, c, s6, rfl, hp, by simp [sizeL], by simp [depL], ⟨trivial, trivial⟩, by simp [forLoop, encL]⟩
  | b :: bs, pool, c, acc, s6, hp, h6, hl => by
    simp only [List.length_cons] at hl
    obtain ⟨p, pool1, r1, hp1, hs, ⟨hf, hnb⟩, hr⟩ := P.run pool x (deep - 1) (c + 1) b hp hx (by omega) (by omega) (by omega)
    obtain ⟨ps, pool', c', s6', a1, a2, a3, a4, a5, e⟩ := parts_loop P x hx deep h1 h2 L bs pool1 r1 (acc ++ [enc p]) (some (.p (.bl b))) hp1 (.inr ⟨_, rfl⟩) (by simp; omega)
    have hm := P.md
    refine ⟨p :: ps, pool', c', s6', by simp [a1], a2, by simp only [sizeL, List.length_cons]; omega, ?_, ⟨⟨hf.good, a5.1⟩, ⟨hnb, a5.2⟩⟩, ?_⟩
    · have := hf.dep
      simp only [depL]; omega
    · have ea : acc ++ encL (p :: ps) = acc ++ [enc p] ++ encL ps := by simp [encL]
      rw [ea, ← e]
      have hd : ((deep - 1 : Nat) : Int) = (deep : Int) - 1 := by omega
      have hc : ((c + 1 : Nat) : Int) = (c : Int) + 1 := by omega
      rw [hd, hc] at hr
      have hcap : acc.length < 1000000 := by omega
      have hb : evTs W C (partsBody pt) (partsSt pool x deep c L acc (some (.p (.bl b)))) = .ok (.nx, partsSt pool1 x deep r1 L (acc ++ [enc p]) (some (.p (.bl b)))) := by
        simp [runFn, evTs, evT, evE, evL, evAnd, evOr, evIfs, start0, resL, resR, S.val, pev, seqOf, L2.atI, dLt, PR.r, tstR, put, asgR, slotL, escR, escL, upS, setI, L2.ixN, finF, finR, iosOf, callR, loan, apart, okP, sameK, valIx, ioIx, putIos, frzL, isOwn, D.scal, D.flat, methD, bindTg, wipeD, canWipe, backV, backL, lockL, lockR, backR, S.lock, pIn, hm, hr, hcap]
      have hput : bindTg (partsSt pool x deep c L acc s6) (.nm 6) (.bl b) = some (partsSt pool x deep c L acc (some (.p (.bl b)))) := by
        rcases h6 with rfl | ⟨e', rfl⟩ <;> simp [bindTg, put]
      show forLoop (.nm 6) _ (.bl b :: bs.map .bl) _ = _
      conv => lhs; unfold forLoop
      rw [hput]
      dsimp only
      rw [hb]
      rfl
end Ev
set_option maxHeartbeats 2000000
/-! GenF: parts drawn, the whole -/
namespace Ev
open PySem
structure PartsOk (C : Calls) (pa d : Nat) : Prop where
  md : C.md pa = some [true, false, false, true, false]
  run : ∀ (pool : D) (x : Str) (deep r : Nat) (bs : List Bool), IsPool pool → someText x → 2 ≤ deep → deep ≤ d → bs.length ≤ r → bs.length ≤ 100 → ∃ (ps : List Pat) (pool' : D) (r' : Nat), ps.length = bs.length ∧ IsPool pool' ∧ sizeL ps + r' = r ∧ depL ps ≤ deep - 1 ∧ (goodL ps ∧ NotBlk bs ps) ∧
    C.run pa [pool, .str x, .int deep, .lst [.int r], .lst (bs.map .bl)] = .ok (.tup (encL ps), false, [pool', .lst [.int r']])
theorem parts_run {W : Nat} {C : Calls} {pt d : Nat} (P : DrawOk C pt d) (pool : D) (x : Str) (deep r : Nat) (bs : List Bool) (hp : IsPool pool) (hx : someText x) (h1 : 2 ≤ deep) (h2 : deep ≤ d + 1) (h3 : bs.length ≤ r) (h4 : bs.length ≤ 100) :
    ∃ (ps : List Pat) (pool' : D) (r' : Nat), ps.length = bs.length ∧ IsPool pool' ∧ sizeL ps + r' = r ∧ depL ps ≤ deep - 1 ∧ (goodL ps ∧ NotBlk bs ps) ∧
      runFn W C (partsF pt) [pool, .str x, .int deep, .lst [.int r], .lst (bs.map .bl)] = .ok (.tup (encL ps), false, [pool', .lst [.int r']]) := by
  obtain ⟨ps, pool', c', s6', a1, a2, a3, a4, a5, e⟩ := parts_loop (W := W) P x hx deep h1 h2 (.lst (bs.map .bl)) bs pool (r - bs.length) [] none hp (.inl rfl) (by simp; omega)
  refine ⟨ps, pool', c', a1, a2, by omega, a4, a5, ?_⟩
  have hc : ((r - bs.length : Nat) : Int) = (r : Int) - bs.length := by omega
  have s0 : evT W C (.asg (.nm 5) (.lst [])) [some (.io false pool), some (.p (.str x)), some (.p (.int deep)), some (.io false (.lst [.int r])), some (.p (.lst (bs.map .bl))), none, none] = .ok (.nx, partsSt pool x deep r (.lst (bs.map .bl)) [] none) := by
    simp [runFn, evTs, evT, evE, evL, evAnd, evOr, evIfs, start0, resL, resR, S.val, pev, seqOf, L2.atI, dLt, PR.r, tstR, put, asgR, slotL, escR, escL, upS, setI, L2.ixN, finF, finR, iosOf, callR, loan, apart, okP, sameK, valIx, ioIx, putIos, frzL, isOwn, D.scal, D.flat, methD, bindTg, wipeD, canWipe, backV, backL, lockL, lockR, backR, S.lock, pIn]
  have s1 : evT W C (.set 3 (.con (.int 0)) (.pr .sub [(.pr .idx [(.var 3), (.con (.int 0))]), (.pr .len [(.var 4)])])) (partsSt pool x deep r (.lst (bs.map .bl)) [] none) = .ok (.nx, partsSt pool x deep (r - bs.length) (.lst (bs.map .bl)) [] none) := by
    show _ = Res.ok (Fl.nx, [some (S.io false pool), some (S.p (.str x)), some (S.p (.int deep)), some (S.io false (.lst [.int ((r - bs.length : Nat) : Int)])), some (S.p (.lst (bs.map .bl))), some (S.m false (.lst [])), none])
    rw [hc]
    simp [runFn, evTs, evT, evE, evL, evAnd, evOr, evIfs, start0, resL, resR, S.val, pev, seqOf, L2.atI, dLt, PR.r, tstR, put, asgR, slotL, escR, escL, upS, setI, L2.ixN, finF, finR, iosOf, callR, loan, apart, okP, sameK, valIx, ioIx, putIos, frzL, isOwn, D.scal, D.flat, methD, bindTg, wipeD, canWipe, backV, backL, lockL, lockR, backR, S.lock, pIn]
  have s2 : evT W C (.fr (.nm 6) .vals [(.var 4)] (partsBody pt)) (partsSt pool x deep (r - bs.length) (.lst (bs.map .bl)) [] none) = .ok (.nx, partsSt pool' x deep c' (.lst (bs.map .bl)) (encL ps) s6') := by
    rw [evT]
    have h1 : evL C [.var 4] (partsSt pool x deep (r - bs.length) (.lst (bs.map .bl)) [] none) = .ok ([.d (.lst (bs.map .bl))], partsSt pool x deep (r - bs.length) (.lst (bs.map .bl)) [] none) := by simp [evL, evE]
    rw [h1]
    simp only [bind_ok, resL, resR, evI, seqOf]
    have e2 : lockL (partsSt pool x deep (r - bs.length) (.lst (bs.map .bl)) [] none) [R.d (.lst (bs.map .bl))] = partsSt pool x deep (r - bs.length) (.lst (bs.map .bl)) [] none := rfl
    rw [e2, e]
    rfl
  have s3 : evT W C (.ret (.pr .tuple [(.var 5)])) (partsSt pool' x deep c' (.lst (bs.map .bl)) (encL ps) s6') = .ok (.rt (.d (.tup (encL ps))), partsSt pool' x deep c' (.lst (bs.map .bl)) (encL ps) s6') := by
    simp [runFn, evTs, evT, evE, evL, evAnd, evOr, evIfs, start0, resL, resR, S.val, pev, seqOf, L2.atI, dLt, PR.r, tstR, put, asgR, slotL, escR, escL, upS, setI, L2.ixN, finF, finR, iosOf, callR, loan, apart, okP, sameK, valIx, ioIx, putIos, frzL, isOwn, D.scal, D.flat, methD, bindTg, wipeD, canWipe, backV, backL, lockL, lockR, backR, S.lock, pIn]
  have e0 : start0 (partsF pt) [pool, .str x, .int deep, .lst [.int r], .lst (bs.map .bl)] = [some (.io false pool), some (.p (.str x)), some (.p (.int deep)), some (.io false (.lst [.int r])), some (.p (.lst (bs.map .bl))), none, none] := rfl
  unfold runFn
  rw [if_pos (show [pool, D.str x, D.int deep, D.lst [D.int r], D.lst (bs.map .bl)].length = (partsF pt).ps.length from rfl), e0]
  show (evTs W C [.asg (.nm 5) (.lst []), .set 3 (.con (.int 0)) (.pr .sub [(.pr .idx [(.var 3), (.con (.int 0))]), (.pr .len [(.var 4)])]), .fr (.nm 6) .vals [(.var 4)] (partsBody pt), .ret (.pr .tuple [(.var 5)])] _).bind _ = _
  simp only [evTs, s0, s1, s2, s3, bind_ok]
  simp [finF, finR, iosOf, partsF]
/-! the bools of a row -/
theorem bools_loop {C : Calls} (pool : D) (x : Str) (deep c : Nat) (b : Bool) (way count hard : Int) (s9 s10 : Option S) : ∀ (is : List Int) (acc : List D) (s8 : Option S), acc.length + is.length ≤ 1000 →
    ∃ (bs : List Bool) (s8' : Option S), (bs.length = is.length ∧ bs = is.map fun i => b || !decide (i = hard)) ∧ compLoop [8] (.nm 8) (fun δ => evIfs C [] δ) (fun δ => evE C (.or [(.var 4), (.pr .ne [(.var 8), (.var 7)])]) δ) (is.map .int)
      [some (.io false pool), some (.p (.str x)), some (.p (.int deep)), some (.io false (.lst [.int c])), some (.p (.bl b)), some (.p (.int way)), some (.p (.int count)), some (.p (.int hard)), s8, s9, s10] acc
      = .ok (acc ++ bs.map .bl, [some (.io false pool), some (.p (.str x)), some (.p (.int deep)), some (.io false (.lst [.int c])), some (.p (.bl b)), some (.p (.int way)), some (.p (.int count)), some (.p (.int hard)), s8', s9, s10])
  | [], acc, s8, _ => ⟨[], s8, ⟨rfl, rfl⟩, by simp [compLoop]⟩
  | i :: is, acc, s8, hl => by
    simp only [List.length_cons] at hl
    obtain ⟨bs, s8', ⟨a1, a2⟩, e⟩ := bools_loop (C := C) pool x deep c b way count hard s9 s10 is (acc ++ [.bl (b || !decide (i = hard))]) (some (.p (.int i))) (by simp; omega)
    refine ⟨(b || !decide (i = hard)) :: bs, s8', ⟨by simp [a1], by rw [a2]; rfl⟩, ?_⟩
    have ea : acc ++ ((b || !decide (i = hard)) :: bs).map D.bl = acc ++ [.bl (b || !decide (i = hard))] ++ bs.map .bl := by simp
    rw [ea, ← e]
    have hc : acc.length < 1000000 := by omega
    simp only [List.map_cons]
    conv => lhs; unfold compLoop
    cases b <;> simp [runFn, evTs, evT, evE, evL, evAnd, evOr, evIfs, start0, resL, resR, S.val, pev, seqOf, L2.atI, dLt, PR.r, tstR, put, asgR, slotL, escR, escL, upS, setI, L2.ixN, finF, finR, iosOf, callR, loan, apart, okP, sameK, valIx, ioIx, putIos, frzL, isOwn, D.scal, D.flat, methD, bindTg, wipeD, canWipe, backV, backL, lockL, lockR, backR, S.lock, pIn, pEq_int, hc]
end Ev
set_option maxHeartbeats 2000000
/-! GenG: a pattern drawn -/
namespace Ev
open PySem
abbrev pat0 (nx lf pa pt : Nat) : T := .set 3 (.con (.int 0)) (.pr .sub [(.pr .idx [(.var 3), (.con (.int 0))]), (.con (.int 1))])
abbrev pat1 (nx lf pa pt : Nat) : T := .asg (.nm 5) (.call nx [(.var 0), (.con (.int 11))])
abbrev pat2 (nx lf pa pt : Nat) : T := .asg (.nm 6) (.pr .add [(.con (.int 2)), (.call nx [(.var 0), (.con (.int 5))])])
abbrev pat3 (nx lf pa pt : Nat) : T := .ite (.or [(.pr .lt [(.var 2), (.con (.int 2))]), (.pr .lt [(.pr .idx [(.var 3), (.con (.int 0))]), (.con (.int 1))]), (.pr .eq [(.var 5), (.con (.int 0))]), (.and [(.pr .lt [(.var 5), (.con (.int 6))]), (.pr .lt [(.pr .idx [(.var 3), (.con (.int 0))]), (.var 6)])])]) [.ret (.call lf [(.var 0), (.var 1), (.var 4)])] []
abbrev pat4 (nx lf pa pt : Nat) : T := .ite (.pr .lt [(.var 5), (.con (.int 4))]) [.asg (.nm 7) (.call nx [(.var 0), (.var 6)]), .ret (.tup [(.con (.str "row")), (.call pa [(.var 0), (.var 1), (.var 2), (.var 3), (.comp [8] (.nm 8) .range [(.var 6)] [] (.or [(.var 4), (.pr .ne [(.var 8), (.var 7)])]))])])] []
abbrev pat5 (nx lf pa pt : Nat) : T := .ite (.pr .lt [(.var 5), (.con (.int 6))]) [.ret (.tup [(.con (.str "pick")), (.call pa [(.var 0), (.var 1), (.var 2), (.var 3), (.pr .mul [(.lst [(.var 4)]), (.var 6)])])])] []
abbrev pat6 (nx lf pa pt : Nat) : T := .ite (.and [(.pr .lt [(.var 5), (.con (.int 8))]), (.var 4)]) [.ret (.tup [(.con (.str "again")), (.call pt [(.var 0), (.var 1), (.pr .sub [(.var 2), (.con (.int 1))]), (.var 3), (.con (.bl false))])])] []
abbrev pat7 (nx lf pa pt : Nat) : T := .ite (.pr .eq [(.var 5), (.con (.int 8))]) [.asg (.nm 9) (.pr .idx [(.lst [(.con (.str "x")), (.con (.str "yy")), (.con (.str "left")), (.con (.str "pick")), (.con (.str "none")), (.con (.str "abcdefgh"))]), (.call nx [(.var 0), (.con (.int 6))])]), .ret (.tup [(.con (.str "held")), (.var 9), (.call pt [(.var 0), (.var 1), (.pr .sub [(.var 2), (.con (.int 1))]), (.var 3), (.var 4)])])] []
abbrev pat8 (nx lf pa pt : Nat) : T := .asg (.nm 10) (.pr .idx [(.lst [(.con (.int 0)), (.con (.int 1)), (.con (.int 2)), (.con (.int 999)), (.con (.int 1000)), (.call nx [(.var 0), (.con (.int 1001))])]), (.call nx [(.var 0), (.con (.int 6))])])
abbrev pat9 (nx lf pa pt : Nat) : T := .ret (.tup [(.con (.str "price")), (.var 10), (.call pt [(.var 0), (.var 1), (.pr .sub [(.var 2), (.con (.int 1))]), (.var 3), (.var 4)])])
def patternF (nx lf pa pt : Nat) : Fn := ⟨11, [true, false, false, true, false], [pat0 nx lf pa pt, pat1 nx lf pa pt, pat2 nx lf pa pt, pat3 nx lf pa pt, pat4 nx lf pa pt, pat5 nx lf pa pt, pat6 nx lf pa pt, pat7 nx lf pa pt, pat8 nx lf pa pt, pat9 nx lf pa pt]⟩
abbrev patSt (pool : D) (x : Str) (deep : Nat) (r : Int) (b : Bool) (s5 s6 s7 s8 s9 s10 : Option S) : DEnv := [some (.io false pool), some (.p (.str x)), some (.p (.int deep)), some (.io false (.lst [.int r])), some (.p (.bl b)), s5, s6, s7, s8, s9, s10]
structure LeafOk (C : Calls) (lf : Nat) : Prop where
  md : C.md lf = some [true, false, false]
  run : ∀ (pool : D) (x : Str) (b : Bool), IsPool pool → someText x → ∃ (p : Pat) (pool' : D), (Leaf p ∧ (b = false → p.blk = false)) ∧ IsPool pool' ∧ C.run lf [pool, .str x, .bl b] = .ok (enc p, false, [pool'])
section
variable {W : Nat} {C : Calls} {nx lf pa pt : Nat}
theorem pat_s0 (pool : D) (x : Str) (deep : Nat) (r : Int) (b : Bool) : evT W C (pat0 nx lf pa pt) (patSt pool x deep r b none none none none none none) = .ok (.nx, patSt pool x deep (r - 1) b none none none none none none) := by
  simp [runFn, evTs, evT, evE, evL, evAnd, evOr, evIfs, start0, resL, resR, S.val, pev, seqOf, L2.atI, dLt, PR.r, tstR, put, asgR, slotL, escR, escL, upS, setI, L2.ixN, finF, finR, iosOf, callR, loan, apart, okP, sameK, valIx, ioIx, putIos, frzL, isOwn, D.scal, D.flat, methD, bindTg, wipeD, canWipe, backV, backL, lockL, lockR, backR, S.lock, pIn]
theorem pat_s1 (N : NextOk C nx) (pool : D) (hp : IsPool pool) (x : Str) (deep : Nat) (r : Int) (b : Bool) : ∃ (v : Int) (pool' : D), 0 ≤ v ∧ v < 11 ∧ IsPool pool' ∧ evT W C (pat1 nx lf pa pt) (patSt pool x deep r b none none none none none none) = .ok (.nx, patSt pool' x deep r b (some (.p (.int v))) none none none none none) := by
  obtain ⟨v, pool', h0, h1, hp', hr⟩ := N.run pool 11 hp (by omega) (by omega)
  have hm := N.md
  exact ⟨v, pool', h0, h1, hp', by simp [runFn, evTs, evT, evE, evL, evAnd, evOr, evIfs, start0, resL, resR, S.val, pev, seqOf, L2.atI, dLt, PR.r, tstR, put, asgR, slotL, escR, escL, upS, setI, L2.ixN, finF, finR, iosOf, callR, loan, apart, okP, sameK, valIx, ioIx, putIos, frzL, isOwn, D.scal, D.flat, methD, bindTg, wipeD, canWipe, backV, backL, lockL, lockR, backR, S.lock, pIn, hm, hr]⟩
theorem pat_s2 (N : NextOk C nx) (pool : D) (hp : IsPool pool) (x : Str) (deep : Nat) (r : Int) (b : Bool) (v : Int) : ∃ (n : Int) (pool' : D), 2 ≤ n ∧ n < 7 ∧ IsPool pool' ∧ evT W C (pat2 nx lf pa pt) (patSt pool x deep r b (some (.p (.int v))) none none none none none) = .ok (.nx, patSt pool' x deep r b (some (.p (.int v))) (some (.p (.int n))) none none none none) := by
  obtain ⟨u, pool', h0, h1, hp', hr⟩ := N.run pool 5 hp (by omega) (by omega)
  have hm := N.md
  exact ⟨2 + u, pool', by omega, by omega, hp', by simp [runFn, evTs, evT, evE, evL, evAnd, evOr, evIfs, start0, resL, resR, S.val, pev, seqOf, L2.atI, dLt, PR.r, tstR, put, asgR, slotL, escR, escL, upS, setI, L2.ixN, finF, finR, iosOf, callR, loan, apart, okP, sameK, valIx, ioIx, putIos, frzL, isOwn, D.scal, D.flat, methD, bindTg, wipeD, canWipe, backV, backL, lockL, lockR, backR, S.lock, pIn, hm, hr]⟩
/-- a leaf, or on -/
theorem pat_s3 (L : LeafOk C lf) (pool : D) (hp : IsPool pool) (x : Str) (hx : someText x) (deep : Nat) (r : Int) (b : Bool) (v n : Int) :
    (∃ (p : Pat) (pool' : D), (Leaf p ∧ (b = false → p.blk = false)) ∧ IsPool pool' ∧ evT W C (pat3 nx lf pa pt) (patSt pool x deep r b (some (.p (.int v))) (some (.p (.int n))) none none none none) = .ok (.rt (.d (enc p)), patSt pool' x deep r b (some (.p (.int v))) (some (.p (.int n))) none none none none)) ∨
    (2 ≤ deep ∧ 1 ≤ r ∧ v ≠ 0 ∧ (v < 6 → n ≤ r) ∧ evT W C (pat3 nx lf pa pt) (patSt pool x deep r b (some (.p (.int v))) (some (.p (.int n))) none none none none) = .ok (.nx, patSt pool x deep r b (some (.p (.int v))) (some (.p (.int n))) none none none none)) := by
  obtain ⟨p, pool', hl, hp', hr⟩ := L.run pool x b hp hx
  have hm := L.md
  by_cases c1 : (deep : Int) < 2
  · exact .inl ⟨p, pool', hl, hp', by simp [runFn, evTs, evT, evE, evL, evAnd, evOr, evIfs, start0, resL, resR, S.val, pev, seqOf, L2.atI, dLt, PR.r, tstR, put, asgR, slotL, escR, escL, upS, setI, L2.ixN, finF, finR, iosOf, callR, loan, apart, okP, sameK, valIx, ioIx, putIos, frzL, isOwn, D.scal, D.flat, methD, bindTg, wipeD, canWipe, backV, backL, lockL, lockR, backR, S.lock, pIn, hm, hr, c1, pEq_int]⟩
  · by_cases c2 : r < 1
    · exact .inl ⟨p, pool', hl, hp', by simp [runFn, evTs, evT, evE, evL, evAnd, evOr, evIfs, start0, resL, resR, S.val, pev, seqOf, L2.atI, dLt, PR.r, tstR, put, asgR, slotL, escR, escL, upS, setI, L2.ixN, finF, finR, iosOf, callR, loan, apart, okP, sameK, valIx, ioIx, putIos, frzL, isOwn, D.scal, D.flat, methD, bindTg, wipeD, canWipe, backV, backL, lockL, lockR, backR, S.lock, pIn, hm, hr, c1, c2, pEq_int]⟩
    · by_cases c3 : v = 0
      · exact .inl ⟨p, pool', hl, hp', by simp [runFn, evTs, evT, evE, evL, evAnd, evOr, evIfs, start0, resL, resR, S.val, pev, seqOf, L2.atI, dLt, PR.r, tstR, put, asgR, slotL, escR, escL, upS, setI, L2.ixN, finF, finR, iosOf, callR, loan, apart, okP, sameK, valIx, ioIx, putIos, frzL, isOwn, D.scal, D.flat, methD, bindTg, wipeD, canWipe, backV, backL, lockL, lockR, backR, S.lock, pIn, hm, hr, c1, c2, c3, pEq_int]⟩
      · by_cases c4 : v < 6
        · by_cases c5 : r < n
          · exact .inl ⟨p, pool', hl, hp', by simp [runFn, evTs, evT, evE, evL, evAnd, evOr, evIfs, start0, resL, resR, S.val, pev, seqOf, L2.atI, dLt, PR.r, tstR, put, asgR, slotL, escR, escL, upS, setI, L2.ixN, finF, finR, iosOf, callR, loan, apart, okP, sameK, valIx, ioIx, putIos, frzL, isOwn, D.scal, D.flat, methD, bindTg, wipeD, canWipe, backV, backL, lockL, lockR, backR, S.lock, pIn, hm, hr, c1, c2, c3, c4, c5, pEq_int]⟩
          · exact .inr ⟨by omega, by omega, c3, fun _ => by omega, by simp [runFn, evTs, evT, evE, evL, evAnd, evOr, evIfs, start0, resL, resR, S.val, pev, seqOf, L2.atI, dLt, PR.r, tstR, put, asgR, slotL, escR, escL, upS, setI, L2.ixN, finF, finR, iosOf, callR, loan, apart, okP, sameK, valIx, ioIx, putIos, frzL, isOwn, D.scal, D.flat, methD, bindTg, wipeD, canWipe, backV, backL, lockL, lockR, backR, S.lock, pIn, c1, c2, c3, c4, c5, pEq_int]⟩
        · exact .inr ⟨by omega, by omega, c3, fun h => absurd h c4, by simp [runFn, evTs, evT, evE, evL, evAnd, evOr, evIfs, start0, resL, resR, S.val, pev, seqOf, L2.atI, dLt, PR.r, tstR, put, asgR, slotL, escR, escL, upS, setI, L2.ixN, finF, finR, iosOf, callR, loan, apart, okP, sameK, valIx, ioIx, putIos, frzL, isOwn, D.scal, D.flat, methD, bindTg, wipeD, canWipe, backV, backL, lockL, lockR, backR, S.lock, pIn, c1, c2, c3, c4, pEq_int]⟩
end
end Ev
set_option maxHeartbeats 2000000
/-! GenH: a row, a pick drawn -/
namespace Ev
open PySem
section
variable {W : Nat} {C : Calls} {nx lf pa pt : Nat}
abbrev rowComp : E := .comp [8] (.nm 8) .range [(.var 6)] [] (.or [(.var 4), (.pr .ne [(.var 8), (.var 7)])])
theorem bools_comp (pool : D) (x : Str) (deep r : Nat) (b : Bool) (v n h : Int) (h1 : 2 ≤ n) (h2 : n < 7) : ∃ bs : List Bool, (bs.length = n.toNat ∧ bs = ((List.range n.toNat).map fun k => 0 + ((k : Nat) : Int)).map fun i => b || !decide (i = h)) ∧
    evE C rowComp (patSt pool x deep r b (some (.p (.int v))) (some (.p (.int n))) (some (.p (.int h))) none none none) = .ok (.o (.lst (bs.map .bl)), patSt pool x deep r b (some (.p (.int v))) (some (.p (.int n))) (some (.p (.int h))) none none none) := by
  obtain ⟨bs, s8', ⟨a1, a2⟩, e⟩ := bools_loop (C := C) pool x deep r b v n h none none ((List.range n.toNat).map fun k => 0 + ((k : Nat) : Int)) [] none (by simp; omega)
  refine ⟨bs, ⟨by rw [a1]; simp, a2⟩, ?_⟩
  rw [evE]
  have g1 : evL C [.var 6] (patSt pool x deep r b (some (.p (.int v))) (some (.p (.int n))) (some (.p (.int h))) none none none) = .ok ([.d (.int n)], patSt pool x deep r b (some (.p (.int v))) (some (.p (.int n))) (some (.p (.int h))) none none none) := by simp [evL, evE]
  have g2 : evI .range [.int n] = some (((List.range n.toNat).map fun k => 0 + ((k : Nat) : Int)).map .int) := by
    simp only [evI]
    rw [if_pos (by unfold rcap; omega)]
    simp [rangeD, Function.comp_def]
  have g3 : lockL (patSt pool x deep r b (some (.p (.int v))) (some (.p (.int n))) (some (.p (.int h))) none none none) [R.d (.int n)] = patSt pool x deep r b (some (.p (.int v))) (some (.p (.int n))) (some (.p (.int h))) none none none := rfl
  rw [g1]
  simp only [bind_ok, resL, resR, g2]
  rw [if_pos (by simp [canWipe]), g3, e]
  simp [backL, backR, backV]
theorem row_blk : ∀ {bs : List Bool} {ps : List Pat}, ps.length = bs.length → false ∈ bs → NotBlk bs ps → allBlk ps = false
  | [], _, _, h, _ => by cases h
  | _ :: _, [], h, _, _ => by cases h
  | b :: bs, p :: ps, hl, hm, hn => by
    simp only [allBlk]
    rcases List.mem_cons.mp hm with e | hm
    · rw [hn.1 e.symm]; rfl
    · rw [row_blk (by simpa using hl) hm hn.2]; simp
theorem row_hard {n h : Int} (h0 : 0 ≤ h) (h1 : h < n) {bs : List Bool} {ps : List Pat} (hl : ps.length = bs.length) (hb : bs = ((List.range n.toNat).map fun k => 0 + ((k : Nat) : Int)).map fun i => false || !decide (i = h)) (hn : NotBlk bs ps) : allBlk ps = false := by
  refine row_blk hl ?_ hn
  rw [hb]
  refine List.mem_map.mpr ⟨h, List.mem_map.mpr ⟨h.toNat, List.mem_range.mpr (by omega), by omega⟩, by simp⟩
theorem pick_blk : ∀ {k : Nat} {ps : List Pat}, ps.length = k → NotBlk (List.replicate k false) ps → anyBlk ps = false
  | 0, [], _, _ => rfl
  | 0, _ :: _, h, _ => by cases h
  | _ + 1, [], h, _ => by cases h
  | k + 1, p :: ps, hl, hn => by
    simp only [anyBlk]
    rw [hn.1 rfl, pick_blk (k := k) (by simpa using hl) hn.2]; rfl
theorem pat_s4 (N : NextOk C nx) {d : Nat} (P : PartsOk C pa d) (pool : D) (hp : IsPool pool) (x : Str) (hx : someText x) (deep r : Nat) (hd : 2 ≤ deep) (hd2 : deep ≤ d) (b : Bool) (v n : Int) (h1 : 2 ≤ n) (h2 : n < 7) (h3 : n ≤ r) (hv : v < 4) :
    ∃ (ps : List Pat) (pool' : D) (r' : Nat) (δ' : DEnv), IsPool pool' ∧ sizeL ps + r' = r ∧ depL ps ≤ deep - 1 ∧ ((2 ≤ ps.length ∧ ps.length ≤ 6) ∧ goodL ps ∧ (b = false → allBlk ps = false)) ∧ iosOf [true, false, false, true, false] δ' = some [pool', .lst [.int r']] ∧
      evT W C (pat4 nx lf pa pt) (patSt pool x deep r b (some (.p (.int v))) (some (.p (.int n))) none none none none) = .ok (.rt (.d (enc (.row ps))), δ') := by
  obtain ⟨h, pool1, q0, q1, hp1, hr⟩ := N.run pool n hp (by omega) (by omega)
  obtain ⟨bs, ⟨hbs, hbe⟩, hcomp⟩ := bools_comp (C := C) pool1 x deep r b v n h h1 h2
  obtain ⟨ps, pool2, r', a1, hp2, a2, a3, a4, hr2⟩ := P.run pool1 x deep r bs hp1 hx hd hd2 (by omega) (by omega)
  have hm := N.md
  have hm2 := P.md
  refine ⟨ps, pool2, r', patSt pool2 x deep r' b (some (.p (.int v))) (some (.p (.int n))) (some (.p (.int h))) none none none, hp2, a2, a3, ⟨by omega, a4.1, fun hb => ?_⟩, rfl, ?_⟩
  · subst hb
    exact row_hard (h := h) (by omega) (by omega) a1 hbe a4.2
  have t1 : evT W C (.asg (.nm 7) (.call nx [(.var 0), (.var 6)])) (patSt pool x deep r b (some (.p (.int v))) (some (.p (.int n))) none none none none) = .ok (.nx, patSt pool1 x deep r b (some (.p (.int v))) (some (.p (.int n))) (some (.p (.int h))) none none none) := by
    simp [runFn, evTs, evT, evE, evL, evAnd, evOr, evIfs, start0, resL, resR, S.val, pev, seqOf, L2.atI, dLt, PR.r, tstR, put, asgR, slotL, escR, escL, upS, setI, L2.ixN, finF, finR, iosOf, callR, loan, apart, okP, sameK, valIx, ioIx, putIos, frzL, isOwn, D.scal, D.flat, methD, bindTg, wipeD, canWipe, backV, backL, lockL, lockR, backR, S.lock, pIn, hm, hr]
  have w0 : evE C (.var 0) (patSt pool1 x deep r b (some (.p (.int v))) (some (.p (.int n))) (some (.p (.int h))) none none none) = .ok (.h 0, patSt pool1 x deep r b (some (.p (.int v))) (some (.p (.int n))) (some (.p (.int h))) none none none) := by simp [evE]
  have w1 : evE C (.var 1) (patSt pool1 x deep r b (some (.p (.int v))) (some (.p (.int n))) (some (.p (.int h))) none none none) = .ok (.d (.str x), patSt pool1 x deep r b (some (.p (.int v))) (some (.p (.int n))) (some (.p (.int h))) none none none) := by simp [evE]
  have w2 : evE C (.var 2) (patSt pool1 x deep r b (some (.p (.int v))) (some (.p (.int n))) (some (.p (.int h))) none none none) = .ok (.d (.int deep), patSt pool1 x deep r b (some (.p (.int v))) (some (.p (.int n))) (some (.p (.int h))) none none none) := by simp [evE]
  have w3 : evE C (.var 3) (patSt pool1 x deep r b (some (.p (.int v))) (some (.p (.int n))) (some (.p (.int h))) none none none) = .ok (.h 3, patSt pool1 x deep r b (some (.p (.int v))) (some (.p (.int n))) (some (.p (.int h))) none none none) := by simp [evE]
  have hcall : evE C (.call pa [(.var 0), (.var 1), (.var 2), (.var 3), rowComp]) (patSt pool1 x deep r b (some (.p (.int v))) (some (.p (.int n))) (some (.p (.int h))) none none none) = .ok (.d (.tup (encL ps)), patSt pool2 x deep r' b (some (.p (.int v))) (some (.p (.int n))) (some (.p (.int h))) none none none) := by
    rw [evE]
    have hl : evL C [(.var 0), (.var 1), (.var 2), (.var 3), rowComp] (patSt pool1 x deep r b (some (.p (.int v))) (some (.p (.int n))) (some (.p (.int h))) none none none) = .ok ([.h 0, .d (.str x), .d (.int deep), .h 3, .o (.lst (bs.map .bl))], patSt pool1 x deep r b (some (.p (.int v))) (some (.p (.int n))) (some (.p (.int h))) none none none) := by
      simp only [evL, w0, w1, w2, w3, hcomp, bind_ok]
    rw [hl]
    simp only [bind_ok]
    simp [runFn, evTs, evT, evE, evL, evAnd, evOr, evIfs, start0, resL, resR, S.val, pev, seqOf, L2.atI, dLt, PR.r, tstR, put, asgR, slotL, escR, escL, upS, setI, L2.ixN, finF, finR, iosOf, callR, loan, apart, okP, sameK, valIx, ioIx, putIos, frzL, isOwn, D.scal, D.flat, methD, bindTg, wipeD, canWipe, backV, backL, lockL, lockR, backR, S.lock, pIn, hm2, hr2]
  have t2 : evT W C (.ret (.tup [(.con (.str "row")), (.call pa [(.var 0), (.var 1), (.var 2), (.var 3), rowComp])])) (patSt pool1 x deep r b (some (.p (.int v))) (some (.p (.int n))) (some (.p (.int h))) none none none) = .ok (.rt (.d (enc (.row ps))), patSt pool2 x deep r' b (some (.p (.int v))) (some (.p (.int n))) (some (.p (.int h))) none none none) := by
    rw [evT, evE]
    have hl : evL C [(.con (.str "row")), (.call pa [(.var 0), (.var 1), (.var 2), (.var 3), rowComp])] (patSt pool1 x deep r b (some (.p (.int v))) (some (.p (.int n))) (some (.p (.int h))) none none none) = .ok ([.d (.str "row"), .d (.tup (encL ps))], patSt pool2 x deep r' b (some (.p (.int v))) (some (.p (.int n))) (some (.p (.int h))) none none none) := by
      have k0 : evE C (.con (.str "row")) (patSt pool1 x deep r b (some (.p (.int v))) (some (.p (.int n))) (some (.p (.int h))) none none none) = .ok (.d (.str "row"), patSt pool1 x deep r b (some (.p (.int v))) (some (.p (.int n))) (some (.p (.int h))) none none none) := by simp [evE]
      simp only [evL, k0, hcall, bind_ok]
    rw [hl]
    simp [escL, escR, enc]
  have t0 : evE C (.pr .lt [(.var 5), (.con (.int 4))]) (patSt pool x deep r b (some (.p (.int v))) (some (.p (.int n))) none none none none) = .ok (.d (.bl true), patSt pool x deep r b (some (.p (.int v))) (some (.p (.int n))) none none none none) := by
    simp [runFn, evTs, evT, evE, evL, evAnd, evOr, evIfs, start0, resL, resR, S.val, pev, seqOf, L2.atI, dLt, PR.r, tstR, put, asgR, slotL, escR, escL, upS, setI, L2.ixN, finF, finR, iosOf, callR, loan, apart, okP, sameK, valIx, ioIx, putIos, frzL, isOwn, D.scal, D.flat, methD, bindTg, wipeD, canWipe, backV, backL, lockL, lockR, backR, S.lock, pIn, hv]
  rw [evT, t0]
  simp only [bind_ok, tstR, resR, if_true, evTs, t1, t2]
end
end Ev
set_option maxHeartbeats 4000000
/-! GenI: a pick, an again, a held, a price drawn -/
namespace Ev
open PySem
section
variable {W : Nat} {C : Calls} {nx lf pa pt : Nat}
abbrev st6 (pool : D) (x : Str) (deep : Nat) (r : Int) (b : Bool) (v n : Int) : DEnv := patSt pool x deep r b (some (.p (.int v))) (some (.p (.int n))) none none none none
theorem pat_s4n (pool : D) (x : Str) (deep : Nat) (r : Int) (b : Bool) (v n : Int) (hv : ¬ v < 4) : evT W C (pat4 nx lf pa pt) (st6 pool x deep r b v n) = .ok (.nx, st6 pool x deep r b v n) := by
  have t0 : evE C (.pr .lt [(.var 5), (.con (.int 4))]) (st6 pool x deep r b v n) = .ok (.d (.bl false), st6 pool x deep r b v n) := by
    simp [runFn, evTs, evT, evE, evL, evAnd, evOr, evIfs, start0, resL, resR, S.val, pev, seqOf, L2.atI, dLt, PR.r, tstR, put, asgR, slotL, escR, escL, upS, setI, L2.ixN, finF, finR, iosOf, callR, loan, apart, okP, sameK, valIx, ioIx, putIos, frzL, isOwn, D.scal, D.flat, methD, bindTg, wipeD, canWipe, backV, backL, lockL, lockR, backR, S.lock, pIn, hv]
  rw [evT, t0]
  simp [tstR, resR, evTs]
theorem pat_s5 {d : Nat} (P : PartsOk C pa d) (pool : D) (hp : IsPool pool) (x : Str) (hx : someText x) (deep r : Nat) (hd : 2 ≤ deep) (hd2 : deep ≤ d) (b : Bool) (v n : Int) (h1 : 2 ≤ n) (h2 : n < 7) (h3 : n ≤ r) (hv : v < 6) :
    ∃ (ps : List Pat) (pool' : D) (r' : Nat), IsPool pool' ∧ sizeL ps + r' = r ∧ depL ps ≤ deep - 1 ∧ ((2 ≤ ps.length ∧ ps.length ≤ 6) ∧ goodL ps ∧ (b = false → anyBlk ps = false)) ∧
      evT W C (pat5 nx lf pa pt) (st6 pool x deep r b v n) = .ok (.rt (.d (enc (.pick ps))), st6 pool' x deep r' b v n) := by
  obtain ⟨ps, pool2, r', a1, hp2, a2, a3, a4, hr2⟩ := P.run pool x deep r (List.replicate n.toNat b) hp hx hd hd2 (by simp; omega) (by simp; omega)
  have hm2 := P.md
  refine ⟨ps, pool2, r', hp2, a2, a3, ⟨by rw [a1]; simp; omega, a4.1, fun hb => pick_blk a1 (by subst hb; simpa using a4.2)⟩, ?_⟩
  have n0 : 0 ≤ n := by omega
  have n1 : n.toNat ≤ 1000000 := by omega
  have n2 : n ≤ 1000000 := by omega
  rw [List.map_replicate] at hr2
  simp [runFn, evTs, evT, evE, evL, evAnd, evOr, evIfs, start0, resL, resR, S.val, pev, seqOf, L2.atI, dLt, PR.r, tstR, put, asgR, slotL, escR, escL, upS, setI, L2.ixN, finF, finR, iosOf, callR, loan, apart, okP, sameK, valIx, ioIx, putIos, frzL, isOwn, D.scal, D.flat, methD, bindTg, wipeD, canWipe, backV, backL, lockL, lockR, backR, S.lock, pIn, hm2, hr2, hv, n0, n1, n2, enc]
theorem pat_s5n (pool : D) (x : Str) (deep : Nat) (r : Int) (b : Bool) (v n : Int) (hv : ¬ v < 6) : evT W C (pat5 nx lf pa pt) (st6 pool x deep r b v n) = .ok (.nx, st6 pool x deep r b v n) := by
  simp [runFn, evTs, evT, evE, evL, evAnd, evOr, evIfs, start0, resL, resR, S.val, pev, seqOf, L2.atI, dLt, PR.r, tstR, put, asgR, slotL, escR, escL, upS, setI, L2.ixN, finF, finR, iosOf, callR, loan, apart, okP, sameK, valIx, ioIx, putIos, frzL, isOwn, D.scal, D.flat, methD, bindTg, wipeD, canWipe, backV, backL, lockL, lockR, backR, S.lock, pIn, hv]
theorem pat_s6 {d : Nat} (P : DrawOk C pt d) (pool : D) (hp : IsPool pool) (x : Str) (hx : someText x) (deep r : Nat) (hd : 2 ≤ deep) (hd2 : deep ≤ d + 1) (b : Bool) (v n : Int) (hr : 1 ≤ r) (hv : v < 8) (hb : b = true) :
    ∃ (p : Pat) (pool' : D) (r' : Nat), IsPool pool' ∧ p.size + r' = r ∧ (Fits p (deep - 1) ∧ p.blk = false) ∧ evT W C (pat6 nx lf pa pt) (st6 pool x deep r b v n) = .ok (.rt (.d (enc (.again p))), st6 pool' x deep r' b v n) := by
  obtain ⟨p, pool', r', hp', hs, hf, he⟩ := P.run pool x (deep - 1) r false hp hx (by omega) (by omega) hr
  have hm := P.md
  refine ⟨p, pool', r', hp', hs, ⟨hf.1, hf.2 rfl⟩, ?_⟩
  have hc : ((deep - 1 : Nat) : Int) = (deep : Int) - 1 := by omega
  rw [hc] at he
  simp [runFn, evTs, evT, evE, evL, evAnd, evOr, evIfs, start0, resL, resR, S.val, pev, seqOf, L2.atI, dLt, PR.r, tstR, put, asgR, slotL, escR, escL, upS, setI, L2.ixN, finF, finR, iosOf, callR, loan, apart, okP, sameK, valIx, ioIx, putIos, frzL, isOwn, D.scal, D.flat, methD, bindTg, wipeD, canWipe, backV, backL, lockL, lockR, backR, S.lock, pIn, hm, he, hv, hb, enc]
theorem pat_s6n (pool : D) (x : Str) (deep : Nat) (r : Int) (b : Bool) (v n : Int) (hv : ¬ (v < 8 ∧ b = true)) : evT W C (pat6 nx lf pa pt) (st6 pool x deep r b v n) = .ok (.nx, st6 pool x deep r b v n) := by
  by_cases h : v < 8
  · have hb : b = false := by cases b; rfl; exact absurd ⟨h, rfl⟩ hv
    subst hb
    simp [runFn, evTs, evT, evE, evL, evAnd, evOr, evIfs, start0, resL, resR, S.val, pev, seqOf, L2.atI, dLt, PR.r, tstR, put, asgR, slotL, escR, escL, upS, setI, L2.ixN, finF, finR, iosOf, callR, loan, apart, okP, sameK, valIx, ioIx, putIos, frzL, isOwn, D.scal, D.flat, methD, bindTg, wipeD, canWipe, backV, backL, lockL, lockR, backR, S.lock, pIn, h]
  · simp [runFn, evTs, evT, evE, evL, evAnd, evOr, evIfs, start0, resL, resR, S.val, pev, seqOf, L2.atI, dLt, PR.r, tstR, put, asgR, slotL, escR, escL, upS, setI, L2.ixN, finF, finR, iosOf, callR, loan, apart, okP, sameK, valIx, ioIx, putIos, frzL, isOwn, D.scal, D.flat, methD, bindTg, wipeD, canWipe, backV, backL, lockL, lockR, backR, S.lock, pIn, h]
theorem pat_s7 (N : NextOk C nx) {d : Nat} (P : DrawOk C pt d) (pool : D) (hp : IsPool pool) (x : Str) (hx : someText x) (deep r : Nat) (hd : 2 ≤ deep) (hd2 : deep ≤ d + 1) (b : Bool) (n : Int) (hr : 1 ≤ r) :
    ∃ (z : Str) (p : Pat) (pool' : D) (r' : Nat) (δ' : DEnv), z ∈ heldNames ∧ IsPool pool' ∧ p.size + r' = r ∧ (Fits p (deep - 1) ∧ (b = false → p.blk = false)) ∧ iosOf [true, false, false, true, false] δ' = some [pool', .lst [.int r']] ∧
      evT W C (pat7 nx lf pa pt) (st6 pool x deep r b 8 n) = .ok (.rt (.d (enc (.held z p))), δ') := by
  obtain ⟨u, pool1, h0, h1, hp1, hr1⟩ := N.run pool 6 hp (by omega) (by omega)
  obtain ⟨p, pool', r', hp', hs, hf, he⟩ := P.run pool1 x (deep - 1) r b hp1 hx (by omega) (by omega) hr
  have hm := N.md
  have hm2 := P.md
  have hc : ((deep - 1 : Nat) : Int) = (deep : Int) - 1 := by omega
  rw [hc] at he
  have hv : u = 0 ∨ u = 1 ∨ u = 2 ∨ u = 3 ∨ u = 4 ∨ u = 5 := by omega
  rcases hv with rfl | rfl | rfl | rfl | rfl | rfl
  · exact ⟨"x", p, pool', r', patSt pool' x deep r' b (some (.p (.int 8))) (some (.p (.int n))) none none (some (.p (.str "x"))) none, by decide +kernel, hp', hs, hf, rfl, by simp [runFn, evTs, evT, evE, evL, evAnd, evOr, evIfs, start0, resL, resR, S.val, pev, seqOf, L2.atI, dLt, PR.r, tstR, put, asgR, slotL, escR, escL, upS, setI, L2.ixN, finF, finR, iosOf, callR, loan, apart, okP, sameK, valIx, ioIx, putIos, frzL, isOwn, D.scal, D.flat, methD, bindTg, wipeD, canWipe, backV, backL, lockL, lockR, backR, S.lock, pIn, hm, hm2, hr1, he, pEq_int, enc]⟩
  · exact ⟨"yy", p, pool', r', patSt pool' x deep r' b (some (.p (.int 8))) (some (.p (.int n))) none none (some (.p (.str "yy"))) none, by decide +kernel, hp', hs, hf, rfl, by simp [runFn, evTs, evT, evE, evL, evAnd, evOr, evIfs, start0, resL, resR, S.val, pev, seqOf, L2.atI, dLt, PR.r, tstR, put, asgR, slotL, escR, escL, upS, setI, L2.ixN, finF, finR, iosOf, callR, loan, apart, okP, sameK, valIx, ioIx, putIos, frzL, isOwn, D.scal, D.flat, methD, bindTg, wipeD, canWipe, backV, backL, lockL, lockR, backR, S.lock, pIn, hm, hm2, hr1, he, pEq_int, enc]⟩
  · exact ⟨"left", p, pool', r', patSt pool' x deep r' b (some (.p (.int 8))) (some (.p (.int n))) none none (some (.p (.str "left"))) none, by decide +kernel, hp', hs, hf, rfl, by simp [runFn, evTs, evT, evE, evL, evAnd, evOr, evIfs, start0, resL, resR, S.val, pev, seqOf, L2.atI, dLt, PR.r, tstR, put, asgR, slotL, escR, escL, upS, setI, L2.ixN, finF, finR, iosOf, callR, loan, apart, okP, sameK, valIx, ioIx, putIos, frzL, isOwn, D.scal, D.flat, methD, bindTg, wipeD, canWipe, backV, backL, lockL, lockR, backR, S.lock, pIn, hm, hm2, hr1, he, pEq_int, enc]⟩
  · exact ⟨"pick", p, pool', r', patSt pool' x deep r' b (some (.p (.int 8))) (some (.p (.int n))) none none (some (.p (.str "pick"))) none, by decide +kernel, hp', hs, hf, rfl, by simp [runFn, evTs, evT, evE, evL, evAnd, evOr, evIfs, start0, resL, resR, S.val, pev, seqOf, L2.atI, dLt, PR.r, tstR, put, asgR, slotL, escR, escL, upS, setI, L2.ixN, finF, finR, iosOf, callR, loan, apart, okP, sameK, valIx, ioIx, putIos, frzL, isOwn, D.scal, D.flat, methD, bindTg, wipeD, canWipe, backV, backL, lockL, lockR, backR, S.lock, pIn, hm, hm2, hr1, he, pEq_int, enc]⟩
  · exact ⟨"none", p, pool', r', patSt pool' x deep r' b (some (.p (.int 8))) (some (.p (.int n))) none none (some (.p (.str "none"))) none, by decide +kernel, hp', hs, hf, rfl, by simp [runFn, evTs, evT, evE, evL, evAnd, evOr, evIfs, start0, resL, resR, S.val, pev, seqOf, L2.atI, dLt, PR.r, tstR, put, asgR, slotL, escR, escL, upS, setI, L2.ixN, finF, finR, iosOf, callR, loan, apart, okP, sameK, valIx, ioIx, putIos, frzL, isOwn, D.scal, D.flat, methD, bindTg, wipeD, canWipe, backV, backL, lockL, lockR, backR, S.lock, pIn, hm, hm2, hr1, he, pEq_int, enc]⟩
  · exact ⟨"abcdefgh", p, pool', r', patSt pool' x deep r' b (some (.p (.int 8))) (some (.p (.int n))) none none (some (.p (.str "abcdefgh"))) none, by decide +kernel, hp', hs, hf, rfl, by simp [runFn, evTs, evT, evE, evL, evAnd, evOr, evIfs, start0, resL, resR, S.val, pev, seqOf, L2.atI, dLt, PR.r, tstR, put, asgR, slotL, escR, escL, upS, setI, L2.ixN, finF, finR, iosOf, callR, loan, apart, okP, sameK, valIx, ioIx, putIos, frzL, isOwn, D.scal, D.flat, methD, bindTg, wipeD, canWipe, backV, backL, lockL, lockR, backR, S.lock, pIn, hm, hm2, hr1, he, pEq_int, enc]⟩
theorem pat_s7n (pool : D) (x : Str) (deep : Nat) (r : Int) (b : Bool) (v n : Int) (hv : v ≠ 8) : evT W C (pat7 nx lf pa pt) (st6 pool x deep r b v n) = .ok (.nx, st6 pool x deep r b v n) := by
  simp [runFn, evTs, evT, evE, evL, evAnd, evOr, evIfs, start0, resL, resR, S.val, pev, seqOf, L2.atI, dLt, PR.r, tstR, put, asgR, slotL, escR, escL, upS, setI, L2.ixN, finF, finR, iosOf, callR, loan, apart, okP, sameK, valIx, ioIx, putIos, frzL, isOwn, D.scal, D.flat, methD, bindTg, wipeD, canWipe, backV, backL, lockL, lockR, backR, S.lock, pIn, pEq_int, hv]
theorem pat_s8 (N : NextOk C nx) (pool : D) (hp : IsPool pool) (x : Str) (deep : Nat) (r : Int) (b : Bool) (v n : Int) :
    ∃ (k : Int) (pool' : D), (IsPool pool' ∧ 0 ≤ k ∧ k ≤ 1000) ∧ evT W C (pat8 nx lf pa pt) (st6 pool x deep r b v n) = .ok (.nx, patSt pool' x deep r b (some (.p (.int v))) (some (.p (.int n))) none none none (some (.p (.int k)))) := by
  obtain ⟨a, pool1, ha0, ha1, hp1, hr1⟩ := N.run pool 1001 hp (by omega) (by omega)
  obtain ⟨u, pool2, h0, h1, hp2, hr2⟩ := N.run pool1 6 hp1 (by omega) (by omega)
  have hm := N.md
  have hv : u = 0 ∨ u = 1 ∨ u = 2 ∨ u = 3 ∨ u = 4 ∨ u = 5 := by omega
  rcases hv with rfl | rfl | rfl | rfl | rfl | rfl
  · exact ⟨0, pool2, ⟨hp2, by omega, by omega⟩, by simp [runFn, evTs, evT, evE, evL, evAnd, evOr, evIfs, start0, resL, resR, S.val, pev, seqOf, L2.atI, dLt, PR.r, tstR, put, asgR, slotL, escR, escL, upS, setI, L2.ixN, finF, finR, iosOf, callR, loan, apart, okP, sameK, valIx, ioIx, putIos, frzL, isOwn, D.scal, D.flat, methD, bindTg, wipeD, canWipe, backV, backL, lockL, lockR, backR, S.lock, pIn, hm, hr1, hr2]⟩
  · exact ⟨1, pool2, ⟨hp2, by omega, by omega⟩, by simp [runFn, evTs, evT, evE, evL, evAnd, evOr, evIfs, start0, resL, resR, S.val, pev, seqOf, L2.atI, dLt, PR.r, tstR, put, asgR, slotL, escR, escL, upS, setI, L2.ixN, finF, finR, iosOf, callR, loan, apart, okP, sameK, valIx, ioIx, putIos, frzL, isOwn, D.scal, D.flat, methD, bindTg, wipeD, canWipe, backV, backL, lockL, lockR, backR, S.lock, pIn, hm, hr1, hr2]⟩
  · exact ⟨2, pool2, ⟨hp2, by omega, by omega⟩, by simp [runFn, evTs, evT, evE, evL, evAnd, evOr, evIfs, start0, resL, resR, S.val, pev, seqOf, L2.atI, dLt, PR.r, tstR, put, asgR, slotL, escR, escL, upS, setI, L2.ixN, finF, finR, iosOf, callR, loan, apart, okP, sameK, valIx, ioIx, putIos, frzL, isOwn, D.scal, D.flat, methD, bindTg, wipeD, canWipe, backV, backL, lockL, lockR, backR, S.lock, pIn, hm, hr1, hr2]⟩
  · exact ⟨999, pool2, ⟨hp2, by omega, by omega⟩, by simp [runFn, evTs, evT, evE, evL, evAnd, evOr, evIfs, start0, resL, resR, S.val, pev, seqOf, L2.atI, dLt, PR.r, tstR, put, asgR, slotL, escR, escL, upS, setI, L2.ixN, finF, finR, iosOf, callR, loan, apart, okP, sameK, valIx, ioIx, putIos, frzL, isOwn, D.scal, D.flat, methD, bindTg, wipeD, canWipe, backV, backL, lockL, lockR, backR, S.lock, pIn, hm, hr1, hr2]⟩
  · exact ⟨1000, pool2, ⟨hp2, by omega, by omega⟩, by simp [runFn, evTs, evT, evE, evL, evAnd, evOr, evIfs, start0, resL, resR, S.val, pev, seqOf, L2.atI, dLt, PR.r, tstR, put, asgR, slotL, escR, escL, upS, setI, L2.ixN, finF, finR, iosOf, callR, loan, apart, okP, sameK, valIx, ioIx, putIos, frzL, isOwn, D.scal, D.flat, methD, bindTg, wipeD, canWipe, backV, backL, lockL, lockR, backR, S.lock, pIn, hm, hr1, hr2]⟩
  · exact ⟨a, pool2, ⟨hp2, by omega, by omega⟩, by simp [runFn, evTs, evT, evE, evL, evAnd, evOr, evIfs, start0, resL, resR, S.val, pev, seqOf, L2.atI, dLt, PR.r, tstR, put, asgR, slotL, escR, escL, upS, setI, L2.ixN, finF, finR, iosOf, callR, loan, apart, okP, sameK, valIx, ioIx, putIos, frzL, isOwn, D.scal, D.flat, methD, bindTg, wipeD, canWipe, backV, backL, lockL, lockR, backR, S.lock, pIn, hm, hr1, hr2]⟩
theorem pat_s9 {d : Nat} (P : DrawOk C pt d) (pool : D) (hp : IsPool pool) (x : Str) (hx : someText x) (deep r : Nat) (hd : 2 ≤ deep) (hd2 : deep ≤ d + 1) (b : Bool) (v n k : Int) (hr : 1 ≤ r) :
    ∃ (p : Pat) (pool' : D) (r' : Nat), IsPool pool' ∧ p.size + r' = r ∧ (Fits p (deep - 1) ∧ (b = false → p.blk = false)) ∧
      evT W C (pat9 nx lf pa pt) (patSt pool x deep r b (some (.p (.int v))) (some (.p (.int n))) none none none (some (.p (.int k)))) = .ok (.rt (.d (enc (.price k p))), patSt pool' x deep r' b (some (.p (.int v))) (some (.p (.int n))) none none none (some (.p (.int k)))) := by
  obtain ⟨p, pool', r', hp', hs, hf, he⟩ := P.run pool x (deep - 1) r b hp hx (by omega) (by omega) hr
  have hm := P.md
  have hc : ((deep - 1 : Nat) : Int) = (deep : Int) - 1 := by omega
  rw [hc] at he
  exact ⟨p, pool', r', hp', hs, hf, by simp [runFn, evTs, evT, evE, evL, evAnd, evOr, evIfs, start0, resL, resR, S.val, pev, seqOf, L2.atI, dLt, PR.r, tstR, put, asgR, slotL, escR, escL, upS, setI, L2.ixN, finF, finR, iosOf, callR, loan, apart, okP, sameK, valIx, ioIx, putIos, frzL, isOwn, D.scal, D.flat, methD, bindTg, wipeD, canWipe, backV, backL, lockL, lockR, backR, S.lock, pIn, hm, he, enc]⟩
end
end Ev
set_option maxHeartbeats 4000000
/-! GenJ: patterns drawn, the whole -/
namespace Ev
open PySem
section
variable {W : Nat} {C : Calls} {nx lf pa pt : Nat}
theorem pat_fin {ts : List T} {δ0 δ' : DEnv} {p : Pat} {pool' : D} {r' : Nat} (h : evTs W C ts δ0 = .ok (.rt (.d (enc p)), δ')) (hi : iosOf [true, false, false, true, false] δ' = some [pool', .lst [.int r']]) :
    ((evTs W C ts δ0).bind fun z => match z.1 with
      | .nx => finF [true, false, false, true, false] z.2 (.d .non)
      | .rt r => finF [true, false, false, true, false] z.2 r
      | _ => .stuck) = .ok (enc p, false, [pool', .lst [.int r']]) := by
  rw [h]
  simp only [bind_ok, finF, finR, hi]
theorem pattern_run (N : NextOk C nx) (L : LeafOk C lf) {d : Nat} (P : PartsOk C pa (d + 1)) (G : DrawOk C pt d) (pool : D) (x : Str) (deep r : Nat) (b : Bool) (hp : IsPool pool) (hx : someText x) (h1 : 1 ≤ deep) (h2 : deep ≤ d + 1) (hr : 1 ≤ r) :
    ∃ (p : Pat) (pool' : D) (r' : Nat), IsPool pool' ∧ p.size + r' = r ∧ (Fits p deep ∧ (b = false → p.blk = false)) ∧ runFn W C (patternF nx lf pa pt) [pool, .str x, .int deep, .lst [.int r], .bl b] = .ok (enc p, false, [pool', .lst [.int r']]) := by
  have e0 : start0 (patternF nx lf pa pt) [pool, .str x, .int deep, .lst [.int r], .bl b] = patSt pool x deep r b none none none none none none := rfl
  have hc : (r : Int) - 1 = ((r - 1 : Nat) : Int) := by omega
  have s0 := pat_s0 (W := W) (C := C) (nx := nx) (lf := lf) (pa := pa) (pt := pt) pool x deep r b
  rw [hc] at s0
  obtain ⟨v, pool1, v0, v1, hp1, s1⟩ := pat_s1 (W := W) (lf := lf) (pa := pa) (pt := pt) N pool hp x deep ((r - 1 : Nat) : Int) b
  obtain ⟨n, pool2, n0, n1, hp2, s2⟩ := pat_s2 (W := W) (lf := lf) (pa := pa) (pt := pt) N pool1 hp1 x deep ((r - 1 : Nat) : Int) b v
  have fin : ∀ (p : Pat) (pool' : D) (r' : Nat) (δ' : DEnv), IsPool pool' → p.size + r' = r → (Fits p deep ∧ (b = false → p.blk = false)) → iosOf [true, false, false, true, false] δ' = some [pool', .lst [.int r']] →
      evTs W C [pat3 nx lf pa pt, pat4 nx lf pa pt, pat5 nx lf pa pt, pat6 nx lf pa pt, pat7 nx lf pa pt, pat8 nx lf pa pt, pat9 nx lf pa pt] (st6 pool2 x deep ((r - 1 : Nat) : Int) b v n) = .ok (.rt (.d (enc p)), δ') →
      ∃ (p : Pat) (pool' : D) (r' : Nat), IsPool pool' ∧ p.size + r' = r ∧ (Fits p deep ∧ (b = false → p.blk = false)) ∧ runFn W C (patternF nx lf pa pt) [pool, .str x, .int deep, .lst [.int r], .bl b] = .ok (enc p, false, [pool', .lst [.int r']]) := by
    intro p pool' r' δ' q1 q2 q3 q4 q5
    refine ⟨p, pool', r', q1, q2, q3, ?_⟩
    unfold runFn
    rw [if_pos (show [pool, D.str x, D.int deep, D.lst [D.int r], D.bl b].length = (patternF nx lf pa pt).ps.length from rfl), e0]
    refine pat_fin (ts := [pat0 nx lf pa pt, pat1 nx lf pa pt, pat2 nx lf pa pt, pat3 nx lf pa pt, pat4 nx lf pa pt, pat5 nx lf pa pt, pat6 nx lf pa pt, pat7 nx lf pa pt, pat8 nx lf pa pt, pat9 nx lf pa pt]) (δ' := δ') ?_ q4
    rw [evTs, s0]
    simp only [bind_ok]
    rw [evTs, s1]
    simp only [bind_ok]
    rw [evTs, s2]
    simp only [bind_ok]
    exact q5
  rcases pat_s3 (W := W) (nx := nx) (pa := pa) (pt := pt) L pool2 hp2 x hx deep ((r - 1 : Nat) : Int) b v n with ⟨p, pool', hl, hp', e⟩ | ⟨d2, r1, v2, vn, e⟩
  · obtain ⟨hf, hs⟩ := hl.1.fits h1
    refine fin p pool' (r - 1) (st6 pool' x deep ((r - 1 : Nat) : Int) b v n) hp' (by omega) ⟨hf, hl.2⟩ rfl ?_
    rw [evTs, e]
    rfl
  · have rr : 1 ≤ r - 1 := by omega
    by_cases c4 : v < 4
    · obtain ⟨ps, pool', r', δ', q1, q2, q3, q4, q5, q6⟩ := pat_s4 (W := W) (lf := lf) (pt := pt) N P pool2 hp2 x hx deep (r - 1) d2 h2 b v n n0 n1 (vn (by omega)) c4
      refine fin (.row ps) pool' r' δ' q1 (by simp only [Pat.size]; omega) ⟨⟨by simp only [Pat.dep]; omega, q4.1, q4.2.1⟩, q4.2.2⟩ q5 ?_
      rw [evTs, e]
      simp only [bind_ok]
      rw [evTs, q6]
      rfl
    · have e4 := pat_s4n (W := W) (C := C) (nx := nx) (lf := lf) (pa := pa) (pt := pt) pool2 x deep ((r - 1 : Nat) : Int) b v n c4
      by_cases c5 : v < 6
      · obtain ⟨ps, pool', r', q1, q2, q3, q4, q6⟩ := pat_s5 (W := W) (nx := nx) (lf := lf) (pt := pt) P pool2 hp2 x hx deep (r - 1) d2 h2 b v n n0 n1 (vn c5) c5
        refine fin (.pick ps) pool' r' (st6 pool' x deep r' b v n) q1 (by simp only [Pat.size]; omega) ⟨⟨by simp only [Pat.dep]; omega, q4.1, q4.2.1⟩, q4.2.2⟩ rfl ?_
        rw [evTs, e]
        simp only [bind_ok]
        rw [evTs, e4]
        simp only [bind_ok]
        rw [evTs, q6]
        rfl
      · have e5 := pat_s5n (W := W) (C := C) (nx := nx) (lf := lf) (pa := pa) (pt := pt) pool2 x deep ((r - 1 : Nat) : Int) b v n c5
        by_cases c6 : v < 8 ∧ b = true
        · obtain ⟨p, pool', r', q1, q2, q3, q6⟩ := pat_s6 (W := W) (nx := nx) (lf := lf) (pa := pa) G pool2 hp2 x hx deep (r - 1) d2 h2 b v n rr c6.1 c6.2
          refine fin (.again p) pool' r' (st6 pool' x deep r' b v n) q1 (by simp only [Pat.size]; omega) ⟨⟨by have := q3.1.dep; simp only [Pat.dep]; omega, q3.2, q3.1.good⟩, fun hb => absurd (c6.2.symm.trans hb) (by decide)⟩ rfl ?_
          rw [evTs, e]
          simp only [bind_ok]
          rw [evTs, e4]
          simp only [bind_ok]
          rw [evTs, e5]
          simp only [bind_ok]
          rw [evTs, q6]
          rfl
        · have e6 := pat_s6n (W := W) (C := C) (nx := nx) (lf := lf) (pa := pa) (pt := pt) pool2 x deep ((r - 1 : Nat) : Int) b v n c6
          by_cases c7 : v = 8
          · subst c7
            obtain ⟨z, p, pool', r', δ', q0, q1, q2, q3, q5, q6⟩ := pat_s7 (W := W) (lf := lf) (pa := pa) N G pool2 hp2 x hx deep (r - 1) d2 h2 b n rr
            refine fin (.held z p) pool' r' δ' q1 (by simp only [Pat.size]; omega) ⟨⟨by have := q3.1.dep; simp only [Pat.dep]; omega, q0, q3.1.good⟩, q3.2⟩ q5 ?_
            rw [evTs, e]
            simp only [bind_ok]
            rw [evTs, e4]
            simp only [bind_ok]
            rw [evTs, e5]
            simp only [bind_ok]
            rw [evTs, e6]
            simp only [bind_ok]
            rw [evTs, q6]
            rfl
          · have e7 := pat_s7n (W := W) (C := C) (nx := nx) (lf := lf) (pa := pa) (pt := pt) pool2 x deep ((r - 1 : Nat) : Int) b v n c7
            obtain ⟨k, pool3, ⟨hp3, k0, k1⟩, e8⟩ := pat_s8 (W := W) (lf := lf) (pa := pa) (pt := pt) N pool2 hp2 x deep ((r - 1 : Nat) : Int) b v n
            obtain ⟨p, pool', r', q1, q2, q3, q6⟩ := pat_s9 (W := W) (nx := nx) (lf := lf) (pa := pa) G pool3 hp3 x hx deep (r - 1) d2 h2 b v n k rr
            refine fin (.price k p) pool' r' (patSt pool' x deep r' b (some (.p (.int v))) (some (.p (.int n))) none none none (some (.p (.int k)))) q1 (by simp only [Pat.size]; omega) ⟨⟨by have := q3.1.dep; simp only [Pat.dep]; omega, ⟨k0, k1⟩, q3.1.good⟩, q3.2⟩ rfl ?_
            rw [evTs, e]
            simp only [bind_ok]
            rw [evTs, e4]
            simp only [bind_ok]
            rw [evTs, e5]
            simp only [bind_ok]
            rw [evTs, e6]
            simp only [bind_ok]
            rw [evTs, e7]
            simp only [bind_ok]
            rw [evTs, e8]
            simp only [bind_ok]
            rw [evTs, q6]
            rfl
/-- the table holds the drawing defs -/
structure DrawTab (tab : List Fn) (po nx le lf pa pt : Nat) : Prop where
  hpo : tab[po]? = some poolF
  hnx : tab[nx]? = some nextF
  hle : tab[le]? = some (lettersF nx)
  hlf : tab[lf]? = some (leafF nx)
  hpa : tab[pa]? = some (partsF pt)
  hpt : tab[pt]? = some (patternF nx lf pa pt)
theorem md_at {tab : List Fn} {W n f : Nat} {fn : Fn} (h : tab[f]? = some fn) : (calls W tab n).md f = some fn.ps := by
  cases n <;> (show (tab[f]?).map (·.ps) = _; rw [h]; rfl)
theorem run_at {tab : List Fn} {W n f : Nat} {fn : Fn} (h : tab[f]? = some fn) (args : List D) : (calls W tab (n + 1)).run f args = runFn W (calls W tab n) fn args := by
  show (match tab[f]? with | some fn => runFn W (calls W tab n) fn args | none => .stuck) = _
  rw [h]
theorem next_lvl {tab : List Fn} {W nx : Nat} (h : tab[nx]? = some nextF) (n : Nat) : NextOk (calls W tab (n + 1)) nx :=
  ⟨md_at h, fun pool base hp h1 h2 => by rw [run_at h]; exact next_run W _ pool base hp h1 h2⟩
theorem leaf_lvl {tab : List Fn} {W nx lf : Nat} (h : tab[nx]? = some nextF) (h2 : tab[lf]? = some (leafF nx)) (n : Nat) : LeafOk (calls W tab (n + 2)) lf :=
  ⟨md_at h2, fun pool x b hp hx => by rw [run_at h2]; exact leaf_run (next_lvl h n) x hx b pool hp⟩
theorem parts_lvl {tab : List Fn} {W pa pt d n : Nat} (h : tab[pa]? = some (partsF pt)) (G : DrawOk (calls W tab n) pt d) : PartsOk (calls W tab (n + 1)) pa (d + 1) :=
  ⟨md_at h, fun pool x deep r bs hp hx h1 h2 h3 h4 => by rw [run_at h]; exact parts_run G pool x deep r bs hp hx h1 h2 h3 h4⟩
theorem DrawOk.mono {C : Calls} {pt d e : Nat} (G : DrawOk C pt d) (h : e ≤ d) : DrawOk C pt e := ⟨G.md, fun pool x deep r b hp hx h1 h2 hr => G.run pool x deep r b hp hx h1 (by omega) hr⟩
theorem draw_lvl {tab : List Fn} {W po nx le lf pa pt : Nat} (T : DrawTab tab po nx le lf pa pt) : ∀ (d n : Nat), 2 * d + 2 ≤ n → DrawOk (calls W tab n) pt d
  | 0, n, _ => ⟨md_at T.hpt, fun pool x deep r b hp hx h1 h2 hr => absurd h1 (by omega)⟩
  | d + 1, n, hn => by
    obtain ⟨m, rfl⟩ : ∃ m, n = m + 2 := ⟨n - 2, by omega⟩
    obtain ⟨k, rfl⟩ : ∃ k, m = k + 1 := ⟨m - 1, by omega⟩
    have G := draw_lvl (W := W) T d (k + 1) (by omega)
    have G2 := draw_lvl (W := W) T d (k + 2) (by omega)
    exact ⟨md_at T.hpt, fun pool x deep r b hp hx h1 h2 hr => by
      rw [run_at T.hpt]
      exact pattern_run (next_lvl T.hnx (k + 1)) (leaf_lvl T.hnx T.hlf k) (parts_lvl T.hpa G) G2 pool x deep r b hp hx h1 h2 hr⟩
end
end Ev
set_option maxHeartbeats 4000000
/-! GenK: a pattern of at most forty makes drawn -/
namespace Ev
open PySem
def drawnF (nx le pt : Nat) : Fn := ⟨4, [true, false], [.asg (.nm 2) (.call le [(.var 0)]), .asg (.nm 3) (.lst [(.pr .idx [(.lst [(.con (.int 1)), (.con (.int 3)), (.con (.int 6)), (.con (.int 10)), (.con (.int 16)), (.con (.int 24)), (.con (.int 32)), (.con (.int 40))]), (.call nx [(.var 0), (.con (.int 8))])])]), .ret (.call pt [(.var 0), (.var 2), (.pr .add [(.con (.int 2)), (.call nx [(.var 0), (.pr .sub [(.var 1), (.con (.int 1))])])]), (.var 3), (.con (.bl true))])]⟩
structure LettersOk (C : Calls) (le : Nat) : Prop where
  md : C.md le = some [true]
  run : ∀ (pool : D), IsPool pool → ∃ (x : Str) (pool' : D), someText x ∧ IsPool pool' ∧ C.run le [pool] = .ok (.str x, false, [pool'])
section
variable {W : Nat} {C : Calls} {nx le pt : Nat}
theorem drawn_s1 (N : NextOk C nx) (dd : Int) (pool : D) (hp : IsPool pool) (x : Str) : ∃ (R : Nat) (pool' : D), 1 ≤ R ∧ R ≤ 40 ∧ IsPool pool' ∧
    evT W C (.asg (.nm 3) (.lst [(.pr .idx [(.lst [(.con (.int 1)), (.con (.int 3)), (.con (.int 6)), (.con (.int 10)), (.con (.int 16)), (.con (.int 24)), (.con (.int 32)), (.con (.int 40))]), (.call nx [(.var 0), (.con (.int 8))])])])) [some (.io false pool), some (.p (.int dd)), some (.p (.str x)), none]
      = .ok (.nx, [some (.io false pool'), some (.p (.int dd)), some (.p (.str x)), some (.m false (.lst [.int R]))]) := by
  obtain ⟨v, pool', h0, h1, hp', hr⟩ := N.run pool 8 hp (by omega) (by omega)
  have hm := N.md
  have hv : v = 0 ∨ v = 1 ∨ v = 2 ∨ v = 3 ∨ v = 4 ∨ v = 5 ∨ v = 6 ∨ v = 7 := by omega
  rcases hv with rfl | rfl | rfl | rfl | rfl | rfl | rfl | rfl
  · exact ⟨1, pool', by omega, by omega, hp', by simp [runFn, evTs, evT, evE, evL, evAnd, evOr, evIfs, start0, resL, resR, S.val, pev, seqOf, L2.atI, dLt, PR.r, tstR, put, asgR, slotL, escR, escL, upS, setI, L2.ixN, finF, finR, iosOf, callR, loan, apart, okP, sameK, valIx, ioIx, putIos, frzL, isOwn, D.scal, D.flat, methD, bindTg, wipeD, canWipe, backV, backL, lockL, lockR, backR, S.lock, pIn, hm, hr]⟩
  · exact ⟨3, pool', by omega, by omega, hp', by simp [runFn, evTs, evT, evE, evL, evAnd, evOr, evIfs, start0, resL, resR, S.val, pev, seqOf, L2.atI, dLt, PR.r, tstR, put, asgR, slotL, escR, escL, upS, setI, L2.ixN, finF, finR, iosOf, callR, loan, apart, okP, sameK, valIx, ioIx, putIos, frzL, isOwn, D.scal, D.flat, methD, bindTg, wipeD, canWipe, backV, backL, lockL, lockR, backR, S.lock, pIn, hm, hr]⟩
  · exact ⟨6, pool', by omega, by omega, hp', by simp [runFn, evTs, evT, evE, evL, evAnd, evOr, evIfs, start0, resL, resR, S.val, pev, seqOf, L2.atI, dLt, PR.r, tstR, put, asgR, slotL, escR, escL, upS, setI, L2.ixN, finF, finR, iosOf, callR, loan, apart, okP, sameK, valIx, ioIx, putIos, frzL, isOwn, D.scal, D.flat, methD, bindTg, wipeD, canWipe, backV, backL, lockL, lockR, backR, S.lock, pIn, hm, hr]⟩
  · exact ⟨10, pool', by omega, by omega, hp', by simp [runFn, evTs, evT, evE, evL, evAnd, evOr, evIfs, start0, resL, resR, S.val, pev, seqOf, L2.atI, dLt, PR.r, tstR, put, asgR, slotL, escR, escL, upS, setI, L2.ixN, finF, finR, iosOf, callR, loan, apart, okP, sameK, valIx, ioIx, putIos, frzL, isOwn, D.scal, D.flat, methD, bindTg, wipeD, canWipe, backV, backL, lockL, lockR, backR, S.lock, pIn, hm, hr]⟩
  · exact ⟨16, pool', by omega, by omega, hp', by simp [runFn, evTs, evT, evE, evL, evAnd, evOr, evIfs, start0, resL, resR, S.val, pev, seqOf, L2.atI, dLt, PR.r, tstR, put, asgR, slotL, escR, escL, upS, setI, L2.ixN, finF, finR, iosOf, callR, loan, apart, okP, sameK, valIx, ioIx, putIos, frzL, isOwn, D.scal, D.flat, methD, bindTg, wipeD, canWipe, backV, backL, lockL, lockR, backR, S.lock, pIn, hm, hr]⟩
  · exact ⟨24, pool', by omega, by omega, hp', by simp [runFn, evTs, evT, evE, evL, evAnd, evOr, evIfs, start0, resL, resR, S.val, pev, seqOf, L2.atI, dLt, PR.r, tstR, put, asgR, slotL, escR, escL, upS, setI, L2.ixN, finF, finR, iosOf, callR, loan, apart, okP, sameK, valIx, ioIx, putIos, frzL, isOwn, D.scal, D.flat, methD, bindTg, wipeD, canWipe, backV, backL, lockL, lockR, backR, S.lock, pIn, hm, hr]⟩
  · exact ⟨32, pool', by omega, by omega, hp', by simp [runFn, evTs, evT, evE, evL, evAnd, evOr, evIfs, start0, resL, resR, S.val, pev, seqOf, L2.atI, dLt, PR.r, tstR, put, asgR, slotL, escR, escL, upS, setI, L2.ixN, finF, finR, iosOf, callR, loan, apart, okP, sameK, valIx, ioIx, putIos, frzL, isOwn, D.scal, D.flat, methD, bindTg, wipeD, canWipe, backV, backL, lockL, lockR, backR, S.lock, pIn, hm, hr]⟩
  · exact ⟨40, pool', by omega, by omega, hp', by simp [runFn, evTs, evT, evE, evL, evAnd, evOr, evIfs, start0, resL, resR, S.val, pev, seqOf, L2.atI, dLt, PR.r, tstR, put, asgR, slotL, escR, escL, upS, setI, L2.ixN, finF, finR, iosOf, callR, loan, apart, okP, sameK, valIx, ioIx, putIos, frzL, isOwn, D.scal, D.flat, methD, bindTg, wipeD, canWipe, backV, backL, lockL, lockR, backR, S.lock, pIn, hm, hr]⟩
theorem drawn_run (N : NextOk C nx) (L : LettersOk C le) {e : Nat} (h2 : 2 ≤ e) (h3 : e ≤ 1000) (G : DrawOk C pt e) (dd : Int) (hdd : dd = (e : Nat)) (pool : D) (hp : IsPool pool) : ∃ (p : Pat) (pool' : D), IsPool pool' ∧ p.size ≤ 40 ∧ Fits p e ∧ runFn W C (drawnF nx le pt) [pool, .int dd] = .ok (enc p, false, [pool']) := by
  obtain ⟨x, pool1, hx, hp1, hr1⟩ := L.run pool hp
  obtain ⟨R, pool2, R1, R2, hp2, s1⟩ := drawn_s1 (W := W) N dd pool1 hp1 x
  obtain ⟨u, pool3, u0, u1, hp3, hr3⟩ := N.run pool2 (dd - 1) hp2 (by omega) (by omega)
  obtain ⟨p, pool4, r', hp4, hs, hf, hr4⟩ := G.run pool3 x (2 + u).toNat R true hp3 hx (by omega) (by omega) R1
  have hm := N.md
  have hm1 := L.md
  have hm2 := G.md
  have hc : (((2 + u).toNat : Nat) : Int) = 2 + u := by omega
  rw [hc] at hr4
  refine ⟨p, pool4, hp4, by omega, ⟨by have := hf.1.dep; omega, hf.1.good⟩, ?_⟩
  have s0 : evT W C (.asg (.nm 2) (.call le [(.var 0)])) [some (.io false pool), some (.p (.int dd)), none, none] = .ok (.nx, [some (.io false pool1), some (.p (.int dd)), some (.p (.str x)), none]) := by
    simp [runFn, evTs, evT, evE, evL, evAnd, evOr, evIfs, start0, resL, resR, S.val, pev, seqOf, L2.atI, dLt, PR.r, tstR, put, asgR, slotL, escR, escL, upS, setI, L2.ixN, finF, finR, iosOf, callR, loan, apart, okP, sameK, valIx, ioIx, putIos, frzL, isOwn, D.scal, D.flat, methD, bindTg, wipeD, canWipe, backV, backL, lockL, lockR, backR, S.lock, pIn, hm1, hr1]
  have s2 : evT W C (.ret (.call pt [(.var 0), (.var 2), (.pr .add [(.con (.int 2)), (.call nx [(.var 0), (.pr .sub [(.var 1), (.con (.int 1))])])]), (.var 3), (.con (.bl true))])) [some (.io false pool2), some (.p (.int dd)), some (.p (.str x)), some (.m false (.lst [.int R]))]
      = .ok (.rt (.d (enc p)), [some (.io false pool4), some (.p (.int dd)), some (.p (.str x)), some (.m false (.lst [.int r']))]) := by
    simp [runFn, evTs, evT, evE, evL, evAnd, evOr, evIfs, start0, resL, resR, S.val, pev, seqOf, L2.atI, dLt, PR.r, tstR, put, asgR, slotL, escR, escL, upS, setI, L2.ixN, finF, finR, iosOf, callR, loan, apart, okP, sameK, valIx, ioIx, putIos, frzL, isOwn, D.scal, D.flat, methD, bindTg, wipeD, canWipe, backV, backL, lockL, lockR, backR, S.lock, pIn, hm, hm2, hr3, hr4]
  have e0 : start0 (drawnF nx le pt) [pool, .int dd] = [some (.io false pool), some (.p (.int dd)), none, none] := rfl
  unfold runFn
  rw [if_pos (show [pool, D.int dd].length = (drawnF nx le pt).ps.length from rfl), e0]
  show (evTs W C [_, _, _] _).bind _ = _
  simp only [evTs, s0, s1, s2, bind_ok]
  simp [finF, finR, iosOf, drawnF]
theorem letters_lvl {tab : List Fn} {W nx le : Nat} (h : tab[nx]? = some nextF) (h2 : tab[le]? = some (lettersF nx)) (n : Nat) : LettersOk (calls W tab (n + 2)) le :=
  ⟨md_at h2, fun pool hp => by rw [run_at h2]; exact letters_run W _ (next_lvl h n) pool hp⟩
theorem drawn_lvlD {tab : List Fn} {W po nx le lf pa pt dr : Nat} (T : DrawTab tab po nx le lf pa pt) (h : tab[dr]? = some (drawnF nx le pt)) (e : Nat) (h2 : 2 ≤ e) (h3 : e ≤ 1000) (n : Nat) (hn : 2 * e + 3 ≤ n) (dd : Int) (hdd : dd = (e : Nat)) (pool : D) (hp : IsPool pool) :
    ∃ (p : Pat) (pool' : D), IsPool pool' ∧ p.size ≤ 40 ∧ Fits p e ∧ (calls W tab n).run dr [pool, .int dd] = .ok (enc p, false, [pool']) := by
  obtain ⟨m, rfl⟩ : ∃ m, n = m + 3 := ⟨n - 3, by omega⟩
  rw [run_at h]
  exact drawn_run (next_lvl T.hnx (m + 1)) (letters_lvl T.hnx T.hle m) h2 h3 (draw_lvl T e (m + 2) (by omega)) dd hdd pool hp
theorem drawn_lvl {tab : List Fn} {W po nx le lf pa pt dr : Nat} (T : DrawTab tab po nx le lf pa pt) (h : tab[dr]? = some (drawnF nx le pt)) (n : Nat) (hn : 21 ≤ n) (pool : D) (hp : IsPool pool) :
    ∃ (p : Pat) (pool' : D), IsPool pool' ∧ p.size ≤ 40 ∧ Fits p 9 ∧ (calls W tab n).run dr [pool, .int 9] = .ok (enc p, false, [pool']) :=
  drawn_lvlD T h 9 (by omega) (by omega) n (by omega) 9 rfl pool hp
theorem pool_lvl {tab : List Fn} {W po nx le lf pa pt : Nat} (T : DrawTab tab po nx le lf pa pt) (n : Nat) (c : Int) : ∃ pool, IsPool pool ∧ (calls W tab (n + 1)).run po [.int c] = .ok (pool, true, []) := by
  rw [run_at T.hpo]; exact pool_run W _ c
end
end Ev
set_option maxHeartbeats 2000000
/-! GenL: equal data are told equal -/
namespace Ev
open PySem
theorem pEq_same {neg : Bool} {d : D} {y : PyData} (h : toPy d = some y) (hl : y.canLay0 = true) (hd : y.depth ≤ 64) : pEq neg d d = some (.sc (.bl (!neg))) := by
  unfold pEq
  rw [h]
  have hs : SeqAt.shaped y = true := by
    show (y.canLay0 && decide (y.depth ≤ 64)) = true
    rw [hl]; simpa using hd
  have he : PyData.eqv y y = true := SeqAt.eqv_refl y hl
  show (if (SeqAt.shaped y && SeqAt.shaped y) = true then _ else _) = _
  rw [hs]
  simp only [Bool.and_self, if_true, he]
  cases neg <;> rfl
theorem held_str {x : Str} (h : x ∈ heldNames) : PyData.strOk x = true := by
  have : ∀ x ∈ heldNames, PyData.strOk x = true := by decide +kernel
  exact this x h
mutual
def pyP : Pat → PyData
  | .none => .tuple [.str "none"]
  | .blank => .tuple [.str "blank"]
  | .sign x => .tuple [.str "sign", .str x]
  | .row ps => .tuple [.str "row", .tuple (pyL ps)]
  | .pick ps => .tuple [.str "pick", .tuple (pyL ps)]
  | .again p => .tuple [.str "again", pyP p]
  | .held x p => .tuple [.str "held", .str x, pyP p]
  | .price n p => .tuple [.str "price", .int n, pyP p]
def pyL : List Pat → List PyData
  | [] => []
  | p :: ps => pyP p :: pyL ps
end
mutual
theorem toPy_enc : ∀ p : Pat, toPy (enc p) = some (pyP p)
  | .none => rfl
  | .blank => rfl
  | .sign x => rfl
  | .row ps => by simp only [enc, toPy, toPyL, toPyL_enc ps, pyP]
  | .pick ps => by simp only [enc, toPy, toPyL, toPyL_enc ps, pyP]
  | .again p => by simp only [enc, toPy, toPyL, toPy_enc p, pyP]
  | .held x p => by simp only [enc, toPy, toPyL, toPy_enc p, pyP]
  | .price n p => by simp only [enc, toPy, toPyL, toPy_enc p, pyP]
theorem toPyL_enc : ∀ ps : List Pat, toPyL (encL ps) = some (pyL ps)
  | [] => rfl
  | p :: ps => by simp only [encL, toPyL, toPy_enc p, toPyL_enc ps, pyL]
end
mutual
theorem lay_py : ∀ p : Pat, p.good → (pyP p).canLay0 = true
  | .none, _ => by decide +kernel
  | .blank, _ => by decide +kernel
  | .sign x, h => by
    have h : PyData.strOk x = true := SignOk.str h
    simp only [pyP, PyData.canLay0, PyData.canLayAll0, h]; decide +kernel
  | .row ps, h => by simp only [pyP, PyData.canLay0, PyData.canLayAll0, layL_py ps h.2]; decide +kernel
  | .pick ps, h => by simp only [pyP, PyData.canLay0, PyData.canLayAll0, layL_py ps h.2]; decide +kernel
  | .again p, h => by simp only [pyP, PyData.canLay0, PyData.canLayAll0, lay_py p h.2]; decide +kernel
  | .held x p, h => by
    have h1 : PyData.strOk x = true := held_str h.1
    simp only [pyP, PyData.canLay0, PyData.canLayAll0, h1, lay_py p h.2]; decide +kernel
  | .price n p, h => by simp only [pyP, PyData.canLay0, PyData.canLayAll0, lay_py p h.2]; decide +kernel
theorem layL_py : ∀ ps : List Pat, goodL ps → PyData.canLayAll0 (pyL ps) = true
  | [], _ => rfl
  | p :: ps, h => by simp only [pyL, PyData.canLayAll0, lay_py p h.1, layL_py ps h.2, Bool.and_self]
end
mutual
theorem dep_py : ∀ p : Pat, (pyP p).depth ≤ 2 * p.dep
  | .none => by decide +kernel
  | .blank => by decide +kernel
  | .sign x => by simp only [pyP, PyData.depth, PyData.depthAll, Pat.dep]; omega
  | .row ps => by have := depL_py ps; simp only [pyP, PyData.depth, PyData.depthAll, Pat.dep]; omega
  | .pick ps => by have := depL_py ps; simp only [pyP, PyData.depth, PyData.depthAll, Pat.dep]; omega
  | .again p => by have := dep_py p; simp only [pyP, PyData.depth, PyData.depthAll, Pat.dep]; omega
  | .held x p => by have := dep_py p; simp only [pyP, PyData.depth, PyData.depthAll, Pat.dep]; omega
  | .price n p => by have := dep_py p; simp only [pyP, PyData.depth, PyData.depthAll, Pat.dep]; omega
theorem depL_py : ∀ ps : List Pat, PyData.depthAll (pyL ps) ≤ 2 * depL ps
  | [] => by simp only [pyL, PyData.depthAll]; omega
  | p :: ps => by have := dep_py p; have := depL_py ps; simp only [pyL, PyData.depthAll, depL]; omega
end
theorem pEq_enc (neg : Bool) (p : Pat) (g : p.good) (h : p.dep ≤ 30) : pEq neg (enc p) (enc p) = some (.sc (.bl (!neg))) :=
  pEq_same (toPy_enc p) (lay_py p g) (by have := dep_py p; omega)
theorem pEq_encL (neg : Bool) (ps : List Pat) (g : goodL ps) (h : depL ps ≤ 30) : pEq neg (.lst (encL ps)) (.lst (encL ps)) = some (.sc (.bl (!neg))) := by
  refine pEq_same (y := .list (pyL ps)) (by simp only [toPy, toPyL_enc ps]) (by simp only [PyData.canLay0, layL_py ps g]) ?_
  have := depL_py ps
  simp only [PyData.depth]; omega
end Ev
set_option maxHeartbeats 4000000
/-! GenM: loops by an invariant, comprehensions, calls -/
namespace Ev
open PySem
theorem for_inv {b : DEnv → Res (Fl × DEnv)} {tg : Tg} (P : List D → DEnv → Prop) (step : ∀ x xs δ, P (x :: xs) δ → ∃ δ1 δ2, bindTg δ tg x = some δ1 ∧ b δ1 = .ok (.nx, δ2) ∧ P xs δ2) :
    ∀ (xs : List D) (δ : DEnv), P xs δ → ∃ δ', forLoop tg b xs δ = .ok (.nx, δ') ∧ P [] δ'
  | [], δ, h => ⟨δ, rfl, h⟩
  | x :: xs, δ, h => by
    obtain ⟨δ1, δ2, e1, e2, h2⟩ := step x xs δ h
    obtain ⟨δ', e3, h3⟩ := for_inv P step xs δ2 h2
    refine ⟨δ', ?_, h3⟩
    unfold forLoop
    rw [e1]
    dsimp only
    rw [e2]
    exact e3
theorem comp_inv {c : DEnv → Res (Bool × DEnv)} {e : DEnv → Res (R × DEnv)} {own : List Nat} {tg : Tg} (P : List D → List D → DEnv → Prop)
    (step : ∀ x xs acc δ, P (x :: xs) acc δ → ∃ δ1 δ2 r δ3 d δ4, bindTg (wipeD δ own) tg x = some δ1 ∧ c δ1 = .ok (true, δ2) ∧ e δ2 = .ok (r, δ3) ∧ escR δ3 r = some (d, δ4) ∧ acc.length < cap ∧ P xs (acc ++ [d]) δ4) :
    ∀ (xs acc : List D) (δ : DEnv), P xs acc δ → ∃ acc' δ', compLoop own tg c e xs δ acc = .ok (acc', δ') ∧ P [] acc' δ'
  | [], acc, δ, h => ⟨acc, δ, rfl, h⟩
  | x :: xs, acc, δ, h => by
    obtain ⟨δ1, δ2, r, δ3, d, δ4, e1, e2, e3, e4, e5, h2⟩ := step x xs acc δ h
    obtain ⟨acc', δ', e6, h3⟩ := comp_inv P step xs (acc ++ [d]) δ4 h2
    refine ⟨acc', δ', ?_, h3⟩
    conv => lhs; unfold compLoop
    rw [e1]
    dsimp only
    rw [e2]
    simp only [bind_ok, if_true, e3, e4]
    rw [if_pos e5]
    exact e6
/-- a while loop that ends behind at most n rounds -/
theorem wh_inv {c : DEnv → Res (Bool × DEnv)} {b : DEnv → Res (Fl × DEnv)} (P : Nat → DEnv → Prop)
    (step : ∀ n δ, P n δ → (∃ δ1, c δ = .ok (false, δ1) ∧ P 0 δ1) ∨ ∃ m δ1 δ2, n = m + 1 ∧ c δ = .ok (true, δ1) ∧ b δ1 = .ok (.nx, δ2) ∧ P m δ2) :
    ∀ (n k : Nat) (δ : DEnv), n < k → P n δ → ∃ δ', whLoop c b k δ = .ok (.nx, δ') ∧ P 0 δ'
  | n, 0, δ, h, _ => absurd h (Nat.not_lt_zero _)
  | n, k + 1, δ, h, hp => by
    rcases step n δ hp with ⟨δ1, e1, h1⟩ | ⟨m, δ1, δ2, rfl, e1, e2, h2⟩
    · refine ⟨δ1, ?_, h1⟩
      unfold whLoop
      rw [e1]
      rfl
    · obtain ⟨δ', e3, h3⟩ := wh_inv P step m k δ2 (by omega) h2
      refine ⟨δ', ?_, h3⟩
      unfold whLoop
      rw [e1]
      simp only [bind_ok, if_true]
      rw [e2]
      exact e3
theorem comp_map {α : Type} {c : DEnv → Res (Bool × DEnv)} {e : DEnv → Res (R × DEnv)} {i : Nat} {f g : α → D} {δ : DEnv} (hi : i < δ.length) (hc : ∀ x, c (δ.set i (some (.p x))) = .ok (true, δ.set i (some (.p x)))) :
    ∀ (xs : List α) (acc : List D) (s : Option S), (∀ x ∈ xs, ∃ r, e (δ.set i (some (.p (f x)))) = .ok (r, δ.set i (some (.p (f x)))) ∧ (r = .d (g x) ∨ r = .o (g x))) → acc.length + xs.length ≤ 1000000 →
      ∃ s', compLoop [i] (.nm i) c e (xs.map f) (δ.set i s) acc = .ok (acc ++ xs.map g, δ.set i s')
  | [], acc, s, _, _ => ⟨s, by simp [compLoop]⟩
  | x :: xs, acc, s, h, hl => by
    simp only [List.length_cons] at hl
    obtain ⟨s', e2⟩ := comp_map (f := f) (g := g) hi hc xs (acc ++ [g x]) (some (.p (f x))) (fun y hy => h y (List.mem_cons_of_mem _ hy)) (by simp; omega)
    refine ⟨s', ?_⟩
    have e1 : bindTg (wipeD (δ.set i s) [i]) (.nm i) (f x) = some (δ.set i (some (.p (f x)))) := by
      simp [wipeD, bindTg, put, hi]
    have ea : acc ++ (x :: xs).map g = acc ++ [g x] ++ xs.map g := by simp
    rw [ea, ← e2]
    simp only [List.map_cons]
    conv => lhs; unfold compLoop
    rw [e1]
    dsimp only
    rw [hc]
    obtain ⟨r, er, hr⟩ := h x List.mem_cons_self
    simp only [bind_ok, if_true, er]
    have es : escR (δ.set i (some (.p (f x)))) r = some (g x, δ.set i (some (.p (f x)))) := by rcases hr with rfl | rfl <;> rfl
    rw [es]
    dsimp only
    rw [if_pos (show acc.length < 1000000 by omega)]
/-- [elt for slot i in it] -/
theorem comp_vals {α : Type} {C : Calls} {i : Nat} {it elt : E} {δ : DEnv} {r : R} {s : D} {xs : List α} {f g : α → D} {ik : IK} (hi : i < δ.length) (h1 : evE C it δ = .ok (r, δ)) (hr : r = .d s ∨ r = .o s) (hs : evI ik [s] = some (xs.map f)) (hw : canWipe δ [i] = true)
    (he : ∀ x ∈ xs, ∃ r, evE C elt (δ.set i (some (.p (f x)))) = .ok (r, δ.set i (some (.p (f x)))) ∧ (r = .d (g x) ∨ r = .o (g x))) (hl : xs.length ≤ 1000000) : evE C (.comp [i] (.nm i) ik [it] [] elt) δ = .ok (.o (.lst (xs.map g)), δ) := by
  rw [evE]
  have g1 : evL C [it] δ = .ok ([r], δ) := by simp only [evL, h1, bind_ok]
  have g2 : resL δ [r] = some [s] := by rcases hr with rfl | rfl <;> rfl
  have g3 : lockL δ [r] = δ := by rcases hr with rfl | rfl <;> rfl
  rw [g1]
  simp only [bind_ok, g2, hs]
  rw [if_pos hw, g3]
  obtain ⟨s', e⟩ := comp_map (c := fun δ => evIfs C [] δ) (e := fun δ => evE C elt δ) (f := f) (g := g) hi (fun x => by simp [evIfs]) xs [] δ[i] he (by simpa using hl)
  have e0 : δ.set i δ[i] = δ := List.set_getElem_self hi
  rw [e0] at e
  rw [e]
  simp only [bind_ok, List.nil_append]
  have g4 : backL δ (δ.set i s') [r] = δ.set i s' := by rcases hr with rfl | rfl <;> rfl
  rw [g4]
  have g5 : backV δ (δ.set i s') [i] = δ := by
    simp only [backV, List.getElem?_eq_getElem hi, List.set_set, e0]
  rw [g5]
theorem pr1_of {C : Calls} {p : Pr} {a : E} {δ δ1 : DEnv} {r1 : R} {d1 : D} {w : PR} (h1 : evE C a δ = .ok (r1, δ1)) (e1 : resR δ1 r1 = some d1) (h : pev p [d1] = some w) : evE C (.pr p [a]) δ = .ok (w.r, δ1) := by
  rw [evE]
  have g1 : evL C [a] δ = .ok ([r1], δ1) := by simp only [evL, h1, bind_ok]
  have g2 : resL δ1 [r1] = some [d1] := by simp only [resL, e1]
  rw [g1]
  simp only [bind_ok, g2, h]
theorem pr2_of {C : Calls} {p : Pr} {a b : E} {δ δ1 δ2 : DEnv} {r1 r2 : R} {d1 d2 : D} {w : PR} (h1 : evE C a δ = .ok (r1, δ1)) (h2 : evE C b δ1 = .ok (r2, δ2)) (e1 : resR δ2 r1 = some d1) (e2 : resR δ2 r2 = some d2) (h : pev p [d1, d2] = some w) : evE C (.pr p [a, b]) δ = .ok (w.r, δ2) := by
  rw [evE]
  have g1 : evL C [a, b] δ = .ok ([r1, r2], δ2) := by simp only [evL, h1, h2, bind_ok]
  have g2 : resL δ2 [r1, r2] = some [d1, d2] := by simp only [resL, e1, e2]
  rw [g1]
  simp only [bind_ok, g2, h]
theorem or_no {C : Calls} {a b : E} {es : List E} {δ δ1 : DEnv} {z : Res (R × DEnv)} (h : evE C a δ = .ok (.d (.bl false), δ1)) (h2 : evOr C (b :: es) δ1 = z) : evE C (.or (a :: b :: es)) δ = z := by
  rw [evE, evOr, h]
  · exact h2
  · simp
theorem or_no' {C : Calls} {a b : E} {es : List E} {δ δ1 : DEnv} {z : Res (R × DEnv)} (h : evE C a δ = .ok (.d (.bl false), δ1)) (h2 : evOr C (b :: es) δ1 = z) : evOr C (a :: b :: es) δ = z := by
  rw [evOr, h]
  · exact h2
  · simp
theorem or_last {C : Calls} {a : E} {δ : DEnv} {z : Res (R × DEnv)} (h : evE C a δ = z) : evOr C [a] δ = z := by rw [evOr]; exact h
theorem or_yes {C : Calls} {a b : E} {es : List E} {δ δ1 : DEnv} (h : evE C a δ = .ok (.d (.bl true), δ1)) : evE C (.or (a :: b :: es)) δ = .ok (.d (.bl true), δ1) := by
  rw [evE, evOr, h]
  · rfl
  · simp
theorem or_yes' {C : Calls} {a b : E} {es : List E} {δ δ1 : DEnv} (h : evE C a δ = .ok (.d (.bl true), δ1)) : evOr C (a :: b :: es) δ = .ok (.d (.bl true), δ1) := by
  rw [evOr, h]
  · rfl
  · simp
theorem and_yes {C : Calls} {a b : E} {es : List E} {δ δ1 : DEnv} {z : Res (R × DEnv)} (h : evE C a δ = .ok (.d (.bl true), δ1)) (h2 : evAnd C (b :: es) δ1 = z) : evE C (.and (a :: b :: es)) δ = z := by
  rw [evE, evAnd, h]
  · exact h2
  · simp
theorem and_yes' {C : Calls} {a b : E} {es : List E} {δ δ1 : DEnv} {z : Res (R × DEnv)} (h : evE C a δ = .ok (.d (.bl true), δ1)) (h2 : evAnd C (b :: es) δ1 = z) : evAnd C (a :: b :: es) δ = z := by
  rw [evAnd, h]
  · exact h2
  · simp
theorem and_last {C : Calls} {a : E} {δ : DEnv} {z : Res (R × DEnv)} (h : evE C a δ = z) : evAnd C [a] δ = z := by rw [evAnd]; exact h
theorem and_no {C : Calls} {a b : E} {es : List E} {δ δ1 : DEnv} (h : evE C a δ = .ok (.d (.bl false), δ1)) : evE C (.and (a :: b :: es)) δ = .ok (.d (.bl false), δ1) := by
  rw [evE, evAnd, h]
  · rfl
  · simp
theorem and_no' {C : Calls} {a b : E} {es : List E} {δ δ1 : DEnv} (h : evE C a δ = .ok (.d (.bl false), δ1)) : evAnd C (a :: b :: es) δ = .ok (.d (.bl false), δ1) := by
  rw [evAnd, h]
  · rfl
  · simp
theorem not_of {C : Calls} {a : E} {δ δ1 : DEnv} {b : Bool} (h : evE C a δ = .ok (.d (.bl b), δ1)) : evE C (.not a) δ = .ok (.d (.bl (!b)), δ1) := by
  rw [evE, h]; rfl
theorem sm_of {C : Calls} {p : Pr} {a b : E} {δ δ1 δ2 : DEnv} {s : Str} {r : R} {d : D} {w : PR} (h1 : evE C a δ = .ok (.d (.str s), δ1)) (h2 : evE C b δ1 = .ok (r, δ2)) (e : resR δ2 r = some d) (h : pev p [.str s, d] = some w) : evE C (.sm p a b) δ = .ok (w.r, δ2) := by
  have hr : resR δ1 (.d (.str s)) = some (.str s) := rfl
  rw [evE, h1]
  simp only [bind_ok, hr, h2, e, h]
theorem evE_con {C : Calls} {d : D} {δ : DEnv} : evE C (.con d) δ = .ok (.d d, δ) := by rw [evE]
theorem pEq_str (neg : Bool) {x y : Str} (hx : PyData.strOk x = true) (hy : PyData.strOk y = true) : pEq neg (.str x) (.str y) = some (.sc (.bl (if neg then !decide (x = y) else decide (x = y)))) := by
  have s1 : SeqAt.shaped (.str x) = true := by show (PyData.strOk x && decide (0 ≤ 64)) = true; rw [hx]; rfl
  have s2 : SeqAt.shaped (.str y) = true := by show (PyData.strOk y && decide (0 ≤ 64)) = true; rw [hy]; rfl
  unfold pEq
  show (if (SeqAt.shaped (.str x) && SeqAt.shaped (.str y)) = true then some (PR.sc (.bl (if neg then !(PyData.str x).eqv (.str y) else (PyData.str x).eqv (.str y)))) else none) = _
  rw [s1, s2]
  have e : (PyData.str x).eqv (.str y) = decide (x = y) := by
    simp only [PyData.eqv]
    by_cases h : x = y
    · subst h; rw [decide_eq_true rfl]; exact beq_self_eq_true x
    · rw [decide_eq_false h]; exact beq_eq_false_iff_ne.mpr h
  rw [e]
  rfl
/-- a slot that can be written -/
abbrev Soft (s : Option S) : Prop := s = none ∨ ∃ d, s = some (.p d)
def Free (s : Option S) : Prop := s = none ∨ (∃ d, s = some (.p d)) ∨ ∃ d, s = some (.m false d)
theorem Free.of {s : Option S} (h : Soft s) : Free s := h.imp id .inl
theorem Free.p {d : D} : Free (some (.p d)) := .inr (.inl ⟨_, rfl⟩)
theorem Free.m {d : D} : Free (some (.m false d)) := .inr (.inr ⟨_, rfl⟩)
theorem Free.n : Free none := .inl rfl
theorem put_free {δ : DEnv} {i : Nat} {s : Option S} {v : S} (h : δ[i]? = some s) (hf : Free s) : put δ i v = some (δ.set i (some v)) := by
  unfold put
  rw [h]
  rcases hf with rfl | ⟨d, rfl⟩ | ⟨d, rfl⟩ <;> rfl
theorem asg_d {W : Nat} {C : Calls} {i : Nat} {e : E} {δ δ1 : DEnv} {s : Option S} {v : D} (he : evE C e δ = .ok (.d v, δ1)) (h : δ1[i]? = some s) (hf : Free s) : evT W C (.asg (.nm i) e) δ = .ok (.nx, δ1.set i (some (.p v))) := by
  rw [evT, he]
  have : asgR δ1 i (.d v) = some (δ1.set i (some (.p v))) := put_free h hf
  simp only [bind_ok, this]
theorem asg_o {W : Nat} {C : Calls} {i : Nat} {e : E} {δ δ1 : DEnv} {s : Option S} {v : D} (he : evE C e δ = .ok (.o v, δ1)) (h : δ1[i]? = some s) (hf : Free s) : evT W C (.asg (.nm i) e) δ = .ok (.nx, δ1.set i (some (.m false v))) := by
  rw [evT, he]
  have : asgR δ1 i (.o v) = some (δ1.set i (some (.m false v))) := put_free h hf
  simp only [bind_ok, this]
theorem bind_nm {δ : DEnv} {i : Nat} {s : Option S} {v : D} (h : δ[i]? = some s) (hf : Free s) : bindTg δ (.nm i) v = some (δ.set i (some (.p v))) := put_free h hf
/-- f(x), x data, all data -/
theorem call1 {C : Calls} {f : Nat} {e : E} {δ δ1 : DEnv} {d v : D} {o : Bool} (hm : C.md f = some [false]) (he : evE C e δ = .ok (.d d, δ1)) (hr : C.run f [d] = .ok (v, o, [])) : evE C (.call f [e]) δ = .ok (if o then .o v else .d v, δ1) := by
  rw [evE]
  have g1 : evL C [e] δ = .ok ([.d d], δ1) := by simp only [evL, he, bind_ok]
  rw [g1]
  simp only [bind_ok, callR, hm, resL, resR]
  rw [if_pos (by simp [loan, apart, okP, sameK])]
  rw [hr]
  simp [valIx, putIos]
theorem run_ret {W : Nat} {C : Calls} {fn : Fn} {args : List D} {r : R} {δ' : DEnv} {z : D × Bool × List D} (hl : args.length = fn.ps.length) (h : evTs W C fn.body (start0 fn args) = .ok (.rt r, δ')) (hf : finF fn.ps δ' r = .ok z) : runFn W C fn args = .ok z := by
  unfold runFn
  rw [if_pos hl, h]
  exact hf
theorem run_nx {W : Nat} {C : Calls} {fn : Fn} {args : List D} {δ' : DEnv} {z : D × Bool × List D} (hl : args.length = fn.ps.length) (h : evTs W C fn.body (start0 fn args) = .ok (.nx, δ')) (hf : finF fn.ps δ' (.d .non) = .ok z) : runFn W C fn args = .ok z := by
  unfold runFn
  rw [if_pos hl, h]
  exact hf
theorem ts_nx {W : Nat} {C : Calls} {t : T} {ts : List T} {δ δ1 : DEnv} {z : Res (Fl × DEnv)} (h : evT W C t δ = .ok (.nx, δ1)) (h2 : evTs W C ts δ1 = z) : evTs W C (t :: ts) δ = z := by
  rw [evTs, h]; exact h2
theorem ts_rt {W : Nat} {C : Calls} {t : T} {ts : List T} {δ δ1 : DEnv} {r : R} (h : evT W C t δ = .ok (.rt r, δ1)) : evTs W C (t :: ts) δ = .ok (.rt r, δ1) := by
  rw [evTs, h]; rfl
theorem ts_nil {W : Nat} {C : Calls} {δ : DEnv} : evTs W C [] δ = .ok (.nx, δ) := by rw [evTs]
/-- for slot i in it: data or a new object -/
theorem for_vals {W : Nat} {C : Calls} {tg : Tg} {it : E} {b : List T} {δ δ1 δ' : DEnv} {r : R} {s : D} {xs : List D} {ik : IK} {f : Fl} (h1 : evE C it δ = .ok (r, δ1)) (hr : r = .d s ∨ r = .o s) (hs : evI ik [s] = some xs) (h : forLoop tg (fun δ => evTs W C b δ) xs δ1 = .ok (f, δ')) : evT W C (.fr tg ik [it] b) δ = .ok (f, δ') := by
  rw [evT]
  have g1 : evL C [it] δ = .ok ([r], δ1) := by simp only [evL, h1, bind_ok]
  have g2 : resL δ1 [r] = some [s] := by rcases hr with rfl | rfl <;> rfl
  have g3 : lockL δ1 [r] = δ1 := by rcases hr with rfl | rfl <;> rfl
  rw [g1]
  simp only [bind_ok, g2, hs, g3, h]
  rcases hr with rfl | rfl <;> rfl
theorem ite_no {W : Nat} {C : Calls} {c : E} {a b : List T} {δ δ1 : DEnv} {z : Res (Fl × DEnv)} (h : evE C c δ = .ok (.d (.bl false), δ1)) (h2 : evTs W C b δ1 = z) : evT W C (.ite c a b) δ = z := by
  rw [evT, h]; exact h2
theorem ite_yes {W : Nat} {C : Calls} {c : E} {a b : List T} {δ δ1 : DEnv} {z : Res (Fl × DEnv)} (h : evE C c δ = .ok (.d (.bl true), δ1)) (h2 : evTs W C a δ1 = z) : evT W C (.ite c a b) δ = z := by
  rw [evT, h]; exact h2
theorem evE_var {C : Calls} {i : Nat} {d : D} {δ : DEnv} (h : δ[i]? = some (some (.p d))) : evE C (.var i) δ = .ok (.d d, δ) := by
  rw [evE, h]
end Ev
set_option maxHeartbeats 4000000
/-! GenN: the program's functions on patterns: inner, makes, depth -/
namespace Ev
open PySem
def kids : Pat → List Pat
  | .row ps => ps
  | .pick ps => ps
  | .again p => [p]
  | .held _ p => [p]
  | .price _ p => [p]
  | _ => []
def innerF : Fn := ⟨1, [false], [.ite (.pr .inn [(.pr .idx [(.var 0), (.con (.int 0))]), (.tup [(.con (.str "row")), (.con (.str "pick"))])]) [.ret (.pr .list [(.pr .idx [(.var 0), (.con (.int 1))])])] [], .ite (.pr .inn [(.pr .idx [(.var 0), (.con (.int 0))]), (.tup [(.con (.str "again")), (.con (.str "held")), (.con (.str "price"))])]) [.ret (.lst [(.pr .idx [(.var 0), (.pr .sub [(.pr .len [(.var 0)]), (.con (.int 1))])])])] [], .ret (.lst [])]⟩
def inner2F : Fn := ⟨1, [false], [.ite (.pr .inn [(.pr .idx [(.var 0), (.con (.int 0))]), (.lst [(.con (.str "row")), (.con (.str "pick"))])]) [.ret (.pr .list [(.pr .idx [(.var 0), (.con (.int 1))])])] [], .ite (.pr .inn [(.pr .idx [(.var 0), (.con (.int 0))]), (.lst [(.con (.str "again")), (.con (.str "held")), (.con (.str "price"))])]) [.ret (.lst [(.pr .idx [(.var 0), (.pr .neg [(.con (.int 1))])])])] [], .ret (.lst [])]⟩
theorem inner_run (W : Nat) (C : Calls) (p : Pat) : runFn W C innerF [enc p] = .ok (.lst (encL (kids p)), true, []) := by
  cases p <;> rfl
theorem inner2_run (W : Nat) (C : Calls) (p : Pat) : runFn W C inner2F [enc p] = .ok (.lst (encL (kids p)), true, []) := by
  cases p <;> rfl
/-- f tells the parts straight within -/
structure InnerOk (C : Calls) (f : Nat) : Prop where
  md : C.md f = some [false]
  run : ∀ p : Pat, C.run f [enc p] = .ok (.lst (encL (kids p)), true, [])
theorem inner_lvl {tab : List Fn} {W f : Nat} (h : tab[f]? = some innerF) (n : Nat) : InnerOk (calls W tab (n + 1)) f := ⟨md_at h, fun p => by rw [run_at h]; exact inner_run W _ p⟩
theorem inner2_lvl {tab : List Fn} {W f : Nat} (h : tab[f]? = some inner2F) (n : Nat) : InnerOk (calls W tab (n + 1)) f := ⟨md_at h, fun p => by rw [run_at h]; exact inner2_run W _ p⟩
theorem encL_map : ∀ ps : List Pat, encL ps = ps.map enc
  | [] => rfl
  | p :: ps => by rw [encL, encL_map ps]; rfl
mutual
def makes : Pat → List Pat
  | .none => [.none]
  | .blank => [.blank]
  | .sign x => [.sign x]
  | .row ps => .row ps :: makesL ps
  | .pick ps => .pick ps :: makesL ps
  | .again p => .again p :: makes p
  | .held x p => .held x p :: makes p
  | .price n p => .price n p :: makes p
def makesL : List Pat → List Pat
  | [] => []
  | p :: ps => makes p ++ makesL ps
end
theorem makes_eq (p : Pat) : makes p = p :: makesL (kids p) := by
  cases p <;> simp [makes, kids, makesL]
mutual
theorem makes_len : ∀ p : Pat, (makes p).length = p.size
  | .none => rfl
  | .blank => rfl
  | .sign _ => rfl
  | .row ps => by simp only [makes, Pat.size, List.length_cons, makesL_len ps]; omega
  | .pick ps => by simp only [makes, Pat.size, List.length_cons, makesL_len ps]; omega
  | .again p => by simp only [makes, Pat.size, List.length_cons, makes_len p]; omega
  | .held _ p => by simp only [makes, Pat.size, List.length_cons, makes_len p]; omega
  | .price _ p => by simp only [makes, Pat.size, List.length_cons, makes_len p]; omega
theorem makesL_len : ∀ ps : List Pat, (makesL ps).length = sizeL ps
  | [] => rfl
  | p :: ps => by simp only [makesL, sizeL, List.length_append, makes_len p, makesL_len ps]
end
theorem mem_dep {q : Pat} : ∀ {ps : List Pat}, q ∈ ps → q.dep ≤ depL ps
  | a :: ps, h => by
    simp only [depL]
    rcases List.mem_cons.mp h with rfl | h
    · omega
    · have := mem_dep h; omega
theorem kids_dep (p : Pat) : p.dep = 1 + depL (kids p) := by
  cases p <;> simp [kids, Pat.dep, depL]
theorem kid_dep {p q : Pat} (h : q ∈ kids p) : q.dep < p.dep := by
  have := mem_dep h
  have := kids_dep p
  omega
theorem kids_size (p : Pat) : sizeL (kids p) + 1 = p.size := by
  cases p <;> simp only [kids, sizeL, Pat.size] <;> omega
theorem mem_size {q : Pat} : ∀ {ps : List Pat}, q ∈ ps → q.size ≤ sizeL ps
  | a :: ps, h => by
    simp only [sizeL]
    rcases List.mem_cons.mp h with rfl | h
    · omega
    · have := mem_size h; omega
theorem size_pos (p : Pat) : 1 ≤ p.size := by cases p <;> simp only [Pat.size] <;> omega
theorem dep_pos (p : Pat) : 1 ≤ p.dep := by cases p <;> simp only [Pat.dep] <;> omega
theorem len_le_size : ∀ ps : List Pat, ps.length ≤ sizeL ps
  | [] => Nat.le_refl _
  | p :: ps => by have := len_le_size ps; have := size_pos p; simp only [List.length_cons, sizeL]; omega
theorem kids_len (p : Pat) : (kids p).length < p.size := by have := kids_size p; have := len_le_size (kids p); omega
theorem goodL_mem : ∀ {ps : List Pat}, goodL ps → ∀ r ∈ ps, r.good
  | a :: ps, g, r, hr => by
    rcases List.mem_cons.mp hr with rfl | hr
    · exact g.1
    · exact goodL_mem g.2 r hr
theorem good_kids {q : Pat} (h : q.good) : goodL (kids q) := by cases q <;> first | exact h.2 | exact trivial | exact ⟨h.2, trivial⟩
/-! depth_of -/
def depthF (inn dp : Nat) : Fn := ⟨2, [false], [.ret (.pr .add [(.con (.int 1)), (.pr .maxd [(.comp [1] (.nm 1) .vals [(.call inn [(.var 0)])] [] (.call dp [(.var 1)])), (.con (.int 0))])])]⟩
theorem foldl_max : ∀ (l : List Nat) (m : Nat), (l.map fun k => ((k : Nat) : Int)).foldl max (m : Int) = ((l.foldl max m : Nat) : Int)
  | [], m => rfl
  | k :: l, m => by
    simp only [List.map_cons, List.foldl_cons]
    have : max (m : Int) (k : Int) = ((max m k : Nat) : Int) := by omega
    rw [this, foldl_max l]
theorem foldl_max_le : ∀ (l : List Nat) (m : Nat), l.foldl max m = max m (l.foldl max 0)
  | [], m => by simp
  | k :: l, m => by
    simp only [List.foldl_cons]
    rw [foldl_max_le l (max m k), foldl_max_le l (max 0 k)]
    omega
theorem depL_fold : ∀ ps : List Pat, depL ps = (ps.map Pat.dep).foldl max 0
  | [] => rfl
  | p :: ps => by
    simp only [depL, List.map_cons, List.foldl_cons]
    rw [foldl_max_le _ (max 0 p.dep), depL_fold ps]
    omega
theorem bestI_dep (ps : List Pat) : bestI max 0 (ps.map fun p => ((p.dep : Nat) : Int)) = ((depL ps : Nat) : Int) := by
  cases ps with
  | nil => rfl
  | cons p ps =>
    have e : (ps.map fun p => ((p.dep : Nat) : Int)) = (ps.map Pat.dep).map fun k => ((k : Nat) : Int) := by rw [List.map_map]; rfl
    show (ps.map fun p => ((p.dep : Nat) : Int)).foldl max ((p.dep : Nat) : Int) = _
    rw [e, foldl_max, foldl_max_le, ← depL_fold]
    rfl
theorem intsD_map : ∀ l : List Int, intsD (l.map .int) = some l
  | [] => rfl
  | i :: l => by simp only [List.map_cons, intsD, intsD_map l]
theorem depth_lvl {tab : List Fn} {W inn dp : Nat} (h1 : tab[inn]? = some innerF) (h2 : tab[dp]? = some (depthF inn dp)) : ∀ (n : Nat) (p : Pat), p.dep ≤ n → p.size ≤ 1000 → (calls W tab (n + 1)).run dp [enc p] = .ok (.int ((p.dep : Nat) : Int), false, [])
  | 0, p, h, _ => absurd (dep_pos p) (by omega)
  | n + 1, p, h, hs => by
    rw [run_at h2]
    have I : InnerOk (calls W tab (n + 1)) inn := inner_lvl h1 n
    have hmd : (calls W tab (n + 1)).md dp = some [false] := md_at h2
    have hk : ∀ q ∈ kids p, (calls W tab (n + 1)).run dp [enc q] = .ok (.int ((q.dep : Nat) : Int), false, []) := fun q hq => depth_lvl h1 h2 n q (by have := kid_dep hq; omega) (by have := mem_size hq; have := kids_size p; omega)
    generalize calls W tab (n + 1) = C at *
    have hi := I.md
    have hr := I.run p
    have e1 : evE C (.call inn [(.var 0)]) [some (.p (enc p)), none] = .ok (.o (.lst (encL (kids p))), [some (.p (enc p)), none]) := by
      simp [runFn, evTs, evT, evE, evL, evAnd, evOr, evIfs, start0, resL, resR, S.val, pev, seqOf, L2.atI, dLt, PR.r, tstR, put, asgR, slotL, escR, escL, upS, setI, L2.ixN, finF, finR, iosOf, callR, loan, apart, okP, sameK, valIx, ioIx, putIos, frzL, isOwn, D.scal, D.flat, methD, bindTg, wipeD, canWipe, backV, backL, lockL, lockR, backR, S.lock, pIn, hi, hr]
    have e2 : evE C (.comp [1] (.nm 1) .vals [(.call inn [(.var 0)])] [] (.call dp [(.var 1)])) [some (.p (enc p)), none] = .ok (.o (.lst ((kids p).map fun q => .int ((q.dep : Nat) : Int))), [some (.p (enc p)), none]) := by
      refine comp_vals (f := enc) (show 1 < 2 by decide) e1 (.inr rfl) (by rw [← encL_map]; rfl) rfl (fun q hq => ?_) (by have := kids_len p; omega)
      have hq := hk q hq
      refine ⟨_, ?_, .inl rfl⟩
      show evE C (.call dp [(.var 1)]) [some (.p (enc p)), some (.p (enc q))] = .ok (_, [some (.p (enc p)), some (.p (enc q))])
      simp [runFn, evTs, evT, evE, evL, evAnd, evOr, evIfs, start0, resL, resR, S.val, pev, seqOf, L2.atI, dLt, PR.r, tstR, put, asgR, slotL, escR, escL, upS, setI, L2.ixN, finF, finR, iosOf, callR, loan, apart, okP, sameK, valIx, ioIx, putIos, frzL, isOwn, D.scal, D.flat, methD, bindTg, wipeD, canWipe, backV, backL, lockL, lockR, backR, S.lock, pIn, hmd, hq]
    have e3 : pev .maxd [.lst ((kids p).map fun q => .int ((q.dep : Nat) : Int)), .int 0] = some (.sc (.int ((depL (kids p) : Nat) : Int))) := by
      have : ((kids p).map fun q => D.int ((q.dep : Nat) : Int)) = ((kids p).map fun q => ((q.dep : Nat) : Int)).map .int := by rw [List.map_map]; rfl
      simp only [pev, this, intsD_map, bestI_dep]
    have e4 : evE C (.pr .maxd [(.comp [1] (.nm 1) .vals [(.call inn [(.var 0)])] [] (.call dp [(.var 1)])), (.con (.int 0))]) [some (.p (enc p)), none] = .ok (.d (.int ((depL (kids p) : Nat) : Int)), [some (.p (enc p)), none]) := by
      rw [evE]
      have h0 : evE C (.con (.int 0)) [some (.p (enc p)), none] = .ok (.d (.int 0), [some (.p (enc p)), none]) := by rw [evE]
      simp only [evL, e2, h0, bind_ok, resL, resR, e3]
      rfl
    have hd := kids_dep p
    have hd2 : ((p.dep : Nat) : Int) = 1 + ((depL (kids p) : Nat) : Int) := by omega
    rw [hd2]
    refine run_ret (r := .d (.int (1 + ((depL (kids p) : Nat) : Int)))) (δ' := [some (.p (enc p)), none]) rfl ?_ rfl
    show evTs W C [.ret (.pr .add [(.con (.int 1)), (.pr .maxd [(.comp [1] (.nm 1) .vals [(.call inn [(.var 0)])] [] (.call dp [(.var 1)])), (.con (.int 0))])])] [some (.p (enc p)), none] = _
    refine ts_rt ?_
    rw [evT, evE]
    have h0 : evE C (.con (.int 1)) [some (.p (enc p)), none] = .ok (.d (.int 1), [some (.p (enc p)), none]) := by rw [evE]
    simp only [evL, e4, h0, bind_ok, resL, resR, pev]
    rfl
/-! makes_of -/
def makesF (inn mk : Nat) : Fn := ⟨3, [false], [.asg (.nm 1) (.lst [(.var 0)]), .fr (.nm 2) .vals [(.call inn [(.var 0)])] [.meth .extend 1 [(.call mk [(.var 2)])]], .ret (.var 1)]⟩
theorem makes_loop {W : Nat} {C : Calls} {mk : Nat} (hm : C.md mk = some [false]) (e : D) : ∀ (ps : List Pat) (acc : List D) (s2 : Option S), (∀ q ∈ ps, C.run mk [enc q] = .ok (.lst ((makes q).map enc), true, [])) → Soft s2 → acc.length + (makesL ps).length ≤ 1000 →
    ∃ s2', forLoop (.nm 2) (fun δ => evTs W C [.meth .extend 1 [(.call mk [(.var 2)])]] δ) (encL ps) [some (.p e), some (.m false (.lst acc)), s2] = .ok (.nx, [some (.p e), some (.m false (.lst (acc ++ (makesL ps).map enc))), s2'])
  | [], acc, s2, _, _, _ => ⟨s2, by simp [forLoop, encL, makesL]⟩
  | p :: ps, acc, s2, h, h2, hl => by
    simp only [makesL, List.length_append] at hl
    obtain ⟨s2', e2⟩ := makes_loop (W := W) hm e ps (acc ++ (makes p).map enc) (some (.p (enc p))) (fun q hq => h q (List.mem_cons_of_mem _ hq)) (.inr ⟨_, rfl⟩) (by simp; omega)
    refine ⟨s2', ?_⟩
    have hr := h p List.mem_cons_self
    have ea : acc ++ (makesL (p :: ps)).map enc = acc ++ (makes p).map enc ++ (makesL ps).map enc := by simp [makesL]
    rw [ea, ← e2]
    have hcap : acc.length + (makes p).length ≤ 1000000 := by omega
    have hput : bindTg [some (S.p e), some (S.m false (.lst acc)), s2] (.nm 2) (enc p) = some [some (S.p e), some (S.m false (.lst acc)), some (.p (enc p))] := by
      rcases h2 with rfl | ⟨d, rfl⟩ <;> simp [bindTg, put]
    have hb : evTs W C [.meth .extend 1 [(.call mk [(.var 2)])]] [some (S.p e), some (S.m false (.lst acc)), some (.p (enc p))] = .ok (.nx, [some (S.p e), some (S.m false (.lst (acc ++ (makes p).map enc))), some (.p (enc p))]) := by
      simp [runFn, evTs, evT, evE, evL, evAnd, evOr, evIfs, start0, resL, resR, S.val, pev, seqOf, L2.atI, dLt, PR.r, tstR, put, asgR, slotL, escR, escL, upS, setI, L2.ixN, finF, finR, iosOf, callR, loan, apart, okP, sameK, valIx, ioIx, putIos, frzL, isOwn, D.scal, D.flat, methD, bindTg, wipeD, canWipe, backV, backL, lockL, lockR, backR, S.lock, pIn, hm, hr, hcap]
    show forLoop (.nm 2) _ (enc p :: encL ps) _ = _
    conv => lhs; unfold forLoop
    rw [hput]
    dsimp only
    rw [hb]
    rfl
theorem makes_lvl {tab : List Fn} {W inn mk : Nat} (h1 : tab[inn]? = some innerF) (h2 : tab[mk]? = some (makesF inn mk)) : ∀ (n : Nat) (p : Pat), p.dep ≤ n → p.size ≤ 900 → (calls W tab (n + 1)).run mk [enc p] = .ok (.lst ((makes p).map enc), true, [])
  | 0, p, h, _ => absurd (dep_pos p) (by omega)
  | n + 1, p, h, hs => by
    rw [run_at h2]
    have I : InnerOk (calls W tab (n + 1)) inn := inner_lvl h1 n
    have hm : (calls W tab (n + 1)).md mk = some [false] := md_at h2
    have hk : ∀ q ∈ kids p, (calls W tab (n + 1)).run mk [enc q] = .ok (.lst ((makes q).map enc), true, []) := fun q hq => makes_lvl h1 h2 n q (by have := kid_dep hq; omega) (by have := mem_size hq; have := kids_size p; omega)
    generalize calls W tab (n + 1) = C at *
    have hi := I.md
    have hr := I.run p
    have hl : (makesL (kids p)).length + 1 = p.size := by have := makes_len p; rw [makes_eq] at this; simpa using this
    obtain ⟨s2', e⟩ := makes_loop (W := W) hm (enc p) (kids p) [enc p] none hk (.inl rfl) (by simp; omega)
    have s0 : evT W C (.asg (.nm 1) (.lst [(.var 0)])) [some (.p (enc p)), none, none] = .ok (.nx, [some (.p (enc p)), some (.m false (.lst [enc p])), none]) := by
      simp [runFn, evTs, evT, evE, evL, evAnd, evOr, evIfs, start0, resL, resR, S.val, pev, seqOf, L2.atI, dLt, PR.r, tstR, put, asgR, slotL, escR, escL, upS, setI, L2.ixN, finF, finR, iosOf, callR, loan, apart, okP, sameK, valIx, ioIx, putIos, frzL, isOwn, D.scal, D.flat, methD, bindTg, wipeD, canWipe, backV, backL, lockL, lockR, backR, S.lock, pIn]
    have g1 : evE C (.call inn [(.var 0)]) [some (.p (enc p)), some (.m false (.lst [enc p])), none] = .ok (.o (.lst (encL (kids p))), [some (.p (enc p)), some (.m false (.lst [enc p])), none]) := by
      simp [runFn, evTs, evT, evE, evL, evAnd, evOr, evIfs, start0, resL, resR, S.val, pev, seqOf, L2.atI, dLt, PR.r, tstR, put, asgR, slotL, escR, escL, upS, setI, L2.ixN, finF, finR, iosOf, callR, loan, apart, okP, sameK, valIx, ioIx, putIos, frzL, isOwn, D.scal, D.flat, methD, bindTg, wipeD, canWipe, backV, backL, lockL, lockR, backR, S.lock, pIn, hi, hr]
    have s1 := for_vals (ik := .vals) g1 (.inr rfl) rfl e
    rw [makes_eq p]
    exact run_ret (r := .h 1) (δ' := [some (.p (enc p)), some (.m false (.lst ([enc p] ++ (makesL (kids p)).map enc))), s2']) rfl (ts_nx s0 (ts_nx s1 (ts_rt (by simp [evT, evE])))) (by simp [finF, finR, iosOf, makesF])
end Ev
set_option maxHeartbeats 4000000
/-! GenO: signs kept in a dict, the text of them -/
namespace Ev
open PySem
abbrev keyC (c : Nat) : L2.Key := Sum.inr (one c)
def dctOf (ks : List Nat) : D := .dct (ks.map keyC) (ks.map fun _ => .bl true)
def add1 (ks : List Nat) (c : Nat) : List Nat := if c ∈ ks then ks else ks ++ [c]
def addC (ks cs : List Nat) : List Nat := cs.foldl add1 ks
theorem add1_mem {ks : List Nat} {c x : Nat} : x ∈ add1 ks c ↔ x ∈ ks ∨ x = c := by
  unfold add1
  split
  · constructor
    · exact .inl
    · rintro (h | rfl) <;> assumption
  · simp
theorem add1_nodup {ks : List Nat} {c : Nat} (h : ks.Nodup) : (add1 ks c).Nodup := by
  unfold add1
  split
  · exact h
  · rename_i hc
    refine List.nodup_append.mpr ⟨h, by simp, fun a ha b hb => ?_⟩
    have : b = c := by simpa using hb
    subst this
    intro e; subst e; exact hc ha
theorem add1_len (ks : List Nat) (c : Nat) : (add1 ks c).length ≤ ks.length + 1 := by
  unfold add1; split <;> simp
theorem addC_mem {x : Nat} : ∀ {cs ks : List Nat}, x ∈ addC ks cs ↔ x ∈ ks ∨ x ∈ cs
  | [], ks => by simp [addC]
  | c :: cs, ks => by
    show x ∈ addC (add1 ks c) cs ↔ _
    rw [addC_mem, add1_mem]
    simp only [List.mem_cons, or_assoc]
theorem addC_nodup : ∀ {cs ks : List Nat}, ks.Nodup → (addC ks cs).Nodup
  | [], _, h => h
  | c :: cs, ks, h => addC_nodup (ks := add1 ks c) (cs := cs) (add1_nodup h)
theorem addC_app (ks cs ds : List Nat) : addC ks (cs ++ ds) = addC (addC ks cs) ds := List.foldl_append ..
theorem nodup_sub : ∀ {xs ys : List Nat}, xs.Nodup → (∀ a ∈ xs, a ∈ ys) → xs.length ≤ ys.length
  | [], _, _, _ => Nat.zero_le _
  | a :: xs, ys, h, hs => by
    have h := List.nodup_cons.mp h
    have ha : a ∈ ys := hs a List.mem_cons_self
    have := nodup_sub (xs := xs) (ys := ys.erase a) h.2 fun b hb => (List.mem_erase_of_ne (fun e => h.1 (by rw [← e]; exact hb))).mpr (hs b (List.mem_cons_of_mem _ hb))
    rw [List.length_erase_of_mem ha] at this
    have := List.length_pos_of_mem ha
    simp only [List.length_cons]; omega
theorem nodup_perm : ∀ {xs ys : List Nat}, xs.Nodup → ys.Nodup → (∀ a, a ∈ xs ↔ a ∈ ys) → xs.Perm ys
  | [], ys, _, _, h => by
    cases ys with
    | nil => exact .refl _
    | cons b ys => exact absurd ((h b).mpr List.mem_cons_self) (by simp)
  | a :: xs, ys, h, h2, hs => by
    have h := List.nodup_cons.mp h
    have ha : a ∈ ys := (hs a).mp List.mem_cons_self
    refine List.Perm.trans (.cons a (nodup_perm h.2 (h2.erase a) fun b => ?_)) (List.perm_cons_erase ha).symm
    rw [h2.mem_erase_iff]
    constructor
    · intro hb; exact ⟨fun e => h.1 (by rw [← e]; exact hb), (hs b).mp (List.mem_cons_of_mem _ hb)⟩
    · rintro ⟨e, hb⟩
      rcases List.mem_cons.mp ((hs b).mpr hb) with e2 | hb
      · exact absurd e2 e
      · exact hb
theorem one_inj {a b : Nat} (h : one a = one b) : a = b := by
  have := congrArg (fun s : Str => s.cps.toList) h
  simpa [one] using this
theorem has_keyC (ks : List Nat) (c : Nat) : hasK (ks.map keyC) (keyC c) = decide (c ∈ ks) := by
  unfold hasK
  rw [List.any_map]
  by_cases h : c ∈ ks
  · rw [decide_eq_true h]
    exact List.any_eq_true.mpr ⟨c, h, decide_eq_true rfl⟩
  · rw [decide_eq_false h]
    refine Bool.eq_false_iff.mpr fun q => ?_
    obtain ⟨x, hx, e⟩ := List.any_eq_true.mp q
    have e : keyC x = keyC c := of_decide_eq_true e
    have := one_inj (Sum.inr.inj e)
    subst this
    exact h hx
theorem zip_true (k : L2.Key) : ∀ ks : List Nat, List.zipWith (fun j d => if j = k then D.bl true else d) (ks.map keyC) (ks.map fun _ => D.bl true) = ks.map fun _ => .bl true
  | [] => rfl
  | c :: ks => by
    simp only [List.map_cons, List.zipWith_cons_cons, zip_true k ks]
    split <;> rfl
theorem setK_chr (ks : List Nat) (c : Nat) (h : ks.length < 1000000) : setK (dctOf ks) (chr c) (.bl true) = some (dctOf (add1 ks c)) := by
  have hk : keyD (chr c) = some (keyC c) := rfl
  unfold dctOf setK
  rw [hk]
  simp only [List.length_map]
  rw [if_pos h]
  unfold putKs putVs add1
  rw [has_keyC]
  by_cases hc : c ∈ ks
  · simp only [decide_eq_true hc, if_true, if_pos hc, zip_true]
  · simp [hc]
/-- slots a and b -/
abbrev stD (δ0 : DEnv) (a b : Nat) (d : D) (s : Option S) : DEnv := (δ0.set a (some (.m false d))).set b s
section
variable {δ0 : DEnv} {a b : Nat} {d d' : D} {s s' : Option S}
theorem stD_a (hab : a ≠ b) (ha : a < δ0.length) : (stD δ0 a b d s)[a]? = some (some (.m false d)) := by
  rw [List.getElem?_set_ne hab.symm, List.getElem?_set_self ha]
theorem stD_b (hb : b < δ0.length) : (stD δ0 a b d s)[b]? = some s := by
  rw [List.getElem?_set_self (by simpa using hb)]
theorem stD_o {j : Nat} (h1 : j ≠ a) (h2 : j ≠ b) : (stD δ0 a b d s)[j]? = δ0[j]? := by
  rw [List.getElem?_set_ne h2.symm, List.getElem?_set_ne h1.symm]
theorem stD_seta (hab : a ≠ b) : (stD δ0 a b d s).set a (some (.m false d')) = stD δ0 a b d' s := by
  show ((δ0.set a _).set b s).set a _ = _
  rw [List.set_comm _ _ hab.symm, List.set_set]
theorem stD_setb : (stD δ0 a b d s).set b s' = stD δ0 a b d s' := List.set_set ..
end
theorem set_dct {W : Nat} {C : Calls} {δ : DEnv} {a : Nat} {ks : List L2.Key} {vs : List D} {ix e : E} {k v d' : D} (ha : δ[a]? = some (some (.m false (.dct ks vs)))) (hx : evE C ix δ = .ok (.d k, δ)) (he : evE C e δ = .ok (.d v, δ)) (hk : setK (.dct ks vs) k v = some d') : evT W C (.set a ix e) δ = .ok (.nx, δ.set a (some (.m false d'))) := by
  rw [evT]
  have h1 : slotL δ a = false := by unfold slotL; rw [ha]
  have h2 : slotD δ a = true := by unfold slotD; rw [ha]
  have h3 : upS δ a (fun o => setK o k v) = some (δ.set a (some (.m false d'))) := by
    unfold upS; rw [ha]; simp only [hk]
  rw [h1, h2]
  simp only [Bool.false_eq_true, if_false, if_true, he, hx, bind_ok, resR, escR, h3]
theorem chars_loop {W : Nat} {C : Calls} {δ0 : DEnv} {a b : Nat} (hab : a ≠ b) (ha : a < δ0.length) (hb : b < δ0.length) : ∀ (cs ks : List Nat) (s : Option S), Soft s → ks.length + cs.length ≤ 100000 →
    ∃ s', Soft s' ∧ forLoop (.nm b) (fun δ => evTs W C [.set a (.var b) (.con (.bl true))] δ) (cs.map chr) (stD δ0 a b (dctOf ks) s) = .ok (.nx, stD δ0 a b (dctOf (addC ks cs)) s')
  | [], ks, s, h, _ => ⟨s, h, rfl⟩
  | c :: cs, ks, s, h, hl => by
    simp only [List.length_cons] at hl
    have hlen := add1_len ks c
    obtain ⟨s', h', e⟩ := chars_loop (W := W) (C := C) hab ha hb cs (add1 ks c) (some (.p (chr c))) (.inr ⟨_, rfl⟩) (by omega)
    refine ⟨s', h', ?_⟩
    show _ = Res.ok (Fl.nx, stD δ0 a b (dctOf (addC (add1 ks c) cs)) s')
    rw [← e]
    have hput : bindTg (stD δ0 a b (dctOf ks) s) (.nm b) (chr c) = some (stD δ0 a b (dctOf ks) (some (.p (chr c)))) := by
      have h1 : (stD δ0 a b (dctOf ks) s)[b]? = some s := stD_b hb
      show put _ b (.p (chr c)) = _
      unfold put
      rw [h1]
      rcases h with rfl | ⟨d, rfl⟩ <;> simp only [stD_setb]
    have hset : evT W C (.set a (.var b) (.con (.bl true))) (stD δ0 a b (dctOf ks) (some (.p (chr c)))) = .ok (.nx, stD δ0 a b (dctOf (add1 ks c)) (some (.p (chr c)))) := by
      have e9 := set_dct (W := W) (C := C) (ix := .var b) (e := .con (.bl true)) (stD_a (d := dctOf ks) (s := some (.p (chr c))) hab ha) (evE_var (stD_b hb)) (by rw [evE]) (setK_chr ks c (by omega))
      rw [stD_seta hab] at e9
      exact e9
    simp only [List.map_cons]
    conv => lhs; unfold forLoop
    rw [hput]
    dsimp only
    rw [ts_nx hset ts_nil]
    rfl
/-- the signs of a sign make -/
def signsOf : Pat → List Nat
  | .sign x => x.cps.toList
  | _ => []
abbrev sgIte (a b m : Nat) : T := .ite (.pr .eq [(.pr .idx [(.var m), (.con (.int 0))]), (.con (.str "sign"))]) [.fr (.nm b) .vals [(.pr .idx [(.var m), (.con (.int 1))])] [.set a (.var b) (.con (.bl true))]] []
theorem tag_eq {x y : Str} (b : Bool) (h : (PyData.strOk x && PyData.strOk y) = true) (hb : decide (x = y) = b) : pev .eq [.str x, .str y] = some (.sc (.bl b)) := by
  simp only [Bool.and_eq_true] at h
  have e := pEq_str false h.1 h.2
  rw [hb] at e
  exact e
theorem sign_ite {W : Nat} {C : Calls} {δ0 : DEnv} {a b m : Nat} {q : Pat} (hab : a ≠ b) (hma : m ≠ a) (hmb : m ≠ b) (ha : a < δ0.length) (hb : b < δ0.length) (hm : δ0[m]? = some (some (.p (enc q)))) (ks : List Nat) (s : Option S) (h : Soft s) (hl : ks.length + (signsOf q).length ≤ 100000) :
    ∃ s', Soft s' ∧ evT W C (sgIte a b m) (stD δ0 a b (dctOf ks) s) = .ok (.nx, stD δ0 a b (dctOf (addC ks (signsOf q))) s') := by
  have hv : evE C (.var m) (stD δ0 a b (dctOf ks) s) = .ok (.d (enc q), stD δ0 a b (dctOf ks) s) := evE_var (by rw [stD_o hma hmb]; exact hm)
  have h0 : ∀ i, evE C (.con (.int i)) (stD δ0 a b (dctOf ks) s) = .ok (.d (.int i), stD δ0 a b (dctOf ks) s) := fun i => by rw [evE]
  have hc : evE C (.con (.str "sign")) (stD δ0 a b (dctOf ks) s) = .ok (.d (.str "sign"), stD δ0 a b (dctOf ks) s) := by rw [evE]
  have no : ∀ t : Str, pev .idx [enc q, .int 0] = some (.sc (.str t)) → pev .eq [.str t, .str "sign"] = some (.sc (.bl false)) → signsOf q = [] → ∃ s', Soft s' ∧ evT W C (sgIte a b m) (stD δ0 a b (dctOf ks) s) = .ok (.nx, stD δ0 a b (dctOf (addC ks (signsOf q))) s') := by
    intro t e1 e2 e3
    refine ⟨s, h, ?_⟩
    rw [e3]
    exact ite_no (pr2_of (pr2_of hv (h0 0) rfl rfl e1) hc rfl rfl e2) ts_nil
  cases q with
  | sign x =>
    obtain ⟨s', h', e⟩ := chars_loop (W := W) (C := C) hab ha hb x.cps.toList ks s h hl
    have e1 : pev .idx [enc (.sign x), .int 0] = some (.sc (.str "sign")) := rfl
    have e2 : pev .eq [.str "sign", .str "sign"] = some (.sc (.bl true)) := tag_eq true (by decide +kernel) (by decide +kernel)
    have e3 : pev .idx [enc (.sign x), .int 1] = some (.sc (.str x)) := rfl
    exact ⟨s', h', ite_yes (pr2_of (pr2_of hv (h0 0) rfl rfl e1) hc rfl rfl e2) (ts_nx (for_vals (ik := .vals) (pr2_of hv (h0 1) rfl rfl e3) (.inl rfl) rfl e) ts_nil)⟩
  | none => exact no "none" rfl (tag_eq false (by decide +kernel) (by decide +kernel)) rfl
  | blank => exact no "blank" rfl (tag_eq false (by decide +kernel) (by decide +kernel)) rfl
  | row ps => exact no "row" rfl (tag_eq false (by decide +kernel) (by decide +kernel)) rfl
  | pick ps => exact no "pick" rfl (tag_eq false (by decide +kernel) (by decide +kernel)) rfl
  | again p => exact no "again" rfl (tag_eq false (by decide +kernel) (by decide +kernel)) rfl
  | held x p => exact no "held" rfl (tag_eq false (by decide +kernel) (by decide +kernel)) rfl
  | price n p => exact no "price" rfl (tag_eq false (by decide +kernel) (by decide +kernel)) rfl
/-! "".join(sorted(d)) -/
def sgText (ks : List Nat) : Str := Txt.join ("" : Str) (sortS (ks.map one))
theorem strsK_C : ∀ ks : List Nat, strsK (ks.map keyC) = some (ks.map one)
  | [] => rfl
  | c :: ks => by simp only [List.map_cons, strsK, strsK_C ks]
theorem strsD_map : ∀ l : List Str, strsD (l.map .str) = some l
  | [] => rfl
  | i :: l => by simp only [List.map_cons, strsD, strsD_map l]
theorem sum_ones : ∀ {l : List Str}, (∀ y ∈ l, y.length = 1) → (l.map (·.length)).sum = l.length
  | [], _ => rfl
  | y :: l, h => by
    simp only [List.map_cons, List.sum_cons, h y List.mem_cons_self, sum_ones fun z hz => h z (List.mem_cons_of_mem _ hz), List.length_cons]; omega
theorem sort_ones (ks : List Nat) : ∀ y ∈ sortS (ks.map one), ∃ c ∈ ks, y = one c := fun y hy => by
  obtain ⟨c, hc, e⟩ := List.mem_map.mp ((sortS_perm _).mem_iff.mp hy)
  exact ⟨c, hc, e.symm⟩
theorem sorted_dct (ks : List Nat) (h : ks.length < 64) : pev .sorted [dctOf ks] = some (.new (.lst ((sortS (ks.map one)).map .str))) := by
  unfold dctOf
  simp only [pev, strsK_C, List.length_map]
  rw [if_pos h]
theorem join_sorted (ks : List Nat) (h : ks.length < 64) : pev .join [.str "", .lst ((sortS (ks.map one)).map .str)] = some (.sc (.str (sgText ks))) := by
  have h0 : ("" : Str).length = 0 := rfl
  have hl : (sortS (ks.map one)).length = ks.length := by rw [(sortS_perm _).length_eq, List.length_map]
  have hs := sum_ones (l := sortS (ks.map one)) fun y hy => by obtain ⟨c, _, rfl⟩ := sort_ones ks y hy; rfl
  simp only [pev, seqOf, strsD_map, h0, hs, hl]
  rw [if_pos (by show _ ≤ 1000000; omega)]
  rfl
theorem sgText_eq {ks js : List Nat} (h1 : ks.Nodup) (h2 : js.Nodup) (h : ∀ c, c ∈ ks ↔ c ∈ js) : sgText ks = sgText js := by
  unfold sgText
  rw [sortedS_uniq ((sortS_perm _).trans (((nodup_perm h1 h2 h).map one).trans (sortS_perm _).symm)) (sortS_sorted _) (sortS_sorted _)]
theorem sgText_str {ks : List Nat} (h : ∀ c ∈ ks, c ∈ lets) : PyData.strOk (sgText ks) = true := by
  have h2 : ∀ c ∈ lets, c < 0x110000 := by decide +kernel
  refine strOk_iff.mpr (join_ok _ _ (fun c hc => absurd hc (by simp [Str.ofString_eq_toList])) _ fun p hp c hc => ?_)
  obtain ⟨y, hy, rfl⟩ := sort_ones ks p hp
  have : c = y := by simpa [one] using hc
  subst this
  exact h2 c (h c hy)
/-! signs_of -/
def signsF (mk : Nat) : Fn := ⟨4, [false], [.asg (.nm 1) (.pr .dict0 []), .fr (.nm 2) .vals [(.call mk [(.var 0)])] [sgIte 1 3 2], .ret (.sm .join (.con (.str "")) (.pr .sorted [(.var 1)]))]⟩
/-- all signs of makes, each once -/
def allSigns (ms : List Pat) : List Nat := addC [] (ms.map signsOf).flatten
theorem good_signs {q : Pat} (h : q.good) : ∀ c ∈ signsOf q, c ∈ lets := by
  cases q with
  | sign x => exact h.lets
  | _ => intro c hc; simp [signsOf] at hc
theorem few_signs {ms : List Pat} (h : ∀ q ∈ ms, q.good) : (∀ c ∈ allSigns ms, c ∈ lets) ∧ (allSigns ms).length < 64 := by
  have h1 : ∀ c ∈ allSigns ms, c ∈ lets := fun c hc => by
    rcases addC_mem.mp hc with hc | hc
    · cases hc
    · obtain ⟨l, hl, hc⟩ := List.mem_flatten.mp hc
      obtain ⟨q, hq, rfl⟩ := List.mem_map.mp hl
      exact good_signs (h q hq) c hc
  refine ⟨h1, ?_⟩
  have := nodup_sub (addC_nodup (ks := []) (cs := (ms.map signsOf).flatten) .nil) h1
  have h3 : lets.length = 16 := rfl
  show (addC [] _).length < 64
  omega
theorem addC_len : ∀ (cs ks : List Nat), (addC ks cs).length ≤ ks.length + cs.length
  | [], ks => by simp [addC]
  | c :: cs, ks => by
    have h1 := addC_len cs (add1 ks c)
    have h2 := add1_len ks c
    show (addC (add1 ks c) cs).length ≤ _
    simp only [List.length_cons]; omega
theorem sign_len {q : Pat} (h : q.good) : (signsOf q).length ≤ 16 := by
  have h3 : lets.length = 16 := rfl
  cases q with
  | sign x =>
    have : x.cps.toList.Nodup := h.rise.imp fun h e => by subst e; exact Nat.lt_irrefl _ h
    have := nodup_sub this h.lets
    show x.cps.toList.length ≤ 16
    omega
  | _ => simp [signsOf]
theorem signs_loop {W : Nat} {C : Calls} (e : D) : ∀ (ms : List Pat) (ks : List Nat) (s2 s3 : Option S), (∀ q ∈ ms, q.good) → Soft s2 → Soft s3 → ks.length + 16 * ms.length ≤ 100000 →
    ∃ s2' s3', Soft s2' ∧ Soft s3' ∧ forLoop (.nm 2) (fun δ => evTs W C [sgIte 1 3 2] δ) (ms.map enc) [some (.p e), some (.m false (dctOf ks)), s2, s3] = .ok (.nx, [some (.p e), some (.m false (dctOf (addC ks (ms.map signsOf).flatten))), s2', s3'])
  | [], ks, s2, s3, _, h2, h3, _ => ⟨s2, s3, h2, h3, rfl⟩
  | q :: ms, ks, s2, s3, hg, h2, h3, hl => by
    simp only [List.length_cons] at hl
    have hq := sign_len (hg q List.mem_cons_self)
    have hk := addC_len (signsOf q) ks
    obtain ⟨s', h', e1⟩ := sign_ite (W := W) (C := C) (δ0 := [some (.p e), none, some (.p (enc q)), none]) (a := 1) (b := 3) (m := 2) (q := q) (by decide) (by decide) (by decide) (show 1 < 4 by decide) (show 3 < 4 by decide) rfl ks s3 h3 (by omega)
    obtain ⟨t2, t3, k2, k3, e2⟩ := signs_loop (W := W) (C := C) e ms (addC ks (signsOf q)) (some (.p (enc q))) s' (fun r hr => hg r (List.mem_cons_of_mem _ hr)) (.inr ⟨_, rfl⟩) h' (by omega)
    refine ⟨t2, t3, k2, k3, ?_⟩
    rw [List.map_cons, List.map_cons, List.flatten_cons, addC_app, ← e2]
    conv => lhs; unfold forLoop
    rw [bind_nm (s := s2) rfl (.of h2)]
    dsimp only
    rw [ts_nx (show evT W C (sgIte 1 3 2) ([some (.p e), some (.m false (dctOf ks)), s2, s3].set 2 (some (.p (enc q)))) = _ from e1) ts_nil]
    rfl
theorem signs_run {W : Nat} {C : Calls} {mk : Nat} (hm : C.md mk = some [false]) (p : Pat) (hr : C.run mk [enc p] = .ok (.lst ((makes p).map enc), true, [])) (hg : ∀ q ∈ makes p, q.good) (hs : p.size ≤ 1000) : runFn W C (signsF mk) [enc p] = .ok (.str (sgText (allSigns (makes p))), false, []) := by
  have hlen := makes_len p
  obtain ⟨s2, s3, h2, h3, e⟩ := signs_loop (W := W) (C := C) (enc p) (makes p) [] none none hg (.inl rfl) (.inl rfl) (by simp only [List.length_nil]; omega)
  obtain ⟨f1, f2⟩ := few_signs hg
  have s0 : evT W C (.asg (.nm 1) (.pr .dict0 [])) [some (.p (enc p)), none, none, none] = .ok (.nx, [some (.p (enc p)), some (.m false (dctOf [])), none, none]) := by
    simp [runFn, evTs, evT, evE, evL, evAnd, evOr, evIfs, start0, resL, resR, S.val, pev, seqOf, L2.atI, dLt, PR.r, tstR, put, asgR, slotL, escR, escL, upS, setI, L2.ixN, finF, finR, iosOf, callR, loan, apart, okP, sameK, valIx, ioIx, putIos, frzL, isOwn, D.scal, D.flat, methD, bindTg, wipeD, canWipe, backV, backL, lockL, lockR, backR, S.lock, pIn, dctOf]
  have g1 := call1 (e := .var 0) (δ := [some (.p (enc p)), some (.m false (dctOf [])), none, none]) hm (evE_var rfl) hr
  have s1 := for_vals (ik := .vals) (b := [sgIte 1 3 2]) (f := .nx) g1 (.inr rfl) rfl e
  have s2e : evE C (.sm .join (.con (.str "")) (.pr .sorted [(.var 1)])) [some (.p (enc p)), some (.m false (dctOf (addC [] ((makes p).map signsOf).flatten))), s2, s3] = .ok (.d (.str (sgText (allSigns (makes p)))), [some (.p (enc p)), some (.m false (dctOf (addC [] ((makes p).map signsOf).flatten))), s2, s3]) := by
    have a1 := sorted_dct _ f2
    have a2 := join_sorted _ f2
    have b1 : evE C (.var 1) [some (.p (enc p)), some (.m false (dctOf (allSigns (makes p)))), s2, s3] = .ok (.h 1, [some (.p (enc p)), some (.m false (dctOf (allSigns (makes p)))), s2, s3]) := by simp [evE]
    have b2 := pr1_of b1 rfl a1
    show evE C _ [some (.p (enc p)), some (.m false (dctOf (allSigns (makes p)))), s2, s3] = .ok (_, [some (.p (enc p)), some (.m false (dctOf (allSigns (makes p)))), s2, s3])
    rw [evE, evE_con]
    simp only [bind_ok, resR, b2, PR.r, a2]
  exact run_ret (r := .d (.str (sgText (allSigns (makes p))))) (δ' := [some (.p (enc p)), some (.m false (dctOf (addC [] ((makes p).map signsOf).flatten))), s2, s3]) rfl (ts_nx s0 (ts_nx s1 (ts_rt (by rw [evT, s2e]; rfl)))) rfl
end Ev
set_option maxHeartbeats 4000000
/-! GenP: a law over [0] + script -/
namespace Ev
open PySem
def lawF (n : Nat) (body : List T) : Fn := ⟨n, [false], [.fr (.nm 1) .vals [(.pr .add [(.lst [(.con (.int 0))]), (.var 0)])] body, .ret (.con (.bl true))]⟩
theorem law_gen {W : Nat} {C : Calls} {n : Nat} {body : List T} (P : DEnv → Prop) (ns : List Int) (hl : ns.length ≤ 63) (h0 : P (some (.p (.lst (ns.map .int))) :: List.replicate (n - 1) none)) (hs : ∀ δ, P δ → ∃ s, δ[1]? = some s ∧ Free s)
    (step : ∀ c δ, P δ → ∃ δ', evTs W C body (δ.set 1 (some (.p (.int c)))) = .ok (.nx, δ') ∧ P δ') : runFn W C (lawF n body) [.lst (ns.map .int)] = .ok (.bl true, false, []) := by
  obtain ⟨δ', e, hP⟩ := for_inv (b := fun δ => evTs W C body δ) (tg := .nm 1) (fun xs δ => P δ ∧ ∃ cs : List Int, xs = cs.map .int) (fun x xs δ ⟨hp, cs, hx⟩ => by
    cases cs with
    | nil => cases hx
    | cons c cs =>
      cases hx
      obtain ⟨s, e1, e2⟩ := hs δ hp
      obtain ⟨δ', e3, hp'⟩ := step c δ hp
      exact ⟨_, δ', bind_nm e1 e2, e3, hp', cs, rfl⟩) ((0 :: ns).map .int) _ ⟨h0, 0 :: ns, rfl⟩
  have v0 : pev .add [.lst [.int 0], .lst (ns.map D.int)] = some (.new (.lst ((0 :: ns).map D.int))) := by
    simp only [pev]
    rw [if_pos (by show 1 + (ns.map D.int).length ≤ 1000000; rw [List.length_map]; omega)]
    rfl
  have g1 : evE C (.pr .add [(.lst [(.con (.int 0))]), (.var 0)]) (some (.p (.lst (ns.map .int))) :: List.replicate (n - 1) none) = .ok (.o (.lst ((0 :: ns).map D.int)), some (.p (.lst (ns.map .int))) :: List.replicate (n - 1) none) :=
    pr2_of (r1 := .o (.lst [.int 0])) (r2 := .d (.lst (ns.map .int))) (by simp [evE, evL, escL, escR]) (evE_var rfl) rfl rfl v0
  have s0 := for_vals (W := W) (ik := .vals) g1 (.inr rfl) rfl e
  obtain ⟨s, e1, _⟩ := hs δ' hP.1
  refine run_ret (r := .d (.bl true)) (δ' := δ') rfl (ts_nx s0 (ts_rt (by rw [evT, evE_con]; rfl))) ?_
  cases δ' with
  | nil => simp at e1
  | cons a δ' => simp [finF, finR, iosOf, lawF]
end Ev
set_option maxHeartbeats 4000000
/-! GenQ: can be blank, has texts -/
namespace Ev
open PySem
def Pat.tag : Pat → Str
  | .none => "none"
  | .blank => "blank"
  | .sign _ => "sign"
  | .row _ => "row"
  | .pick _ => "pick"
  | .again _ => "again"
  | .held _ _ => "held"
  | .price _ _ => "price"
theorem tag_idx (p : Pat) : pev .idx [enc p, .int 0] = some (.sc (.str p.tag)) := by cases p <;> rfl
theorem evE_tag {C : Calls} {i : Nat} {δ : DEnv} {p : Pat} (h : δ[i]? = some (some (.p (enc p)))) : evE C (.pr .idx [(.var i), (.con (.int 0))]) δ = .ok (.d (.str p.tag), δ) :=
  pr2_of (evE_var h) evE_con rfl rfl (tag_idx p)
def Pat.isRow : Pat → Bool
  | .row _ => true
  | _ => false
def Pat.isSign : Pat → Bool
  | .sign _ => true
  | _ => false
def Pat.isBA : Pat → Bool
  | .blank => true
  | .again _ => true
  | _ => false
def Pat.isBSA : Pat → Bool
  | .blank => true
  | .sign _ => true
  | .again _ => true
  | _ => false
theorem tag_row (p : Pat) : pev .eq [.str p.tag, .str "row"] = some (.sc (.bl p.isRow)) := by
  cases p
  · exact tag_eq (x := "none") false (by decide +kernel) (by decide +kernel)
  · exact tag_eq (x := "blank") false (by decide +kernel) (by decide +kernel)
  · exact tag_eq (x := "sign") false (by decide +kernel) (by decide +kernel)
  · exact tag_eq (x := "row") true (by decide +kernel) (by decide +kernel)
  · exact tag_eq (x := "pick") false (by decide +kernel) (by decide +kernel)
  · exact tag_eq (x := "again") false (by decide +kernel) (by decide +kernel)
  · exact tag_eq (x := "held") false (by decide +kernel) (by decide +kernel)
  · exact tag_eq (x := "price") false (by decide +kernel) (by decide +kernel)
theorem tag_sign (p : Pat) : pev .eq [.str p.tag, .str "sign"] = some (.sc (.bl p.isSign)) := by
  cases p
  · exact tag_eq (x := "none") false (by decide +kernel) (by decide +kernel)
  · exact tag_eq (x := "blank") false (by decide +kernel) (by decide +kernel)
  · exact tag_eq (x := "sign") true (by decide +kernel) (by decide +kernel)
  · exact tag_eq (x := "row") false (by decide +kernel) (by decide +kernel)
  · exact tag_eq (x := "pick") false (by decide +kernel) (by decide +kernel)
  · exact tag_eq (x := "again") false (by decide +kernel) (by decide +kernel)
  · exact tag_eq (x := "held") false (by decide +kernel) (by decide +kernel)
  · exact tag_eq (x := "price") false (by decide +kernel) (by decide +kernel)
theorem tag_again (p : Pat) : pev .eq [.str p.tag, .str "again"] = some (.sc (.bl (match p with | .again _ => true | _ => false))) := by
  cases p
  · exact tag_eq (x := "none") false (by decide +kernel) (by decide +kernel)
  · exact tag_eq (x := "blank") false (by decide +kernel) (by decide +kernel)
  · exact tag_eq (x := "sign") false (by decide +kernel) (by decide +kernel)
  · exact tag_eq (x := "row") false (by decide +kernel) (by decide +kernel)
  · exact tag_eq (x := "pick") false (by decide +kernel) (by decide +kernel)
  · exact tag_eq (x := "again") true (by decide +kernel) (by decide +kernel)
  · exact tag_eq (x := "held") false (by decide +kernel) (by decide +kernel)
  · exact tag_eq (x := "price") false (by decide +kernel) (by decide +kernel)
theorem tag_held (p : Pat) : pev .eq [.str p.tag, .str "held"] = some (.sc (.bl (match p with | .held _ _ => true | _ => false))) := by
  cases p
  · exact tag_eq (x := "none") false (by decide +kernel) (by decide +kernel)
  · exact tag_eq (x := "blank") false (by decide +kernel) (by decide +kernel)
  · exact tag_eq (x := "sign") false (by decide +kernel) (by decide +kernel)
  · exact tag_eq (x := "row") false (by decide +kernel) (by decide +kernel)
  · exact tag_eq (x := "pick") false (by decide +kernel) (by decide +kernel)
  · exact tag_eq (x := "again") false (by decide +kernel) (by decide +kernel)
  · exact tag_eq (x := "held") true (by decide +kernel) (by decide +kernel)
  · exact tag_eq (x := "price") false (by decide +kernel) (by decide +kernel)
theorem tag_BA (p : Pat) : pev .inn [.str p.tag, .tup [.str "blank", .str "again"]] = some (.sc (.bl p.isBA)) := by cases p <;> rfl
theorem tag_BAl (p : Pat) : pev .inn [.str p.tag, .lst [.str "blank", .str "again"]] = some (.sc (.bl p.isBA)) := by cases p <;> rfl
theorem tag_BSA (p : Pat) : pev .inn [.str p.tag, .tup [.str "blank", .str "sign", .str "again"]] = some (.sc (.bl p.isBSA)) := by cases p <;> rfl
mutual
def Pat.txt : Pat → Bool
  | .none => false
  | .blank => true
  | .sign _ => true
  | .row ps => allTxt ps
  | .pick ps => anyTxt ps
  | .again _ => true
  | .held _ p => p.txt
  | .price _ p => p.txt
def allTxt : List Pat → Bool
  | [] => true
  | p :: ps => p.txt && allTxt ps
def anyTxt : List Pat → Bool
  | [] => false
  | p :: ps => p.txt || anyTxt ps
end
theorem blk_eq (p : Pat) : p.blk = if p.isBA then true else if p.isRow then allBlk (kids p) else anyBlk (kids p) := by
  cases p <;> simp [Pat.blk, Pat.isBA, Pat.isRow, kids, anyBlk]
theorem txt_eq (p : Pat) : p.txt = if p.isBSA then true else if p.isRow then allTxt (kids p) else anyTxt (kids p) := by
  cases p <;> simp [Pat.txt, Pat.isBSA, Pat.isRow, kids, anyTxt]
theorem boolsD_map : ∀ l : List Bool, boolsD (l.map .bl) = some l
  | [] => rfl
  | b :: l => by simp only [List.map_cons, boolsD, boolsD_map l]
theorem allBlk_eq : ∀ ps : List Pat, allBlk ps = (ps.map Pat.blk).all id
  | [] => rfl
  | p :: ps => by simp only [allBlk, List.map_cons, List.all_cons, allBlk_eq ps, id]
theorem anyBlk_eq : ∀ ps : List Pat, anyBlk ps = (ps.map Pat.blk).any id
  | [] => rfl
  | p :: ps => by simp only [anyBlk, List.map_cons, List.any_cons, anyBlk_eq ps, id]
theorem allTxt_eq : ∀ ps : List Pat, allTxt ps = (ps.map Pat.txt).all id
  | [] => rfl
  | p :: ps => by simp only [allTxt, List.map_cons, List.all_cons, allTxt_eq ps, id]
theorem anyTxt_eq : ∀ ps : List Pat, anyTxt ps = (ps.map Pat.txt).any id
  | [] => rfl
  | p :: ps => by simp only [anyTxt, List.map_cons, List.any_cons, anyTxt_eq ps, id]
theorem all_map {α : Type} (f : α → Bool) (l : List α) : pev .all [.lst (l.map fun x => .bl (f x))] = some (.sc (.bl ((l.map f).all id))) := by
  have : (l.map fun x => D.bl (f x)) = (l.map f).map .bl := by rw [List.map_map]; rfl
  simp only [pev, this, boolsD_map]
theorem any_map {α : Type} (f : α → Bool) (l : List α) : pev .any [.lst (l.map fun x => .bl (f x))] = some (.sc (.bl ((l.map f).any id))) := by
  have : (l.map fun x => D.bl (f x)) = (l.map f).map .bl := by rw [List.map_map]; rfl
  simp only [pev, this, boolsD_map]
mutual
def Pat.slim : Pat → Prop
  | .row ps => ps.length ≤ 1000 ∧ slimL ps
  | .pick ps => ps.length ≤ 1000 ∧ slimL ps
  | .again p => p.slim
  | .held _ p => p.slim
  | .price _ p => p.slim
  | _ => True
def slimL : List Pat → Prop
  | [] => True
  | p :: ps => p.slim ∧ slimL ps
end
theorem slimL_mem : ∀ {ps : List Pat}, slimL ps → ∀ q ∈ ps, q.slim
  | p :: ps, h, q, hq => by
    rcases List.mem_cons.mp hq with rfl | hq
    · exact h.1
    · exact slimL_mem h.2 q hq
theorem slim_kids {p : Pat} (h : p.slim) : (kids p).length ≤ 1000 ∧ ∀ q ∈ kids p, q.slim := by
  cases p with
  | row ps => exact ⟨h.1, slimL_mem h.2⟩
  | pick ps => exact ⟨h.1, slimL_mem h.2⟩
  | again p => exact ⟨by simp [kids], fun q hq => by obtain rfl := List.mem_singleton.mp hq; exact h⟩
  | held x p => exact ⟨by simp [kids], fun q hq => by obtain rfl := List.mem_singleton.mp hq; exact h⟩
  | price n p => exact ⟨by simp [kids], fun q hq => by obtain rfl := List.mem_singleton.mp hq; exact h⟩
  | _ => exact ⟨by simp [kids], fun q hq => by cases hq⟩
mutual
theorem slim_of : ∀ p : Pat, p.size ≤ 1000 → p.slim
  | .none, _ => trivial
  | .blank, _ => trivial
  | .sign _, _ => trivial
  | .row ps, h => by
    have := len_le_size ps
    simp only [Pat.size] at h
    exact ⟨by omega, slimL_of ps (by omega)⟩
  | .pick ps, h => by
    have := len_le_size ps
    simp only [Pat.size] at h
    exact ⟨by omega, slimL_of ps (by omega)⟩
  | .again p, h => slim_of p (by simp only [Pat.size] at h; omega)
  | .held _ p, h => slim_of p (by simp only [Pat.size] at h; omega)
  | .price _ p, h => slim_of p (by simp only [Pat.size] at h; omega)
theorem slimL_of : ∀ ps : List Pat, sizeL ps ≤ 1000 → slimL ps
  | [], _ => trivial
  | p :: ps, h => by
    simp only [sizeL] at h
    exact ⟨slim_of p (by omega), slimL_of ps (by omega)⟩
end
/-- the body of both: tags, self -/
def truthF (tags : List Str) (inn bl : Nat) : Fn := ⟨3, [false], [.ite (.pr .inn [(.pr .idx [(.var 0), (.con (.int 0))]), (.tup (tags.map fun t => .con (.str t)))]) [.ret (.con (.bl true))] [], .asg (.nm 1) (.comp [2] (.nm 2) .vals [(.call inn [(.var 0)])] [] (.call bl [(.var 2)])), .ite (.pr .eq [(.pr .idx [(.var 0), (.con (.int 0))]), (.con (.str "row"))]) [.ret (.pr .all [(.var 1)])] [], .ret (.pr .any [(.var 1)])]⟩
theorem tup_con {C : Calls} {δ : DEnv} : ∀ l : List Str, evE C (.tup (l.map fun t => .con (.str t))) δ = .ok (.d (.tup (l.map .str)), δ) := fun l => by
  have g : ∀ l : List Str, evL C (l.map fun t => .con (.str t)) δ = .ok (l.map fun t => .d (.str t), δ) := by
    intro l
    induction l with
    | nil => rw [List.map_nil, evL]; rfl
    | cons t l ih =>
      simp only [List.map_cons, evL, evE_con, bind_ok, ih]
  have g2 : ∀ l : List Str, escL δ (l.map fun t => .d (.str t)) = some (l.map .str, δ) := by
    intro l
    induction l with
    | nil => rfl
    | cons t l ih => simp only [List.map_cons, escL, escR, ih]
  rw [evE, g]
  simp only [bind_ok, g2]
theorem truth_run {W : Nat} {C : Calls} {inn bl : Nat} (I : InnerOk C inn) (hm : C.md bl = some [false]) (tags : List Str) (p : Pat) (b : Bool) (f : Pat → Bool) (hb : pev .inn [.str p.tag, .tup (tags.map .str)] = some (.sc (.bl b))) (hk : ∀ q ∈ kids p, C.run bl [enc q] = .ok (.bl (f q), false, [])) (hl : (kids p).length ≤ 1000) (z : Bool)
    (hz : z = if b then true else if p.isRow then ((kids p).map f).all id else ((kids p).map f).any id) : runFn W C (truthF tags inn bl) [enc p] = .ok (.bl z, false, []) := by
  have hr := I.run p
  have a0 : evE C (.pr .inn [(.pr .idx [(.var 0), (.con (.int 0))]), (.tup (tags.map fun t => .con (.str t)))]) [some (.p (enc p)), none, none] = .ok (.d (.bl b), [some (.p (enc p)), none, none]) := pr2_of (evE_tag rfl) (tup_con tags) rfl rfl hb
  cases b with
  | true => 
    have hz : z = true := hz
    subst hz
    exact run_ret (r := .d (.bl true)) (δ' := [some (.p (enc p)), none, none]) rfl (ts_rt (ite_yes a0 (ts_rt (by rw [evT, evE_con]; rfl)))) rfl
  | false =>
    have e1 : evE C (.call inn [(.var 0)]) [some (.p (enc p)), none, none] = .ok (.o (.lst (encL (kids p))), [some (.p (enc p)), none, none]) := call1 I.md (evE_var rfl) hr
    have e2 : evE C (.comp [2] (.nm 2) .vals [(.call inn [(.var 0)])] [] (.call bl [(.var 2)])) [some (.p (enc p)), none, none] = .ok (.o (.lst ((kids p).map fun q => .bl (f q))), [some (.p (enc p)), none, none]) := by
      refine comp_vals (f := enc) (show 2 < 3 by decide) e1 (.inr rfl) (by rw [← encL_map]; rfl) rfl (fun q hq => ⟨_, call1 (δ1 := [some (.p (enc p)), none, some (.p (enc q))]) hm (evE_var rfl) (hk q hq), .inl rfl⟩) (by omega)
    have s1 := asg_o (W := W) (i := 1) (s := none) e2 rfl .n
    have v1 : evE C (.var 1) [some (.p (enc p)), some (.m false (.lst ((kids p).map fun q => .bl (f q)))), none] = .ok (.h 1, [some (.p (enc p)), some (.m false (.lst ((kids p).map fun q => .bl (f q)))), none]) := by simp [evE]
    have c1 : evE C (.pr .eq [(.pr .idx [(.var 0), (.con (.int 0))]), (.con (.str "row"))]) [some (.p (enc p)), some (.m false (.lst ((kids p).map fun q => .bl (f q)))), none] = .ok (.d (.bl p.isRow), [some (.p (enc p)), some (.m false (.lst ((kids p).map fun q => .bl (f q)))), none]) := pr2_of (evE_tag rfl) evE_con rfl rfl (tag_row p)
    rw [if_neg Bool.false_ne_true] at hz
    have fin : ∀ δ' : DEnv, δ' = [some (.p (enc p)), some (.m false (.lst ((kids p).map fun q => .bl (f q)))), none] → finF [false] δ' (.d (.bl z)) = .ok (.bl z, false, []) := by rintro _ rfl; rfl
    cases hrow : p.isRow with
    | true =>
      rw [hrow] at c1 hz
      have hz : z = ((kids p).map f).all id := hz
      subst hz
      exact run_ret (r := .d (.bl _)) rfl (ts_nx (ite_no a0 ts_nil) (ts_nx s1 (ts_rt (ite_yes c1 (ts_rt (by rw [evT, pr1_of v1 rfl (all_map f (kids p))]; rfl)))))) (fin _ rfl)
    | false =>
      rw [hrow] at c1 hz
      have hz : z = ((kids p).map f).any id := hz
      subst hz
      exact run_ret (r := .d (.bl _)) rfl (ts_nx (ite_no a0 ts_nil) (ts_nx s1 (ts_nx (ite_no c1 ts_nil) (ts_rt (by rw [evT, pr1_of v1 rfl (any_map f (kids p))]; rfl))))) (fin _ rfl)
theorem blank_lvl {tab : List Fn} {W inn bl : Nat} (h1 : tab[inn]? = some innerF) (h2 : tab[bl]? = some (truthF ["blank", "again"] inn bl)) : ∀ (n : Nat) (p : Pat), p.dep ≤ n → p.slim → (calls W tab (n + 1)).run bl [enc p] = .ok (.bl p.blk, false, [])
  | 0, p, h, _ => absurd (dep_pos p) (by omega)
  | n + 1, p, h, hs => by
    rw [run_at h2]
    refine truth_run (f := Pat.blk) (inner_lvl h1 n) (md_at h2) ["blank", "again"] p p.isBA (tag_BA p) (fun q hq => blank_lvl h1 h2 n q (by have := kid_dep hq; omega) ((slim_kids hs).2 q hq)) (slim_kids hs).1 _ ?_
    rw [blk_eq, allBlk_eq, anyBlk_eq]
theorem texts_lvl {tab : List Fn} {W inn bl : Nat} (h1 : tab[inn]? = some innerF) (h2 : tab[bl]? = some (truthF ["blank", "sign", "again"] inn bl)) : ∀ (n : Nat) (p : Pat), p.dep ≤ n → p.slim → (calls W tab (n + 1)).run bl [enc p] = .ok (.bl p.txt, false, [])
  | 0, p, h, _ => absurd (dep_pos p) (by omega)
  | n + 1, p, h, hs => by
    rw [run_at h2]
    refine truth_run (f := Pat.txt) (inner_lvl h1 n) (md_at h2) ["blank", "sign", "again"] p p.isBSA (tag_BSA p) (fun q hq => texts_lvl h1 h2 n q (by have := kid_dep hq; omega) ((slim_kids hs).2 q hq)) (slim_kids hs).1 _ ?_
    rw [txt_eq, allTxt_eq, anyTxt_eq]
end Ev
set_option maxHeartbeats 4000000
/-! GenR: words, whole numbers, texts, signs -/
namespace Ev
open PySem
theorem chain_of {C : Calls} {p q : Pr} {a b c : E} {δ : DEnv} {d1 d2 d3 : D} {b1 b2 : Bool} (h1 : evE C a δ = .ok (.d d1, δ)) (h2 : evE C b δ = .ok (.d d2, δ)) (h3 : evE C c δ = .ok (.d d3, δ)) (e1 : pev p [d1, d2] = some (.sc (.bl b1))) (e2 : pev q [d2, d3] = some (.sc (.bl b2))) :
    evE C (.chain p q a b c) δ = .ok (.d (.bl (b1 && b2)), δ) := by
  have g1 : ∀ d : D, resR δ (.d d) = some d := fun _ => rfl
  rw [evE, h1]
  simp only [bind_ok, h2, g1, e1]
  cases b1 with
  | true => simp only [h3, bind_ok, g1, e2, Bool.true_and]
  | false => rfl
theorem or_two {C : Calls} {a b : E} {δ : DEnv} {b1 b2 : Bool} (h1 : evE C a δ = .ok (.d (.bl b1), δ)) (h2 : evE C b δ = .ok (.d (.bl b2), δ)) : evE C (.or [a, b]) δ = .ok (.d (.bl (b1 || b2)), δ) := by
  cases b1 with
  | true => exact or_yes h1
  | false => exact or_no h1 (or_last h2)
theorem and_two {C : Calls} {a b : E} {δ : DEnv} {b1 b2 : Bool} (h1 : evE C a δ = .ok (.d (.bl b1), δ)) (h2 : evE C b δ = .ok (.d (.bl b2), δ)) : evE C (.and [a, b]) δ = .ok (.d (.bl (b1 && b2)), δ) := by
  cases b1 with
  | true => exact and_yes h1 (and_last h2)
  | false => exact and_no h1
def isStr : D → Bool
  | .str _ => true
  | _ => false
def isTup : D → Bool
  | .tup _ => true
  | _ => false
theorem isi_str (d : D) : pev (.isinst ["str"]) [d] = some (.sc (.bl (isStr d))) := by cases d <;> simp [pev, isTy, isStr]
theorem isi_tup (d : D) : pev (.isinst ["tuple"]) [d] = some (.sc (.bl (isTup d))) := by cases d <;> simp [pev, isTy, isTup]
def wholeB : D → Bool
  | .int _ => true
  | _ => false
def wholeF : Fn := ⟨1, [false], [.ret (.and [(.pr (.isinst ["int"]) [(.var 0)]), (.not (.pr (.isinst ["bool"]) [(.var 0)]))])]⟩
theorem whole_run (W : Nat) (C : Calls) (d : D) : runFn W C wholeF [d] = .ok (.bl (wholeB d), false, []) := by
  cases d <;> simp [runFn, evTs, evT, evE, evL, evAnd, evOr, evIfs, start0, resL, resR, S.val, pev, seqOf, L2.atI, dLt, PR.r, tstR, put, asgR, slotL, escR, escL, upS, setI, L2.ixN, finF, finR, iosOf, callR, loan, apart, okP, sameK, valIx, ioIx, putIos, frzL, isOwn, D.scal, D.flat, methD, bindTg, wipeD, canWipe, backV, backL, lockL, lockR, backR, S.lock, pIn, wholeF, wholeB, isTy]
/-! is_word -/
abbrev azT : Str := "abcdefghijklmnopqrstuvwxyz"
def inAZ (c : Nat) : Bool := decide (c ∈ azT.cps.toList)
def wordB : D → Bool
  | .str x => (decide (1 ≤ x.length) && decide (x.length ≤ 8)) && (x.cps.toList.map inAZ).all id
  | _ => false
def wordF : Fn := ⟨2, [false], [.ite (.or [(.not (.pr (.isinst ["str"]) [(.var 0)])), (.not (.chain .le .le (.con (.int 1)) (.pr .len [(.var 0)]) (.con (.int 8))))]) [.ret (.con (.bl false))] [], .ret (.pr .all [(.comp [1] (.nm 1) .vals [(.var 0)] [] (.pr .inn [(.var 1), (.con (.str "abcdefghijklmnopqrstuvwxyz"))]))])]⟩
theorem in_az (c : Nat) : pev .inn [chr c, .str azT] = some (.sc (.bl (inAZ c))) := by rfl
theorem ret_false {W : Nat} {C : Calls} {δ : DEnv} : evTs W C [.ret (.con (.bl false))] δ = .ok (.rt (.d (.bl false)), δ) := ts_rt (by rw [evT, evE_con]; rfl)
theorem str_iter {x : Str} : evI .vals [.str x] = some (x.cps.toList.map chr) := rfl
theorem len_str {x : Str} (h : x.length ≤ 1000) : pev .len [.str x] = some (.sc (.int (x.length : Nat))) := by
  simp only [pev]
  rw [if_pos (show x.length ≤ 1000000 by omega)]
theorem cps_len (x : Str) : x.cps.toList.length = x.length := by simp [Str.length]
theorem word_run (W : Nat) (C : Calls) (d : D) (hd : ∀ x, d = .str x → x.length ≤ 1000) : runFn W C wordF [d] = .ok (.bl (wordB d), false, []) := by
  have v0 : evE C (.var 0) [some (.p d), none] = .ok (.d d, [some (.p d), none]) := evE_var rfl
  have a0 := not_of (pr1_of v0 rfl (isi_str d))
  by_cases hs : isStr d = true
  · cases d with
    | str x =>
      have hx := hd x rfl
      have a1 : evE C (.chain .le .le (.con (.int 1)) (.pr .len [(.var 0)]) (.con (.int 8))) [some (.p (.str x)), none] = .ok (.d (.bl (decide ((1 : Int) ≤ (x.length : Nat)) && decide (((x.length : Nat) : Int) ≤ 8))), [some (.p (.str x)), none]) :=
        chain_of evE_con (pr1_of v0 rfl (len_str hx)) evE_con rfl rfl
      have e1 : (decide ((1 : Int) ≤ (x.length : Nat)) && decide (((x.length : Nat) : Int) ≤ 8)) = (decide (1 ≤ x.length) && decide (x.length ≤ 8)) := by
        have h1 : ((1 : Int) ≤ (x.length : Nat)) ↔ 1 ≤ x.length := by omega
        have h2 : (((x.length : Nat) : Int) ≤ 8) ↔ x.length ≤ 8 := by omega
        rw [decide_eq_decide.mpr h1, decide_eq_decide.mpr h2]
      rw [e1] at a1
      have a2 := or_two a0 (not_of a1)
      have e2 : (!isStr (.str x)) = false := rfl
      rw [e2, Bool.false_or] at a2
      by_cases hb : (decide (1 ≤ x.length) && decide (x.length ≤ 8)) = true
      · rw [hb] at a2
        have c1 : evE C (.comp [1] (.nm 1) .vals [(.var 0)] [] (.pr .inn [(.var 1), (.con (.str "abcdefghijklmnopqrstuvwxyz"))])) [some (.p (.str x)), none] = .ok (.o (.lst (x.cps.toList.map fun c => .bl (inAZ c))), [some (.p (.str x)), none]) :=
          comp_vals (f := chr) (show 1 < 2 by decide) v0 (.inl rfl) str_iter rfl (fun c _ => ⟨_, pr2_of (δ1 := [some (.p (.str x)), some (.p (chr c))]) (δ2 := [some (.p (.str x)), some (.p (chr c))]) (evE_var rfl) evE_con rfl rfl (in_az c), .inl rfl⟩) (by rw [cps_len]; omega)
        have e3 : wordB (.str x) = (x.cps.toList.map inAZ).all id := by
          show ((decide (1 ≤ x.length) && decide (x.length ≤ 8)) && (x.cps.toList.map inAZ).all id) = _
          rw [hb, Bool.true_and]
        rw [e3]
        exact run_ret (r := .d (.bl _)) (δ' := [some (.p (.str x)), none]) rfl (ts_nx (ite_no a2 ts_nil) (ts_rt (by rw [evT, pr1_of c1 rfl (all_map inAZ _)]; rfl))) rfl
      · have hb := Bool.eq_false_iff.mpr hb
        rw [hb] at a2
        have e3 : wordB (.str x) = false := by
          show ((decide (1 ≤ x.length) && decide (x.length ≤ 8)) && (x.cps.toList.map inAZ).all id) = _
          rw [hb, Bool.false_and]
        rw [e3]
        exact run_ret (r := .d (.bl false)) (δ' := [some (.p (.str x)), none]) rfl (ts_rt (ite_yes a2 ret_false)) rfl
    | _ => cases hs
  · have hs := Bool.eq_false_iff.mpr hs
    rw [hs] at a0
    have e3 : wordB d = false := by cases d <;> first | rfl | cases hs
    rw [e3]
    exact run_ret (r := .d (.bl false)) (δ' := [some (.p d), none]) rfl (ts_rt (ite_yes (or_yes a0) ret_false)) rfl
/-! is_text -/
def okSign (c : Nat) : Bool := (decide ((" " : Str).cps.toList ≤ [c]) && decide ([c] ≤ ("$" : Str).cps.toList)) || (decide (("&" : Str).cps.toList ≤ [c]) && decide ([c] ≤ ("~" : Str).cps.toList))
def textB : D → Bool
  | .str x => (x.cps.toList.map okSign).all id
  | _ => false
def textF : Fn := ⟨2, [false], [.ite (.not (.pr (.isinst ["str"]) [(.var 0)])) [.ret (.con (.bl false))] [], .ret (.pr .all [(.comp [1] (.nm 1) .vals [(.var 0)] [] (.or [(.chain .le .le (.con (.str " ")) (.var 1) (.con (.str "$"))), (.chain .le .le (.con (.str "&")) (.var 1) (.con (.str "~")))]))])]⟩
theorem text_run (W : Nat) (C : Calls) (d : D) (hd : ∀ x, d = .str x → x.length ≤ 1000) : runFn W C textF [d] = .ok (.bl (textB d), false, []) := by
  have v0 : evE C (.var 0) [some (.p d), none] = .ok (.d d, [some (.p d), none]) := evE_var rfl
  have a0 := not_of (pr1_of v0 rfl (isi_str d))
  by_cases hs : isStr d = true
  · cases d with
    | str x =>
      have hx := hd x rfl
      have c1 : evE C (.comp [1] (.nm 1) .vals [(.var 0)] [] (.or [(.chain .le .le (.con (.str " ")) (.var 1) (.con (.str "$"))), (.chain .le .le (.con (.str "&")) (.var 1) (.con (.str "~")))])) [some (.p (.str x)), none] = .ok (.o (.lst (x.cps.toList.map fun c => .bl (okSign c))), [some (.p (.str x)), none]) := by
        refine comp_vals (f := chr) (show 1 < 2 by decide) v0 (.inl rfl) str_iter rfl (fun c _ => ⟨_, ?_, .inl rfl⟩) (by rw [cps_len]; omega)
        have v1 : evE C (.var 1) [some (.p (.str x)), some (.p (chr c))] = .ok (.d (chr c), [some (.p (.str x)), some (.p (chr c))]) := evE_var rfl
        exact or_two (chain_of evE_con v1 evE_con rfl rfl) (chain_of evE_con v1 evE_con rfl rfl)
      exact run_ret (r := .d (.bl _)) (δ' := [some (.p (.str x)), none]) rfl (ts_nx (ite_no a0 ts_nil) (ts_rt (by rw [evT, pr1_of c1 rfl (all_map okSign _)]; rfl))) rfl
    | _ => cases hs
  · have hs := Bool.eq_false_iff.mpr hs
    rw [hs] at a0
    have e3 : textB d = false := by cases d <;> first | rfl | cases hs
    rw [e3]
    exact run_ret (r := .d (.bl false)) (δ' := [some (.p d), none]) rfl (ts_rt (ite_yes a0 ret_false)) rfl
/-! are_signs -/
def pairsOf (l : List Nat) : List (Nat × Nat) := l.zip (l.drop 1)
def ltP (ab : Nat × Nat) : Bool := decide ([ab.1] < [ab.2])
def signsB : D → Bool
  | .str x => (textB (.str x) && !decide (x = "")) && ((pairsOf x.cps.toList).map ltP).all id
  | _ => false
def signsOkF (tx : Nat) : Fn := ⟨3, [false], [.ite (.or [(.not (.call tx [(.var 0)])), (.pr .eq [(.var 0), (.con (.str ""))])]) [.ret (.con (.bl false))] [], .ret (.pr .all [(.comp [1, 2] (.tup [1, 2]) .zip [(.var 0), (.pr (.sl true false) [(.var 0), (.con (.int 1))])] [] (.pr .lt [(.var 1), (.var 2)]))])]⟩
theorem zip_chr : ∀ xs ys : List Nat, zipD (xs.map chr) (ys.map chr) = (xs.zip ys).map fun ab => .tup [chr ab.1, chr ab.2]
  | [], _ => by simp [zipD]
  | _ :: _, [] => by simp [zipD]
  | x :: xs, y :: ys => by simp only [List.map_cons, zipD, List.zip_cons_cons, zip_chr xs ys]
theorem cut1 (x : Str) : (L2.cutS x (some 1) none).cps.toList = x.cps.toList.drop 1 := by
  have h := cps_len x
  unfold L2.cutS
  simp only [HT.sIx]
  have e : ((if (1 : Int) < 0 then ((1 : Int) + (x.length : Int)).toNat else min (1 : Int).toNat x.length)) = min 1 x.length := by
    rw [if_neg (by omega)]; rfl
  rw [e]
  by_cases hx : x.length = 0
  · have : x.cps.toList = [] := List.eq_nil_of_length_eq_zero (by omega)
    simp [this]
  · have : min 1 x.length = 1 := by omega
    rw [this]
    exact List.take_of_length_le (by rw [List.length_drop]; omega)
theorem pairs_loop {C : Calls} (s0 : Option S) : ∀ (xs : List (Nat × Nat)) (acc : List D) (s1 s2 : Option S), acc.length + xs.length ≤ 100000 →
    ∃ s1' s2', compLoop [1, 2] (.tup [1, 2]) (fun δ => evIfs C [] δ) (fun δ => evE C (.pr .lt [(.var 1), (.var 2)]) δ) (xs.map fun ab => .tup [chr ab.1, chr ab.2]) [s0, s1, s2] acc = .ok (acc ++ xs.map fun ab => .bl (ltP ab), [s0, s1', s2'])
  | [], acc, s1, s2, _ => ⟨s1, s2, by simp [compLoop]⟩
  | ab :: xs, acc, s1, s2, hl => by
    simp only [List.length_cons] at hl
    obtain ⟨t1, t2, e⟩ := pairs_loop (C := C) s0 xs (acc ++ [.bl (ltP ab)]) (some (.p (chr ab.1))) (some (.p (chr ab.2))) (by simp; omega)
    refine ⟨t1, t2, ?_⟩
    have ea : acc ++ (ab :: xs).map (fun ab => D.bl (ltP ab)) = acc ++ [.bl (ltP ab)] ++ xs.map fun ab => .bl (ltP ab) := by simp
    rw [ea, ← e]
    simp only [List.map_cons]
    conv => lhs; unfold compLoop
    have e1 : bindTg (wipeD [s0, s1, s2] [1, 2]) (.tup [1, 2]) (.tup [chr ab.1, chr ab.2]) = some [s0, some (.p (chr ab.1)), some (.p (chr ab.2))] := by rfl
    rw [e1]
    have e2 : evE C (.pr .lt [(.var 1), (.var 2)]) [s0, some (.p (chr ab.1)), some (.p (chr ab.2))] = .ok (.d (.bl (ltP ab)), [s0, some (.p (chr ab.1)), some (.p (chr ab.2))]) := pr2_of (w := .sc (.bl (ltP ab))) (d1 := chr ab.1) (d2 := chr ab.2) (r1 := .d (chr ab.1)) (r2 := .d (chr ab.2)) (evE_var rfl) (evE_var rfl) rfl rfl rfl
    simp only [evIfs, bind_ok, if_true, e2, escR]
    rw [if_pos (show acc.length < 1000000 by omega)]
theorem signsOk_run {W : Nat} {C : Calls} {tx : Nat} (hm : C.md tx = some [false]) (ht : ∀ d, (∀ x, d = .str x → x.length ≤ 1000) → C.run tx [d] = .ok (.bl (textB d), false, [])) (d : D) (hd : ∀ x, d = .str x → x.length ≤ 1000 ∧ PyData.strOk x = true) : runFn W C (signsOkF tx) [d] = .ok (.bl (signsB d), false, []) := by
  have v0 : evE C (.var 0) [some (.p d), none, none] = .ok (.d d, [some (.p d), none, none]) := evE_var rfl
  have a0 := not_of (call1 (o := false) hm v0 (ht d fun x h => (hd x h).1))
  by_cases hs : textB d = true
  · cases d with
    | str x =>
      obtain ⟨hx, hok⟩ := hd x rfl
      rw [hs] at a0
      have e0 : pev .eq [.str x, .str ""] = some (.sc (.bl (decide (x = "")))) := by
        have := pEq_str false hok (show PyData.strOk ("" : Str) = true by decide +kernel)
        exact this
      have a1 : evE C (.pr .eq [(.var 0), (.con (.str ""))]) [some (.p (.str x)), none, none] = .ok (.d (.bl (decide (x = ""))), [some (.p (.str x)), none, none]) := pr2_of v0 evE_con rfl rfl e0
      have a2 := or_no a0 (or_last a1)
      by_cases hb : x = ""
      · rw [decide_eq_true hb] at a2
        have e3 : signsB (.str x) = false := by
          show ((textB (.str x) && !decide (x = "")) && _) = false
          rw [decide_eq_true hb]; simp
        rw [e3]
        exact run_ret (r := .d (.bl false)) (δ' := [some (.p (.str x)), none, none]) rfl (ts_rt (ite_yes a2 ret_false)) rfl
      · rw [decide_eq_false hb] at a2
        have sl : evE C (.pr (.sl true false) [(.var 0), (.con (.int 1))]) [some (.p (.str x)), none, none] = .ok (.d (.str (L2.cutS x (some 1) none)), [some (.p (.str x)), none, none]) := by
          refine pr2_of v0 evE_con rfl rfl (w := .sc _) ?_
          simp only [pev, pSl]
          rw [if_pos (show x.length ≤ 1000000 by omega)]
        obtain ⟨t1, t2, e⟩ := pairs_loop (C := C) (some (.p (.str x))) (pairsOf x.cps.toList) [] none none (by
          have h1 := cps_len x
          have h2 : (pairsOf x.cps.toList).length ≤ x.cps.toList.length := by unfold pairsOf; rw [List.length_zip]; omega
          simp only [List.length_nil]; omega)
        have c1 : evE C (.comp [1, 2] (.tup [1, 2]) .zip [(.var 0), (.pr (.sl true false) [(.var 0), (.con (.int 1))])] [] (.pr .lt [(.var 1), (.var 2)])) [some (.p (.str x)), none, none] = .ok (.o (.lst ((pairsOf x.cps.toList).map fun ab => .bl (ltP ab))), [some (.p (.str x)), none, none]) := by
          rw [evE]
          have g1 : evL C [(.var 0), (.pr (.sl true false) [(.var 0), (.con (.int 1))])] [some (.p (.str x)), none, none] = .ok ([.d (.str x), .d (.str (L2.cutS x (some 1) none))], [some (.p (.str x)), none, none]) := by simp only [evL, v0, sl, bind_ok]
          have g2 : resL [some (.p (.str x)), none, none] [R.d (.str x), R.d (.str (L2.cutS x (some 1) none))] = some [.str x, .str (L2.cutS x (some 1) none)] := rfl
          have g3 : evI .zip [.str x, .str (L2.cutS x (some 1) none)] = some ((pairsOf x.cps.toList).map fun ab => .tup [chr ab.1, chr ab.2]) := by
            simp only [evI, cut1, zip_chr]; rfl
          have g4 : lockL [some (.p (.str x)), none, none] [R.d (.str x), R.d (.str (L2.cutS x (some 1) none))] = [some (.p (.str x)), none, none] := rfl
          rw [g1]
          simp only [bind_ok, g2, g3]
          rw [if_pos (by rfl), g4, e]
          rfl
        have e3 : signsB (.str x) = ((pairsOf x.cps.toList).map ltP).all id := by
          show ((textB (.str x) && !decide (x = "")) && _) = _
          rw [hs, decide_eq_false hb]; simp
        rw [e3]
        exact run_ret (r := .d (.bl _)) (δ' := [some (.p (.str x)), none, none]) rfl (ts_nx (ite_no a2 ts_nil) (ts_rt (by rw [evT, pr1_of c1 rfl (all_map ltP _)]; rfl))) rfl
    | _ => cases hs
  · have hs := Bool.eq_false_iff.mpr hs
    rw [hs] at a0
    have e3 : signsB d = false := by
      cases d with
      | str x =>
        show ((textB (.str x) && _) && _) = false
        rw [hs]; simp
      | _ => rfl
    rw [e3]
    exact run_ret (r := .d (.bl false)) (δ' := [some (.p d), none, none]) rfl (ts_rt (ite_yes (or_yes a0) ret_false)) rfl
end Ev
set_option maxHeartbeats 4000000
/-! GenS: is_formed, a plain account of it -/
namespace Ev
open PySem
def isW (w : D) (s : Str) : Bool := match w with
  | .str t => decide (t = s)
  | _ => false
def Wd (w : D) : Prop := ∃ y, toPy w = some y ∧ SeqAt.shaped y = true
theorem beq_str (a t : Str) : (a == t) = decide (t = a) := by
  by_cases h : a = t
  · subst h; rw [decide_eq_true rfl]; exact beq_self_eq_true a
  · rw [decide_eq_false fun e => h e.symm]; exact beq_eq_false_iff_ne.mpr h
theorem shaped_str {s : Str} (hs : PyData.strOk s = true) : SeqAt.shaped (.str s) = true := by
  show (PyData.strOk s && decide (0 ≤ 64)) = true; rw [hs]; rfl
theorem eqv_str {w : D} {y : PyData} (e : toPy w = some y) (s : Str) : PyData.eqv y (.str s) = isW w s ∧ PyData.eqv (.str s) y = isW w s := by
  cases w with
  | non => cases e; exact ⟨rfl, rfl⟩
  | bl b => cases e; exact ⟨rfl, rfl⟩
  | int i => cases e; exact ⟨rfl, rfl⟩
  | str t =>
    cases e
    refine ⟨?_, beq_str s t⟩
    show (t == s) = decide (t = s)
    rw [beq_str, decide_eq_decide.mpr eq_comm]
  | tup xs =>
    simp only [toPy] at e
    cases e2 : toPyL xs with
    | none => rw [e2] at e; cases e
    | some l => rw [e2] at e; cases e; exact ⟨rfl, rfl⟩
  | lst xs =>
    simp only [toPy] at e
    cases e2 : toPyL xs with
    | none => rw [e2] at e; cases e
    | some l => rw [e2] at e; cases e; exact ⟨rfl, rfl⟩
  | dct => simp only [toPy] at e; cases e
theorem eq_w {w : D} {s : Str} (h : Wd w) (hs : PyData.strOk s = true) (neg : Bool) : pEq neg w (.str s) = some (.sc (.bl (if neg then !isW w s else isW w s))) := by
  obtain ⟨y, e, sh⟩ := h
  have e2 : toPy (.str s) = some (.str s) := rfl
  unfold pEq
  rw [e, e2]
  show (if (SeqAt.shaped y && SeqAt.shaped (.str s)) = true then some (PR.sc (.bl (if neg then !y.eqv (.str s) else y.eqv (.str s)))) else none) = _
  rw [sh, shaped_str hs, (eqv_str e s).1]
  rfl
theorem eqw {w : D} (s : Str) (h : Wd w) (hs : PyData.strOk s = true) : pev .eq [w, .str s] = some (.sc (.bl (isW w s))) := eq_w h hs false
theorem neqw {w : D} (s : Str) (h : Wd w) (hs : PyData.strOk s = true) : pev .ne [w, .str s] = some (.sc (.bl (!isW w s))) := eq_w h hs true
theorem in_w {w : D} {a b : Str} (h : Wd w) (ha : PyData.strOk a = true) (hb : PyData.strOk b = true) : pev .inn [w, .tup [.str a, .str b]] = some (.sc (.bl (isW w a || isW w b))) := by
  obtain ⟨y, e, sh⟩ := h
  have hl : SeqAt.shaped (.list [.str a, .str b]) = true := by
    show ((PyData.strOk a && (PyData.strOk b && true)) && decide (_ ≤ 64)) = true
    rw [ha, hb]; rfl
  have key : w.scal = false → pev .inn [w, .tup [.str a, .str b]] = some (.sc (.bl (isW w a || isW w b))) := fun hs => by
    have h0 : pev .inn [w, .tup [.str a, .str b]] = match toPy w, toPyL [.str a, .str b] with
      | some d, some ds => if SeqAt.shaped d && SeqAt.shaped (.list ds) then some (PR.sc (.bl (if false then !(ds.any fun z => z.eqv d) else ds.any fun z => z.eqv d))) else none
      | _, _ => none := by
      cases w <;> first | rfl | cases hs
    rw [h0, e]
    show (if (SeqAt.shaped y && SeqAt.shaped (.list [.str a, .str b])) = true then some (PR.sc (.bl (PyData.eqv (.str a) y || (PyData.eqv (.str b) y || false)))) else none) = _
    rw [sh, hl, (eqv_str e a).2, (eqv_str e b).2, Bool.or_false]
    rfl
  cases w with
  | non => rfl
  | bl b => rfl
  | int i => rfl
  | str t =>
    show some (PR.sc (.bl ((a == t) || ((b == t) || false)))) = some (.sc (.bl (decide (t = a) || decide (t = b))))
    rw [beq_str, beq_str, Bool.or_false]
  | tup xs => exact key rfl
  | lst xs => exact key rfl
  | dct ks vs => simp only [toPy] at e; cases e
/-! what is_formed tells -/
def formAll (f : Int → D → Bool × Int) : Int → List D → List Bool × Int
  | r, [] => ([], r)
  | r, x :: xs => ((f r x).1 :: (formAll f (f r x).2 xs).1, (formAll f (f r x).2 xs).2)
def formS (f : Int → D → Bool × Int) (r : Int) : D → Bool × Int
  | .tup xs => if 2 ≤ xs.length ∧ xs.length ≤ 6 then ((formAll f r xs).1.all id, (formAll f r xs).2) else (false, r)
  | _ => (false, r)
mutual
def blkD : D → Bool
  | .tup xs => blkT xs
  | _ => false
def blkT : List D → Bool
  | [w] => isW w "blank"
  | [w, .tup ys] => if isW w "again" then true else if isW w "row" then allD ys else if isW w "pick" then anyD ys else false
  | [w, _, q] => if isW w "held" || isW w "price" then blkD q else false
  | _ => false
def allD : List D → Bool
  | [] => true
  | y :: ys => blkD y && allD ys
def anyD : List D → Bool
  | [] => false
  | y :: ys => blkD y || anyD ys
end
def in1000 : D → Bool
  | .int i => decide (0 ≤ i) && decide (i ≤ 1000)
  | _ => false
/-- behind the first checks: the word w, the rest xs, the room r left -/
def formW (f : Int → D → Bool × Int) (r : Int) (w : D) (xs : List D) : Bool × Int :=
  if isW w "none" || isW w "blank" then (decide (xs.length = 0), r)
  else if isW w "sign" then (match xs with | [x] => signsB x | _ => false, r)
  else if isW w "row" || isW w "pick" then (match xs with | [x] => formS f r x | _ => (false, r))
  else if isW w "again" then (match xs with | [x] => ((f r x).1 && !blkD x, (f r x).2) | _ => (false, r))
  else match xs with
    | [a, x] => if isW w "held" then (if wordB a then f r x else (false, r)) else if isW w "price" && wholeB a && in1000 a then f r x else (false, r)
    | _ => (false, r)
def form : Nat → Int → D → Bool × Int
  | 0, r, _ => (false, r - 1)
  | d + 1, r, thing => match thing with
    | .tup (w :: xs) => if r - 1 < 0 then (false, r - 1) else formW (form d) (r - 1) w xs
    | _ => (false, r - 1)
/-! are_formed -/
def fsF (fo : Nat) : Fn := ⟨4, [false, false, true], [.ite (.or [(.not (.pr (.isinst ["tuple"]) [(.var 0)])), (.not (.chain .le .le (.con (.int 2)) (.pr .len [(.var 0)]) (.con (.int 6))))]) [.ret (.con (.bl false))] [], .ret (.pr .all [(.comp [3] (.nm 3) .vals [(.var 0)] [] (.call fo [(.var 3), (.var 1), (.var 2)]))])]⟩
theorem formAll_len (f : Int → D → Bool × Int) : ∀ (r : Int) (xs : List D), (formAll f r xs).1.length = xs.length
  | r, [] => rfl
  | r, x :: xs => by simp only [formAll, List.length_cons, formAll_len f _ xs]
theorem fs_loop {C : Calls} {fo : Nat} (hm : C.md fo = some [false, false, true]) (deep : Int) (f : Int → D → Bool × Int) (s0 : Option S) : ∀ (xs : List D) (r : Int) (acc : List D) (s3 : Option S), (∀ x ∈ xs, ∀ r, C.run fo [x, .int deep, .lst [.int r]] = .ok (.bl (f r x).1, false, [.lst [.int (f r x).2]])) → acc.length + xs.length ≤ 1000 →
    ∃ s3', compLoop [3] (.nm 3) (fun δ => evIfs C [] δ) (fun δ => evE C (.call fo [(.var 3), (.var 1), (.var 2)]) δ) xs [s0, some (.p (.int deep)), some (.io false (.lst [.int r])), s3] acc
      = .ok (acc ++ (formAll f r xs).1.map .bl, [s0, some (.p (.int deep)), some (.io false (.lst [.int (formAll f r xs).2])), s3'])
  | [], r, acc, s3, _, _ => ⟨s3, by simp [compLoop, formAll]⟩
  | x :: xs, r, acc, s3, h, hl => by
    simp only [List.length_cons] at hl
    have hr := h x List.mem_cons_self r
    obtain ⟨s3', e2⟩ := fs_loop (C := C) hm deep f s0 xs (f r x).2 (acc ++ [.bl (f r x).1]) (some (.p x)) (fun y hy => h y (List.mem_cons_of_mem _ hy)) (by simp; omega)
    refine ⟨s3', ?_⟩
    have ea : acc ++ (formAll f r (x :: xs)).1.map D.bl = acc ++ [.bl (f r x).1] ++ (formAll f (f r x).2 xs).1.map .bl := by simp [formAll]
    have eb : (formAll f r (x :: xs)).2 = (formAll f (f r x).2 xs).2 := rfl
    rw [ea, eb, ← e2]
    have hcap : acc.length < 1000000 := by omega
    conv => lhs; unfold compLoop
    simp [runFn, evTs, evT, evE, evL, evAnd, evOr, evIfs, start0, resL, resR, S.val, pev, seqOf, L2.atI, dLt, PR.r, tstR, put, asgR, slotL, escR, escL, upS, setI, L2.ixN, finF, finR, iosOf, callR, loan, apart, okP, sameK, valIx, ioIx, putIos, frzL, isOwn, D.scal, D.flat, methD, bindTg, wipeD, canWipe, backV, backL, lockL, lockR, backR, S.lock, pIn, hm, hr, hcap]
theorem len_tup {xs : List D} : pev .len [.tup xs] = some (.sc (.int (xs.length : Nat))) := rfl
theorem fs_run {W : Nat} {C : Calls} {fo : Nat} (hm : C.md fo = some [false, false, true]) (deep : Int) (f : Int → D → Bool × Int) (r : Int) (things : D) (hf : ∀ xs, things = .tup xs → ∀ x ∈ xs, ∀ r, C.run fo [x, .int deep, .lst [.int r]] = .ok (.bl (f r x).1, false, [.lst [.int (f r x).2]])) :
    runFn W C (fsF fo) [things, .int deep, .lst [.int r]] = .ok (.bl (formS f r things).1, false, [.lst [.int (formS f r things).2]]) := by
  have v0 : evE C (.var 0) [some (.p things), some (.p (.int deep)), some (.io false (.lst [.int r])), none] = .ok (.d things, [some (.p things), some (.p (.int deep)), some (.io false (.lst [.int r])), none]) := evE_var rfl
  have a0 := not_of (pr1_of v0 rfl (isi_tup things))
  have no : (formS f r things) = (false, r) → evE C (.or [(.not (.pr (.isinst ["tuple"]) [(.var 0)])), (.not (.chain .le .le (.con (.int 2)) (.pr .len [(.var 0)]) (.con (.int 6))))]) [some (.p things), some (.p (.int deep)), some (.io false (.lst [.int r])), none] = .ok (.d (.bl true), [some (.p things), some (.p (.int deep)), some (.io false (.lst [.int r])), none]) →
      runFn W C (fsF fo) [things, .int deep, .lst [.int r]] = .ok (.bl (formS f r things).1, false, [.lst [.int (formS f r things).2]]) := fun e h => by
    rw [e]
    exact run_ret (r := .d (.bl false)) (δ' := [some (.p things), some (.p (.int deep)), some (.io false (.lst [.int r])), none]) rfl (ts_rt (ite_yes h ret_false)) rfl
  cases things with
  | tup xs =>
    have e0 : (!isTup (.tup xs)) = false := rfl
    rw [e0] at a0
    have a1 : evE C (.chain .le .le (.con (.int 2)) (.pr .len [(.var 0)]) (.con (.int 6))) [some (.p (.tup xs)), some (.p (.int deep)), some (.io false (.lst [.int r])), none] = .ok (.d (.bl (decide ((2 : Int) ≤ (xs.length : Nat)) && decide (((xs.length : Nat) : Int) ≤ 6))), [some (.p (.tup xs)), some (.p (.int deep)), some (.io false (.lst [.int r])), none]) :=
      chain_of evE_con (pr1_of v0 rfl len_tup) evE_con rfl rfl
    have a2 := or_two a0 (not_of a1)
    rw [Bool.false_or] at a2
    by_cases hb : 2 ≤ xs.length ∧ xs.length ≤ 6
    · have hb2 : (decide ((2 : Int) ≤ (xs.length : Nat)) && decide (((xs.length : Nat) : Int) ≤ 6)) = true := by
        simp only [Bool.and_eq_true, decide_eq_true_eq]; omega
      rw [hb2] at a2
      obtain ⟨s3', e⟩ := fs_loop (C := C) hm deep f (some (.p (.tup xs))) xs r [] none (hf xs rfl) (by simp only [List.length_nil]; omega)
      have c1 : evE C (.comp [3] (.nm 3) .vals [(.var 0)] [] (.call fo [(.var 3), (.var 1), (.var 2)])) [some (.p (.tup xs)), some (.p (.int deep)), some (.io false (.lst [.int r])), none] = .ok (.o (.lst ((formAll f r xs).1.map .bl)), [some (.p (.tup xs)), some (.p (.int deep)), some (.io false (.lst [.int (formAll f r xs).2])), none]) := by
        rw [evE]
        have g1 : evL C [(.var 0)] [some (.p (.tup xs)), some (.p (.int deep)), some (.io false (.lst [.int r])), none] = .ok ([.d (.tup xs)], [some (.p (.tup xs)), some (.p (.int deep)), some (.io false (.lst [.int r])), none]) := by simp only [evL, v0, bind_ok]
        have g2 : resL [some (.p (.tup xs)), some (.p (.int deep)), some (.io false (.lst [.int r])), none] [R.d (.tup xs)] = some [.tup xs] := rfl
        have g3 : evI .vals [.tup xs] = some xs := rfl
        have g4 : lockL [some (.p (.tup xs)), some (.p (.int deep)), some (.io false (.lst [.int r])), none] [R.d (.tup xs)] = [some (.p (.tup xs)), some (.p (.int deep)), some (.io false (.lst [.int r])), none] := rfl
        rw [g1]
        simp only [bind_ok, g2, g3]
        rw [if_pos (by rfl), g4, e]
        rfl
      have e3 : pev .all [.lst ((formAll f r xs).1.map .bl)] = some (.sc (.bl ((formAll f r xs).1.all id))) := by simp only [pev, boolsD_map]
      have e4 : formS f r (.tup xs) = ((formAll f r xs).1.all id, (formAll f r xs).2) := by
        show (if 2 ≤ xs.length ∧ xs.length ≤ 6 then _ else _) = _
        rw [if_pos hb]
      rw [e4]
      exact run_ret (r := .d (.bl _)) (δ' := [some (.p (.tup xs)), some (.p (.int deep)), some (.io false (.lst [.int (formAll f r xs).2])), none]) rfl (ts_nx (ite_no a2 ts_nil) (ts_rt (by rw [evT, pr1_of c1 rfl e3]; rfl))) rfl
    · have hb2 : (decide ((2 : Int) ≤ (xs.length : Nat)) && decide (((xs.length : Nat) : Int) ≤ 6)) = false := by
        refine Bool.eq_false_iff.mpr fun q => hb ?_
        simp only [Bool.and_eq_true, decide_eq_true_eq] at q; omega
      rw [hb2] at a2
      exact no (by
        show (if 2 ≤ xs.length ∧ xs.length ≤ 6 then _ else _) = _
        rw [if_neg hb]) a2
  | non => exact no rfl (or_yes a0)
  | bl b => exact no rfl (or_yes a0)
  | int i => exact no rfl (or_yes a0)
  | str x => exact no rfl (or_yes a0)
  | lst xs => exact no rfl (or_yes a0)
  | dct ks vs => exact no rfl (or_yes a0)
end Ev
set_option maxHeartbeats 4000000
/-! GenT: is_formed -/
namespace Ev
open PySem
def foF (wh wd sg bl fs fo : Nat) : Fn := ⟨4, [false, false, true], [.set 2 (.con (.int 0)) (.pr .sub [(.pr .idx [(.var 2), (.con (.int 0))]), (.con (.int 1))]), .ite (.or [(.pr .eq [(.var 1), (.con (.int 0))]), (.pr .lt [(.pr .idx [(.var 2), (.con (.int 0))]), (.con (.int 0))]), (.not (.pr (.isinst ["tuple"]) [(.var 0)])), (.pr .eq [(.pr .len [(.var 0)]), (.con (.int 0))])]) [.ret (.con (.bl false))] [], .asg (.nm 3) (.pr .idx [(.var 0), (.con (.int 0))]), .ite (.pr .inn [(.var 3), (.tup [(.con (.str "none")), (.con (.str "blank"))])]) [.ret (.pr .eq [(.pr .len [(.var 0)]), (.con (.int 1))])] [], .ite (.pr .eq [(.var 3), (.con (.str "sign"))]) [.ret (.and [(.pr .eq [(.pr .len [(.var 0)]), (.con (.int 2))]), (.call sg [(.pr .idx [(.var 0), (.con (.int 1))])])])] [], .ite (.pr .inn [(.var 3), (.tup [(.con (.str "row")), (.con (.str "pick"))])]) [.ret (.and [(.pr .eq [(.pr .len [(.var 0)]), (.con (.int 2))]), (.call fs [(.pr .idx [(.var 0), (.con (.int 1))]), (.pr .sub [(.var 1), (.con (.int 1))]), (.var 2)])])] [], .ite (.pr .eq [(.var 3), (.con (.str "again"))]) [.ret (.and [(.pr .eq [(.pr .len [(.var 0)]), (.con (.int 2))]), (.call fo [(.pr .idx [(.var 0), (.con (.int 1))]), (.pr .sub [(.var 1), (.con (.int 1))]), (.var 2)]), (.not (.call bl [(.pr .idx [(.var 0), (.con (.int 1))])]))])] [], .ite (.pr .ne [(.pr .len [(.var 0)]), (.con (.int 3))]) [.ret (.con (.bl false))] [], .ite (.pr .eq [(.var 3), (.con (.str "held"))]) [.ret (.and [(.call wd [(.pr .idx [(.var 0), (.con (.int 1))])]), (.call fo [(.pr .idx [(.var 0), (.con (.int 2))]), (.pr .sub [(.var 1), (.con (.int 1))]), (.var 2)])])] [], .ite (.or [(.pr .ne [(.var 3), (.con (.str "price"))]), (.not (.call wh [(.pr .idx [(.var 0), (.con (.int 1))])])), (.not (.chain .le .le (.con (.int 0)) (.pr .idx [(.var 0), (.con (.int 1))]) (.con (.int 1000))))]) [.ret (.con (.bl false))] [], .ret (.call fo [(.pr .idx [(.var 0), (.con (.int 2))]), (.pr .sub [(.var 1), (.con (.int 1))]), (.var 2)])]⟩
theorem call_io2 {C : Calls} {f i : Nat} {a b : E} {δ : DEnv} {x y v dr dr' : D} (hm : C.md f = some [false, false, true]) (ha : evE C a δ = .ok (.d x, δ)) (hb : evE C b δ = .ok (.d y, δ)) (hi : δ[i]? = some (some (.io false dr))) (hr : C.run f [x, y, dr] = .ok (v, false, [dr'])) :
    evE C (.call f [a, b, .var i]) δ = .ok (.d v, δ.set i (some (.io false dr'))) := by
  have hv : evE C (.var i) δ = .ok (.h i, δ) := by rw [evE, hi]
  have g1 : evL C [a, b, .var i] δ = .ok ([.d x, .d y, .h i], δ) := by simp only [evL, ha, hb, hv, bind_ok]
  rw [evE, g1]
  simp [callR, hm, resL, resR, hi, S.val, loan, apart, okP, sameK, hr, valIx, putIos]
abbrev fst (w : D) (xs : List D) (d : Nat) (r : Int) : DEnv := [some (.p (.tup (w :: xs))), some (.p (.int ((d + 1 : Nat) : Int))), some (.io false (.lst [.int r])), some (.p w)]
section
variable {W : Nat} {C : Calls} {wh wd sg bl fs fo : Nat}
structure FoOk (C : Calls) (wh wd sg bl fs fo : Nat) (d : Nat) : Prop where
  mwh : C.md wh = some [false]
  mwd : C.md wd = some [false]
  msg : C.md sg = some [false]
  mbl : C.md bl = some [false]
  mfs : C.md fs = some [false, false, true]
  mfo : C.md fo = some [false, false, true]
  rwh : ∀ a, C.run wh [a] = .ok (.bl (wholeB a), false, [])
  rwd : ∀ a : D, (∀ x, a = .str x → x.length ≤ 1000) → C.run wd [a] = .ok (.bl (wordB a), false, [])
  rsg : ∀ a : D, (∀ x, a = .str x → x.length ≤ 1000 ∧ PyData.strOk x = true) → C.run sg [a] = .ok (.bl (signsB a), false, [])
theorem len_is {xs : List D} (w : D) (d : Nat) (r : Int) (k : Nat) : evE C (.pr .eq [(.pr .len [(.var 0)]), (.con (.int (k : Nat)))]) (fst w xs d r) = .ok (.d (.bl (decide (xs.length + 1 = k))), fst w xs d r) := by
  have e : pev .eq [.int ((w :: xs).length : Nat), .int (k : Nat)] = some (.sc (.bl (decide (xs.length + 1 = k)))) := by
    have h : (((w :: xs).length : Nat) : Int) = (k : Nat) ↔ xs.length + 1 = k := by simp only [List.length_cons]; omega
    have := pEq_int false ((w :: xs).length : Nat) (k : Nat)
    rw [decide_eq_decide.mpr h] at this
    exact this
  exact pr2_of (pr1_of (evE_var rfl) rfl len_tup) evE_con rfl rfl e
theorem len_isnt {xs : List D} (w : D) (d : Nat) (r : Int) (k : Nat) : evE C (.pr .ne [(.pr .len [(.var 0)]), (.con (.int (k : Nat)))]) (fst w xs d r) = .ok (.d (.bl (!decide (xs.length + 1 = k))), fst w xs d r) := by
  have e : pev .ne [.int ((w :: xs).length : Nat), .int (k : Nat)] = some (.sc (.bl (!decide (xs.length + 1 = k)))) := by
    have h : (((w :: xs).length : Nat) : Int) = (k : Nat) ↔ xs.length + 1 = k := by simp only [List.length_cons]; omega
    have := pEq_int true ((w :: xs).length : Nat) (k : Nat)
    rw [decide_eq_decide.mpr h] at this
    exact this
  exact pr2_of (pr1_of (evE_var rfl) rfl len_tup) evE_con rfl rfl e
theorem sub1 {w : D} {xs : List D} (d : Nat) (r : Int) : evE C (.pr .sub [(.var 1), (.con (.int 1))]) (fst w xs d r) = .ok (.d (.int (d : Nat)), fst w xs d r) := by
  have e : pev .sub [.int ((d + 1 : Nat) : Int), .int 1] = some (.sc (.int (d : Nat))) := by
    have : ((d + 1 : Nat) : Int) - 1 = (d : Nat) := by omega
    show some (PR.sc (.int (((d + 1 : Nat) : Int) - 1))) = _
    rw [this]
  exact pr2_of (evE_var rfl) evE_con rfl rfl e
theorem fidx1 {w x : D} (d : Nat) (r : Int) : evE C (.pr .idx [(.var 0), (.con (.int 1))]) (fst w [x] d r) = .ok (.d x, fst w [x] d r) :=
  pr2_of (p := .idx) (w := .sc x) (d1 := .tup [w, x]) (d2 := .int 1) (r1 := .d (.tup [w, x])) (r2 := .d (.int 1)) (evE_var rfl) evE_con rfl rfl rfl
theorem fidx1' {w a x : D} (d : Nat) (r : Int) : evE C (.pr .idx [(.var 0), (.con (.int 1))]) (fst w [a, x] d r) = .ok (.d a, fst w [a, x] d r) :=
  pr2_of (p := .idx) (w := .sc a) (d1 := .tup [w, a, x]) (d2 := .int 1) (r1 := .d (.tup [w, a, x])) (r2 := .d (.int 1)) (evE_var rfl) evE_con rfl rfl rfl
theorem fidx2 {w a x : D} (d : Nat) (r : Int) : evE C (.pr .idx [(.var 0), (.con (.int 2))]) (fst w [a, x] d r) = .ok (.d x, fst w [a, x] d r) :=
  pr2_of (p := .idx) (w := .sc x) (d1 := .tup [w, a, x]) (d2 := .int 2) (r1 := .d (.tup [w, a, x])) (r2 := .d (.int 2)) (evE_var rfl) evE_con rfl rfl rfl
/-- behind the first checks -/
abbrev foT (wh wd sg bl fs fo : Nat) : List T := [.ite (.pr .inn [(.var 3), (.tup [(.con (.str "none")), (.con (.str "blank"))])]) [.ret (.pr .eq [(.pr .len [(.var 0)]), (.con (.int 1))])] [], .ite (.pr .eq [(.var 3), (.con (.str "sign"))]) [.ret (.and [(.pr .eq [(.pr .len [(.var 0)]), (.con (.int 2))]), (.call sg [(.pr .idx [(.var 0), (.con (.int 1))])])])] [], .ite (.pr .inn [(.var 3), (.tup [(.con (.str "row")), (.con (.str "pick"))])]) [.ret (.and [(.pr .eq [(.pr .len [(.var 0)]), (.con (.int 2))]), (.call fs [(.pr .idx [(.var 0), (.con (.int 1))]), (.pr .sub [(.var 1), (.con (.int 1))]), (.var 2)])])] [], .ite (.pr .eq [(.var 3), (.con (.str "again"))]) [.ret (.and [(.pr .eq [(.pr .len [(.var 0)]), (.con (.int 2))]), (.call fo [(.pr .idx [(.var 0), (.con (.int 1))]), (.pr .sub [(.var 1), (.con (.int 1))]), (.var 2)]), (.not (.call bl [(.pr .idx [(.var 0), (.con (.int 1))])]))])] [], .ite (.pr .ne [(.pr .len [(.var 0)]), (.con (.int 3))]) [.ret (.con (.bl false))] [], .ite (.pr .eq [(.var 3), (.con (.str "held"))]) [.ret (.and [(.call wd [(.pr .idx [(.var 0), (.con (.int 1))])]), (.call fo [(.pr .idx [(.var 0), (.con (.int 2))]), (.pr .sub [(.var 1), (.con (.int 1))]), (.var 2)])])] [], .ite (.or [(.pr .ne [(.var 3), (.con (.str "price"))]), (.not (.call wh [(.pr .idx [(.var 0), (.con (.int 1))])])), (.not (.chain .le .le (.con (.int 0)) (.pr .idx [(.var 0), (.con (.int 1))]) (.con (.int 1000))))]) [.ret (.con (.bl false))] [], .ret (.call fo [(.pr .idx [(.var 0), (.con (.int 2))]), (.pr .sub [(.var 1), (.con (.int 1))]), (.var 2)])]
theorem tup2 {δ : DEnv} (a b : Str) : evE C (.tup [(.con (.str a)), (.con (.str b))]) δ = .ok (.d (.tup [.str a, .str b]), δ) := tup_con [a, b]
theorem foT_run {d : Nat} (F : FoOk C wh wd sg bl fs fo d) (f : Int → D → Bool × Int) (w : D) (xs : List D) (r : Int) (hw : Wd w) (hx : ∀ x ∈ xs, Wd x ∧ ∀ s, x = .str s → s.length ≤ 1000)
    (hfo : ∀ x ∈ xs, ∀ r, C.run fo [x, .int (d : Nat), .lst [.int r]] = .ok (.bl (f r x).1, false, [.lst [.int (f r x).2]]))
    (hfs : ∀ x ∈ xs, ∀ r, C.run fs [x, .int (d : Nat), .lst [.int r]] = .ok (.bl (formS f r x).1, false, [.lst [.int (formS f r x).2]]))
    (hbl : ∀ x ∈ xs, (f r x).1 = true → C.run bl [x] = .ok (.bl (blkD x), false, [])) :
    evTs W C (foT wh wd sg bl fs fo) (fst w xs d r) = .ok (.rt (.d (.bl (formW f r w xs).1)), fst w xs d (formW f r w xs).2) := by
  obtain ⟨mwh, mwd, msg, mbl, mfs, mfo, rwh, rwd, rsg⟩ := F
  have v3 : evE C (.var 3) (fst w xs d r) = .ok (.d w, fst w xs d r) := evE_var rfl
  have v0 : evE C (.var 0) (fst w xs d r) = .ok (.d (.tup (w :: xs)), fst w xs d r) := evE_var rfl
  have c1 : evE C (.pr .inn [(.var 3), (.tup [(.con (.str "none")), (.con (.str "blank"))])]) (fst w xs d r) = .ok (.d (.bl (isW w "none" || isW w "blank")), fst w xs d r) := pr2_of v3 (tup2 _ _) rfl rfl (in_w hw (by decide +kernel) (by decide +kernel))
  have c2 : evE C (.pr .eq [(.var 3), (.con (.str "sign"))]) (fst w xs d r) = .ok (.d (.bl (isW w "sign")), fst w xs d r) := pr2_of v3 evE_con rfl rfl (eqw "sign" hw (by decide +kernel))
  have c3 : evE C (.pr .inn [(.var 3), (.tup [(.con (.str "row")), (.con (.str "pick"))])]) (fst w xs d r) = .ok (.d (.bl (isW w "row" || isW w "pick")), fst w xs d r) := pr2_of v3 (tup2 _ _) rfl rfl (in_w hw (by decide +kernel) (by decide +kernel))
  have c4 : evE C (.pr .eq [(.var 3), (.con (.str "again"))]) (fst w xs d r) = .ok (.d (.bl (isW w "again")), fst w xs d r) := pr2_of v3 evE_con rfl rfl (eqw "again" hw (by decide +kernel))
  have c6 : evE C (.pr .eq [(.var 3), (.con (.str "held"))]) (fst w xs d r) = .ok (.d (.bl (isW w "held")), fst w xs d r) := pr2_of v3 evE_con rfl rfl (eqw "held" hw (by decide +kernel))
  have c7 : evE C (.pr .ne [(.var 3), (.con (.str "price"))]) (fst w xs d r) = .ok (.d (.bl (!isW w "price")), fst w xs d r) := pr2_of v3 evE_con rfl rfl (neqw "price" hw (by decide +kernel))
  have l1 := len_is (C := C) (xs := xs) w d r 1
  have l2 := len_is (C := C) (xs := xs) w d r 2
  have l3 := len_isnt (C := C) (xs := xs) w d r 3
  unfold formW
  cases h1 : (isW w "none" || isW w "blank") with
  | true =>
    rw [h1] at c1
    have e : decide (xs.length + 1 = 1) = decide (xs.length = 0) := decide_eq_decide.mpr (by omega)
    rw [e] at l1
    exact ts_rt (ite_yes c1 (ts_rt (by rw [evT]; rw [show evE C (.pr .eq [(.pr .len [(.var 0)]), (.con (.int 1))]) (fst w xs d r) = _ from l1]; rfl)))
  | false =>
  rw [h1] at c1
  refine ts_nx (ite_no c1 ts_nil) ?_
  rw [if_neg Bool.false_ne_true]
  cases h2 : isW w "sign" with
  | true =>
    rw [h2] at c2
    rw [if_pos rfl]
    refine ts_rt (ite_yes c2 (ts_rt ?_))
    have go : ∀ b, evE C (.and [(.pr .eq [(.pr .len [(.var 0)]), (.con (.int 2))]), (.call sg [(.pr .idx [(.var 0), (.con (.int 1))])])]) (fst w xs d r) = .ok (.d (.bl b), fst w xs d r) → evT W C (.ret (.and [(.pr .eq [(.pr .len [(.var 0)]), (.con (.int 2))]), (.call sg [(.pr .idx [(.var 0), (.con (.int 1))])])])) (fst w xs d r) = .ok (.rt (.d (.bl b)), fst w xs d r) := fun b h => by rw [evT, h]; rfl
    match xs, hx, l2 with
    | [], _, l2 => exact go _ (and_no l2)
    | [x], hx, l2 =>
      obtain ⟨⟨y, hy, hs⟩, hx2⟩ := hx x List.mem_cons_self
      exact go _ (and_yes l2 (and_last (call1 (o := false) msg (fidx1 d r) (rsg x fun s e => ⟨hx2 s e, by subst e; cases hy; have := hs; simp only [SeqAt.shaped, Bool.and_eq_true] at this; exact this.1⟩))))
    | x :: y :: zs, _, l2 =>
      have e : decide ((x :: y :: zs).length + 1 = 2) = false := decide_eq_false (by simp only [List.length_cons]; omega)
      rw [e] at l2
      exact go _ (and_no l2)
  | false =>
  rw [h2] at c2
  refine ts_nx (ite_no c2 ts_nil) ?_
  rw [if_neg Bool.false_ne_true]
  cases h3 : (isW w "row" || isW w "pick") with
  | true =>
    rw [h3] at c3
    rw [if_pos rfl]
    refine ts_rt (ite_yes c3 (ts_rt ?_))
    have go : ∀ b r', evE C (.and [(.pr .eq [(.pr .len [(.var 0)]), (.con (.int 2))]), (.call fs [(.pr .idx [(.var 0), (.con (.int 1))]), (.pr .sub [(.var 1), (.con (.int 1))]), (.var 2)])]) (fst w xs d r) = .ok (.d (.bl b), fst w xs d r') → evT W C (.ret (.and [(.pr .eq [(.pr .len [(.var 0)]), (.con (.int 2))]), (.call fs [(.pr .idx [(.var 0), (.con (.int 1))]), (.pr .sub [(.var 1), (.con (.int 1))]), (.var 2)])])) (fst w xs d r) = .ok (.rt (.d (.bl b)), fst w xs d r') := fun b r' h => by rw [evT, h]; rfl
    match xs, hfs, l2 with
    | [], _, l2 => exact go _ _ (and_no l2)
    | [x], hfs, l2 => exact go _ _ (and_yes l2 (and_last (call_io2 mfs (fidx1 d r) (sub1 d r) rfl (hfs x List.mem_cons_self r))))
    | x :: y :: zs, _, l2 =>
      have e : decide ((x :: y :: zs).length + 1 = 2) = false := decide_eq_false (by simp only [List.length_cons]; omega)
      rw [e] at l2
      exact go _ _ (and_no l2)
  | false =>
  rw [h3] at c3
  refine ts_nx (ite_no c3 ts_nil) ?_
  rw [if_neg Bool.false_ne_true]
  cases h4 : isW w "again" with
  | true =>
    rw [h4] at c4
    rw [if_pos rfl]
    refine ts_rt (ite_yes c4 (ts_rt ?_))
    have go : ∀ b r', evE C (.and [(.pr .eq [(.pr .len [(.var 0)]), (.con (.int 2))]), (.call fo [(.pr .idx [(.var 0), (.con (.int 1))]), (.pr .sub [(.var 1), (.con (.int 1))]), (.var 2)]), (.not (.call bl [(.pr .idx [(.var 0), (.con (.int 1))])]))]) (fst w xs d r) = .ok (.d (.bl b), fst w xs d r') → evT W C (.ret (.and [(.pr .eq [(.pr .len [(.var 0)]), (.con (.int 2))]), (.call fo [(.pr .idx [(.var 0), (.con (.int 1))]), (.pr .sub [(.var 1), (.con (.int 1))]), (.var 2)]), (.not (.call bl [(.pr .idx [(.var 0), (.con (.int 1))])]))])) (fst w xs d r) = .ok (.rt (.d (.bl b)), fst w xs d r') := fun b r' h => by rw [evT, h]; rfl
    match xs, hfo, hbl, l2 with
    | [], _, _, l2 => exact go _ _ (and_no l2)
    | [x], hfo, hbl, l2 =>
      have e1 := call_io2 (i := 2) (δ := fst w [x] d r) mfo (fidx1 d r) (sub1 d r) rfl (hfo x List.mem_cons_self r)
      show evT W C _ _ = .ok (.rt (.d (.bl ((f r x).1 && !blkD x))), fst w [x] d (f r x).2)
      cases hb : (f r x).1 with
      | false =>
        rw [hb] at e1
        rw [Bool.false_and]
        exact go _ _ (and_yes l2 (and_no' e1))
      | true =>
        rw [hb] at e1
        rw [Bool.true_and]
        exact go _ _ (and_yes l2 (and_yes' e1 (and_last (not_of (call1 (o := false) (δ1 := fst w [x] d (f r x).2) mbl (fidx1 d _) (hbl x List.mem_cons_self hb))))))
    | x :: y :: zs, _, _, l2 =>
      have e : decide ((x :: y :: zs).length + 1 = 2) = false := decide_eq_false (by simp only [List.length_cons]; omega)
      rw [e] at l2
      exact go _ _ (and_no l2)
  | false =>
  rw [h4] at c4
  refine ts_nx (ite_no c4 ts_nil) ?_
  rw [if_neg Bool.false_ne_true]
  match xs, hx, hfo, l3 with
  | [], _, _, l3 => exact ts_rt (ite_yes l3 ret_false)
  | [x], _, _, l3 => exact ts_rt (ite_yes l3 ret_false)
  | x :: y :: z :: zs, _, _, l3 =>
    have e : decide ((x :: y :: z :: zs).length + 1 = 3) = false := decide_eq_false (by simp only [List.length_cons]; omega)
    rw [e] at l3
    exact ts_rt (ite_yes l3 ret_false)
  | [a, x], hx, hfo, l3 =>
    refine ts_nx (ite_no l3 ts_nil) ?_
    show evTs W C _ _ = Res.ok (Fl.rt (R.d (D.bl (if isW w "held" then (if wordB a then f r x else (false, r)) else if isW w "price" && wholeB a && in1000 a then f r x else (false, r)).1)), fst w [a, x] d (if isW w "held" then (if wordB a then f r x else (false, r)) else if isW w "price" && wholeB a && in1000 a then f r x else (false, r)).2)
    have ia : evE C (.pr .idx [(.var 0), (.con (.int 1))]) (fst w [a, x] d r) = .ok (.d a, fst w [a, x] d r) := fidx1' d r
    have ix : evE C (.pr .idx [(.var 0), (.con (.int 2))]) (fst w [a, x] d r) = .ok (.d x, fst w [a, x] d r) := fidx2 d r
    have e1 := call_io2 (i := 2) (δ := fst w [a, x] d r) mfo ix (sub1 d r) rfl (hfo x (by simp) r)
    have ha := hx a List.mem_cons_self
    cases h6 : isW w "held" with
    | true =>
      rw [h6] at c6
      refine ts_rt (ite_yes c6 (ts_rt ?_))
      have cw := call1 (o := false) mwd ia (rwd a ha.2)
      cases hb : wordB a with
      | true =>
        rw [hb] at cw
        show evT W C _ _ = .ok (.rt (.d (.bl (f r x).1)), fst w [a, x] d (f r x).2)
        rw [evT, and_yes cw (and_last e1)]; rfl
      | false =>
        rw [hb] at cw
        show evT W C _ _ = .ok (.rt (.d (.bl false)), fst w [a, x] d r)
        rw [evT, and_no cw]; rfl
    | false =>
    rw [h6] at c6
    refine ts_nx (ite_no c6 ts_nil) ?_
    have cw := not_of (call1 (o := false) mwh ia (rwh a))
    have last : evT W C (.ret (.call fo [(.pr .idx [(.var 0), (.con (.int 2))]), (.pr .sub [(.var 1), (.con (.int 1))]), (.var 2)])) (fst w [a, x] d r) = .ok (.rt (.d (.bl (f r x).1)), fst w [a, x] d (f r x).2) := by
      rw [evT, e1]; rfl
    show evTs W C _ _ = .ok (.rt (.d (.bl (if isW w "price" && wholeB a && in1000 a then f r x else (false, r)).1)), fst w [a, x] d (if isW w "price" && wholeB a && in1000 a then f r x else (false, r)).2)
    cases h7 : isW w "price" with
    | false =>
      rw [h7] at c7
      rw [Bool.false_and, Bool.false_and, if_neg Bool.false_ne_true]
      exact ts_rt (ite_yes (or_yes c7) ret_false)
    | true =>
    rw [h7] at c7
    cases h8 : wholeB a with
    | false =>
      rw [h8] at cw
      rw [Bool.and_false, Bool.false_and, if_neg Bool.false_ne_true]
      exact ts_rt (ite_yes (or_no c7 (or_yes' cw)) ret_false)
    | true =>
    rw [h8] at cw
    cases a with
    | int i =>
      have ch : evE C (.chain .le .le (.con (.int 0)) (.pr .idx [(.var 0), (.con (.int 1))]) (.con (.int 1000))) (fst w [.int i, x] d r) = .ok (.d (.bl (decide (0 ≤ i) && decide (i ≤ 1000))), fst w [.int i, x] d r) := chain_of evE_con ia evE_con rfl rfl
      have c9 := or_no c7 (or_no' cw (or_last (not_of ch)))
      have e9 : in1000 (.int i) = (decide (0 ≤ i) && decide (i ≤ 1000)) := rfl
      cases h9 : in1000 (.int i) with
      | false =>
        rw [← e9, h9] at c9
        rw [Bool.and_false, if_neg Bool.false_ne_true]
        exact ts_rt (ite_yes c9 ret_false)
      | true =>
        rw [← e9, h9] at c9
        exact ts_nx (ite_no c9 ts_nil) (ts_rt last)
    | _ => cases h8
end
end Ev
set_option maxHeartbeats 4000000
/-! GenU: is_formed on patterns -/
namespace Ev
open PySem
theorem isW_eq {w : D} {s : Str} (h : isW w s = true) : w = .str s := by
  cases w with
  | str t => rw [of_decide_eq_true h]
  | _ => cases h
theorem w_ag : isW (.str "row") "again" = false ∧ isW (.str "pick") "again" = false ∧ isW (.str "pick") "row" = false ∧ isW (.str "none") "blank" = false ∧ isW (.str "blank") "blank" = true ∧ isW (.str "again") "again" = true ∧ isW (.str "row") "row" = true ∧ isW (.str "pick") "pick" = true ∧ isW (.str "held") "held" = true ∧ isW (.str "price") "held" = false ∧ isW (.str "price") "price" = true := by decide +kernel
theorem enc_tup (p : Pat) : ∃ ys, enc p = .tup ys := by cases p <;> exact ⟨_, rfl⟩
mutual
theorem blkD_enc : ∀ p : Pat, blkD (enc p) = p.blk
  | .none => by simp only [enc, blkD, blkT, w_ag.2.2.2.1, Pat.blk]
  | .blank => by simp only [enc, blkD, blkT, w_ag.2.2.2.2.1, Pat.blk]
  | .sign x => rfl
  | .row ps => by
    have h := allD_enc ps
    show (if isW (.str "row") "again" then true else if isW (.str "row") "row" then allD (encL ps) else if isW (.str "row") "pick" then anyD (encL ps) else false) = allBlk ps
    rw [w_ag.1, w_ag.2.2.2.2.2.2.1, h]; rfl
  | .pick ps => by
    have h := anyD_enc ps
    show (if isW (.str "pick") "again" then true else if isW (.str "pick") "row" then allD (encL ps) else if isW (.str "pick") "pick" then anyD (encL ps) else false) = anyBlk ps
    rw [w_ag.2.1, w_ag.2.2.1, w_ag.2.2.2.2.2.2.2.1, h]; rfl
  | .again p => by
    obtain ⟨ys, e⟩ := enc_tup p
    show blkT [.str "again", enc p] = true
    rw [e]
    show (if isW (.str "again") "again" then true else if isW (.str "again") "row" then allD ys else if isW (.str "again") "pick" then anyD ys else false) = true
    rw [w_ag.2.2.2.2.2.1]; rfl
  | .held x p => by
    have h := blkD_enc p
    show (if isW (.str "held") "held" || isW (.str "held") "price" then blkD (enc p) else false) = p.blk
    rw [w_ag.2.2.2.2.2.2.2.2.1, h]; rfl
  | .price n p => by
    have h := blkD_enc p
    show (if isW (.str "price") "held" || isW (.str "price") "price" then blkD (enc p) else false) = p.blk
    rw [w_ag.2.2.2.2.2.2.2.2.2.1, w_ag.2.2.2.2.2.2.2.2.2.2, h]; rfl
theorem allD_enc : ∀ ps : List Pat, allD (encL ps) = allBlk ps
  | [] => rfl
  | p :: ps => by simp only [encL, allD, allBlk, blkD_enc p, allD_enc ps]
theorem anyD_enc : ∀ ps : List Pat, anyD (encL ps) = anyBlk ps
  | [] => rfl
  | p :: ps => by simp only [encL, anyD, anyBlk, blkD_enc p, anyD_enc ps]
end
theorem all_true (f : Int → D → Bool × Int) {d : Nat} (hf : ∀ r x, (f r x).1 = true → ∃ p : Pat, x = enc p ∧ (p.dep ≤ d ∧ p.slim) ∧ (p.size : Int) + (f r x).2 = r ∧ 0 ≤ (f r x).2) : ∀ (ys : List D) (r : Int), 0 ≤ r → (formAll f r ys).1.all id = true → ∃ ps : List Pat, ys = encL ps ∧ (depL ps ≤ d ∧ slimL ps) ∧ (sizeL ps : Int) + (formAll f r ys).2 = r ∧ 0 ≤ (formAll f r ys).2
  | [], r, h0, _ => ⟨[], rfl, ⟨Nat.zero_le _, trivial⟩, by simp [sizeL, formAll], h0⟩
  | y :: ys, r, h0, h => by
    simp only [formAll, List.all_cons, Bool.and_eq_true, id] at h
    obtain ⟨p, rfl, h1, h2, h3⟩ := hf r y h.1
    obtain ⟨ps, rfl, h4, h5, h6⟩ := all_true f hf ys (f r (enc p)).2 h3 h.2
    exact ⟨p :: ps, rfl, ⟨by simp only [depL]; omega, h1.2, h4.2⟩, by simp only [sizeL, formAll]; omega, h6⟩
theorem formS_true (f : Int → D → Bool × Int) {d : Nat} (hf : ∀ r x, (f r x).1 = true → ∃ p : Pat, x = enc p ∧ (p.dep ≤ d ∧ p.slim) ∧ (p.size : Int) + (f r x).2 = r ∧ 0 ≤ (f r x).2) (r : Int) (x : D) (h0 : 0 ≤ r) (h : (formS f r x).1 = true) : ∃ ps : List Pat, x = .tup (encL ps) ∧ (depL ps ≤ d ∧ ps.length ≤ 1000 ∧ slimL ps) ∧ (sizeL ps : Int) + (formS f r x).2 = r ∧ 0 ≤ (formS f r x).2 := by
  cases x with
  | tup ys =>
    have e : formS f r (.tup ys) = if 2 ≤ ys.length ∧ ys.length ≤ 6 then ((formAll f r ys).1.all id, (formAll f r ys).2) else (false, r) := rfl
    rw [e] at h ⊢
    split at h
    · rename_i hb
      rw [if_pos hb]
      obtain ⟨ps, rfl, h1, h2, h3⟩ := all_true f hf ys r h0 h
      have hl : (encL ps).length = ps.length := by rw [encL_map, List.length_map]
      exact ⟨ps, rfl, ⟨h1.1, by omega, h1.2⟩, h2, h3⟩
    · cases h
  | _ => cases h
theorem form_true : ∀ (d : Nat) (r : Int) (x : D), (form d r x).1 = true → ∃ p : Pat, x = enc p ∧ (p.dep ≤ d ∧ p.slim) ∧ (p.size : Int) + (form d r x).2 = r ∧ 0 ≤ (form d r x).2
  | 0, r, x, h => by cases h
  | d + 1, r, x, h => by
    match x, h with
    | .tup (w :: xs), h =>
      have e : form (d + 1) r (.tup (w :: xs)) = if r - 1 < 0 then (false, r - 1) else formW (form d) (r - 1) w xs := rfl
      rw [e] at h ⊢
      split at h
      · cases h
      · rename_i hr
        rw [if_neg hr]
        have ih := form_true d
        unfold formW at h ⊢
        cases h1 : (isW w "none" || isW w "blank") with
        | true =>
          rw [h1] at h
          have h : decide (xs.length = 0) = true := h
          have hx : xs = [] := List.eq_nil_of_length_eq_zero (of_decide_eq_true h)
          subst hx
          rcases Bool.or_eq_true_iff.mp h1 with q | q
          · obtain rfl := isW_eq q
            exact ⟨.none, rfl, ⟨by simp only [Pat.dep]; omega, trivial⟩, by simp only [Pat.size, if_true]; omega, by simp only [if_true]; omega⟩
          · obtain rfl := isW_eq q
            exact ⟨.blank, rfl, ⟨by simp only [Pat.dep]; omega, trivial⟩, by simp only [Pat.size, if_true]; omega, by simp only [if_true]; omega⟩
        | false =>
        rw [h1] at h
        rw [if_neg Bool.false_ne_true] at h ⊢
        cases h2 : isW w "sign" with
        | true =>
          rw [h2, if_pos rfl] at h
          rw [if_pos rfl]
          obtain rfl := isW_eq h2
          match xs, h with
          | [x], h =>
            cases x with
            | str s => exact ⟨.sign s, rfl, ⟨by simp only [Pat.dep]; omega, trivial⟩, by simp only [Pat.size]; omega, by dsimp only; omega⟩
            | _ => cases h
          | [], h => cases h
          | _ :: _ :: _, h => cases h
        | false =>
        rw [h2, if_neg Bool.false_ne_true] at h
        rw [if_neg Bool.false_ne_true]
        cases h3 : (isW w "row" || isW w "pick") with
        | true =>
          rw [h3, if_pos rfl] at h
          rw [if_pos rfl]
          match xs, h with
          | [x], h =>
            obtain ⟨ps, rfl, q1, q2, q3⟩ := formS_true (form d) ih (r - 1) x (by omega) h
            rcases Bool.or_eq_true_iff.mp h3 with q | q
            · obtain rfl := isW_eq q
              exact ⟨.row ps, rfl, ⟨by simp only [Pat.dep]; omega, q1.2.1, q1.2.2⟩, by simp only [Pat.size]; omega, q3⟩
            · obtain rfl := isW_eq q
              exact ⟨.pick ps, rfl, ⟨by simp only [Pat.dep]; omega, q1.2.1, q1.2.2⟩, by simp only [Pat.size]; omega, q3⟩
          | [], h => cases h
          | _ :: _ :: _, h => cases h
        | false =>
        rw [h3, if_neg Bool.false_ne_true] at h
        rw [if_neg Bool.false_ne_true]
        cases h4 : isW w "again" with
        | true =>
          rw [h4, if_pos rfl] at h
          rw [if_pos rfl]
          obtain rfl := isW_eq h4
          match xs, h with
          | [x], h =>
            have h : ((form d (r - 1) x).1 && !blkD x) = true := h
            obtain ⟨p, rfl, q1, q2, q3⟩ := ih (r - 1) x (Bool.and_eq_true_iff.mp h).1
            exact ⟨.again p, rfl, ⟨by simp only [Pat.dep]; omega, q1.2⟩, by simp only [Pat.size]; omega, q3⟩
          | [], h => cases h
          | _ :: _ :: _, h => cases h
        | false =>
        rw [h4, if_neg Bool.false_ne_true] at h
        rw [if_neg Bool.false_ne_true]
        match xs, h with
        | [a, x], h =>
          have hh : (if isW w "held" then (if wordB a then form d (r - 1) x else (false, r - 1)) else if isW w "price" && wholeB a && in1000 a then form d (r - 1) x else (false, r - 1)).1 = true := h
          show ∃ p : Pat, _ ∧ _ ∧ (p.size : Int) + (if isW w "held" then (if wordB a then form d (r - 1) x else (false, r - 1)) else if isW w "price" && wholeB a && in1000 a then form d (r - 1) x else (false, r - 1)).2 = r ∧ 0 ≤ (if isW w "held" then (if wordB a then form d (r - 1) x else (false, r - 1)) else if isW w "price" && wholeB a && in1000 a then form d (r - 1) x else (false, r - 1)).2
          cases h6 : isW w "held" with
          | true =>
            rw [h6, if_pos rfl] at hh
            rw [if_pos rfl]
            obtain rfl := isW_eq h6
            cases h7 : wordB a with
            | true =>
              rw [h7, if_pos rfl] at hh
              rw [if_pos rfl]
              obtain ⟨p, rfl, q1, q2, q3⟩ := ih (r - 1) x hh
              cases a with
              | str s => exact ⟨.held s p, rfl, ⟨by simp only [Pat.dep]; omega, q1.2⟩, by simp only [Pat.size]; omega, q3⟩
              | _ => cases h7
            | false => rw [h7, if_neg Bool.false_ne_true] at hh; cases hh
          | false =>
            rw [h6, if_neg Bool.false_ne_true] at hh
            rw [if_neg Bool.false_ne_true]
            cases h7 : (isW w "price" && wholeB a && in1000 a) with
            | true =>
              rw [h7, if_pos rfl] at hh
              rw [if_pos rfl]
              simp only [Bool.and_eq_true] at h7
              obtain rfl := isW_eq h7.1.1
              obtain ⟨p, rfl, q1, q2, q3⟩ := ih (r - 1) x hh
              have h8 := h7.1.2
              cases a with
              | int n => exact ⟨.price n p, rfl, ⟨by simp only [Pat.dep]; omega, q1.2⟩, by simp only [Pat.size]; omega, q3⟩
              | _ => cases h8
            | false => rw [h7, if_neg Bool.false_ne_true] at hh; cases hh
        | [], h => cases h
        | [_], h => cases h
        | _ :: _ :: _ :: _, h => cases h
    | .tup [], h => cases h
    | .non, h => cases h
    | .bl _, h => cases h
    | .int _, h => cases h
    | .str _, h => cases h
    | .lst _, h => cases h
    | .dct _ _, h => cases h
/-! the run -/
mutual
def D.sane : D → Prop
  | .tup xs => saneL xs
  | .str x => x.length ≤ 1000
  | _ => True
def saneL : List D → Prop
  | [] => True
  | x :: xs => (Wd x ∧ x.sane) ∧ saneL xs
end
theorem saneL_mem {x : D} : ∀ {xs : List D}, saneL xs → x ∈ xs → Wd x ∧ x.sane
  | _ :: _, h, hx => by
    rcases List.mem_cons.mp hx with rfl | hx
    · exact h.1
    · exact saneL_mem h.2 hx
theorem sane_str {x : D} (h : x.sane) : ∀ s, x = .str s → s.length ≤ 1000 := fun s e => by subst e; exact h
section
variable {W : Nat} {C : Calls} {wh wd sg bl fs fo : Nat}
abbrev fo1 : E := .or [(.pr .eq [(.var 1), (.con (.int 0))]), (.pr .lt [(.pr .idx [(.var 2), (.con (.int 0))]), (.con (.int 0))]), (.not (.pr (.isinst ["tuple"]) [(.var 0)])), (.pr .eq [(.pr .len [(.var 0)]), (.con (.int 0))])]
theorem fo_run (d : Nat) (thing : D) (r : Int) (hs : thing.sane)
    (hgo : ∀ w xs e, thing = .tup (w :: xs) → d = e + 1 → evTs W C (foT wh wd sg bl fs fo) (fst w xs e (r - 1)) = .ok (.rt (.d (.bl (formW (form e) (r - 1) w xs).1)), fst w xs e (formW (form e) (r - 1) w xs).2)) :
    runFn W C (foF wh wd sg bl fs fo) [thing, .int ((d : Nat) : Int), .lst [.int r]] = .ok (.bl (form d r thing).1, false, [.lst [.int (form d r thing).2]]) := by
  have s0 : evT W C (.set 2 (.con (.int 0)) (.pr .sub [(.pr .idx [(.var 2), (.con (.int 0))]), (.con (.int 1))])) [some (.p thing), some (.p (.int (d : Nat))), some (.io false (.lst [.int r])), none] = .ok (.nx, [some (.p thing), some (.p (.int (d : Nat))), some (.io false (.lst [.int (r - 1)])), none]) := by
    simp [runFn, evTs, evT, evE, evL, evAnd, evOr, evIfs, start0, resL, resR, S.val, pev, seqOf, L2.atI, dLt, PR.r, tstR, put, asgR, slotL, escR, escL, upS, setI, L2.ixN, finF, finR, iosOf, callR, loan, apart, okP, sameK, valIx, ioIx, putIos, frzL, isOwn, D.scal, D.flat, methD, bindTg, wipeD, canWipe, backV, backL, lockL, lockR, backR, S.lock, pIn]
  have q0 : evE C (.pr .eq [(.var 1), (.con (.int 0))]) [some (.p thing), some (.p (.int (d : Nat))), some (.io false (.lst [.int (r - 1)])), none] = .ok (.d (.bl (decide (((d : Nat) : Int) = 0))), [some (.p thing), some (.p (.int (d : Nat))), some (.io false (.lst [.int (r - 1)])), none]) :=
    pr2_of (evE_var rfl) evE_con rfl rfl (show pev .eq [.int (d : Nat), .int 0] = _ from pEq_int false _ _)
  have q1 : evE C (.pr .lt [(.pr .idx [(.var 2), (.con (.int 0))]), (.con (.int 0))]) [some (.p thing), some (.p (.int (d : Nat))), some (.io false (.lst [.int (r - 1)])), none] = .ok (.d (.bl (decide (r - 1 < 0))), [some (.p thing), some (.p (.int (d : Nat))), some (.io false (.lst [.int (r - 1)])), none]) := by
    simp [runFn, evTs, evT, evE, evL, evAnd, evOr, evIfs, start0, resL, resR, S.val, pev, seqOf, L2.atI, dLt, PR.r, tstR, put, asgR, slotL, escR, escL, upS, setI, L2.ixN, finF, finR, iosOf, callR, loan, apart, okP, sameK, valIx, ioIx, putIos, frzL, isOwn, D.scal, D.flat, methD, bindTg, wipeD, canWipe, backV, backL, lockL, lockR, backR, S.lock, pIn]
  have q2 : evE C (.not (.pr (.isinst ["tuple"]) [(.var 0)])) [some (.p thing), some (.p (.int (d : Nat))), some (.io false (.lst [.int (r - 1)])), none] = .ok (.d (.bl (!isTup thing)), [some (.p thing), some (.p (.int (d : Nat))), some (.io false (.lst [.int (r - 1)])), none]) := not_of (pr1_of (evE_var rfl) rfl (isi_tup thing))
  have no : form d r thing = (false, r - 1) → evE C fo1 [some (.p thing), some (.p (.int (d : Nat))), some (.io false (.lst [.int (r - 1)])), none] = .ok (.d (.bl true), [some (.p thing), some (.p (.int (d : Nat))), some (.io false (.lst [.int (r - 1)])), none]) →
      runFn W C (foF wh wd sg bl fs fo) [thing, .int ((d : Nat) : Int), .lst [.int r]] = .ok (.bl (form d r thing).1, false, [.lst [.int (form d r thing).2]]) := fun e h => by
    rw [e]
    exact run_ret (r := .d (.bl false)) (δ' := [some (.p thing), some (.p (.int (d : Nat))), some (.io false (.lst [.int (r - 1)])), none]) rfl (ts_nx s0 (ts_rt (ite_yes h ret_false))) rfl
  cases d with
  | zero => exact no rfl (or_yes q0)
  | succ e =>
    have h0 : decide (((e + 1 : Nat) : Int) = 0) = false := decide_eq_false (by omega)
    rw [h0] at q0
    by_cases hr : r - 1 < 0
    · rw [decide_eq_true hr] at q1
      refine no ?_ (or_no q0 (or_yes' q1))
      match thing with
      | .tup (w :: xs) => exact if_pos hr
      | .tup [] | .non | .bl _ | .int _ | .str _ | .lst _ | .dct _ _ => rfl
    · rw [decide_eq_false hr] at q1
      match thing, hs, hgo, s0, q0, q1, q2, no with
      | .non, _, _, s0, q0, q1, q2, no => exact no rfl (or_no q0 (or_no' q1 (or_yes' q2)))
      | .bl _, _, _, s0, q0, q1, q2, no => exact no rfl (or_no q0 (or_no' q1 (or_yes' q2)))
      | .int _, _, _, s0, q0, q1, q2, no => exact no rfl (or_no q0 (or_no' q1 (or_yes' q2)))
      | .str _, _, _, s0, q0, q1, q2, no => exact no rfl (or_no q0 (or_no' q1 (or_yes' q2)))
      | .lst _, _, _, s0, q0, q1, q2, no => exact no rfl (or_no q0 (or_no' q1 (or_yes' q2)))
      | .dct _ _, _, _, s0, q0, q1, q2, no => exact no rfl (or_no q0 (or_no' q1 (or_yes' q2)))
      | .tup [], _, _, s0, q0, q1, q2, no =>
        refine no rfl (or_no q0 (or_no' q1 (or_no' q2 (or_last ?_))))
        simp [runFn, evTs, evT, evE, evL, evAnd, evOr, evIfs, start0, resL, resR, S.val, pev, seqOf, L2.atI, dLt, PR.r, tstR, put, asgR, slotL, escR, escL, upS, setI, L2.ixN, finF, finR, iosOf, callR, loan, apart, okP, sameK, valIx, ioIx, putIos, frzL, isOwn, D.scal, D.flat, methD, bindTg, wipeD, canWipe, backV, backL, lockL, lockR, backR, S.lock, pIn, pEq_int]
      | .tup (w :: xs), hs, hgo, s0, q0, q1, q2, no =>
        have q3 : evE C (.pr .eq [(.pr .len [(.var 0)]), (.con (.int 0))]) [some (.p (.tup (w :: xs))), some (.p (.int ((e + 1 : Nat) : Int))), some (.io false (.lst [.int (r - 1)])), none] = .ok (.d (.bl false), [some (.p (.tup (w :: xs))), some (.p (.int ((e + 1 : Nat) : Int))), some (.io false (.lst [.int (r - 1)])), none]) := by
          have h : decide ((((w :: xs).length : Nat) : Int) = 0) = false := decide_eq_false (by simp only [List.length_cons]; omega)
          have e1 : pev .eq [.int (((w :: xs).length : Nat) : Int), .int 0] = some (.sc (.bl false)) := by
            have := pEq_int false (((w :: xs).length : Nat) : Int) 0
            rw [h] at this
            exact this
          exact pr2_of (pr1_of (evE_var rfl) rfl len_tup) evE_con rfl rfl e1
        have q4 : evE C fo1 [some (.p (.tup (w :: xs))), some (.p (.int ((e + 1 : Nat) : Int))), some (.io false (.lst [.int (r - 1)])), none] = .ok (.d (.bl false), [some (.p (.tup (w :: xs))), some (.p (.int ((e + 1 : Nat) : Int))), some (.io false (.lst [.int (r - 1)])), none]) := or_no q0 (or_no' q1 (or_no' q2 (or_last q3)))
        have i0 : pev .idx [.tup (w :: xs), .int 0] = some (.sc w) := by
          have : L2.atI (w :: xs) ((0 : Nat) : Int) = some w := L2.atI_nat (j := 0) rfl
          have e2 : pev .idx [.tup (w :: xs), .int 0] = match L2.atI (w :: xs) 0 with | some x => some (.sc x) | none => none := rfl
          rw [e2]
          rw [show L2.atI (w :: xs) 0 = some w from this]
        have s2 : evT W C (.asg (.nm 3) (.pr .idx [(.var 0), (.con (.int 0))])) [some (.p (.tup (w :: xs))), some (.p (.int ((e + 1 : Nat) : Int))), some (.io false (.lst [.int (r - 1)])), none] = .ok (.nx, fst w xs e (r - 1)) :=
          asg_d (δ1 := [some (.p (.tup (w :: xs))), some (.p (.int ((e + 1 : Nat) : Int))), some (.io false (.lst [.int (r - 1)])), none]) (v := w) (s := none) (pr2_of (w := .sc w) (evE_var rfl) evE_con rfl rfl i0) rfl .n
        have ef : form (e + 1) r (.tup (w :: xs)) = formW (form e) (r - 1) w xs := if_neg hr
        rw [ef]
        exact run_ret rfl (ts_nx s0 (ts_nx (ite_no q4 ts_nil) (ts_nx s2 (hgo w xs e rfl rfl)))) rfl
end
/-- the table holds is_formed and what it asks -/
structure FormTab (tab : List Fn) (wh wd tx inn bl sg fs fo : Nat) : Prop where
  hwh : tab[wh]? = some wholeF
  hwd : tab[wd]? = some wordF
  htx : tab[tx]? = some textF
  hin : tab[inn]? = some innerF
  hbl : tab[bl]? = some (truthF ["blank", "again"] inn bl)
  hsg : tab[sg]? = some (signsOkF tx)
  hfs : tab[fs]? = some (fsF fo)
  hfo : tab[fo]? = some (foF wh wd sg bl fs fo)
theorem form_lvl {tab : List Fn} {W wh wd tx inn bl sg fs fo : Nat} (T : FormTab tab wh wd tx inn bl sg fs fo) : ∀ (d n : Nat), 2 * d + 3 ≤ n → ∀ (r : Int) (thing : D), thing.sane → (calls W tab n).run fo [thing, .int ((d : Nat) : Int), .lst [.int r]] = .ok (.bl (form d r thing).1, false, [.lst [.int (form d r thing).2]])
  | d, 0, h, _, _, _ => absurd h (by omega)
  | 0, n + 1, h, r, thing, hs => by
    rw [run_at T.hfo]
    exact fo_run 0 thing r hs fun w xs e _ he => absurd he (by omega)
  | d + 1, n + 1, h, r, thing, hs => by
    rw [run_at T.hfo]
    obtain ⟨m, rfl⟩ : ∃ m, n = m + 2 := ⟨n - 2, by omega⟩
    refine fo_run (d + 1) thing r hs fun w xs e ht he => ?_
    obtain rfl : d = e := by omega
    subst ht
    have F : FoOk (calls W tab (m + 2)) wh wd sg bl fs fo d :=
      ⟨md_at T.hwh, md_at T.hwd, md_at T.hsg, md_at T.hbl, md_at T.hfs, md_at T.hfo, fun a => by rw [run_at T.hwh]; exact whole_run _ _ a, fun a ha => by rw [run_at T.hwd]; exact word_run _ _ a ha,
        fun a ha => by rw [run_at T.hsg]; exact signsOk_run (md_at T.htx) (fun b hb => by rw [run_at T.htx]; exact text_run _ _ b hb) a ha⟩
    have hs : (Wd w ∧ w.sane) ∧ saneL xs := hs
    refine foT_run F (form d) w xs (r - 1) hs.1.1 (fun x hx => ⟨(saneL_mem hs.2 hx).1, sane_str (saneL_mem hs.2 hx).2⟩) (fun x hx r => form_lvl T d (m + 2) (by omega) r x (saneL_mem hs.2 hx).2) (fun x hx r => ?_) (fun x hx hb => ?_)
    · rw [run_at T.hfs]
      refine fs_run (md_at T.hfo) _ (form d) r x fun ys hy y hmem r => form_lvl T d (m + 1) (by omega) r y ?_
      have hx := (saneL_mem hs.2 hx).2
      subst hy
      exact (saneL_mem (show saneL ys from hx) hmem).2
    · obtain ⟨p, rfl, q1, _⟩ := form_true d (r - 1) x hb
      rw [blkD_enc]
      exact blank_lvl T.hin T.hbl (m + 1) p (by omega) q1.2
end Ev
set_option maxHeartbeats 4000000
/-! GenV: is_formed and is_pattern on patterns -/
namespace Ev
open PySem
mutual
def Pat.ok : Pat → Prop
  | .none => True
  | .blank => True
  | .sign x => signsB (.str x) = true ∧ x.length ≤ 1000 ∧ PyData.strOk x = true
  | .row ps => (2 ≤ ps.length ∧ ps.length ≤ 6) ∧ okL ps
  | .pick ps => (2 ≤ ps.length ∧ ps.length ≤ 6) ∧ okL ps
  | .again p => p.ok
  | .held x p => (wordB (.str x) = true ∧ x.length ≤ 1000 ∧ PyData.strOk x = true) ∧ p.ok
  | .price n p => (0 ≤ n ∧ n ≤ 1000) ∧ p.ok
def okL : List Pat → Prop
  | [] => True
  | p :: ps => p.ok ∧ okL ps
end
mutual
def Pat.fm : Pat → Bool
  | .row ps => fmL ps
  | .pick ps => fmL ps
  | .again p => p.fm && !p.blk
  | .held _ p => p.fm
  | .price _ p => p.fm
  | _ => true
def fmL : List Pat → Bool
  | [] => true
  | p :: ps => p.fm && fmL ps
end
theorem okL_mem : ∀ {ps : List Pat}, okL ps → ∀ q ∈ ps, q.ok
  | p :: ps, h, q, hq => by
    rcases List.mem_cons.mp hq with rfl | hq
    · exact h.1
    · exact okL_mem h.2 q hq
theorem ok_kids {p : Pat} (h : p.ok) : okL (kids p) := by
  cases p <;> first | exact h.2 | exact trivial | exact ⟨h, trivial⟩ | exact ⟨h.2, trivial⟩
/-! good ones -/
theorem sing_lt {a b : Nat} (h : a < b) : ([a] : List Nat) < [b] := List.cons_lt_cons_iff.mpr (.inl h)
theorem rise_pairs : ∀ {l : List Nat}, l.Pairwise (· < ·) → ((pairsOf l).map ltP).all id = true
  | [], _ => rfl
  | [_], _ => rfl
  | a :: b :: l, h => by
    have h1 := List.pairwise_cons.mp h
    have ih := rise_pairs h1.2
    show (ltP (a, b) && ((pairsOf (b :: l)).map ltP).all id) = true
    rw [ih, Bool.and_true]
    exact decide_eq_true (sing_lt (h1.1 b List.mem_cons_self))
theorem all_text {l : List Nat} (h : ∀ c ∈ l, c ∈ lets) : (l.map okSign).all id = true := by
  have h2 : ∀ c ∈ lets, okSign c = true := by decide +kernel
  induction l with
  | nil => rfl
  | cons c l ih =>
    show (okSign c && (l.map okSign).all id) = true
    rw [h2 c (h c List.mem_cons_self), ih fun d hd => h d (List.mem_cons_of_mem _ hd)]; rfl
theorem sign_good {x : Str} (h : SignOk x) : signsB (.str x) = true ∧ x.length ≤ 1000 ∧ PyData.strOk x = true := by
  refine ⟨?_, ?_, h.str⟩
  · show ((textB (.str x) && !decide (x = "")) && ((pairsOf x.cps.toList).map ltP).all id) = true
    have h1 : textB (.str x) = true := all_text h.lets
    have h2 : x ≠ "" := fun e => h.ne (by rw [e]; decide +kernel)
    rw [h1, decide_eq_false h2, rise_pairs h.rise]; rfl
  · have : x.cps.toList.Nodup := h.rise.imp fun h e => by subst e; exact Nat.lt_irrefl _ h
    have := nodup_sub this h.lets
    have h3 : lets.length = 16 := rfl
    rw [← cps_len]; omega
theorem held_good : ∀ x ∈ heldNames, wordB (.str x) = true ∧ x.length ≤ 1000 ∧ PyData.strOk x = true := by decide +kernel
mutual
theorem good_ok : ∀ p : Pat, p.good → p.ok
  | .none, _ => trivial
  | .blank, _ => trivial
  | .sign x, h => sign_good h
  | .row ps, h => ⟨h.1, goodL_ok ps h.2⟩
  | .pick ps, h => ⟨h.1, goodL_ok ps h.2⟩
  | .again p, h => good_ok p h.2
  | .held x p, h => ⟨held_good x h.1, good_ok p h.2⟩
  | .price n p, h => ⟨h.1, good_ok p h.2⟩
theorem goodL_ok : ∀ ps : List Pat, goodL ps → okL ps
  | [], _ => trivial
  | p :: ps, h => ⟨good_ok p h.1, goodL_ok ps h.2⟩
end
mutual
theorem good_fm : ∀ p : Pat, p.good → p.fm = true
  | .none, _ => rfl
  | .blank, _ => rfl
  | .sign x, h => rfl
  | .row ps, h => goodL_fm ps h.2
  | .pick ps, h => goodL_fm ps h.2
  | .again p, h => by
    show (p.fm && !p.blk) = true
    rw [good_fm p h.2, h.1]; rfl
  | .held x p, h => good_fm p h.2
  | .price n p, h => good_fm p h.2
theorem goodL_fm : ∀ ps : List Pat, goodL ps → fmL ps = true
  | [], _ => rfl
  | p :: ps, h => by simp only [fmL, good_fm p h.1, goodL_fm ps h.2, Bool.and_self]
end
/-! data to be looked at -/
mutual
theorem lay_ok : ∀ p : Pat, p.ok → (pyP p).canLay0 = true
  | .none, _ => by decide +kernel
  | .blank, _ => by decide +kernel
  | .sign x, h => by
    have h : PyData.strOk x = true := h.2.2
    simp only [pyP, PyData.canLay0, PyData.canLayAll0, h]; decide +kernel
  | .row ps, h => by simp only [pyP, PyData.canLay0, PyData.canLayAll0, layL_ok ps h.2]; decide +kernel
  | .pick ps, h => by simp only [pyP, PyData.canLay0, PyData.canLayAll0, layL_ok ps h.2]; decide +kernel
  | .again p, h => by simp only [pyP, PyData.canLay0, PyData.canLayAll0, lay_ok p h]; decide +kernel
  | .held x p, h => by
    have h1 : PyData.strOk x = true := h.1.2.2
    simp only [pyP, PyData.canLay0, PyData.canLayAll0, h1, lay_ok p h.2]; decide +kernel
  | .price n p, h => by simp only [pyP, PyData.canLay0, PyData.canLayAll0, lay_ok p h.2]; decide +kernel
theorem layL_ok : ∀ ps : List Pat, okL ps → PyData.canLayAll0 (pyL ps) = true
  | [], _ => rfl
  | p :: ps, h => by simp only [pyL, PyData.canLayAll0, lay_ok p h.1, layL_ok ps h.2, Bool.and_self]
end
theorem wd_enc {p : Pat} (h : p.ok) (hd : p.dep ≤ 30) : Wd (enc p) := by
  have h2 := dep_py p
  refine ⟨pyP p, toPy_enc p, ?_⟩
  show (PyData.canLay0 (pyP p) && decide ((pyP p).depth ≤ 64)) = true
  rw [lay_ok p h, decide_eq_true (by omega)]; rfl
theorem wd_encL {ps : List Pat} (h : okL ps) (hd : depL ps ≤ 30) : Wd (.tup (encL ps)) := by
  have h2 := depL_py ps
  refine ⟨.tuple (pyL ps), by simp only [toPy, toPyL_enc], ?_⟩
  have h3 : PyData.canLay0 (.tuple (pyL ps)) = true := by simp only [PyData.canLay0, layL_ok ps h]
  have h4 : PyData.depth (.tuple (pyL ps)) ≤ 64 := by simp only [PyData.depth]; omega
  show (PyData.canLay0 _ && decide (PyData.depth _ ≤ 64)) = true
  rw [h3, decide_eq_true h4]; rfl
theorem wd_str {x : Str} (h : PyData.strOk x = true) : Wd (.str x) := ⟨.str x, rfl, shaped_str h⟩
theorem wd_int (n : Int) : Wd (.int n) := ⟨.int n, rfl, rfl⟩
theorem sane_tag {x : Str} (h : x.length ≤ 1000) : (D.str x).sane := h
mutual
theorem sane_enc : ∀ p : Pat, p.ok → p.dep ≤ 30 → (enc p).sane
  | .none, _, _ => ⟨⟨wd_str (by decide +kernel), sane_tag (by decide +kernel)⟩, trivial⟩
  | .blank, _, _ => ⟨⟨wd_str (by decide +kernel), sane_tag (by decide +kernel)⟩, trivial⟩
  | .sign x, h, _ => ⟨⟨wd_str (by decide +kernel), sane_tag (by decide +kernel)⟩, ⟨wd_str h.2.2, h.2.1⟩, trivial⟩
  | .row ps, h, hd => by
    simp only [Pat.dep] at hd
    exact ⟨⟨wd_str (by decide +kernel), sane_tag (by decide +kernel)⟩, ⟨wd_encL h.2 (by omega), saneL_enc ps h.2 (by omega)⟩, trivial⟩
  | .pick ps, h, hd => by
    simp only [Pat.dep] at hd
    exact ⟨⟨wd_str (by decide +kernel), sane_tag (by decide +kernel)⟩, ⟨wd_encL h.2 (by omega), saneL_enc ps h.2 (by omega)⟩, trivial⟩
  | .again p, h, hd => by
    simp only [Pat.dep] at hd
    exact ⟨⟨wd_str (by decide +kernel), sane_tag (by decide +kernel)⟩, ⟨wd_enc h (by omega), sane_enc p h (by omega)⟩, trivial⟩
  | .held x p, h, hd => by
    simp only [Pat.dep] at hd
    exact ⟨⟨wd_str (by decide +kernel), sane_tag (by decide +kernel)⟩, ⟨wd_str h.1.2.2, h.1.2.1⟩, ⟨wd_enc h.2 (by omega), sane_enc p h.2 (by omega)⟩, trivial⟩
  | .price n p, h, hd => by
    simp only [Pat.dep] at hd
    exact ⟨⟨wd_str (by decide +kernel), sane_tag (by decide +kernel)⟩, ⟨wd_int n, trivial⟩, ⟨wd_enc h.2 (by omega), sane_enc p h.2 (by omega)⟩, trivial⟩
theorem saneL_enc : ∀ ps : List Pat, okL ps → depL ps ≤ 30 → saneL (encL ps)
  | [], _, _ => trivial
  | p :: ps, h, hd => by
    simp only [depL] at hd
    exact ⟨⟨wd_enc h.1 (by omega), sane_enc p h.1 (by omega)⟩, saneL_enc ps h.2 (by omega)⟩
end
/-! what form tells of them -/
theorem all_enc (f : Int → D → Bool × Int) : ∀ (ps : List Pat) (r : Int), (∀ p ∈ ps, ∀ r, (p.size : Int) ≤ r → f r (enc p) = (p.fm, r - p.size)) → (sizeL ps : Int) ≤ r → (formAll f r (encL ps)).1.all id = fmL ps ∧ (formAll f r (encL ps)).2 = r - sizeL ps
  | [], r, _, _ => ⟨rfl, by simp [formAll, encL, sizeL]⟩
  | p :: ps, r, h, hr => by
    simp only [sizeL] at hr
    have e := h p List.mem_cons_self r (by omega)
    have hf : f r (enc p) = (p.fm, r - p.size) := e
    obtain ⟨e1, e2⟩ := all_enc f ps (r - p.size) (fun q hq => h q (List.mem_cons_of_mem _ hq)) (by omega)
    simp only [encL, formAll, hf, List.all_cons, id, fmL, sizeL]
    exact ⟨by rw [e1], by rw [e2]; omega⟩
theorem encL_len (ps : List Pat) : (encL ps).length = ps.length := by rw [encL_map, List.length_map]
theorem form_enc : ∀ (d : Nat) (p : Pat) (r : Int), p.dep ≤ d → (p.size : Int) ≤ r → p.ok → form d r (enc p) = (p.fm, r - p.size)
  | 0, p, _, h, _, _ => absurd (dep_pos p) (by omega)
  | d + 1, p, r, h, hs, hk => by
    have hp := size_pos p
    have hr : ¬ r - 1 < 0 := by omega
    have step : ∀ w xs, enc p = .tup (w :: xs) → form (d + 1) r (enc p) = formW (form d) (r - 1) w xs := fun w xs e => by
      rw [e]; exact if_neg hr
    have rows : ∀ ps : List Pat, depL ps ≤ d → (sizeL ps : Int) ≤ r - 1 → okL ps → (2 ≤ ps.length ∧ ps.length ≤ 6) → formS (form d) (r - 1) (.tup (encL ps)) = (fmL ps, r - 1 - sizeL ps) := fun ps hd hs hk hl => by
      show (if 2 ≤ (encL ps).length ∧ (encL ps).length ≤ 6 then ((formAll (form d) (r - 1) (encL ps)).1.all id, (formAll (form d) (r - 1) (encL ps)).2) else _) = _
      rw [encL_len, if_pos hl]
      obtain ⟨e1, e2⟩ := all_enc (form d) ps (r - 1) (fun q hq r hr => form_enc d q r (by have := mem_dep hq; omega) hr (okL_mem hk q hq)) hs
      rw [e1, e2]
    cases p with
    | none => rw [step _ _ rfl]; simp only [Pat.size]; rfl
    | blank => rw [step _ _ rfl]; simp only [Pat.size]; rfl
    | sign x =>
      rw [step _ _ rfl]
      show (signsB (.str x), r - 1) = (true, r - ((1 : Nat) : Int))
      rw [hk.1]; rfl
    | row ps =>
      simp only [Pat.dep] at h
      simp only [Pat.size] at hs
      rw [step _ _ rfl]
      show formS (form d) (r - 1) (.tup (encL ps)) = (fmL ps, r - ((1 + sizeL ps : Nat) : Int))
      rw [rows ps (by omega) (by omega) hk.2 hk.1]
      exact congrArg (Prod.mk _) (by omega)
    | pick ps =>
      simp only [Pat.dep] at h
      simp only [Pat.size] at hs
      rw [step _ _ rfl]
      show formS (form d) (r - 1) (.tup (encL ps)) = (fmL ps, r - ((1 + sizeL ps : Nat) : Int))
      rw [rows ps (by omega) (by omega) hk.2 hk.1]
      exact congrArg (Prod.mk _) (by omega)
    | again p =>
      simp only [Pat.dep] at h
      simp only [Pat.size] at hs
      rw [step _ _ rfl]
      show ((form d (r - 1) (enc p)).1 && !blkD (enc p), (form d (r - 1) (enc p)).2) = (p.fm && !p.blk, r - ((1 + p.size : Nat) : Int))
      rw [form_enc d p (r - 1) (by omega) (by omega) hk, blkD_enc]
      exact congrArg (Prod.mk _) (by show r - 1 - (p.size : Int) = _; omega)
    | held x p =>
      simp only [Pat.dep] at h
      simp only [Pat.size] at hs
      rw [step _ _ rfl]
      show (if wordB (.str x) then form d (r - 1) (enc p) else (false, r - 1)) = (p.fm, r - ((1 + p.size : Nat) : Int))
      rw [hk.1.1, if_pos rfl, form_enc d p (r - 1) (by omega) (by omega) hk.2]
      exact congrArg (Prod.mk _) (by omega)
    | price n p =>
      simp only [Pat.dep] at h
      simp only [Pat.size] at hs
      rw [step _ _ rfl]
      show (if (decide (0 ≤ n) && decide (n ≤ 1000)) then form d (r - 1) (enc p) else (false, r - 1)) = (p.fm, r - ((1 + p.size : Nat) : Int))
      rw [decide_eq_true hk.1.1, decide_eq_true hk.1.2, if_pos (by rfl), form_enc d p (r - 1) (by omega) (by omega) hk.2]
      exact congrArg (Prod.mk _) (by omega)
/-! is_pattern -/
def isPatF (fo : Nat) : Fn := ⟨1, [false], [.ret (.call fo [(.var 0), (.con (.int 9)), (.lst [(.con (.int 40))])])]⟩
theorem isPat_run {W : Nat} {C : Calls} {fo : Nat} (hm : C.md fo = some [false, false, true]) (thing : D) (b : Bool) (r2 : D) (hr : C.run fo [thing, .int 9, .lst [.int 40]] = .ok (.bl b, false, [r2])) : runFn W C (isPatF fo) [thing] = .ok (.bl b, false, []) := by
  simp [runFn, evTs, evT, evE, evL, evAnd, evOr, evIfs, start0, resL, resR, S.val, pev, seqOf, L2.atI, dLt, PR.r, tstR, put, asgR, slotL, escR, escL, upS, setI, L2.ixN, finF, finR, iosOf, callR, loan, apart, okP, sameK, valIx, ioIx, putIos, frzL, isOwn, D.scal, D.flat, methD, bindTg, wipeD, canWipe, backV, backL, lockL, lockR, backR, S.lock, pIn, isPatF, hm, hr]
theorem isPat_lvl {tab : List Fn} {W wh wd tx inn bl sg fs fo ip : Nat} (T : FormTab tab wh wd tx inn bl sg fs fo) (h : tab[ip]? = some (isPatF fo)) (n : Nat) (hn : 22 ≤ n) (thing : D) (hs : thing.sane) : (calls W tab n).run ip [thing] = .ok (.bl (form 9 40 thing).1, false, []) := by
  obtain ⟨m, rfl⟩ : ∃ m, n = m + 1 := ⟨n - 1, by omega⟩
  rw [run_at h]
  exact isPat_run (md_at T.hfo) thing _ _ (form_lvl T 9 m (by omega) 40 thing hs)
end Ev
set_option maxHeartbeats 4000000
/-! GenW: a make replaced, makes counted -/
namespace Ev
open PySem
theorem ret_of {W : Nat} {C : Calls} {e : E} {δ δ1 : DEnv} {r : R} (h : evE C e δ = .ok (r, δ1)) : evT W C (.ret e) δ = .ok (.rt r, δ1) := by
  rw [evT, h]; rfl
def withF : Fn := ⟨2, [false, false], [.ite (.pr .inn [(.pr .idx [(.var 0), (.con (.int 0))]), (.lst [(.con (.str "row")), (.con (.str "pick"))])]) [.ret (.tup [(.pr .idx [(.var 0), (.con (.int 0))]), (.pr .tuple [(.var 1)])])] [], .ite (.pr .inn [(.pr .idx [(.var 0), (.con (.int 0))]), (.lst [(.con (.str "again")), (.con (.str "held")), (.con (.str "price"))])]) [.ret (.pr .add [(.pr (.sl false true) [(.var 0), (.pr .neg [(.con (.int 1))])]), (.tup [(.pr .idx [(.var 1), (.con (.int 0))])])])] [], .ret (.var 0)]⟩
/-- the pattern with other things straight within it -/
def withD : Pat → List D → D
  | .row _, xs => .tup [.str "row", .tup xs]
  | .pick _, xs => .tup [.str "pick", .tup xs]
  | .again _, [x] => .tup [.str "again", x]
  | .held n _, [x] => .tup [.str "held", .str n, x]
  | .price n _, [x] => .tup [.str "price", .int n, x]
  | p, _ => enc p
theorem with_run (W : Nat) (C : Calls) (p : Pat) (xs : List D) (h : xs.length = (kids p).length) : runFn W C withF [enc p, .lst xs] = .ok (withD p xs, false, []) := by
  cases p with
  | none => rfl
  | blank => rfl
  | sign x => rfl
  | row ps => rfl
  | pick ps => rfl
  | again p =>
    match xs, h with
    | [x], _ => rfl
  | held n p =>
    match xs, h with
    | [x], _ => rfl
  | price n p =>
    match xs, h with
    | [x], _ => rfl
mutual
def replD (t : D) : Pat → Int → D × Int
  | .row ps, l => if l = 0 then (t, -1) else (.tup [.str "row", .tup (replL t ps (l - 1)).1], (replL t ps (l - 1)).2)
  | .pick ps, l => if l = 0 then (t, -1) else (.tup [.str "pick", .tup (replL t ps (l - 1)).1], (replL t ps (l - 1)).2)
  | .again p, l => if l = 0 then (t, -1) else (.tup [.str "again", (replD t p (l - 1)).1], (replD t p (l - 1)).2)
  | .held n p, l => if l = 0 then (t, -1) else (.tup [.str "held", .str n, (replD t p (l - 1)).1], (replD t p (l - 1)).2)
  | .price n p, l => if l = 0 then (t, -1) else (.tup [.str "price", .int n, (replD t p (l - 1)).1], (replD t p (l - 1)).2)
  | .none, l => if l = 0 then (t, -1) else (enc .none, l - 1)
  | .blank, l => if l = 0 then (t, -1) else (enc .blank, l - 1)
  | .sign x, l => if l = 0 then (t, -1) else (enc (.sign x), l - 1)
def replL (t : D) : List Pat → Int → List D × Int
  | [], l => ([], l)
  | p :: ps, l => ((replD t p l).1 :: (replL t ps (replD t p l).2).1, (replL t ps (replD t p l).2).2)
end
theorem replD_eq (t : D) (p : Pat) (l : Int) : replD t p l = if l = 0 then (t, -1) else (withD p (replL t (kids p) (l - 1)).1, (replL t (kids p) (l - 1)).2) := by
  cases p <;> simp only [replD, replL, kids, withD]
theorem replL_len (t : D) : ∀ (ps : List Pat) (l : Int), (replL t ps l).1.length = ps.length
  | [], l => rfl
  | p :: ps, l => by simp only [replL, List.length_cons, replL_len t ps]
abbrev replComp (inn rp : Nat) : E := .comp [3] (.nm 3) .vals [(.call inn [(.var 0)])] [] (.call rp [(.var 3), (.var 1), (.var 2)])
def replF (inn wi rp : Nat) : Fn := ⟨4, [false, true, false], [.set 1 (.con (.int 0)) (.pr .sub [(.pr .idx [(.var 1), (.con (.int 0))]), (.con (.int 1))]), .ite (.pr .eq [(.pr .idx [(.var 1), (.con (.int 0))]), (.pr .neg [(.con (.int 1))])]) [.ret (.var 2)] [], .ret (.call wi [(.var 0), replComp inn rp])]⟩
theorem repl_loop {C : Calls} {rp : Nat} (hm : C.md rp = some [false, true, false]) (e t : D) : ∀ (ps : List Pat) (l : Int) (acc : List D) (s3 : Option S), (∀ q ∈ ps, ∀ l, C.run rp [enc q, .lst [.int l], t] = .ok ((replD t q l).1, false, [.lst [.int (replD t q l).2]])) → acc.length + ps.length ≤ 2000 →
    ∃ s3', compLoop [3] (.nm 3) (fun δ => evIfs C [] δ) (fun δ => evE C (.call rp [(.var 3), (.var 1), (.var 2)]) δ) (ps.map enc) [some (.p e), some (.io false (.lst [.int l])), some (.p t), s3] acc
      = .ok (acc ++ (replL t ps l).1, [some (.p e), some (.io false (.lst [.int (replL t ps l).2])), some (.p t), s3'])
  | [], l, acc, s3, _, _ => ⟨s3, by simp [compLoop, replL]⟩
  | p :: ps, l, acc, s3, h, hl => by
    simp only [List.length_cons] at hl
    have hr := h p List.mem_cons_self l
    obtain ⟨s3', e2⟩ := repl_loop (C := C) hm e t ps (replD t p l).2 (acc ++ [(replD t p l).1]) (some (.p (enc p))) (fun q hq => h q (List.mem_cons_of_mem _ hq)) (by simp; omega)
    refine ⟨s3', ?_⟩
    have ea : acc ++ (replL t (p :: ps) l).1 = acc ++ [(replD t p l).1] ++ (replL t ps (replD t p l).2).1 := by simp [replL]
    have eb : (replL t (p :: ps) l).2 = (replL t ps (replD t p l).2).2 := rfl
    rw [ea, eb, ← e2]
    have hcap : acc.length < 1000000 := by omega
    simp only [List.map_cons]
    conv => lhs; unfold compLoop
    simp [runFn, evTs, evT, evE, evL, evAnd, evOr, evIfs, start0, resL, resR, S.val, pev, seqOf, L2.atI, dLt, PR.r, tstR, put, asgR, slotL, escR, escL, upS, setI, L2.ixN, finF, finR, iosOf, callR, loan, apart, okP, sameK, valIx, ioIx, putIos, frzL, isOwn, D.scal, D.flat, methD, bindTg, wipeD, canWipe, backV, backL, lockL, lockR, backR, S.lock, pIn, hm, hr, hcap]
theorem repl_run {W : Nat} {C : Calls} {inn wi rp : Nat} (I : InnerOk C inn) (mwi : C.md wi = some [false, false]) (hwi : ∀ (p : Pat) (xs : List D), xs.length = (kids p).length → C.run wi [enc p, .lst xs] = .ok (withD p xs, false, [])) (hm : C.md rp = some [false, true, false]) (p : Pat) (t : D) (l : Int) (hk : (kids p).length ≤ 1000)
    (hr : ∀ q ∈ kids p, ∀ l, C.run rp [enc q, .lst [.int l], t] = .ok ((replD t q l).1, false, [.lst [.int (replD t q l).2]])) : runFn W C (replF inn wi rp) [enc p, .lst [.int l], t] = .ok ((replD t p l).1, false, [.lst [.int (replD t p l).2]]) := by
  have s0 : evT W C (.set 1 (.con (.int 0)) (.pr .sub [(.pr .idx [(.var 1), (.con (.int 0))]), (.con (.int 1))])) [some (.p (enc p)), some (.io false (.lst [.int l])), some (.p t), none] = .ok (.nx, [some (.p (enc p)), some (.io false (.lst [.int (l - 1)])), some (.p t), none]) := by
    simp [runFn, evTs, evT, evE, evL, evAnd, evOr, evIfs, start0, resL, resR, S.val, pev, seqOf, L2.atI, dLt, PR.r, tstR, put, asgR, slotL, escR, escL, upS, setI, L2.ixN, finF, finR, iosOf, callR, loan, apart, okP, sameK, valIx, ioIx, putIos, frzL, isOwn, D.scal, D.flat, methD, bindTg, wipeD, canWipe, backV, backL, lockL, lockR, backR, S.lock, pIn]
  have c0 : evE C (.pr .eq [(.pr .idx [(.var 1), (.con (.int 0))]), (.pr .neg [(.con (.int 1))])]) [some (.p (enc p)), some (.io false (.lst [.int (l - 1)])), some (.p t), none] = .ok (.d (.bl (decide (l = 0))), [some (.p (enc p)), some (.io false (.lst [.int (l - 1)])), some (.p t), none]) := by
    have h : decide (l - 1 = -1) = decide (l = 0) := decide_eq_decide.mpr (by omega)
    have e1 : pev .eq [.int (l - 1), .int (-1)] = some (.sc (.bl (decide (l = 0)))) := by
      have := pEq_int false (l - 1) (-1)
      rw [h] at this
      exact this
    have i1 : evE C (.pr .idx [(.var 1), (.con (.int 0))]) [some (.p (enc p)), some (.io false (.lst [.int (l - 1)])), some (.p t), none] = .ok (.d (.int (l - 1)), [some (.p (enc p)), some (.io false (.lst [.int (l - 1)])), some (.p t), none]) := by simp [runFn, evTs, evT, evE, evL, evAnd, evOr, evIfs, start0, resL, resR, S.val, pev, seqOf, L2.atI, dLt, PR.r, tstR, put, asgR, slotL, escR, escL, upS, setI, L2.ixN, finF, finR, iosOf, callR, loan, apart, okP, sameK, valIx, ioIx, putIos, frzL, isOwn, D.scal, D.flat, methD, bindTg, wipeD, canWipe, backV, backL, lockL, lockR, backR, S.lock, pIn]
    exact pr2_of i1 (pr1_of (w := .sc (.int (-1))) evE_con rfl rfl) rfl rfl e1
  rw [replD_eq]
  by_cases hl : l = 0
  · rw [decide_eq_true hl] at c0
    rw [if_pos hl]
    have s2 : evT W C (.ret (.var 2)) [some (.p (enc p)), some (.io false (.lst [.int (l - 1)])), some (.p t), none] = .ok (.rt (.d t), [some (.p (enc p)), some (.io false (.lst [.int (l - 1)])), some (.p t), none]) := by rw [evT, evE_var rfl]; rfl
    have hl1 : l - 1 = -1 := by omega
    rw [hl1] at s0 c0 s2
    exact run_ret rfl (ts_nx s0 (ts_rt (ite_yes c0 (ts_rt s2)))) rfl
  · rw [decide_eq_false hl] at c0
    rw [if_neg hl]
    have g1 : evE C (.call inn [(.var 0)]) [some (.p (enc p)), some (.io false (.lst [.int (l - 1)])), some (.p t), none] = .ok (.o (.lst (encL (kids p))), [some (.p (enc p)), some (.io false (.lst [.int (l - 1)])), some (.p t), none]) := call1 I.md (evE_var rfl) (I.run p)
    obtain ⟨s3', e⟩ := repl_loop (C := C) hm (enc p) t (kids p) (l - 1) [] none hr (by simp; omega)
    have c1 : evE C (replComp inn rp) [some (.p (enc p)), some (.io false (.lst [.int (l - 1)])), some (.p t), none] = .ok (.o (.lst (replL t (kids p) (l - 1)).1), [some (.p (enc p)), some (.io false (.lst [.int (replL t (kids p) (l - 1)).2])), some (.p t), none]) := by
      rw [evE]
      have g2 : evL C [(.call inn [(.var 0)])] [some (.p (enc p)), some (.io false (.lst [.int (l - 1)])), some (.p t), none] = .ok ([.o (.lst (encL (kids p)))], [some (.p (enc p)), some (.io false (.lst [.int (l - 1)])), some (.p t), none]) := by simp only [evL, g1, bind_ok]
      have g3 : resL [some (.p (enc p)), some (.io false (.lst [.int (l - 1)])), some (.p t), none] [R.o (.lst (encL (kids p)))] = some [.lst (encL (kids p))] := rfl
      have g4 : evI .vals [.lst (encL (kids p))] = some ((kids p).map enc) := by rw [← encL_map]; rfl
      have g5 : lockL [some (.p (enc p)), some (.io false (.lst [.int (l - 1)])), some (.p t), none] [R.o (.lst (encL (kids p)))] = [some (.p (enc p)), some (.io false (.lst [.int (l - 1)])), some (.p t), none] := rfl
      rw [g2]
      simp only [bind_ok, g3, g4]
      rw [if_pos (by rfl), g5, e]
      rfl
    have hw := hwi p (replL t (kids p) (l - 1)).1 (replL_len t _ _)
    have c2 : evE C (.call wi [(.var 0), replComp inn rp]) [some (.p (enc p)), some (.io false (.lst [.int (l - 1)])), some (.p t), none] = .ok (.d (withD p (replL t (kids p) (l - 1)).1), [some (.p (enc p)), some (.io false (.lst [.int (replL t (kids p) (l - 1)).2])), some (.p t), none]) := by
      have v0 : evE C (.var 0) [some (.p (enc p)), some (.io false (.lst [.int (l - 1)])), some (.p t), none] = .ok (.d (enc p), [some (.p (enc p)), some (.io false (.lst [.int (l - 1)])), some (.p t), none]) := evE_var rfl
      have g2 : evL C [(.var 0), replComp inn rp] [some (.p (enc p)), some (.io false (.lst [.int (l - 1)])), some (.p t), none] = .ok ([.d (enc p), .o (.lst (replL t (kids p) (l - 1)).1)], [some (.p (enc p)), some (.io false (.lst [.int (replL t (kids p) (l - 1)).2])), some (.p t), none]) := by simp only [evL, v0, c1, bind_ok]
      rw [evE, g2]
      simp [callR, mwi, resL, resR, loan, apart, okP, sameK, hw, valIx, putIos]
    exact run_ret rfl (ts_nx s0 (ts_nx (ite_no c0 ts_nil) (ts_rt (by rw [evT, c2]; rfl)))) rfl
theorem repl_lvl {tab : List Fn} {W inn wi rp : Nat} (h1 : tab[inn]? = some inner2F) (h2 : tab[wi]? = some withF) (h3 : tab[rp]? = some (replF inn wi rp)) (t : D) : ∀ (n : Nat) (p : Pat) (l : Int), p.dep ≤ n → p.slim → (calls W tab (n + 1)).run rp [enc p, .lst [.int l], t] = .ok ((replD t p l).1, false, [.lst [.int (replD t p l).2]])
  | 0, p, l, h, _ => absurd (dep_pos p) (by omega)
  | n + 1, p, l, h, hs => by
    rw [run_at h3]
    exact repl_run (inner2_lvl h1 n) (md_at h2) (fun p xs hx => by rw [run_at h2]; exact with_run W _ p xs hx) (md_at h3) p t l (slim_kids hs).1 fun q hq l => repl_lvl h1 h2 h3 t n q l (by have := kid_dep hq; omega) ((slim_kids hs).2 q hq)
/-! counted -/
def countF (inn ct : Nat) : Fn := ⟨2, [false], [.ret (.pr .add [(.con (.int 1)), (.pr .sum [(.comp [1] (.nm 1) .vals [(.call inn [(.var 0)])] [] (.call ct [(.var 1)]))])])]⟩
theorem sum_sizes : ∀ ps : List Pat, (ps.map fun q => ((q.size : Nat) : Int)).sum = ((sizeL ps : Nat) : Int)
  | [] => rfl
  | p :: ps => by simp only [List.map_cons, List.sum_cons, sum_sizes ps, sizeL]; omega
theorem count_lvl {tab : List Fn} {W inn ct : Nat} (h1 : tab[inn]? = some inner2F) (h2 : tab[ct]? = some (countF inn ct)) : ∀ (n : Nat) (p : Pat), p.dep ≤ n → p.slim → (calls W tab (n + 1)).run ct [enc p] = .ok (.int ((p.size : Nat) : Int), false, [])
  | 0, p, h, _ => absurd (dep_pos p) (by omega)
  | n + 1, p, h, hs => by
    rw [run_at h2]
    have I : InnerOk (calls W tab (n + 1)) inn := inner2_lvl h1 n
    have hm : (calls W tab (n + 1)).md ct = some [false] := md_at h2
    have hk : ∀ q ∈ kids p, (calls W tab (n + 1)).run ct [enc q] = .ok (.int ((q.size : Nat) : Int), false, []) := fun q hq => count_lvl h1 h2 n q (by have := kid_dep hq; omega) ((slim_kids hs).2 q hq)
    have hl := (slim_kids hs).1
    generalize calls W tab (n + 1) = C at *
    have e1 : evE C (.call inn [(.var 0)]) [some (.p (enc p)), none] = .ok (.o (.lst (encL (kids p))), [some (.p (enc p)), none]) := call1 I.md (evE_var rfl) (I.run p)
    have e2 : evE C (.comp [1] (.nm 1) .vals [(.call inn [(.var 0)])] [] (.call ct [(.var 1)])) [some (.p (enc p)), none] = .ok (.o (.lst ((kids p).map fun q => .int ((q.size : Nat) : Int))), [some (.p (enc p)), none]) :=
      comp_vals (f := enc) (show 1 < 2 by decide) e1 (.inr rfl) (by rw [← encL_map]; rfl) rfl (fun q hq => ⟨_, call1 (δ1 := [some (.p (enc p)), some (.p (enc q))]) hm (evE_var rfl) (hk q hq), .inl rfl⟩) (by omega)
    have e3 : pev .sum [.lst ((kids p).map fun q => .int ((q.size : Nat) : Int))] = some (.sc (.int ((sizeL (kids p) : Nat) : Int))) := by
      have : ((kids p).map fun q => D.int ((q.size : Nat) : Int)) = ((kids p).map fun q => ((q.size : Nat) : Int)).map .int := by rw [List.map_map]; rfl
      simp only [pev, this, intsD_map, sum_sizes]
    have hz := kids_size p
    have hz2 : 1 + ((sizeL (kids p) : Nat) : Int) = ((p.size : Nat) : Int) := by omega
    have e4 : pev .add [.int 1, .int ((sizeL (kids p) : Nat) : Int)] = some (.sc (.int ((p.size : Nat) : Int))) := by rw [← hz2]; rfl
    exact run_ret (r := .d (.int ((p.size : Nat) : Int))) (δ' := [some (.p (enc p)), none]) rfl (ts_rt (ret_of (pr2_of evE_con (pr1_of e2 rfl e3) rfl rfl e4))) rfl
end Ev
set_option maxHeartbeats 4000000
/-! GenX: what is no pattern -/
namespace Ev
open PySem
mutual
def decD : D → Pat
  | .tup xs => decT xs
  | _ => .none
def decT : List D → Pat
  | [w] => if isW w "blank" then .blank else .none
  | [w, .str s] => .sign s
  | [w, .tup ys] => if isW w "again" then .again (decT ys) else if isW w "row" then .row (decL ys) else .pick (decL ys)
  | [_, .str x, q] => .held x (decD q)
  | [_, .int n, q] => .price n (decD q)
  | _ => .none
def decL : List D → List Pat
  | [] => []
  | x :: xs => decD x :: decL xs
end
mutual
theorem dec_enc : ∀ p : Pat, decD (enc p) = p
  | .none => by simp only [enc, decD, decT, w_ag.2.2.2.1]; rfl
  | .blank => by simp only [enc, decD, decT, w_ag.2.2.2.2.1, if_true]
  | .sign x => rfl
  | .row ps => by
    show (if isW (.str "row") "again" then Pat.again (decT (encL ps)) else if isW (.str "row") "row" then .row (decL (encL ps)) else .pick (decL (encL ps))) = _
    rw [w_ag.1, w_ag.2.2.2.2.2.2.1, decL_enc ps]; rfl
  | .pick ps => by
    show (if isW (.str "pick") "again" then Pat.again (decT (encL ps)) else if isW (.str "pick") "row" then .row (decL (encL ps)) else .pick (decL (encL ps))) = _
    rw [w_ag.2.1, w_ag.2.2.1, decL_enc ps]; rfl
  | .again p => by
    obtain ⟨ys, e⟩ := enc_tup p
    have h := dec_enc p
    show decT [.str "again", enc p] = _
    rw [e] at h ⊢
    show (if isW (.str "again") "again" then Pat.again (decT ys) else if isW (.str "again") "row" then .row (decL ys) else .pick (decL ys)) = _
    rw [w_ag.2.2.2.2.2.1, if_pos rfl]
    exact congrArg Pat.again h
  | .held x p => congrArg (Pat.held x) (dec_enc p)
  | .price n p => congrArg (Pat.price n) (dec_enc p)
theorem decL_enc : ∀ ps : List Pat, decL (encL ps) = ps
  | [] => rfl
  | p :: ps => by simp only [encL, decL, dec_enc p, decL_enc ps]
end
theorem enc_inj {p q : Pat} (h : enc p = enc q) : p = q := by
  have := congrArg decD h
  rwa [dec_enc, dec_enc] at this
theorem form_deep {d : Nat} {p : Pat} (r : Int) (h : d < p.dep) : (form d r (enc p)).1 = false := by
  refine Bool.eq_false_iff.mpr fun c => ?_
  obtain ⟨q, e, a, _⟩ := form_true d r (enc p) c
  obtain rfl := enc_inj e
  omega
theorem form_big {d : Nat} {p : Pat} {r : Int} (h : r < p.size) : (form d r (enc p)).1 = false := by
  refine Bool.eq_false_iff.mpr fun c => ?_
  obtain ⟨q, e, _, b, k⟩ := form_true d r (enc p) c
  obtain rfl := enc_inj e
  omega
/-! what may be a pattern -/
mutual
def patB : D → Bool
  | .tup xs => patT xs
  | _ => false
def patT : List D → Bool
  | [w] => isW w "none" || isW w "blank"
  | [w, .str s] => isW w "sign" && signsB (.str s)
  | [w, .tup ys] => if isW w "row" || isW w "pick" then (decide (2 ≤ ys.length) && decide (ys.length ≤ 6)) && patL ys else if isW w "again" then patT ys && !blkT ys else false
  | [w, a, x] => if isW w "held" then wordB a && patB x else if isW w "price" then (wholeB a && in1000 a) && patB x else false
  | _ => false
def patL : List D → Bool
  | [] => true
  | x :: xs => patB x && patL xs
end
theorem patT3 (w a x : D) : patB (.tup [w, a, x]) = if isW w "held" then wordB a && patB x else if isW w "price" then (wholeB a && in1000 a) && patB x else false := by
  cases a <;> rfl
theorem all_patB (f : Int → D → Bool × Int) (hf : ∀ r x, (f r x).1 = true → patB x = true) : ∀ (ys : List D) (r : Int), (formAll f r ys).1.all id = true → patL ys = true
  | [], _, _ => rfl
  | y :: ys, r, h => by
    simp only [formAll, List.all_cons, Bool.and_eq_true, id] at h
    simp only [patL, hf r y h.1, all_patB f hf ys _ h.2, Bool.and_self]
theorem form_patB : ∀ (d : Nat) (r : Int) (x : D), (form d r x).1 = true → patB x = true
  | 0, r, x, h => by cases h
  | d + 1, r, x, h => by
    match x, h with
    | .tup (w :: xs), h =>
      have e : form (d + 1) r (.tup (w :: xs)) = if r - 1 < 0 then (false, r - 1) else formW (form d) (r - 1) w xs := rfl
      rw [e] at h
      split at h
      · cases h
      · have ih := form_patB d
        unfold formW at h
        cases h1 : (isW w "none" || isW w "blank") with
        | true =>
          rw [h1] at h
          have h : decide (xs.length = 0) = true := h
          have hx : xs = [] := List.eq_nil_of_length_eq_zero (of_decide_eq_true h)
          subst hx
          exact h1
        | false =>
        rw [h1] at h
        rw [if_neg Bool.false_ne_true] at h
        cases h2 : isW w "sign" with
        | true =>
          rw [h2, if_pos rfl] at h
          match xs, h with
          | [x], h =>
            cases x with
            | str s =>
              show (isW w "sign" && signsB (.str s)) = true
              rw [h2]; exact h
            | _ => cases h
          | [], h => cases h
          | _ :: _ :: _, h => cases h
        | false =>
        rw [h2, if_neg Bool.false_ne_true] at h
        cases h3 : (isW w "row" || isW w "pick") with
        | true =>
          rw [h3, if_pos rfl] at h
          match xs, h with
          | [x], h =>
            cases x with
            | tup ys =>
              have h : (if 2 ≤ ys.length ∧ ys.length ≤ 6 then ((formAll (form d) (r - 1) ys).1.all id, (formAll (form d) (r - 1) ys).2) else (false, r - 1)).1 = true := h
              split at h
              · rename_i hb
                show (if isW w "row" || isW w "pick" then (decide (2 ≤ ys.length) && decide (ys.length ≤ 6)) && patL ys else _) = true
                rw [h3, if_pos rfl, decide_eq_true hb.1, decide_eq_true hb.2, all_patB (form d) ih ys _ h]; rfl
              · cases h
            | _ => cases h
          | [], h => cases h
          | _ :: _ :: _, h => cases h
        | false =>
        rw [h3, if_neg Bool.false_ne_true] at h
        cases h4 : isW w "again" with
        | true =>
          rw [h4, if_pos rfl] at h
          match xs, h with
          | [x], h =>
            have h : ((form d (r - 1) x).1 && !blkD x) = true := h
            have h5 := Bool.and_eq_true_iff.mp h
            have h6 := ih (r - 1) x h5.1
            cases x with
            | tup ys =>
              show (if isW w "row" || isW w "pick" then _ else if isW w "again" then patT ys && !blkT ys else false) = true
              rw [h3, if_neg Bool.false_ne_true, h4, if_pos rfl]
              exact Bool.and_eq_true_iff.mpr ⟨h6, h5.2⟩
            | _ => cases h6
          | [], h => cases h
          | _ :: _ :: _, h => cases h
        | false =>
        rw [h4, if_neg Bool.false_ne_true] at h
        match xs, h with
        | [a, x], h =>
          have hh : (if isW w "held" then (if wordB a then form d (r - 1) x else (false, r - 1)) else if isW w "price" && wholeB a && in1000 a then form d (r - 1) x else (false, r - 1)).1 = true := h
          rw [patT3]
          cases h6 : isW w "held" with
          | true =>
            rw [h6, if_pos rfl] at hh
            rw [if_pos rfl]
            cases h7 : wordB a with
            | true => rw [h7, if_pos rfl] at hh; rw [ih _ _ hh]; rfl
            | false => rw [h7, if_neg Bool.false_ne_true] at hh; cases hh
          | false =>
            rw [h6, if_neg Bool.false_ne_true] at hh
            rw [if_neg Bool.false_ne_true]
            cases h7 : (isW w "price" && wholeB a && in1000 a) with
            | true =>
              rw [h7, if_pos rfl] at hh
              simp only [Bool.and_eq_true] at h7
              rw [h7.1.1, if_pos rfl, h7.1.2, h7.2, ih _ _ hh]; rfl
            | false => rw [h7, if_neg Bool.false_ne_true] at hh; cases hh
        | [], h => cases h
        | [_], h => cases h
        | _ :: _ :: _ :: _, h => cases h
    | .tup [], h => cases h
    | .non, h => cases h
    | .bl _, h => cases h
    | .int _, h => cases h
    | .str _, h => cases h
    | .lst _, h => cases h
    | .dct _ _, h => cases h
/-! a thing in the place of a make -/
mutual
theorem replD_far (t : D) : ∀ (p : Pat) (l : Int), (p.size : Int) ≤ l → (replD t p l).2 = l - p.size
  | .none, l, h => by simp only [Pat.size] at h ⊢; simp only [replD]; rw [if_neg (by omega)]; rfl
  | .blank, l, h => by simp only [Pat.size] at h ⊢; simp only [replD]; rw [if_neg (by omega)]; rfl
  | .sign x, l, h => by simp only [Pat.size] at h ⊢; simp only [replD]; rw [if_neg (by omega)]; rfl
  | .row ps, l, h => by
    simp only [Pat.size] at h ⊢; simp only [replD]; rw [if_neg (by omega)]
    have := replL_far t ps (l - 1) (by omega)
    show (replL t ps (l - 1)).2 = _; omega
  | .pick ps, l, h => by
    simp only [Pat.size] at h ⊢; simp only [replD]; rw [if_neg (by omega)]
    have := replL_far t ps (l - 1) (by omega)
    show (replL t ps (l - 1)).2 = _; omega
  | .again p, l, h => by
    simp only [Pat.size] at h ⊢; simp only [replD]; rw [if_neg (by omega)]
    have := replD_far t p (l - 1) (by omega)
    show (replD t p (l - 1)).2 = _; omega
  | .held x p, l, h => by
    simp only [Pat.size] at h ⊢; simp only [replD]; rw [if_neg (by omega)]
    have := replD_far t p (l - 1) (by omega)
    show (replD t p (l - 1)).2 = _; omega
  | .price n p, l, h => by
    simp only [Pat.size] at h ⊢; simp only [replD]; rw [if_neg (by omega)]
    have := replD_far t p (l - 1) (by omega)
    show (replD t p (l - 1)).2 = _; omega
theorem replL_far (t : D) : ∀ (ps : List Pat) (l : Int), (sizeL ps : Int) ≤ l → (replL t ps l).2 = l - sizeL ps
  | [], l, h => by simp [replL, sizeL]
  | p :: ps, l, h => by
    simp only [sizeL] at h ⊢
    have e := replD_far t p l (by omega)
    have := replL_far t ps (replD t p l).2 (by omega)
    simp only [replL]; omega
end
theorem w_two : (isW (.str "row") "row" || isW (.str "row") "pick") = true ∧ (isW (.str "pick") "row" || isW (.str "pick") "pick") = true ∧ (isW (.str "again") "row" || isW (.str "again") "pick") = false ∧ isW (.str "again") "sign" = false ∧ isW (.str "held") "held" = true := by decide +kernel
theorem pat_again {x : D} (h : patB (.tup [.str "again", x]) = true) : patB x = true := by
  cases x with
  | tup ys =>
    have h : (if isW (.str "again") "row" || isW (.str "again") "pick" then (decide (2 ≤ ys.length) && decide (ys.length ≤ 6)) && patL ys else if isW (.str "again") "again" then patT ys && !blkT ys else false) = true := h
    rw [w_two.2.2.1, if_neg Bool.false_ne_true, w_ag.2.2.2.2.2.1, if_pos rfl] at h
    exact (Bool.and_eq_true_iff.mp h).1
  | str s =>
    have h : (isW (.str "again") "sign" && signsB (.str s)) = true := h
    rw [w_two.2.2.2.1, Bool.false_and] at h
    cases h
  | _ => cases h
theorem pat_rows {ys : List D} {w : Str} (hw : (isW (.str w) "row" || isW (.str w) "pick") = true) (h : patB (.tup [.str w, .tup ys]) = true) : patL ys = true := by
  have h : (if isW (.str w) "row" || isW (.str w) "pick" then (decide (2 ≤ ys.length) && decide (ys.length ≤ 6)) && patL ys else if isW (.str w) "again" then patT ys && !blkT ys else false) = true := h
  rw [hw, if_pos rfl] at h
  exact (Bool.and_eq_true_iff.mp h).2
theorem pat_three {w a x : D} (h : patB (.tup [w, a, x]) = true) : patB x = true := by
  rw [patT3] at h
  split at h
  · exact (Bool.and_eq_true_iff.mp h).2
  · split at h
    · exact (Bool.and_eq_true_iff.mp h).2
    · cases h
mutual
theorem repl_bad (t : D) : ∀ (p : Pat) (l : Int), 0 ≤ l → l < p.size → patB (replD t p l).1 = true → patB t = true
  | .none, l, h0, h1, h => by simp only [Pat.size] at h1; simp only [replD] at h; rw [if_pos (by omega)] at h; exact h
  | .blank, l, h0, h1, h => by simp only [Pat.size] at h1; simp only [replD] at h; rw [if_pos (by omega)] at h; exact h
  | .sign x, l, h0, h1, h => by simp only [Pat.size] at h1; simp only [replD] at h; rw [if_pos (by omega)] at h; exact h
  | .row ps, l, h0, h1, h => by
    simp only [Pat.size] at h1; simp only [replD] at h
    split at h
    · exact h
    · exact replL_bad t ps (l - 1) (by omega) (by omega) (pat_rows w_two.1 h)
  | .pick ps, l, h0, h1, h => by
    simp only [Pat.size] at h1; simp only [replD] at h
    split at h
    · exact h
    · exact replL_bad t ps (l - 1) (by omega) (by omega) (pat_rows w_two.2.1 h)
  | .again p, l, h0, h1, h => by
    simp only [Pat.size] at h1; simp only [replD] at h
    split at h
    · exact h
    · exact repl_bad t p (l - 1) (by omega) (by omega) (pat_again h)
  | .held x p, l, h0, h1, h => by
    simp only [Pat.size] at h1; simp only [replD] at h
    split at h
    · exact h
    · exact repl_bad t p (l - 1) (by omega) (by omega) (pat_three h)
  | .price n p, l, h0, h1, h => by
    simp only [Pat.size] at h1; simp only [replD] at h
    split at h
    · exact h
    · exact repl_bad t p (l - 1) (by omega) (by omega) (pat_three h)
theorem replL_bad (t : D) : ∀ (ps : List Pat) (l : Int), 0 ≤ l → l < sizeL ps → patL (replL t ps l).1 = true → patB t = true
  | [], l, h0, h1, _ => by simp only [sizeL] at h1; omega
  | p :: ps, l, h0, h1, h => by
    simp only [sizeL] at h1
    simp only [replL, patL, Bool.and_eq_true] at h
    by_cases hl : l < p.size
    · exact repl_bad t p l h0 hl h.1
    · have e := replD_far t p l (by omega)
      exact replL_bad t ps (replD t p l).2 (by omega) (by omega) h.2
end
/-! data to be looked at -/
structure Snd (d : D) (n : Nat) : Prop where
  py : ∃ y, toPy d = some y ∧ y.canLay0 = true ∧ y.depth ≤ n
  sane : d.sane
structure SndL (xs : List D) (n : Nat) : Prop where
  py : ∃ ys, toPyL xs = some ys ∧ PyData.canLayAll0 ys = true ∧ PyData.depthAll ys ≤ n
  sane : saneL xs
theorem Snd.wd {d : D} {n : Nat} (h : Snd d n) (hn : n ≤ 64) : Wd d := by
  obtain ⟨y, e, a, b⟩ := h.py
  refine ⟨y, e, ?_⟩
  show (y.canLay0 && decide (y.depth ≤ 64)) = true
  rw [a, decide_eq_true (by omega)]; rfl
theorem Snd.mono {d : D} {m n : Nat} (h : Snd d m) (hn : m ≤ n) : Snd d n := by
  obtain ⟨y, e, a, b⟩ := h.py
  exact ⟨⟨y, e, a, by omega⟩, h.sane⟩
theorem SndL.nil {n : Nat} : SndL [] n := ⟨⟨[], rfl, rfl, Nat.zero_le _⟩, trivial⟩
theorem SndL.cons {x : D} {xs : List D} {n : Nat} (h : Snd x n) (g : SndL xs n) (hn : n ≤ 64) : SndL (x :: xs) n := by
  obtain ⟨y, e, a, b⟩ := h.py
  obtain ⟨ys, e2, a2, b2⟩ := g.py
  refine ⟨⟨y :: ys, by simp only [toPyL, e, e2], by simp only [PyData.canLayAll0, a, a2, Bool.and_self], by simp only [PyData.depthAll]; omega⟩, ⟨h.wd hn, h.sane⟩, g.sane⟩
theorem SndL.tup {xs : List D} {n : Nat} (h : SndL xs n) : Snd (.tup xs) (n + 1) := by
  obtain ⟨ys, e, a, b⟩ := h.py
  exact ⟨⟨.tuple ys, by simp only [toPy, e], by simp only [PyData.canLay0, a], by simp only [PyData.depth]; omega⟩, h.sane⟩
theorem snd_str {x : Str} (h : PyData.strOk x = true) (hl : x.length ≤ 1000) (n : Nat) : Snd (.str x) n := ⟨⟨.str x, rfl, h, Nat.zero_le _⟩, hl⟩
theorem snd_int (i : Int) (n : Nat) : Snd (.int i) n := ⟨⟨.int i, rfl, rfl, Nat.zero_le _⟩, trivial⟩
theorem snd_enc {p : Pat} (h : p.ok) (hd : p.dep ≤ 30) : Snd (enc p) (2 * p.dep) := ⟨⟨pyP p, toPy_enc p, lay_ok p h, dep_py p⟩, sane_enc p h hd⟩
theorem snd_tag {n : Nat} {w : Str} (h : (PyData.strOk w && decide (w.length ≤ 1000)) = true) : Snd (.str w) n := by
  simp only [Bool.and_eq_true, decide_eq_true_eq] at h
  exact snd_str h.1 h.2 n
mutual
theorem snd_repl (t : D) (k : Nat) (ht : Snd t k) (hk : k ≤ 10) : ∀ (p : Pat) (l : Int), p.ok → p.dep ≤ 15 → Snd (replD t p l).1 (2 * p.dep + k)
  | .none, l, h, hd => by
    simp only [replD]; split
    · exact ht.mono (by omega)
    · exact (snd_enc (p := .none) h (by omega)).mono (by omega)
  | .blank, l, h, hd => by
    simp only [replD]; split
    · exact ht.mono (by omega)
    · exact (snd_enc (p := .blank) h (by omega)).mono (by omega)
  | .sign x, l, h, hd => by
    simp only [replD]; split
    · exact ht.mono (by omega)
    · exact (snd_enc (p := .sign x) h (by omega)).mono (by omega)
  | .row ps, l, h, hd => by
    simp only [Pat.dep] at hd ⊢
    simp only [replD]; split
    · exact ht.mono (by omega)
    · have g := sndL_repl t k ht hk ps (l - 1) h.2 (by omega)
      exact (SndL.cons (n := 2 * depL ps + k + 1) (snd_tag (by decide +kernel)) (SndL.cons g.tup SndL.nil (by omega)) (by omega)).tup.mono (by omega)
  | .pick ps, l, h, hd => by
    simp only [Pat.dep] at hd ⊢
    simp only [replD]; split
    · exact ht.mono (by omega)
    · have g := sndL_repl t k ht hk ps (l - 1) h.2 (by omega)
      exact (SndL.cons (n := 2 * depL ps + k + 1) (snd_tag (by decide +kernel)) (SndL.cons g.tup SndL.nil (by omega)) (by omega)).tup.mono (by omega)
  | .again p, l, h, hd => by
    simp only [Pat.dep] at hd ⊢
    simp only [replD]; split
    · exact ht.mono (by omega)
    · have g := snd_repl t k ht hk p (l - 1) h (by omega)
      exact (SndL.cons (n := 2 * p.dep + k) (snd_tag (by decide +kernel)) (SndL.cons g SndL.nil (by omega)) (by omega)).tup.mono (by omega)
  | .held x p, l, h, hd => by
    simp only [Pat.dep] at hd ⊢
    simp only [replD]; split
    · exact ht.mono (by omega)
    · have g := snd_repl t k ht hk p (l - 1) h.2 (by omega)
      exact (SndL.cons (n := 2 * p.dep + k) (snd_tag (by decide +kernel)) (SndL.cons (snd_str h.1.2.2 h.1.2.1 _) (SndL.cons g SndL.nil (by omega)) (by omega)) (by omega)).tup.mono (by omega)
  | .price n p, l, h, hd => by
    simp only [Pat.dep] at hd ⊢
    simp only [replD]; split
    · exact ht.mono (by omega)
    · have g := snd_repl t k ht hk p (l - 1) h.2 (by omega)
      exact (SndL.cons (n := 2 * p.dep + k) (snd_tag (by decide +kernel)) (SndL.cons (snd_int n _) (SndL.cons g SndL.nil (by omega)) (by omega)) (by omega)).tup.mono (by omega)
theorem sndL_repl (t : D) (k : Nat) (ht : Snd t k) (hk : k ≤ 10) : ∀ (ps : List Pat) (l : Int), okL ps → depL ps ≤ 15 → SndL (replL t ps l).1 (2 * depL ps + k)
  | [], l, _, _ => SndL.nil
  | p :: ps, l, h, hd => by
    simp only [depL] at hd ⊢
    obtain ⟨⟨ys, e, a, b⟩, s⟩ := sndL_repl t k ht hk ps (replD t p l).2 h.2 (by omega)
    exact SndL.cons ((snd_repl t k ht hk p l h.1 (by omega)).mono (by omega)) ⟨⟨ys, e, a, by omega⟩, s⟩ (by omega)
end
theorem repl_tup (t : D) (p : Pat) (l : Int) : isTup (replD t p l).1 = if l = 0 then isTup t else true := by
  rw [replD_eq]
  split
  · rfl
  · have hl := replL_len t (kids p) (l - 1)
    cases p with
    | again p =>
      match (replL t (kids (.again p)) (l - 1)).1, hl with
      | [x], _ => rfl
    | held n p =>
      match (replL t (kids (.held n p)) (l - 1)).1, hl with
      | [x], _ => rfl
    | price n p =>
      match (replL t (kids (.price n p)) (l - 1)).1, hl with
      | [x], _ => rfl
    | _ => rfl
/-- the depth, told by another account of the parts -/
theorem depth2_lvl {tab : List Fn} {W inn dp : Nat} (h1 : tab[inn]? = some inner2F) (h2 : tab[dp]? = some (depthF inn dp)) : ∀ (n : Nat) (p : Pat), p.dep ≤ n → p.slim → (calls W tab (n + 1)).run dp [enc p] = .ok (.int ((p.dep : Nat) : Int), false, [])
  | 0, p, h, _ => absurd (dep_pos p) (by omega)
  | n + 1, p, h, hs => by
    rw [run_at h2]
    have I : InnerOk (calls W tab (n + 1)) inn := inner2_lvl h1 n
    have hmd : (calls W tab (n + 1)).md dp = some [false] := md_at h2
    have hk : ∀ q ∈ kids p, (calls W tab (n + 1)).run dp [enc q] = .ok (.int ((q.dep : Nat) : Int), false, []) := fun q hq => depth2_lvl h1 h2 n q (by have := kid_dep hq; omega) ((slim_kids hs).2 q hq)
    have hl := (slim_kids hs).1
    generalize calls W tab (n + 1) = C at *
    have e1 : evE C (.call inn [(.var 0)]) [some (.p (enc p)), none] = .ok (.o (.lst (encL (kids p))), [some (.p (enc p)), none]) := call1 I.md (evE_var rfl) (I.run p)
    have e2 : evE C (.comp [1] (.nm 1) .vals [(.call inn [(.var 0)])] [] (.call dp [(.var 1)])) [some (.p (enc p)), none] = .ok (.o (.lst ((kids p).map fun q => .int ((q.dep : Nat) : Int))), [some (.p (enc p)), none]) :=
      comp_vals (f := enc) (show 1 < 2 by decide) e1 (.inr rfl) (by rw [← encL_map]; rfl) rfl (fun q hq => ⟨_, call1 (δ1 := [some (.p (enc p)), some (.p (enc q))]) hmd (evE_var rfl) (hk q hq), .inl rfl⟩) (by omega)
    have e3 : pev .maxd [.lst ((kids p).map fun q => .int ((q.dep : Nat) : Int)), .int 0] = some (.sc (.int ((depL (kids p) : Nat) : Int))) := by
      have : ((kids p).map fun q => D.int ((q.dep : Nat) : Int)) = ((kids p).map fun q => ((q.dep : Nat) : Int)).map .int := by rw [List.map_map]; rfl
      simp only [pev, this, intsD_map, bestI_dep]
    have hd := kids_dep p
    have e4 : pev .add [.int 1, .int ((depL (kids p) : Nat) : Int)] = some (.sc (.int ((p.dep : Nat) : Int))) := by
      have hd2 : 1 + ((depL (kids p) : Nat) : Int) = ((p.dep : Nat) : Int) := by omega
      rw [← hd2]; rfl
    exact run_ret (r := .d (.int ((p.dep : Nat) : Int))) (δ' := [some (.p (enc p)), none]) rfl (ts_rt (ret_of (pr2_of evE_con (pr2_of e2 evE_con rfl rfl e3) rfl rfl e4))) rfl
end Ev
set_option maxHeartbeats 4000000
/-! GenY: the least number of signs -/
namespace Ev
open PySem
/-! plain: the least number of signs -/
mutual
def least : Pat → Int
  | .sign _ => 1
  | .blank => 0
  | .again _ => 0
  | .row ps => if (-1 : Int) ∈ leastL ps then -1 else (leastL ps).sum
  | .pick ps => bestI min (-1) ((leastL ps).filter (0 ≤ ·))
  | .held _ p => bestI min (-1) ([least p].filter (0 ≤ ·))
  | .price _ p => bestI min (-1) ([least p].filter (0 ≤ ·))
  | .none => -1
def leastL : List Pat → List Int
  | [] => []
  | p :: ps => least p :: leastL ps
end
theorem leastL_map : ∀ ps : List Pat, leastL ps = ps.map least
  | [] => rfl
  | p :: ps => by rw [leastL, leastL_map ps]; rfl
theorem least_eq (p : Pat) : least p = if p.isSign then 1 else if p.isBA then 0 else if p.isRow then (if (-1 : Int) ∈ (kids p).map least then -1 else ((kids p).map least).sum) else bestI min (-1) (((kids p).map least).filter (0 ≤ ·)) := by
  cases p <;> simp [least, Pat.isSign, Pat.isBA, Pat.isRow, kids, leastL_map, bestI]
theorem foldl_min_spec : ∀ (l : List Int) (m : Int), 0 ≤ m → (∀ x ∈ l, 0 ≤ x) → 0 ≤ l.foldl min m ∧ (l.foldl min m = 0 ↔ m = 0 ∨ 0 ∈ l)
  | [], m, h, _ => ⟨h, by simp⟩
  | x :: l, m, h, hl => by
    have hx := hl x List.mem_cons_self
    obtain ⟨a, b⟩ := foldl_min_spec l (min m x) (by omega) fun y hy => hl y (List.mem_cons_of_mem _ hy)
    refine ⟨a, ?_⟩
    simp only [List.foldl_cons]
    rw [b, List.mem_cons]
    constructor
    · rintro (e | e)
      · by_cases hm : m = 0
        · exact .inl hm
        · exact .inr (.inl (by omega))
      · exact .inr (.inr e)
    · rintro (e | e | e)
      · exact .inl (by omega)
      · exact .inl (by omega)
      · exact .inr e
theorem best_spec (l : List Int) : let b := bestI min (-1) (l.filter (0 ≤ ·)); -1 ≤ b ∧ (b = 0 ↔ 0 ∈ l) ∧ (0 ≤ b ↔ ∃ x ∈ l, 0 ≤ x) := by
  intro b
  have hf : ∀ x, x ∈ l.filter (0 ≤ ·) ↔ x ∈ l ∧ 0 ≤ x := fun x => by simp
  cases e : l.filter (0 ≤ ·) with
  | nil =>
    have hb : b = -1 := by show bestI min (-1) (l.filter (0 ≤ ·)) = -1; rw [e]; rfl
    have no : ∀ x ∈ l, ¬ 0 ≤ x := fun x hx h0 => by
      have := (hf x).mpr ⟨hx, h0⟩
      rw [e] at this; cases this
    refine ⟨by omega, ⟨fun h => by omega, fun h => absurd (Int.le_refl 0) (no 0 h)⟩, ⟨fun h => by omega, fun ⟨x, hx, h0⟩ => absurd h0 (no x hx)⟩⟩
  | cons y ys =>
    have hb : b = ys.foldl min y := by show bestI min (-1) (l.filter (0 ≤ ·)) = _; rw [e]; rfl
    have hy := (hf y).mp (by rw [e]; exact List.mem_cons_self)
    obtain ⟨a, c⟩ := foldl_min_spec ys y hy.2 fun x hx => ((hf x).mp (by rw [e]; exact List.mem_cons_of_mem _ hx)).2
    rw [hb]
    refine ⟨by omega, ?_, ⟨fun _ => ⟨y, hy⟩, fun _ => a⟩⟩
    rw [c]
    have h0 : 0 ∈ l ↔ (0 : Int) ∈ y :: ys := by
      rw [← e, hf]; simp
    rw [h0, List.mem_cons]
    exact ⟨fun h => h.imp (fun e => e.symm) id, fun h => h.imp (fun e => e.symm) id⟩
theorem sum_spec : ∀ l : List Int, (∀ x ∈ l, 0 ≤ x) → 0 ≤ l.sum ∧ (l.sum = 0 ↔ ∀ x ∈ l, x = 0)
  | [], _ => ⟨Int.le_refl _, by simp⟩
  | x :: l, h => by
    have hx := h x List.mem_cons_self
    obtain ⟨a, b⟩ := sum_spec l fun y hy => h y (List.mem_cons_of_mem _ hy)
    simp only [List.sum_cons]
    refine ⟨by omega, ?_⟩
    rw [List.forall_mem_cons, ← b]
    omega
/-- what least tells -/
structure LeastOk (p : Pat) : Prop where
  ge : -1 ≤ least p
  zero : (least p = 0 ↔ p.blk = true)
  nn : (0 ≤ least p ↔ p.txt = true)
theorem least_step (p : Pat) (h : ∀ q ∈ kids p, LeastOk q) : LeastOk p := by
  have hb := blk_eq p
  have ht := txt_eq p
  have hl := least_eq p
  by_cases h1 : p.isSign = true
  · cases p with
    | sign x => exact ⟨by rw [hl, if_pos h1]; omega, by rw [hl, if_pos h1]; simp [Pat.blk], by rw [hl, if_pos h1]; simp [Pat.txt]⟩
    | _ => cases h1
  · rw [if_neg h1] at hl
    by_cases h2 : p.isBA = true
    · rw [if_pos h2] at hl hb
      have h3 : p.isBSA = true := by cases p <;> first | rfl | cases h2
      rw [if_pos h3] at ht
      exact ⟨by omega, by rw [hl, hb]; simp, by rw [hl, ht]; simp⟩
    · rw [if_neg h2] at hl hb
      have h3 : ¬ p.isBSA = true := by
        cases p <;> simp [Pat.isSign, Pat.isBA, Pat.isBSA] at h1 h2 ⊢
      rw [if_neg h3] at ht
      by_cases h4 : p.isRow = true
      · rw [if_pos h4] at hl hb ht
        by_cases h5 : (-1 : Int) ∈ (kids p).map least
        · rw [if_pos h5] at hl
          obtain ⟨q, hq, e⟩ := List.mem_map.mp h5
          have Q := h q hq
          have b1 : p.blk = false := by
            rw [hb, allBlk_eq]
            refine Bool.eq_false_iff.mpr fun c => ?_
            have := List.all_eq_true.mp c _ (List.mem_map.mpr ⟨q, hq, rfl⟩)
            have := Q.zero.mpr this
            omega
          have t1 : p.txt = false := by
            rw [ht, allTxt_eq]
            refine Bool.eq_false_iff.mpr fun c => ?_
            have := List.all_eq_true.mp c _ (List.mem_map.mpr ⟨q, hq, rfl⟩)
            have := Q.nn.mpr this
            omega
          exact ⟨by omega, by rw [hl, b1]; simp, by rw [hl, t1]; simp⟩
        · rw [if_neg h5] at hl
          have h6 : ∀ q ∈ kids p, 0 ≤ least q := fun q hq => by
            have := (h q hq).ge
            by_cases e : least q = -1
            · exact absurd (List.mem_map.mpr ⟨q, hq, e⟩) h5
            · omega
          obtain ⟨a, b⟩ := sum_spec ((kids p).map least) fun x hx => by
            obtain ⟨q, hq, rfl⟩ := List.mem_map.mp hx
            exact h6 q hq
          refine ⟨by omega, ?_, ?_⟩
          · rw [hl, b, hb, allBlk_eq, List.all_eq_true]
            constructor
            · intro c x hx
              obtain ⟨q, hq, rfl⟩ := List.mem_map.mp hx
              exact (h q hq).zero.mp (c _ (List.mem_map.mpr ⟨q, hq, rfl⟩))
            · intro c x hx
              obtain ⟨q, hq, rfl⟩ := List.mem_map.mp hx
              exact (h q hq).zero.mpr (c _ (List.mem_map.mpr ⟨q, hq, rfl⟩))
          · rw [hl, ht, allTxt_eq, List.all_eq_true]
            refine ⟨fun _ x hx => ?_, fun _ => a⟩
            obtain ⟨q, hq, rfl⟩ := List.mem_map.mp hx
            exact (h q hq).nn.mp (h6 q hq)
      · rw [if_neg h4] at hl hb ht
        obtain ⟨a, b, c⟩ := best_spec ((kids p).map least)
        refine ⟨by rw [hl]; exact a, ?_, ?_⟩
        · rw [hl, b, hb, anyBlk_eq, List.any_eq_true]
          constructor
          · intro q
            obtain ⟨q, hq, e⟩ := List.mem_map.mp q
            exact ⟨_, List.mem_map.mpr ⟨q, hq, rfl⟩, (h q hq).zero.mp e⟩
          · rintro ⟨x, hx, e⟩
            obtain ⟨q, hq, rfl⟩ := List.mem_map.mp hx
            exact List.mem_map.mpr ⟨q, hq, (h q hq).zero.mpr e⟩
        · rw [hl, c, ht, anyTxt_eq, List.any_eq_true]
          constructor
          · rintro ⟨x, hx, e⟩
            obtain ⟨q, hq, rfl⟩ := List.mem_map.mp hx
            exact ⟨_, List.mem_map.mpr ⟨q, hq, rfl⟩, (h q hq).nn.mp e⟩
          · rintro ⟨x, hx, e⟩
            obtain ⟨q, hq, rfl⟩ := List.mem_map.mp hx
            exact ⟨_, List.mem_map.mpr ⟨q, hq, rfl⟩, (h q hq).nn.mpr e⟩
theorem least_ok : ∀ (n : Nat) (p : Pat), p.dep ≤ n → LeastOk p
  | 0, p, h => absurd (dep_pos p) (by omega)
  | n + 1, p, h => least_step p fun q hq => least_ok n q (by have := kid_dep hq; omega)
def leastF (inn ls : Nat) : Fn := ⟨4, [false], [.asg (.nm 1) (.comp [2] (.nm 2) .vals [(.call inn [(.var 0)])] [] (.call ls [(.var 2)])), .ite (.pr .eq [(.pr .idx [(.var 0), (.con (.int 0))]), (.con (.str "sign"))]) [.ret (.con (.int 1))] [], .ite (.pr .inn [(.pr .idx [(.var 0), (.con (.int 0))]), (.lst [(.con (.str "blank")), (.con (.str "again"))])]) [.ret (.con (.int 0))] [], .ite (.pr .eq [(.pr .idx [(.var 0), (.con (.int 0))]), (.con (.str "row"))]) [.ret (.pr .idx [(.lst [(.pr .sum [(.var 1)]), (.pr .neg [(.con (.int 1))])]), (.pr .int [(.pr .inn [(.pr .neg [(.con (.int 1))]), (.var 1)])])])] [], .ret (.pr .mind [(.comp [3] (.nm 3) .vals [(.var 1)] [(.pr .ge [(.var 3), (.con (.int 0))])] (.var 3)), (.pr .neg [(.con (.int 1))])])]⟩
theorem in_ints (L : List Int) (k : Int) : pev .inn [.int k, .lst (L.map .int)] = some (.sc (.bl (decide (k ∈ L)))) := by
  have hs : (L.map D.int).all D.scal = true := by simp [D.scal]
  have e : pev .inn [.int k, .lst (L.map .int)] = if (D.int k).scal && (L.map D.int).all D.scal then some (PR.sc (.bl (L2.inV (toV (.int k)) ((L.map D.int).map toV)))) else match toPy (.int k), toPyL (L.map D.int) with
      | some d, some ds => if SeqAt.shaped d && SeqAt.shaped (.list ds) then some (.sc (.bl (if false then !(ds.any fun z => z.eqv d) else ds.any fun z => z.eqv d))) else none
      | _, _ => none := rfl
  rw [e, hs, if_pos (by rfl)]
  have g : L2.inV (toV (.int k)) ((L.map D.int).map toV) = decide (k ∈ L) := by
    unfold L2.inV
    rw [List.map_map, List.any_map]
    by_cases h : k ∈ L
    · rw [decide_eq_true h]
      exact List.any_eq_true.mpr ⟨k, h, by show (k == k) = true; simp⟩
    · rw [decide_eq_false h]
      refine Bool.eq_false_iff.mpr fun c => h ?_
      obtain ⟨x, hx, e⟩ := List.any_eq_true.mp c
      have e : (x == k) = true := e
      have := eq_of_beq e
      subst this; exact hx
  rw [g]
theorem filt_loop {C : Calls} (s0 s1 s2 : Option S) : ∀ (ns : List Int) (acc : List D) (s3 : Option S), acc.length + ns.length ≤ 100000 →
    ∃ s3', compLoop [3] (.nm 3) (fun δ => evIfs C [(.pr .ge [(.var 3), (.con (.int 0))])] δ) (fun δ => evE C (.var 3) δ) (ns.map .int) [s0, s1, s2, s3] acc = .ok (acc ++ (ns.filter (0 ≤ ·)).map .int, [s0, s1, s2, s3'])
  | [], acc, s3, _ => ⟨s3, by simp [compLoop]⟩
  | n :: ns, acc, s3, hl => by
    simp only [List.length_cons] at hl
    have e1 : bindTg (wipeD [s0, s1, s2, s3] [3]) (.nm 3) (.int n) = some [s0, s1, s2, some (.p (.int n))] := rfl
    have e2 : evE C (.pr .ge [(.var 3), (.con (.int 0))]) [s0, s1, s2, some (.p (.int n))] = .ok (.d (.bl (decide (0 ≤ n))), [s0, s1, s2, some (.p (.int n))]) := pr2_of (w := .sc (.bl (decide (0 ≤ n)))) (d1 := .int n) (d2 := .int 0) (r1 := .d (.int n)) (r2 := .d (.int 0)) (evE_var rfl) evE_con rfl rfl rfl
    by_cases h : 0 ≤ n
    · obtain ⟨t, e⟩ := filt_loop (C := C) s0 s1 s2 ns (acc ++ [.int n]) (some (.p (.int n))) (by simp; omega)
      refine ⟨t, ?_⟩
      have ea : acc ++ ((n :: ns).filter (0 ≤ ·)).map D.int = acc ++ [.int n] ++ (ns.filter (0 ≤ ·)).map .int := by simp [h]
      rw [ea, ← e]
      simp only [List.map_cons]
      conv => lhs; unfold compLoop
      rw [e1]
      have e3 : evE C (.var 3) [s0, s1, s2, some (.p (.int n))] = .ok (.d (.int n), [s0, s1, s2, some (.p (.int n))]) := evE_var rfl
      simp only [evIfs, e2, bind_ok, tstR, resR, decide_eq_true h, if_true, e3, escR]
      rw [if_pos (show acc.length < 1000000 by omega)]
    · obtain ⟨t, e⟩ := filt_loop (C := C) s0 s1 s2 ns acc (some (.p (.int n))) (by omega)
      refine ⟨t, ?_⟩
      have ea : acc ++ ((n :: ns).filter (0 ≤ ·)).map D.int = acc ++ (ns.filter (0 ≤ ·)).map .int := by simp [h]
      rw [ea, ← e]
      simp only [List.map_cons]
      conv => lhs; unfold compLoop
      rw [e1]
      simp only [evIfs, e2, bind_ok, tstR, resR, decide_eq_false h, if_false, Bool.false_eq_true]
theorem least_run {W : Nat} {C : Calls} {inn ls : Nat} (I : InnerOk C inn) (hm : C.md ls = some [false]) (p : Pat) (hl : (kids p).length ≤ 1000) (hk : ∀ q ∈ kids p, C.run ls [enc q] = .ok (.int (least q), false, [])) : runFn W C (leastF inn ls) [enc p] = .ok (.int (least p), false, []) := by
  have e1 : evE C (.call inn [(.var 0)]) [some (.p (enc p)), none, none, none] = .ok (.o (.lst (encL (kids p))), [some (.p (enc p)), none, none, none]) := call1 I.md (evE_var rfl) (I.run p)
  have e2 : evE C (.comp [2] (.nm 2) .vals [(.call inn [(.var 0)])] [] (.call ls [(.var 2)])) [some (.p (enc p)), none, none, none] = .ok (.o (.lst ((kids p).map fun q => .int (least q))), [some (.p (enc p)), none, none, none]) :=
    comp_vals (f := enc) (show 2 < 4 by decide) e1 (.inr rfl) (by rw [← encL_map]; rfl) rfl (fun q hq => ⟨_, call1 (δ1 := [some (.p (enc p)), none, some (.p (enc q)), none]) hm (evE_var rfl) (hk q hq), .inl rfl⟩) (by omega)
  have eL : ((kids p).map fun q => D.int (least q)) = ((kids p).map least).map .int := by rw [List.map_map]; rfl
  rw [eL] at e2
  have hle := least_eq p
  have hlen : ((kids p).map least).length ≤ 1000 := by rw [List.length_map]; exact hl
  generalize (kids p).map least = L at *
  have s0 : evT W C (.asg (.nm 1) (.comp [2] (.nm 2) .vals [(.call inn [(.var 0)])] [] (.call ls [(.var 2)]))) [some (.p (enc p)), none, none, none] = .ok (.nx, [some (.p (enc p)), some (.m false (.lst (L.map .int))), none, none]) := asg_o (s := none) e2 rfl .n
  have c1 : evE C (.pr .eq [(.pr .idx [(.var 0), (.con (.int 0))]), (.con (.str "sign"))]) [some (.p (enc p)), some (.m false (.lst (L.map .int))), none, none] = .ok (.d (.bl p.isSign), [some (.p (enc p)), some (.m false (.lst (L.map .int))), none, none]) := pr2_of (evE_tag rfl) evE_con rfl rfl (tag_sign p)
  have l2 : evE C (.lst [(.con (.str "blank")), (.con (.str "again"))]) [some (.p (enc p)), some (.m false (.lst (L.map .int))), none, none] = .ok (.o (.lst [.str "blank", .str "again"]), [some (.p (enc p)), some (.m false (.lst (L.map .int))), none, none]) := by simp [evE, evL, escL, escR]
  have c2 : evE C (.pr .inn [(.pr .idx [(.var 0), (.con (.int 0))]), (.lst [(.con (.str "blank")), (.con (.str "again"))])]) [some (.p (enc p)), some (.m false (.lst (L.map .int))), none, none] = .ok (.d (.bl p.isBA), [some (.p (enc p)), some (.m false (.lst (L.map .int))), none, none]) := pr2_of (evE_tag rfl) l2 rfl rfl (tag_BAl p)
  have c3 : evE C (.pr .eq [(.pr .idx [(.var 0), (.con (.int 0))]), (.con (.str "row"))]) [some (.p (enc p)), some (.m false (.lst (L.map .int))), none, none] = .ok (.d (.bl p.isRow), [some (.p (enc p)), some (.m false (.lst (L.map .int))), none, none]) := pr2_of (evE_tag rfl) evE_con rfl rfl (tag_row p)
  have v1 : evE C (.var 1) [some (.p (enc p)), some (.m false (.lst (L.map .int))), none, none] = .ok (.h 1, [some (.p (enc p)), some (.m false (.lst (L.map .int))), none, none]) := by simp [evE]
  have n1 : evE C (.pr .neg [(.con (.int 1))]) [some (.p (enc p)), some (.m false (.lst (L.map .int))), none, none] = .ok (.d (.int (-1)), [some (.p (enc p)), some (.m false (.lst (L.map .int))), none, none]) := pr1_of (w := .sc (.int (-1))) evE_con rfl rfl
  have fin : ∀ z, finF [false] [some (.p (enc p)), some (.m false (.lst (L.map .int))), none, none] (.d z) = .ok (z, false, []) := fun z => rfl
  rw [hle]
  by_cases h1 : p.isSign = true
  · rw [h1] at c1
    rw [if_pos h1]
    exact run_ret rfl (ts_nx s0 (ts_rt (ite_yes c1 (ts_rt (ret_of evE_con))))) (fin _)
  · rw [Bool.eq_false_iff.mpr h1] at c1
    rw [if_neg h1]
    by_cases h2 : p.isBA = true
    · rw [h2] at c2
      rw [if_pos h2]
      exact run_ret rfl (ts_nx s0 (ts_nx (ite_no c1 ts_nil) (ts_rt (ite_yes c2 (ts_rt (ret_of evE_con)))))) (fin _)
    · rw [Bool.eq_false_iff.mpr h2] at c2
      rw [if_neg h2]
      by_cases h3 : p.isRow = true
      · rw [h3] at c3
        rw [if_pos h3]
        have a0 : pev .sum [.lst (L.map .int)] = some (.sc (.int L.sum)) := by simp only [pev, intsD_map]
        have a1 : evE C (.pr .sum [(.var 1)]) [some (.p (enc p)), some (.m false (.lst (L.map .int))), none, none] = .ok (.d (.int L.sum), [some (.p (enc p)), some (.m false (.lst (L.map .int))), none, none]) := pr1_of (w := .sc (.int L.sum)) v1 rfl a0
        have a2 : evE C (.lst [(.pr .sum [(.var 1)]), (.pr .neg [(.con (.int 1))])]) [some (.p (enc p)), some (.m false (.lst (L.map .int))), none, none] = .ok (.o (.lst [.int L.sum, .int (-1)]), [some (.p (enc p)), some (.m false (.lst (L.map .int))), none, none]) := by
          have g : evL C [(.pr .sum [(.var 1)]), (.pr .neg [(.con (.int 1))])] [some (.p (enc p)), some (.m false (.lst (L.map .int))), none, none] = .ok ([.d (.int L.sum), .d (.int (-1))], [some (.p (enc p)), some (.m false (.lst (L.map .int))), none, none]) := by simp only [evL, a1, n1, bind_ok]
          rw [evE, g]; rfl
        have a3 : evE C (.pr .int [(.pr .inn [(.pr .neg [(.con (.int 1))]), (.var 1)])]) [some (.p (enc p)), some (.m false (.lst (L.map .int))), none, none] = .ok (.d (.int (if (-1 : Int) ∈ L then 1 else 0)), [some (.p (enc p)), some (.m false (.lst (L.map .int))), none, none]) := by
          refine pr1_of (w := .sc (.int (if (-1 : Int) ∈ L then 1 else 0))) (pr2_of n1 v1 rfl rfl (in_ints L (-1))) rfl ?_
          simp only [pev]
          by_cases h : (-1 : Int) ∈ L <;> simp [h]
        have a4 : pev .idx [.lst [.int L.sum, .int (-1)], .int (if (-1 : Int) ∈ L then 1 else 0)] = some (.sc (.int (if (-1 : Int) ∈ L then -1 else L.sum))) := by
          by_cases h : (-1 : Int) ∈ L
          · rw [if_pos h, if_pos h]; rfl
          · rw [if_neg h, if_neg h]; rfl
        exact run_ret rfl (ts_nx s0 (ts_nx (ite_no c1 ts_nil) (ts_nx (ite_no c2 ts_nil) (ts_rt (ite_yes c3 (ts_rt (ret_of (pr2_of a2 a3 rfl rfl a4)))))))) (fin _)
      · rw [Bool.eq_false_iff.mpr h3] at c3
        rw [if_neg h3]
        obtain ⟨t, e⟩ := filt_loop (C := C) (some (.p (enc p))) (some (.m true (.lst (L.map .int)))) none L [] none (by simp; omega)
        have a1 : evE C (.comp [3] (.nm 3) .vals [(.var 1)] [(.pr .ge [(.var 3), (.con (.int 0))])] (.var 3)) [some (.p (enc p)), some (.m false (.lst (L.map .int))), none, none] = .ok (.o (.lst ((L.filter (0 ≤ ·)).map .int)), [some (.p (enc p)), some (.m false (.lst (L.map .int))), none, none]) := by
          rw [evE]
          have g1 : evL C [(.var 1)] [some (.p (enc p)), some (.m false (.lst (L.map .int))), none, none] = .ok ([.h 1], [some (.p (enc p)), some (.m false (.lst (L.map .int))), none, none]) := by simp only [evL, v1, bind_ok]
          have g2 : resL [some (.p (enc p)), some (.m false (.lst (L.map .int))), none, none] [R.h 1] = some [.lst (L.map .int)] := rfl
          have g3 : evI .vals [.lst (L.map .int)] = some (L.map .int) := rfl
          have g4 : lockL [some (.p (enc p)), some (.m false (.lst (L.map .int))), none, none] [R.h 1] = [some (.p (enc p)), some (.m true (.lst (L.map .int))), none, none] := rfl
          rw [g1]
          simp only [bind_ok, g2, g3]
          rw [if_pos (by rfl), g4, e]
          rfl
        have a2 : pev .mind [.lst ((L.filter (0 ≤ ·)).map .int), .int (-1)] = some (.sc (.int (bestI min (-1) (L.filter (0 ≤ ·))))) := by simp only [pev, intsD_map]
        exact run_ret rfl (ts_nx s0 (ts_nx (ite_no c1 ts_nil) (ts_nx (ite_no c2 ts_nil) (ts_nx (ite_no c3 ts_nil) (ts_rt (ret_of (pr2_of a1 n1 rfl rfl a2))))))) (fin _)
theorem least_lvl {tab : List Fn} {W inn ls : Nat} (h1 : tab[inn]? = some inner2F) (h2 : tab[ls]? = some (leastF inn ls)) : ∀ (n : Nat) (p : Pat), p.dep ≤ n → p.slim → (calls W tab (n + 1)).run ls [enc p] = .ok (.int (least p), false, [])
  | 0, p, h, _ => absurd (dep_pos p) (by omega)
  | n + 1, p, h, hs => by
    rw [run_at h2]
    exact least_run (inner2_lvl h1 n) (md_at h2) p (slim_kids hs).1 fun q hq => least_lvl h1 h2 n q (by have := kid_dep hq; omega) ((slim_kids hs).2 q hq)
theorem pEq_bl (neg : Bool) (a b : Bool) : pEq neg (.bl a) (.bl b) = some (.sc (.bl (if neg then !(a == b) else (a == b)))) := by cases neg <;> cases a <;> cases b <;> rfl
theorem ne_same (b : Bool) : pev .ne [.bl b, .bl b] = some (.sc (.bl false)) := by
  have := pEq_bl true b b
  simp only [beq_self_eq_true, Bool.not_true, if_true] at this
  exact this
theorem call_m2 {C : Calls} {f i : Nat} {b : E} {δ : DEnv} {y v d d' : D} (hm : C.md f = some [true, false]) (hi : δ[i]? = some (some (.m false d))) (hb : evE C b δ = .ok (.d y, δ)) (hr : C.run f [d, y] = .ok (v, false, [d'])) :
    evE C (.call f [.var i, b]) δ = .ok (.d v, δ.set i (some (.m false d'))) := by
  have hv : evE C (.var i) δ = .ok (.h i, δ) := by rw [evE, hi]
  have g1 : evL C [.var i, b] δ = .ok ([.h i, .d y], δ) := by simp only [evL, hb, hv, bind_ok]
  rw [evE, g1]
  simp [callR, hm, resL, resR, hi, S.val, loan, apart, okP, sameK, hr, valIx, putIos]
/-- the same, the first one lent to us -/
theorem call_i2 {C : Calls} {f i : Nat} {b : E} {δ : DEnv} {y v d d' : D} (hm : C.md f = some [true, false]) (hi : δ[i]? = some (some (.io false d))) (hb : evE C b δ = .ok (.d y, δ)) (hr : C.run f [d, y] = .ok (v, false, [d'])) :
    evE C (.call f [.var i, b]) δ = .ok (.d v, δ.set i (some (.io false d'))) := by
  have hv : evE C (.var i) δ = .ok (.h i, δ) := by rw [evE, hi]
  have g1 : evL C [.var i, b] δ = .ok ([.h i, .d y], δ) := by simp only [evL, hb, hv, bind_ok]
  rw [evE, g1]
  simp [callR, hm, resL, resR, hi, S.val, loan, apart, okP, sameK, hr, valIx, putIos]
end Ev
set_option maxHeartbeats 4000000
/-! GenZ: sane things by computing -/
namespace Ev
open PySem
def wdB (d : D) (n : Nat) : Bool := match toPy d with
  | some y => y.canLay0 && decide (y.depth ≤ n)
  | none => false
mutual
def saneB : D → Bool
  | .tup xs => saneLB xs
  | .str x => decide (x.length ≤ 1000)
  | _ => true
def saneLB : List D → Bool
  | [] => true
  | x :: xs => (wdB x 64 && saneB x) && saneLB xs
end
theorem wdB_ok {d : D} (h : wdB d 64 = true) : Wd d := by
  unfold wdB at h
  cases e : toPy d with
  | none => rw [e] at h; cases h
  | some y => rw [e] at h; exact ⟨y, e, h⟩
mutual
theorem saneB_ok : ∀ d : D, saneB d = true → d.sane
  | .tup xs, h => saneLB_ok xs h
  | .str x, h => by show x.length ≤ 1000; exact of_decide_eq_true (p := x.length ≤ 1000) h
  | .non, _ => trivial
  | .bl _, _ => trivial
  | .int _, _ => trivial
  | .lst _, _ => trivial
  | .dct _ _, _ => trivial
theorem saneLB_ok : ∀ xs : List D, saneLB xs = true → saneL xs
  | [], _ => trivial
  | x :: xs, h => by
    have h1 : ((wdB x 64 && saneB x) && saneLB xs) = true := h
    simp only [Bool.and_eq_true] at h1
    exact ⟨⟨wdB_ok h1.1.1, saneB_ok x h1.1.2⟩, saneLB_ok xs h1.2⟩
end
theorem tup_2 {C : Calls} {a b : E} {δ δ1 δ2 : DEnv} {x y : D} (h1 : evE C a δ = .ok (.d x, δ1)) (h2 : evE C b δ1 = .ok (.d y, δ2)) : evE C (.tup [a, b]) δ = .ok (.d (.tup [x, y]), δ2) := by
  rw [evE]
  have g1 : evL C [a, b] δ = .ok ([.d x, .d y], δ2) := by simp only [evL, h1, h2, bind_ok]
  rw [g1]
  rfl
theorem tup_1 {C : Calls} {a : E} {δ δ1 : DEnv} {x : D} (h1 : evE C a δ = .ok (.d x, δ1)) : evE C (.tup [a]) δ = .ok (.d (.tup [x]), δ1) := by
  rw [evE]
  have g1 : evL C [a] δ = .ok ([.d x], δ1) := by simp only [evL, h1, bind_ok]
  rw [g1]
  rfl
theorem tup_3 {C : Calls} {a b c : E} {δ δ1 δ2 δ3 : DEnv} {x y z : D} (h1 : evE C a δ = .ok (.d x, δ1)) (h2 : evE C b δ1 = .ok (.d y, δ2)) (h3 : evE C c δ2 = .ok (.d z, δ3)) : evE C (.tup [a, b, c]) δ = .ok (.d (.tup [x, y, z]), δ3) := by
  rw [evE]
  have g1 : evL C [a, b, c] δ = .ok ([.d x, .d y, .d z], δ3) := by simp only [evL, h1, h2, h3, bind_ok]
  rw [g1]
  rfl
theorem range_ints (m : Nat) : rangeD 0 m = (List.range' 0 m).map fun j => D.int (j : Nat) := by
  unfold rangeD
  rw [List.range_eq_range']
  exact List.map_congr_left fun j _ => by rw [Int.zero_add]
theorem app_m {W : Nat} {C : Calls} {i : Nat} {e : E} {δ δ1 : DEnv} {acc : List D} {x : D} (h0 : slotL δ i = true) (he : evE C e δ = .ok (.d x, δ1)) (hi : δ1[i]? = some (some (.m false (.lst acc)))) (hl : acc.length < 1000000) : evT W C (.meth .append i [e]) δ = .ok (.nx, δ1.set i (some (.m false (.lst (acc ++ [x]))))) := by
  rw [evT, if_pos h0]
  have g1 : evL C [e] δ = .ok ([.d x], δ1) := by simp only [evL, he, bind_ok]
  rw [g1]
  have g3 : methD .append [x] (.lst acc) = some (.lst (acc ++ [x])) := by
    show (if acc.length < cap then some (D.lst (acc ++ [x])) else none) = _
    rw [if_pos hl]
  have g4 : upS δ1 i (methD .append [x]) = some (δ1.set i (some (.m false (.lst (acc ++ [x]))))) := by
    unfold upS
    rw [hi]
    simp only [g3]
  have g2 : escL δ1 [R.d x] = some ([x], δ1) := rfl
  simp only [bind_ok, g2]
  simp [g2, g4]
/-- an own call of two, the first lent, in a state where the slot is either -/
theorem sl2_of {C : Calls} {a b c : E} {δ δ1 δ2 δ3 : DEnv} {r : R} {i j : Int} {d : D} {w : PR} (h1 : evE C a δ = .ok (r, δ1)) (h2 : evE C b δ1 = .ok (.d (.int i), δ2)) (h3 : evE C c δ2 = .ok (.d (.int j), δ3)) (hr : resR δ3 r = some d) (h : pSl d (some i) (some j) = some w) : evE C (.sl2 a b c) δ = .ok (w.r, δ3) := by
  have g : ∀ (d : D) δ, resR δ (.d d) = some d := fun _ _ => rfl
  rw [evE, h1]
  simp only [bind_ok, h2, h3, g, hr, h]
end Ev
set_option maxHeartbeats 4000000
/-! WpA: the evaluator, by what holds behind it -/
namespace Ev
open PySem
inductive wE (C : Calls) (e : E) (δ : DEnv) (Q : R → DEnv → Prop) : Prop where
  | mk (r : R) (δ1 : DEnv) (h : evE C e δ = .ok (r, δ1)) (q : Q r δ1)
inductive wL (C : Calls) (es : List E) (δ : DEnv) (Q : List R → DEnv → Prop) : Prop where
  | mk (r : List R) (δ1 : DEnv) (h : evL C es δ = .ok (r, δ1)) (q : Q r δ1)
inductive wT (W : Nat) (C : Calls) (t : T) (δ : DEnv) (Q : Fl → DEnv → Prop) : Prop where
  | mk (f : Fl) (δ1 : DEnv) (h : evT W C t δ = .ok (f, δ1)) (q : Q f δ1)
inductive wTs (W : Nat) (C : Calls) (ts : List T) (δ : DEnv) (Q : Fl → DEnv → Prop) : Prop where
  | mk (f : Fl) (δ1 : DEnv) (h : evTs W C ts δ = .ok (f, δ1)) (q : Q f δ1)
/-- one list's item -/
def atL (r : R) (δ : DEnv) (Q : D → Prop) : Prop := ∃ d, resR δ r = some d ∧ Q d
variable {W : Nat} {C : Calls} {δ : DEnv} {Q : R → DEnv → Prop} {F : Fl → DEnv → Prop}
theorem wE.mono {e : E} {Q' : R → DEnv → Prop} (h : wE C e δ Q) (g : ∀ r δ1, Q r δ1 → Q' r δ1) : wE C e δ Q' := by
  obtain ⟨r, δ1, e1, h1⟩ := h; exact ⟨r, δ1, e1, g _ _ h1⟩
theorem wTs.mono {ts : List T} {F' : Fl → DEnv → Prop} (h : wTs W C ts δ F) (g : ∀ r δ1, F r δ1 → F' r δ1) : wTs W C ts δ F' := by
  obtain ⟨r, δ1, e1, h1⟩ := h; exact ⟨r, δ1, e1, g _ _ h1⟩
theorem w_con {d : D} (h : Q (.d d) δ) : wE C (.con d) δ Q := ⟨_, _, evE_con, h⟩
theorem w_varp {i : Nat} {d : D} (hi : δ[i]? = some (some (.p d))) (h : Q (.d d) δ) : wE C (.var i) δ Q := ⟨_, _, evE_var hi, h⟩
theorem w_varm {i : Nat} {b : Bool} {d : D} (hi : δ[i]? = some (some (.m b d))) (h : Q (.h i) δ) : wE C (.var i) δ Q := ⟨_, _, by rw [evE, hi], h⟩
theorem w_vario {i : Nat} {b : Bool} {d : D} (hi : δ[i]? = some (some (.io b d))) (h : Q (.h i) δ) : wE C (.var i) δ Q := ⟨_, _, by rw [evE, hi], h⟩
theorem w_pr0 {p : Pr} {w : PR} (hw : pev p [] = some w) (h : Q w.r δ) : wE C (.pr p []) δ Q := ⟨_, _, by rw [evE]; simp [evL, resL, hw], h⟩
theorem w_pr1 {p : Pr} {a : E} (h : wE C a δ fun r δ1 => ∃ d w, resR δ1 r = some d ∧ pev p [d] = some w ∧ Q w.r δ1) : wE C (.pr p [a]) δ Q := by
  obtain ⟨r, δ1, e1, d, w, e2, e3, q⟩ := h
  exact ⟨_, _, pr1_of e1 e2 e3, q⟩
def isEq : Pr → Bool
  | .eq => true
  | .ne => true
  | .inn => true
  | .notin => true
  | _ => false
theorem w_pr2 {p : Pr} {a b : E} (_hq : isEq p = false) (h : wE C a δ fun r δ1 => wE C b δ1 fun s δ2 => ∃ d1 d2 w, resR δ2 r = some d1 ∧ resR δ2 s = some d2 ∧ pev p [d1, d2] = some w ∧ Q w.r δ2) : wE C (.pr p [a, b]) δ Q := by
  obtain ⟨r, δ1, e1, s, δ2, e2, d1, d2, w, e3, e4, e5, q⟩ := h
  exact ⟨_, _, pr2_of e1 e2 e3 e4 e5, q⟩
theorem w_eqi {a b : E} (h : wE C a δ fun r δ1 => wE C b δ1 fun s δ2 => ∃ i j, resR δ2 r = some (.int i) ∧ resR δ2 s = some (.int j) ∧ Q (.d (.bl (decide (i = j)))) δ2) : wE C (.pr .eq [a, b]) δ Q := by
  obtain ⟨r, δ1, e1, s, δ2, e2, i, j, e3, e4, q⟩ := h
  exact ⟨_, _, pr2_of e1 e2 e3 e4 (show pev .eq [.int i, .int j] = _ from pEq_int false i j), q⟩
theorem w_nei {a b : E} (h : wE C a δ fun r δ1 => wE C b δ1 fun s δ2 => ∃ i j, resR δ2 r = some (.int i) ∧ resR δ2 s = some (.int j) ∧ Q (.d (.bl (!decide (i = j)))) δ2) : wE C (.pr .ne [a, b]) δ Q := by
  obtain ⟨r, δ1, e1, s, δ2, e2, i, j, e3, e4, q⟩ := h
  exact ⟨_, _, pr2_of e1 e2 e3 e4 (show pev .ne [.int i, .int j] = _ from pEq_int true i j), q⟩
theorem w_eqs {a b : E} (h : wE C a δ fun r δ1 => wE C b δ1 fun s δ2 => ∃ i j, resR δ2 r = some (.str i) ∧ resR δ2 s = some (.str j) ∧ (PyData.strOk i = true ∧ PyData.strOk j = true) ∧ Q (.d (.bl (decide (i = j)))) δ2) : wE C (.pr .eq [a, b]) δ Q := by
  obtain ⟨r, δ1, e1, s, δ2, e2, i, j, e3, e4, e5, q⟩ := h
  exact ⟨_, _, pr2_of e1 e2 e3 e4 (show pev .eq [.str i, .str j] = _ from pEq_str false e5.1 e5.2), q⟩
theorem w_nes {a b : E} (h : wE C a δ fun r δ1 => wE C b δ1 fun s δ2 => ∃ i j, resR δ2 r = some (.str i) ∧ resR δ2 s = some (.str j) ∧ (PyData.strOk i = true ∧ PyData.strOk j = true) ∧ Q (.d (.bl (!decide (i = j)))) δ2) : wE C (.pr .ne [a, b]) δ Q := by
  obtain ⟨r, δ1, e1, s, δ2, e2, i, j, e3, e4, e5, q⟩ := h
  exact ⟨_, _, pr2_of e1 e2 e3 e4 (show pev .ne [.str i, .str j] = _ from pEq_str true e5.1 e5.2), q⟩
/-- any like data: eq, ne by a fact -/
theorem w_eqd {p : Pr} {a b : E} (h : wE C a δ fun r δ1 => wE C b δ1 fun s δ2 => ∃ d1 d2 w, resR δ2 r = some d1 ∧ resR δ2 s = some d2 ∧ pev p [d1, d2] = some w ∧ Q w.r δ2) : wE C (.pr p [a, b]) δ Q := by
  obtain ⟨r, δ1, e1, s, δ2, e2, d1, d2, w, e3, e4, e5, q⟩ := h
  exact ⟨_, _, pr2_of e1 e2 e3 e4 e5, q⟩
theorem free_n : Free none := .inl rfl
theorem free_p {d : D} : Free (some (.p d)) := .inr (.inl ⟨d, rfl⟩)
theorem free_m {d : D} : Free (some (.m false d)) := .inr (.inr ⟨d, rfl⟩)
theorem app_up {i : Nat} {δ : DEnv} {acc : List D} {x : D} (hi : δ[i]? = some (some (.m false (.lst acc)))) (hl : acc.length < 1000000) : upS δ i (methD .append [x]) = some (δ.set i (some (.m false (.lst (acc ++ [x]))))) := by
  have g3 : methD .append [x] (.lst acc) = some (.lst (acc ++ [x])) := by
    show (if acc.length < cap then some (D.lst (acc ++ [x])) else none) = _
    rw [if_pos hl]
  unfold upS
  rw [hi]
  simp only [g3]
theorem app_io {i : Nat} {δ : DEnv} {acc : List D} {x : D} (hi : δ[i]? = some (some (.io false (.lst acc)))) (hl : acc.length < 1000000) : upS δ i (methD .append [x]) = some (δ.set i (some (.io false (.lst (acc ++ [x]))))) := by
  have g3 : methD .append [x] (.lst acc) = some (.lst (acc ++ [x])) := by
    show (if acc.length < cap then some (D.lst (acc ++ [x])) else none) = _
    rw [if_pos hl]
  unfold upS
  rw [hi]
  simp only [g3]
theorem w_not {a : E} (h : wE C a δ fun r δ1 => ∃ x, r = .d (.bl x) ∧ Q (.d (.bl (!x))) δ1) : wE C (.not a) δ Q := by
  obtain ⟨r, δ1, e1, x, rfl, q⟩ := h
  exact ⟨_, _, not_of e1, q⟩
theorem w_ife {c a b : E} (h : wE C c δ fun r δ1 => ∃ x, r = .d (.bl x) ∧ (x = true → wE C a δ1 Q) ∧ (x = false → wE C b δ1 Q)) : wE C (.ite c a b) δ Q := by
  obtain ⟨r, δ1, e1, x, rfl, q1, q2⟩ := h
  cases x with
  | true => obtain ⟨r, δ2, e2, q⟩ := q1 rfl; exact ⟨_, _, by rw [evE, e1]; exact e2, q⟩
  | false => obtain ⟨r, δ2, e2, q⟩ := q2 rfl; exact ⟨_, _, by rw [evE, e1]; exact e2, q⟩
/-- and, or -/
inductive wAnd (C : Calls) (es : List E) (δ : DEnv) (Q : R → DEnv → Prop) : Prop where
  | mk (r : R) (δ1 : DEnv) (h : evAnd C es δ = .ok (r, δ1)) (q : Q r δ1)
inductive wOr (C : Calls) (es : List E) (δ : DEnv) (Q : R → DEnv → Prop) : Prop where
  | mk (r : R) (δ1 : DEnv) (h : evOr C es δ = .ok (r, δ1)) (q : Q r δ1)
theorem w_and {es : List E} (h : wAnd C es δ Q) : wE C (.and es) δ Q := by obtain ⟨r, δ1, e, q⟩ := h; exact ⟨_, _, by rw [evE]; exact e, q⟩
theorem w_or {es : List E} (h : wOr C es δ Q) : wE C (.or es) δ Q := by obtain ⟨r, δ1, e, q⟩ := h; exact ⟨_, _, by rw [evE]; exact e, q⟩
theorem w_and1 {a : E} (h : wE C a δ Q) : wAnd C [a] δ Q := by obtain ⟨r, δ1, e, q⟩ := h; exact ⟨_, _, and_last e, q⟩
theorem w_or1 {a : E} (h : wE C a δ Q) : wOr C [a] δ Q := by obtain ⟨r, δ1, e, q⟩ := h; exact ⟨_, _, or_last e, q⟩
theorem w_andc {a b : E} {es : List E} (h : wE C a δ fun r δ1 => ∃ x, r = .d (.bl x) ∧ (x = true → wAnd C (b :: es) δ1 Q) ∧ (x = false → Q (.d (.bl false)) δ1)) : wAnd C (a :: b :: es) δ Q := by
  obtain ⟨r, δ1, e1, x, rfl, q1, q2⟩ := h
  cases x with
  | true => obtain ⟨r, δ2, e2, q⟩ := q1 rfl; exact ⟨_, _, and_yes' e1 e2, q⟩
  | false => exact ⟨_, _, and_no' e1, q2 rfl⟩
theorem w_orc {a b : E} {es : List E} (h : wE C a δ fun r δ1 => ∃ x, r = .d (.bl x) ∧ (x = true → Q (.d (.bl true)) δ1) ∧ (x = false → wOr C (b :: es) δ1 Q)) : wOr C (a :: b :: es) δ Q := by
  obtain ⟨r, δ1, e1, x, rfl, q1, q2⟩ := h
  cases x with
  | true => exact ⟨_, _, or_yes' e1, q1 rfl⟩
  | false => obtain ⟨r, δ2, e2, q⟩ := q2 rfl; exact ⟨_, _, or_no' e1 e2, q⟩
theorem w_nil {Q : List R → DEnv → Prop} (h : Q [] δ) : wL C [] δ Q := ⟨_, _, by rw [evL], h⟩
theorem w_cons {a : E} {es : List E} {Q : List R → DEnv → Prop} (h : wE C a δ fun r δ1 => wL C es δ1 fun rs δ2 => Q (r :: rs) δ2) : wL C (a :: es) δ Q := by
  obtain ⟨r, δ1, e1, rs, δ2, e2, q⟩ := h
  exact ⟨_, _, by rw [evL, e1, bind_ok, e2, bind_ok], q⟩
theorem w_tup {es : List E} (h : wL C es δ fun rs δ1 => ∃ ds δ2, escL δ1 rs = some (ds, δ2) ∧ Q (.d (.tup ds)) δ2) : wE C (.tup es) δ Q := by
  obtain ⟨rs, δ1, e1, ds, δ2, e2, q⟩ := h
  exact ⟨_, _, by rw [evE, e1, bind_ok]; simp only [e2], q⟩
theorem w_lst {es : List E} (h : wL C es δ fun rs δ1 => ∃ ds δ2, escL δ1 rs = some (ds, δ2) ∧ Q (.o (.lst ds)) δ2) : wE C (.lst es) δ Q := by
  obtain ⟨rs, δ1, e1, ds, δ2, e2, q⟩ := h
  exact ⟨_, _, by rw [evE, e1, bind_ok]; simp only [e2], q⟩
theorem callR_of {f : Nat} {ms : List Bool} {rs : List R} {ds : List D} {v : D} {o : Bool} {ios : List D} {δ2 : DEnv} (hm : C.md f = some ms) (hd : resL δ rs = some ds) (hc : (decide (ms.length = rs.length) && ((ms.zip rs).all (loan δ) && apart (ms.zip rs))) = true)
    (hv : (valIx (ms.zip rs)).all (fun i => !isOwn δ i) = true) (hr : C.run f ds = .ok (v, o, ios)) (hp : putIos δ (ms.zip rs) ios = some δ2) : callR C f rs δ = .ok (if o then .o v else .d v, δ2) := by
  simp only [Bool.and_eq_true, decide_eq_true_eq] at hc
  unfold callR
  simp only [hm, hd]
  rw [if_pos hc, hr]
  simp only [bind_ok, hv, Bool.true_or, if_true, hp]
/-- a call of ours -/
theorem w_call {f : Nat} {es : List E} (h : wL C es δ fun rs δ1 => ∃ ms ds v o ios δ2, C.md f = some ms ∧ resL δ1 rs = some ds ∧ (decide (ms.length = rs.length) && ((ms.zip rs).all (loan δ1) && apart (ms.zip rs))) = true ∧
    (valIx (ms.zip rs)).all (fun i => !isOwn δ1 i) = true ∧ C.run f ds = .ok (v, o, ios) ∧ putIos δ1 (ms.zip rs) ios = some δ2 ∧ Q (if o then .o v else .d v) δ2) : wE C (.call f es) δ Q := by
  obtain ⟨rs, δ1, e1, ms, ds, v, o, ios, δ2, hm, hd, hc, hv, hr, hp, q⟩ := h
  exact ⟨_, _, by rw [evE, e1, bind_ok]; exact callR_of hm hd hc hv hr hp, q⟩
/-- a text's method -/
theorem w_sm {p : Pr} {a b : E} (h : wE C a δ fun r δ1 => ∃ s, resR δ1 r = some (.str s) ∧ wE C b δ1 fun r2 δ2 => ∃ d w, resR δ2 r2 = some d ∧ pev p [.str s, d] = some w ∧ Q w.r δ2) : wE C (.sm p a b) δ Q := by
  obtain ⟨r, δ1, e1, s, hs, r2, δ2, e2, d, w, e3, e4, q⟩ := h
  refine ⟨_, _, ?_, q⟩
  rw [evE, e1]
  simp only [bind_ok, hs, e2, e3, e4]
theorem w_chain {p q : Pr} {a b c : E} (h : wE C a δ fun r1 δ1 => wE C b δ1 fun r2 δ2 => wE C c δ2 fun r3 δ3 => ∃ d1 d2 d3 b1 b2, r1 = .d d1 ∧ r2 = .d d2 ∧ r3 = .d d3 ∧ δ2 = δ1 ∧ δ3 = δ2 ∧ pev p [d1, d2] = some (.sc (.bl b1)) ∧ pev q [d2, d3] = some (.sc (.bl b2)) ∧ Q (.d (.bl (b1 && b2))) δ3) : wE C (.chain p q a b c) δ Q := by
  obtain ⟨r1, δ1, e1, r2, δ2, e2, r3, δ3, e3, d1, d2, d3, b1, b2, rfl, rfl, rfl, rfl, rfl, p1, p2, q⟩ := h
  refine ⟨_, _, ?_, q⟩
  have g1 : ∀ (d : D) δ, resR δ (.d d) = some d := fun _ _ => rfl
  rw [evE, e1]
  simp only [bind_ok, e2, g1, p1]
  cases b1 with
  | true => simp only [e3, bind_ok, g1, p2, Bool.true_and]
  | false => rfl
/-! statements -/
theorem w_ts0 (h : F .nx δ) : wTs W C [] δ F := ⟨_, _, ts_nil, h⟩
theorem w_ts {t : T} {ts : List T} (h : wT W C t δ fun f δ1 => match f with | .nx => wTs W C ts δ1 F | f => F f δ1) : wTs W C (t :: ts) δ F := by
  obtain ⟨f, δ1, e1, q⟩ := h
  cases f with
  | nx => obtain ⟨f, δ2, e2, q⟩ := q; exact ⟨_, _, ts_nx e1 e2, q⟩
  | ct => exact ⟨_, _, by rw [evTs, e1]; rfl, q⟩
  | bk => exact ⟨_, _, by rw [evTs, e1]; rfl, q⟩
  | rt r => exact ⟨_, _, ts_rt e1, q⟩
theorem w_ex {e : E} (h : wE C e δ fun r δ1 => F .nx δ1) : wT W C (.ex e) δ F := by
  obtain ⟨r, δ1, e1, q⟩ := h
  exact ⟨_, _, by rw [evT, e1]; rfl, q⟩
theorem w_ret {e : E} (h : wE C e δ fun r δ1 => F (.rt r) δ1) : wT W C (.ret e) δ F := by
  obtain ⟨r, δ1, e1, q⟩ := h
  exact ⟨_, _, ret_of e1, q⟩
theorem w_asg {i : Nat} {e : E} (h : wE C e δ fun r δ1 => ∃ s, δ1[i]? = some s ∧ Free s ∧ match r with | .d v => F .nx (δ1.set i (some (.p v))) | .o v => F .nx (δ1.set i (some (.m false v))) | .h _ => False) : wT W C (.asg (.nm i) e) δ F := by
  obtain ⟨r, δ1, e1, s, h1, h2, q⟩ := h
  cases r with
  | d v => exact ⟨_, _, asg_d e1 h1 h2, q⟩
  | o v => exact ⟨_, _, asg_o e1 h1 h2, q⟩
  | h j => exact q.elim
theorem w_if {c : E} {a b : List T} (h : wE C c δ fun r δ1 => ∃ x, r = .d (.bl x) ∧ (x = true → wTs W C a δ1 F) ∧ (x = false → wTs W C b δ1 F)) : wT W C (.ite c a b) δ F := by
  obtain ⟨r, δ1, e1, x, rfl, q1, q2⟩ := h
  cases x with
  | true => obtain ⟨r, δ2, e2, q⟩ := q1 rfl; exact ⟨_, _, ite_yes e1 e2, q⟩
  | false => obtain ⟨r, δ2, e2, q⟩ := q2 rfl; exact ⟨_, _, ite_no e1 e2, q⟩
theorem w_app {i : Nat} {e : E} (h0 : slotL δ i = true) (h : wE C e δ fun r δ1 => ∃ x δ2 δ3, escR δ1 r = some (x, δ2) ∧ upS δ2 i (methD .append [x]) = some δ3 ∧ F .nx δ3) : wT W C (.meth .append i [e]) δ F := by
  obtain ⟨r, δ1, e1, x, δ2, δ3, e2, e3, q⟩ := h
  refine ⟨_, _, ?_, q⟩
  rw [evT, if_pos h0]
  have g1 : evL C [e] δ = .ok ([r], δ1) := by simp only [evL, e1, bind_ok]
  have g2 : escL δ1 [r] = some ([x], δ2) := by simp only [escL, e2]
  rw [g1]
  simp [g2, e3]
theorem w_set {i : Nat} {ix e : E} (h0 : slotL δ i = true) (h : wE C e δ fun r δ1 => wE C ix δ1 fun s δ2 => ∃ k d δ3 δ4, resR δ2 s = some k ∧ escR δ2 r = some (d, δ3) ∧ upS δ3 i (fun o => setI o k d) = some δ4 ∧ F .nx δ4) : wT W C (.set i ix e) δ F := by
  obtain ⟨r, δ1, e1, s, δ2, e2, k, d, δ3, δ4, e3, e4, e5, q⟩ := h
  refine ⟨_, _, ?_, q⟩
  rw [evT, if_pos h0, e1]
  simp only [bind_ok, e2, e3, e4, e5]
/-- a loop over data, by what holds at each turn; a turn may return -/
theorem w_loop {b : List T} {tg : Tg} (P : List D → DEnv → Prop) (step : ∀ x xs δ, P (x :: xs) δ → ∃ δ1, bindTg δ tg x = some δ1 ∧ wTs W C b δ1 fun f δ2 => match f with | .nx => P xs δ2 | .rt r => F (.rt r) δ2 | _ => False) (fin : ∀ δ, P [] δ → F .nx δ) :
    ∀ (xs : List D) (δ : DEnv), P xs δ → ∃ f δ', forLoop tg (fun δ => evTs W C b δ) xs δ = .ok (f, δ') ∧ F f δ'
  | [], δ, h => ⟨.nx, δ, rfl, fin δ h⟩
  | x :: xs, δ, h => by
    obtain ⟨δ1, e1, f, δ2, e2, q⟩ := step x xs δ h
    unfold forLoop
    rw [e1]
    dsimp only
    rw [e2]
    cases f with
    | nx => exact w_loop P step fin xs δ2 q
    | rt r => exact ⟨_, _, rfl, q⟩
    | ct => exact q.elim
    | bk => exact q.elim
theorem w_for {b : List T} {tg : Tg} {ik : IK} {it : E} (h : wE C it δ fun r δ1 => ∃ s xs, (r = .d s ∨ r = .o s) ∧ evI ik [s] = some xs ∧ ∃ P : List D → DEnv → Prop, P xs δ1 ∧
    (∀ x xs δ, P (x :: xs) δ → ∃ δ1, bindTg δ tg x = some δ1 ∧ wTs W C b δ1 fun f δ2 => match f with | .nx => P xs δ2 | .rt r => F (.rt r) δ2 | _ => False) ∧ (∀ δ, P [] δ → F .nx δ)) : wT W C (.fr tg ik [it] b) δ F := by
  obtain ⟨r, δ1, e1, s, xs, hr, hs, P, h0, step, fin⟩ := h
  obtain ⟨f, δ', e2, q⟩ := w_loop (W := W) (C := C) (F := F) P step fin xs δ1 h0
  exact ⟨f, δ', for_vals e1 hr hs e2, q⟩
/-- a while loop -/
theorem w_while {c : E} {b : List T} (P : Nat → DEnv → Prop) (step : ∀ n δ, P n δ → wE C c δ fun r δ1 => ∃ x, r = .d (.bl x) ∧ (x = true → ∃ m, n = m + 1 ∧ wTs W C b δ1 fun f δ2 => match f with | .nx => P m δ2 | .rt r => F (.rt r) δ2 | _ => False) ∧ (x = false → F .nx δ1)) :
    ∀ (n k : Nat) (δ : DEnv), n < k → P n δ → ∃ f δ', whLoop (fun δ => (evE C c δ).bind fun z => tstR z.2 z.1) (fun δ => evTs W C b δ) k δ = .ok (f, δ') ∧ F f δ'
  | n, 0, δ, h, _ => absurd h (Nat.not_lt_zero _)
  | n, k + 1, δ, h, hp => by
    obtain ⟨r, δ1, e1, x, rfl, q1, q2⟩ := step n δ hp
    unfold whLoop
    have hb : (evE C c δ).bind (fun z => tstR z.2 z.1) = .ok (x, δ1) := by rw [e1]; rfl
    rw [hb]
    cases x with
    | false => exact ⟨_, _, rfl, q2 rfl⟩
    | true =>
      obtain ⟨m, rfl, f, δ2, e2, q⟩ := q1 rfl
      simp only [bind_ok, if_true]
      rw [e2]
      cases f with
      | nx => exact w_while P step m k δ2 (by omega) q
      | rt r => exact ⟨_, _, rfl, q⟩
      | ct => exact q.elim
      | bk => exact q.elim
theorem w_wh {c : E} {b : List T} (P : Nat → DEnv → Prop) (n : Nat) (hn : n < W) (h0 : P n δ) (step : ∀ n δ, P n δ → wE C c δ fun r δ1 => ∃ x, r = .d (.bl x) ∧ (x = true → ∃ m, n = m + 1 ∧ wTs W C b δ1 fun f δ2 => match f with | .nx => P m δ2 | .rt r => F (.rt r) δ2 | _ => False) ∧ (x = false → F .nx δ1)) : wT W C (.wh c b) δ F := by
  obtain ⟨f, δ', e, q⟩ := w_while (W := W) (C := C) (F := F) P step n W δ hn h0
  exact ⟨f, δ', by rw [evT]; exact e, q⟩
/-- a comprehension, by what holds at each turn -/
theorem w_cloop {ifs : List E} {elt : E} {own : List Nat} {tg : Tg} (P : List D → List D → DEnv → Prop)
    (step : ∀ x xs acc δ, P (x :: xs) acc δ → ∃ δ1 δ2 t, bindTg (wipeD δ own) tg x = some δ1 ∧ evIfs C ifs δ1 = .ok (t, δ2) ∧ (t = true → acc.length < cap ∧ wE C elt δ2 fun r δ3 => ∃ d δ4, escR δ3 r = some (d, δ4) ∧ P xs (acc ++ [d]) δ4) ∧ (t = false → P xs acc δ2)) :
    ∀ (xs acc : List D) (δ : DEnv), P xs acc δ → ∃ acc' δ', compLoop own tg (fun δ => evIfs C ifs δ) (fun δ => evE C elt δ) xs δ acc = .ok (acc', δ') ∧ P [] acc' δ'
  | [], acc, δ, h => ⟨acc, δ, rfl, h⟩
  | x :: xs, acc, δ, h => by
    obtain ⟨δ1, δ2, t, e1, e2, q1, q2⟩ := step x xs acc δ h
    unfold compLoop
    rw [e1]
    dsimp only
    rw [e2]
    cases t with
    | true =>
      obtain ⟨h1, r, δ3, e3, d, δ4, e4, q⟩ := q1 rfl
      simp only [bind_ok, if_true, e3, e4]
      rw [if_pos h1]
      exact w_cloop P step xs _ δ4 q
    | false =>
      simp only [bind_ok, Bool.false_eq_true, if_false]
      exact w_cloop P step xs _ δ2 (q2 rfl)
theorem w_comp {ifs : List E} {elt it : E} {own : List Nat} {tg : Tg} {ik : IK} (h : wE C it δ fun r δ1 => ∃ s xs, (r = .d s ∨ r = .o s) ∧ evI ik [s] = some xs ∧ canWipe δ1 own = true ∧ ∃ P : List D → List D → DEnv → Prop, P xs [] δ1 ∧
    (∀ x xs acc δ, P (x :: xs) acc δ → ∃ δ1 δ2 t, bindTg (wipeD δ own) tg x = some δ1 ∧ evIfs C ifs δ1 = .ok (t, δ2) ∧ (t = true → acc.length < cap ∧ wE C elt δ2 fun r δ3 => ∃ d δ4, escR δ3 r = some (d, δ4) ∧ P xs (acc ++ [d]) δ4) ∧ (t = false → P xs acc δ2)) ∧
    (∀ acc δ2, P [] acc δ2 → Q (.o (.lst acc)) (backV δ1 δ2 own))) : wE C (.comp own tg ik [it] ifs elt) δ Q := by
  obtain ⟨r, δ1, e1, s, xs, hr, hs, hw, P, h0, step, fin⟩ := h
  obtain ⟨acc, δ', e2, q⟩ := w_cloop (C := C) (ifs := ifs) (elt := elt) P step xs [] δ1 h0
  refine ⟨_, _, ?_, fin acc δ' q⟩
  rw [evE]
  have g1 : evL C [it] δ = .ok ([r], δ1) := by simp only [evL, e1, bind_ok]
  have g2 : resL δ1 [r] = some [s] := by rcases hr with rfl | rfl <;> rfl
  have g3 : lockL δ1 [r] = δ1 := by rcases hr with rfl | rfl <;> rfl
  have g4 : backL δ1 δ' [r] = δ' := by rcases hr with rfl | rfl <;> rfl
  rw [g1]
  simp only [bind_ok, g2, hs]
  rw [if_pos hw, g3, e2]
  simp only [bind_ok, g4]
theorem ev_range {n : Nat} (h : n ≤ 1000000) : evI .range [.int (n : Nat)] = some ((List.range' 0 n).map fun j => D.int (j : Nat)) := by
  have : evI .range [.int (n : Nat)] = if ((n : Nat) : Int) < rcap ∧ -rcap ≤ ((n : Nat) : Int) then some (rangeD 0 ((n : Nat) : Int).toNat) else none := rfl
  rw [this, if_pos (by unfold rcap; omega), Int.toNat_natCast, range_ints]
/-- for k in range(n) -/
theorem w_forn {b : List T} {tg : Tg} {it : E} (h : wE C it δ fun r δ1 => ∃ n : Nat, r = .d (.int (n : Nat)) ∧ n ≤ 1000000 ∧ ∃ P : Nat → DEnv → Prop, P 0 δ1 ∧
    (∀ k δ, k < n → P k δ → ∃ δ1, bindTg δ tg (.int (k : Nat)) = some δ1 ∧ wTs W C b δ1 fun f δ2 => match f with | .nx => P (k + 1) δ2 | .rt r => F (.rt r) δ2 | _ => False) ∧ (∀ δ, P n δ → F .nx δ)) : wT W C (.fr tg .range [it] b) δ F := by
  refine w_for (h.mono fun r δ1 ⟨n, hr, hn, P, h0, step, fin⟩ => ?_)
  refine ⟨_, _, .inl hr, ev_range hn, fun xs δ => ∃ k, k ≤ n ∧ xs = (List.range' k (n - k)).map (fun j => D.int (j : Nat)) ∧ P k δ, ⟨0, Nat.zero_le _, rfl, h0⟩, ?_, ?_⟩
  · rintro x xs δ ⟨k, hk, hx, hp⟩
    obtain ⟨m, hm⟩ : ∃ m, n - k = m + 1 := by
      cases h : n - k with
      | zero => rw [h] at hx; cases hx
      | succ r => exact ⟨r, rfl⟩
    rw [hm, List.range'_succ, List.map_cons] at hx
    obtain ⟨rfl, rfl⟩ := List.cons.inj hx
    obtain ⟨δ1, e1, w⟩ := step k δ (by omega) hp
    refine ⟨δ1, e1, w.mono fun f δ2 q => ?_⟩
    cases f with
    | nx => exact ⟨k + 1, by omega, by rw [show n - (k + 1) = m by omega], q⟩
    | rt r => exact q
    | ct => exact q
    | bk => exact q
  · rintro δ ⟨k, hk, hx, hp⟩
    have : k = n := by
      cases h : n - k with
      | zero => omega
      | succ r => rw [h] at hx; cases hx
    subst this
    exact fin δ hp
/-- for x in a list of likes -/
theorem w_forl {α : Type} (g : α → D) {b : List T} {tg : Tg} {it : E} (h : wE C it δ fun r δ1 => ∃ (s : D) (ys : List α), (r = .d s ∨ r = .o s) ∧ seqOf s = some (ys.map g) ∧ ∃ P : List α → DEnv → Prop, P ys δ1 ∧
    (∀ y ys δ, P (y :: ys) δ → ∃ δ1, bindTg δ tg (g y) = some δ1 ∧ wTs W C b δ1 fun f δ2 => match f with | .nx => P ys δ2 | .rt r => F (.rt r) δ2 | _ => False) ∧ (∀ δ, P [] δ → F .nx δ)) : wT W C (.fr tg .vals [it] b) δ F := by
  refine w_for (h.mono fun r δ1 ⟨s, ys, hr, hs, P, h0, step, fin⟩ => ?_)
  have hv : evI .vals [s] = some (ys.map g) := by
    cases s <;> first | exact hs | cases hs
  refine ⟨_, _, hr, hv, fun xs δ => ∃ ys : List α, xs = ys.map g ∧ P ys δ, ⟨ys, rfl, h0⟩, ?_, ?_⟩
  · rintro x xs δ ⟨zs, hx, hp⟩
    cases zs with
    | nil => cases hx
    | cons z zs =>
      obtain ⟨rfl, rfl⟩ := List.cons.inj hx
      obtain ⟨δ1, e1, w⟩ := step z zs δ hp
      refine ⟨δ1, e1, w.mono fun f δ2 q => ?_⟩
      cases f with
      | nx => exact ⟨zs, rfl, q⟩
      | rt r => exact q
      | ct => exact q
      | bk => exact q
  · rintro δ ⟨zs, hx, hp⟩
    cases zs with
    | nil => exact fin δ hp
    | cons z zs => cases hx
/-- [elt for x in a list of likes], no condition -/
theorem w_compl {α : Type} (g : α → D) {elt it : E} {own : List Nat} {tg : Tg} (h : wE C it δ fun r δ1 => ∃ (s : D) (ys : List α), (r = .d s ∨ r = .o s) ∧ seqOf s = some (ys.map g) ∧ canWipe δ1 own = true ∧ ∃ P : List α → List D → DEnv → Prop, P ys [] δ1 ∧
    (∀ y ys acc δ, P (y :: ys) acc δ → ∃ δ1, bindTg (wipeD δ own) tg (g y) = some δ1 ∧ acc.length < cap ∧ wE C elt δ1 fun r δ3 => ∃ d δ4, escR δ3 r = some (d, δ4) ∧ P ys (acc ++ [d]) δ4) ∧
    (∀ acc δ2, P [] acc δ2 → Q (.o (.lst acc)) (backV δ1 δ2 own))) : wE C (.comp own tg .vals [it] [] elt) δ Q := by
  refine w_comp (h.mono fun r δ1 ⟨s, ys, hr, hs, hw, P, h0, step, fin⟩ => ?_)
  have hv : evI .vals [s] = some (ys.map g) := by
    cases s <;> first | exact hs | cases hs
  refine ⟨_, _, hr, hv, hw, fun xs acc δ => ∃ ys : List α, xs = ys.map g ∧ P ys acc δ, ⟨ys, rfl, h0⟩, ?_, ?_⟩
  · rintro x xs acc δ ⟨zs, hx, hp⟩
    cases zs with
    | nil => cases hx
    | cons z zs =>
      obtain ⟨rfl, rfl⟩ := List.cons.inj hx
      obtain ⟨δ1, e1, hl, w⟩ := step z zs acc δ hp
      exact ⟨δ1, δ1, true, e1, by rw [evIfs], fun _ => ⟨hl, w.mono fun r δ3 ⟨d, δ4, e2, q⟩ => ⟨d, δ4, e2, zs, rfl, q⟩⟩, fun h => by cases h⟩
  · rintro acc δ2 ⟨zs, hx, hp⟩
    cases zs with
    | nil => exact fin acc δ2 hp
    | cons z zs => cases hx
theorem idx_mem {L : List D} {k : Nat} (h : (k : Int) < (L.length : Nat)) : ∃ x ∈ L, pev .idx [.lst L, .int (k : Nat)] = some (.sc x) := by
  have hk : k < L.length := by omega
  refine ⟨L[k], List.getElem_mem hk, ?_⟩
  have e : pev .idx [.lst L, .int (k : Nat)] = match L2.atI L (k : Nat) with | some x => some (.sc x) | none => none := rfl
  rw [e, L2.atI_nat (List.getElem?_eq_getElem hk)]
theorem idx_memt {L : List D} {k : Nat} (h : (k : Int) < (L.length : Nat)) : ∃ x ∈ L, pev .idx [.tup L, .int (k : Nat)] = some (.sc x) := by
  have hk : k < L.length := by omega
  refine ⟨L[k], List.getElem_mem hk, ?_⟩
  have e : pev .idx [.tup L, .int (k : Nat)] = match L2.atI L (k : Nat) with | some x => some (.sc x) | none => none := rfl
  rw [e, L2.atI_nat (List.getElem?_eq_getElem hk)]
/-! functions -/
theorem w_run {fn : Fn} {args : List D} {G : D × Bool × List D → Prop} (hl : args.length = fn.ps.length) (h : wTs W C fn.body (start0 fn args) fun f δ => match f with | .rt r => ∃ z, finF fn.ps δ r = .ok z ∧ G z | .nx => ∃ z, finF fn.ps δ (.d .non) = .ok z ∧ G z | _ => False) : ∃ z, runFn W C fn args = .ok z ∧ G z := by
  obtain ⟨f, δ1, e, q⟩ := h
  cases f with
  | rt r => obtain ⟨z, e2, g⟩ := q; exact ⟨z, run_ret hl e e2, g⟩
  | nx => obtain ⟨z, e2, g⟩ := q; exact ⟨z, run_nx hl e e2, g⟩
  | ct => exact q.elim
  | bk => exact q.elim
theorem w_next {nx i : Nat} {b : Int} {pool : D} (N : NextOk C nx) (hp : IsPool pool) (h0 : 0 < b) (h1 : b < 1073741824) {eb : E} (heb : evE C eb δ = .ok (.d (.int b), δ)) (hi : δ[i]? = some (some (.io false pool)))
    (h : ∀ (k : Nat) pool', (k : Int) < b → IsPool pool' → Q (.d (.int k)) (δ.set i (some (.io false pool')))) : wE C (.call nx [.var i, eb]) δ Q := by
  obtain ⟨k, pool', k0, k1, hp', hr⟩ := N.run pool b hp h0 h1
  refine ⟨_, _, call_i2 N.md hi heb hr, ?_⟩
  have := h k.toNat pool' (by omega) hp'
  rwa [show ((k.toNat : Nat) : Int) = k by omega] at this
theorem w_nextm {nx i : Nat} {b : Int} {pool : D} (N : NextOk C nx) (hp : IsPool pool) (h0 : 0 < b) (h1 : b < 1073741824) {eb : E} (heb : evE C eb δ = .ok (.d (.int b), δ)) (hi : δ[i]? = some (some (.m false pool)))
    (h : ∀ (k : Nat) pool', (k : Int) < b → IsPool pool' → Q (.d (.int k)) (δ.set i (some (.m false pool')))) : wE C (.call nx [.var i, eb]) δ Q := by
  obtain ⟨k, pool', k0, k1, hp', hr⟩ := N.run pool b hp h0 h1
  refine ⟨_, _, call_m2 N.md hi heb hr, ?_⟩
  have := h k.toNat pool' (by omega) hp'
  rwa [show ((k.toNat : Nat) : Int) = k by omega] at this
end Ev
set_option maxHeartbeats 0
namespace K07
open PySem PySem.Spec PyProof.Rows L2 Ev
def top (i : Nat) : Stmt := PySem.Challenge.pw_tastegrove_k07_whole_patterns_put_togeth.main.body.getD i (.Pass ⟨0, 0, 0, 0⟩)
def N0 : List Str := ["thing"]
def P0 : List Str := ["thing"]
/-- is_whole -/
def fn0 : Fn := ⟨1, [false], [.ret (.and [(.pr (.isinst ["int"]) [(.var 0)]), (.not (.pr (.isinst ["bool"]) [(.var 0)]))])]⟩
def d0 : He.DefD := ⟨("is_whole", none), "is_whole", "is_whole", defArgs (top 3), defBody (top 3), defScope (top 3), [], []⟩
def N1 : List Str := ["thing", "sign"]
def P1 : List Str := ["thing"]
/-- is_word -/
def fn1 : Fn := ⟨2, [false], [.ite (.or [(.not (.pr (.isinst ["str"]) [(.var 0)])), (.not (.chain .le .le (.con (.int 1)) (.pr .len [(.var 0)]) (.con (.int 8))))]) [.ret (.con (.bl false))] [], .ret (.pr .all [(.comp [1] (.nm 1) .vals [(.var 0)] [] (.pr .inn [(.var 1), (.con (.str "abcdefghijklmnopqrstuvwxyz"))]))])]⟩
def d1 : He.DefD := ⟨("is_word", none), "is_word", "is_word", defArgs (top 4), defBody (top 4), defScope (top 4), [], []⟩
def N2 : List Str := ["thing", "sign"]
def P2 : List Str := ["thing"]
/-- is_text -/
def fn2 : Fn := ⟨2, [false], [.ite (.not (.pr (.isinst ["str"]) [(.var 0)])) [.ret (.con (.bl false))] [], .ret (.pr .all [(.comp [1] (.nm 1) .vals [(.var 0)] [] (.or [(.chain .le .le (.con (.str " ")) (.var 1) (.con (.str "$"))), (.chain .le .le (.con (.str "&")) (.var 1) (.con (.str "~")))]))])]⟩
def d2 : He.DefD := ⟨("is_text", none), "is_text", "is_text", defArgs (top 5), defBody (top 5), defScope (top 5), [], []⟩
def N3 : List Str := ["pattern"]
def P3 : List Str := ["pattern"]
/-- inner_of -/
def fn3 : Fn := ⟨1, [false], [.ite (.pr .inn [(.pr .idx [(.var 0), (.con (.int 0))]), (.tup [(.con (.str "row")), (.con (.str "pick"))])]) [.ret (.pr .list [(.pr .idx [(.var 0), (.con (.int 1))])])] [], .ite (.pr .inn [(.pr .idx [(.var 0), (.con (.int 0))]), (.tup [(.con (.str "again")), (.con (.str "held")), (.con (.str "price"))])]) [.ret (.lst [(.pr .idx [(.var 0), (.pr .sub [(.pr .len [(.var 0)]), (.con (.int 1))])])])] [], .ret (.lst [])]⟩
def d3 : He.DefD := ⟨("inner_of", none), "inner_of", "inner_of", defArgs (top 11), defBody (top 11), defScope (top 11), [], []⟩
def N4 : List Str := ["pattern", "found", "part"]
def P4 : List Str := ["pattern"]
/-- can_be_blank -/
def fn4 : Fn := ⟨3, [false], [.ite (.pr .inn [(.pr .idx [(.var 0), (.con (.int 0))]), (.tup [(.con (.str "blank")), (.con (.str "again"))])]) [.ret (.con (.bl true))] [], .asg (.nm 1) (.comp [2] (.nm 2) .vals [(.call 3 [(.var 0)])] [] (.call 4 [(.var 2)])), .ite (.pr .eq [(.pr .idx [(.var 0), (.con (.int 0))]), (.con (.str "row"))]) [.ret (.pr .all [(.var 1)])] [], .ret (.pr .any [(.var 1)])]⟩
def d4 : He.DefD := ⟨("can_be_blank", none), "can_be_blank", "can_be_blank", defArgs (top 12), defBody (top 12), defScope (top 12), [], []⟩
def N5 : List Str := ["pattern", "found", "part"]
def P5 : List Str := ["pattern"]
/-- has_texts -/
def fn5 : Fn := ⟨3, [false], [.ite (.pr .inn [(.pr .idx [(.var 0), (.con (.int 0))]), (.tup [(.con (.str "blank")), (.con (.str "sign")), (.con (.str "again"))])]) [.ret (.con (.bl true))] [], .asg (.nm 1) (.comp [2] (.nm 2) .vals [(.call 3 [(.var 0)])] [] (.call 5 [(.var 2)])), .ite (.pr .eq [(.pr .idx [(.var 0), (.con (.int 0))]), (.con (.str "row"))]) [.ret (.pr .all [(.var 1)])] [], .ret (.pr .any [(.var 1)])]⟩
def d5 : He.DefD := ⟨("has_texts", none), "has_texts", "has_texts", defArgs (top 13), defBody (top 13), defScope (top 13), [], []⟩
def N6 : List Str := ["thing", "one", "other"]
def P6 : List Str := ["thing"]
/-- are_signs -/
def fn6 : Fn := ⟨3, [false], [.ite (.or [(.not (.call 2 [(.var 0)])), (.pr .eq [(.var 0), (.con (.str ""))])]) [.ret (.con (.bl false))] [], .ret (.pr .all [(.comp [1, 2] (.tup [1, 2]) .zip [(.var 0), (.pr (.sl true false) [(.var 0), (.con (.int 1))])] [] (.pr .lt [(.var 1), (.var 2)]))])]⟩
def d6 : He.DefD := ⟨("are_signs", none), "are_signs", "are_signs", defArgs (top 14), defBody (top 14), defScope (top 14), [], []⟩
def N7 : List Str := ["things", "deep", "room", "part"]
def P7 : List Str := ["things", "deep", "room"]
/-- are_formed -/
def fn7 : Fn := ⟨4, [false, false, true], [.ite (.or [(.not (.pr (.isinst ["tuple"]) [(.var 0)])), (.not (.chain .le .le (.con (.int 2)) (.pr .len [(.var 0)]) (.con (.int 6))))]) [.ret (.con (.bl false))] [], .ret (.pr .all [(.comp [3] (.nm 3) .vals [(.var 0)] [] (.call 8 [(.var 3), (.var 1), (.var 2)]))])]⟩
def d7 : He.DefD := ⟨("are_formed", none), "are_formed", "are_formed", defArgs (top 15), defBody (top 15), defScope (top 15), [], []⟩
def N8 : List Str := ["thing", "deep", "room", "word"]
def P8 : List Str := ["thing", "deep", "room"]
/-- is_formed -/
def fn8 : Fn := ⟨4, [false, false, true], [.set 2 (.con (.int 0)) (.pr .sub [(.pr .idx [(.var 2), (.con (.int 0))]), (.con (.int 1))]), .ite (.or [(.pr .eq [(.var 1), (.con (.int 0))]), (.pr .lt [(.pr .idx [(.var 2), (.con (.int 0))]), (.con (.int 0))]), (.not (.pr (.isinst ["tuple"]) [(.var 0)])), (.pr .eq [(.pr .len [(.var 0)]), (.con (.int 0))])]) [.ret (.con (.bl false))] [], .asg (.nm 3) (.pr .idx [(.var 0), (.con (.int 0))]), .ite (.pr .inn [(.var 3), (.tup [(.con (.str "none")), (.con (.str "blank"))])]) [.ret (.pr .eq [(.pr .len [(.var 0)]), (.con (.int 1))])] [], .ite (.pr .eq [(.var 3), (.con (.str "sign"))]) [.ret (.and [(.pr .eq [(.pr .len [(.var 0)]), (.con (.int 2))]), (.call 6 [(.pr .idx [(.var 0), (.con (.int 1))])])])] [], .ite (.pr .inn [(.var 3), (.tup [(.con (.str "row")), (.con (.str "pick"))])]) [.ret (.and [(.pr .eq [(.pr .len [(.var 0)]), (.con (.int 2))]), (.call 7 [(.pr .idx [(.var 0), (.con (.int 1))]), (.pr .sub [(.var 1), (.con (.int 1))]), (.var 2)])])] [], .ite (.pr .eq [(.var 3), (.con (.str "again"))]) [.ret (.and [(.pr .eq [(.pr .len [(.var 0)]), (.con (.int 2))]), (.call 8 [(.pr .idx [(.var 0), (.con (.int 1))]), (.pr .sub [(.var 1), (.con (.int 1))]), (.var 2)]), (.not (.call 4 [(.pr .idx [(.var 0), (.con (.int 1))])]))])] [], .ite (.pr .ne [(.pr .len [(.var 0)]), (.con (.int 3))]) [.ret (.con (.bl false))] [], .ite (.pr .eq [(.var 3), (.con (.str "held"))]) [.ret (.and [(.call 1 [(.pr .idx [(.var 0), (.con (.int 1))])]), (.call 8 [(.pr .idx [(.var 0), (.con (.int 2))]), (.pr .sub [(.var 1), (.con (.int 1))]), (.var 2)])])] [], .ite (.or [(.pr .ne [(.var 3), (.con (.str "price"))]), (.not (.call 0 [(.pr .idx [(.var 0), (.con (.int 1))])])), (.not (.chain .le .le (.con (.int 0)) (.pr .idx [(.var 0), (.con (.int 1))]) (.con (.int 1000))))]) [.ret (.con (.bl false))] [], .ret (.call 8 [(.pr .idx [(.var 0), (.con (.int 2))]), (.pr .sub [(.var 1), (.con (.int 1))]), (.var 2)])]⟩
def d8 : He.DefD := ⟨("is_formed", none), "is_formed", "is_formed", defArgs (top 16), defBody (top 16), defScope (top 16), [], []⟩
def N9 : List Str := ["thing"]
def P9 : List Str := ["thing"]
/-- is_pattern -/
def fn9 : Fn := ⟨1, [false], [.ret (.call 8 [(.var 0), (.con (.int 9)), (.lst [(.con (.int 40))])])]⟩
def d9 : He.DefD := ⟨("is_pattern", none), "is_pattern", "is_pattern", defArgs (top 17), defBody (top 17), defScope (top 17), [], []⟩
def N10 : List Str := ["pattern", "part"]
def P10 : List Str := ["pattern"]
/-- depth_of -/
def fn10 : Fn := ⟨2, [false], [.ret (.pr .add [(.con (.int 1)), (.pr .maxd [(.comp [1] (.nm 1) .vals [(.call 3 [(.var 0)])] [] (.call 10 [(.var 1)])), (.con (.int 0))])])]⟩
def d10 : He.DefD := ⟨("depth_of", none), "depth_of", "depth_of", defArgs (top 18), defBody (top 18), defScope (top 18), [], []⟩
def N11 : List Str := ["pattern", "found", "part"]
def P11 : List Str := ["pattern"]
/-- makes_of -/
def fn11 : Fn := ⟨3, [false], [.asg (.nm 1) (.lst [(.var 0)]), .fr (.nm 2) .vals [(.call 3 [(.var 0)])] [.meth .extend 1 [(.call 11 [(.var 2)])]], .ret (.var 1)]⟩
def d11 : He.DefD := ⟨("makes_of", none), "makes_of", "makes_of", defArgs (top 19), defBody (top 19), defScope (top 19), [], []⟩
def N12 : List Str := ["pattern", "found", "number", "part"]
def P12 : List Str := ["pattern", "found"]
/-- put_numbers -/
def fn12 : Fn := ⟨4, [false, true], [.asg (.nm 2) (.pr .len [(.var 1)]), .meth .append 1 [(.tup [])], .set 1 (.var 2) (.pr .tuple [(.comp [3] (.nm 3) .vals [(.call 3 [(.var 0)])] [] (.call 12 [(.var 3), (.var 1)]))]), .ret (.var 2)]⟩
def d12 : He.DefD := ⟨("put_numbers", none), "put_numbers", "put_numbers", defArgs (top 20), defBody (top 20), defScope (top 20), [], []⟩
def N13 : List Str := ["pattern", "found"]
def P13 : List Str := ["pattern"]
/-- parts_of -/
def fn13 : Fn := ⟨2, [false], [.asg (.nm 1) (.lst []), .ex (.call 12 [(.var 0), (.var 1)]), .ret (.var 1)]⟩
def d13 : He.DefD := ⟨("parts_of", none), "parts_of", "parts_of", defArgs (top 21), defBody (top 21), defScope (top 21), [], []⟩
def N14 : List Str := ["pattern", "found", "make", "sign"]
def P14 : List Str := ["pattern"]
/-- signs_of -/
def fn14 : Fn := ⟨4, [false], [.asg (.nm 1) (.pr .dict0 []), .fr (.nm 2) .vals [(.call 11 [(.var 0)])] [.ite (.pr .eq [(.pr .idx [(.var 2), (.con (.int 0))]), (.con (.str "sign"))]) [.fr (.nm 3) .vals [(.pr .idx [(.var 2), (.con (.int 1))])] [.set 1 (.var 3) (.con (.bl true))]] []], .ret (.sm .join (.con (.str "")) (.pr .sorted [(.var 1)]))]⟩
def d14 : He.DefD := ⟨("signs_of", none), "signs_of", "signs_of", defArgs (top 22), defBody (top 22), defScope (top 22), [], []⟩
def N15 : List Str := ["cell"]
def P15 : List Str := ["cell"]
/-- _law_pool -/
def fn15 : Fn := ⟨1, [false], [.ret (.lst [(.pr .max [(.con (.int 0)), (.pr .sub [(.var 0), (.pr .pow [(.con (.int 10)), (.con (.int 18))])])]), (.pr .mod [(.var 0), (.pr .pow [(.con (.int 10)), (.con (.int 18))])]), (.con (.int 0))])]⟩
def d15 : He.DefD := ⟨("_law_pool", none), "_law_pool", "_law_pool", defArgs (top 24), defBody (top 24), defScope (top 24), [], []⟩
def N16 : List Str := ["pool", "base", "digit", "near", "stir"]
def P16 : List Str := ["pool", "base"]
/-- _law_next -/
def fn16 : Fn := ⟨5, [true, false], [.ite (.pr .gt [(.pr .idx [(.var 0), (.con (.int 0))]), (.con (.int 0))]) [.asg (.nm 2) (.pr .mod [(.pr .idx [(.var 0), (.con (.int 0))]), (.var 1)]), .set 0 (.con (.int 0)) (.pr .fdiv [(.pr .idx [(.var 0), (.con (.int 0))]), (.var 1)]), .ret (.var 2)] [], .set 0 (.con (.int 2)) (.pr .add [(.pr .idx [(.var 0), (.con (.int 2))]), (.con (.int 1))]), .asg (.nm 3) (.pr .mod [(.pr .add [(.pr .idx [(.var 0), (.con (.int 1))]), (.pr .mul [(.con (.int 7919)), (.pr .idx [(.var 0), (.con (.int 2))])])]), (.con (.int 1000000007))]), .asg (.nm 4) (.pr .mod [(.pr .mul [(.pr .add [(.var 3), (.con (.int 11))]), (.pr .add [(.var 3), (.con (.int 48271))])]), (.con (.int 998244353))]), .ret (.pr .mod [(.pr .fdiv [(.pr .mod [(.pr .mul [(.var 4), (.var 4)]), (.con (.int 2147483647))]), (.con (.int 8))]), (.var 1)])]⟩
def d16 : He.DefD := ⟨("_law_next", none), "_law_next", "_law_next", defArgs (top 25), defBody (top 25), defScope (top 25), [], []⟩
def N17 : List Str := ["pool"]
def P17 : List Str := ["pool"]
/-- _law_letters -/
def fn17 : Fn := ⟨1, [true], [.ret (.pr .idx [(.lst [(.con (.str "ab")), (.con (.str "abc")), (.con (.str " ~")), (.con (.str "$&")), (.con (.str "(*+.")), (.con (.str "09AZaz"))]), (.call 16 [(.var 0), (.con (.int 6))])])]⟩
def d17 : He.DefD := ⟨("_law_letters", none), "_law_letters", "_law_letters", defArgs (top 26), defBody (top 26), defScope (top 26), [], []⟩
def N18 : List Str := ["pool", "letters", "blank", "way", "some", "sign"]
def P18 : List Str := ["pool", "letters", "blank"]
/-- _law_leaf -/
def fn18 : Fn := ⟨6, [true, false, false], [.asg (.nm 3) (.call 16 [(.var 0), (.con (.int 8))]), .ite (.pr .eq [(.var 3), (.con (.int 0))]) [.ret (.tup [(.con (.str "none"))])] [], .ite (.and [(.pr .eq [(.var 3), (.con (.int 1))]), (.var 2)]) [.ret (.tup [(.con (.str "blank"))])] [], .asg (.nm 4) (.comp [5] (.nm 5) .vals [(.var 1)] [(.pr .eq [(.call 16 [(.var 0), (.con (.int 2))]), (.con (.int 1))])] (.var 5)), .ite (.pr .eq [(.var 4), (.lst [])]) [.asg (.nm 4) (.lst [(.pr .idx [(.var 1), (.call 16 [(.var 0), (.pr .len [(.var 1)])])])])] [], .ret (.tup [(.con (.str "sign")), (.sm .join (.con (.str "")) (.var 4))])]⟩
def d18 : He.DefD := ⟨("_law_leaf", none), "_law_leaf", "_law_leaf", defArgs (top 27), defBody (top 27), defScope (top 27), [], []⟩
def N19 : List Str := ["pool", "letters", "deep", "room", "blanks_let", "found", "blank"]
def P19 : List Str := ["pool", "letters", "deep", "room", "blanks_let"]
/-- _law_parts -/
def fn19 : Fn := ⟨7, [true, false, false, true, false], [.asg (.nm 5) (.lst []), .set 3 (.con (.int 0)) (.pr .sub [(.pr .idx [(.var 3), (.con (.int 0))]), (.pr .len [(.var 4)])]), .fr (.nm 6) .vals [(.var 4)] [.set 3 (.con (.int 0)) (.pr .add [(.pr .idx [(.var 3), (.con (.int 0))]), (.con (.int 1))]), .meth .append 5 [(.call 20 [(.var 0), (.var 1), (.pr .sub [(.var 2), (.con (.int 1))]), (.var 3), (.var 6)])]], .ret (.pr .tuple [(.var 5)])]⟩
def d19 : He.DefD := ⟨("_law_parts", none), "_law_parts", "_law_parts", defArgs (top 28), defBody (top 28), defScope (top 28), [], []⟩
def N20 : List Str := ["pool", "letters", "deep", "room", "blank", "way", "count", "hard", "k", "name", "number"]
def P20 : List Str := ["pool", "letters", "deep", "room", "blank"]
/-- _law_pattern -/
def fn20 : Fn := ⟨11, [true, false, false, true, false], [.set 3 (.con (.int 0)) (.pr .sub [(.pr .idx [(.var 3), (.con (.int 0))]), (.con (.int 1))]), .asg (.nm 5) (.call 16 [(.var 0), (.con (.int 11))]), .asg (.nm 6) (.pr .add [(.con (.int 2)), (.call 16 [(.var 0), (.con (.int 5))])]), .ite (.or [(.pr .lt [(.var 2), (.con (.int 2))]), (.pr .lt [(.pr .idx [(.var 3), (.con (.int 0))]), (.con (.int 1))]), (.pr .eq [(.var 5), (.con (.int 0))]), (.and [(.pr .lt [(.var 5), (.con (.int 6))]), (.pr .lt [(.pr .idx [(.var 3), (.con (.int 0))]), (.var 6)])])]) [.ret (.call 18 [(.var 0), (.var 1), (.var 4)])] [], .ite (.pr .lt [(.var 5), (.con (.int 4))]) [.asg (.nm 7) (.call 16 [(.var 0), (.var 6)]), .ret (.tup [(.con (.str "row")), (.call 19 [(.var 0), (.var 1), (.var 2), (.var 3), (.comp [8] (.nm 8) .range [(.var 6)] [] (.or [(.var 4), (.pr .ne [(.var 8), (.var 7)])]))])])] [], .ite (.pr .lt [(.var 5), (.con (.int 6))]) [.ret (.tup [(.con (.str "pick")), (.call 19 [(.var 0), (.var 1), (.var 2), (.var 3), (.pr .mul [(.lst [(.var 4)]), (.var 6)])])])] [], .ite (.and [(.pr .lt [(.var 5), (.con (.int 8))]), (.var 4)]) [.ret (.tup [(.con (.str "again")), (.call 20 [(.var 0), (.var 1), (.pr .sub [(.var 2), (.con (.int 1))]), (.var 3), (.con (.bl false))])])] [], .ite (.pr .eq [(.var 5), (.con (.int 8))]) [.asg (.nm 9) (.pr .idx [(.lst [(.con (.str "x")), (.con (.str "yy")), (.con (.str "left")), (.con (.str "pick")), (.con (.str "none")), (.con (.str "abcdefgh"))]), (.call 16 [(.var 0), (.con (.int 6))])]), .ret (.tup [(.con (.str "held")), (.var 9), (.call 20 [(.var 0), (.var 1), (.pr .sub [(.var 2), (.con (.int 1))]), (.var 3), (.var 4)])])] [], .asg (.nm 10) (.pr .idx [(.lst [(.con (.int 0)), (.con (.int 1)), (.con (.int 2)), (.con (.int 999)), (.con (.int 1000)), (.call 16 [(.var 0), (.con (.int 1001))])]), (.call 16 [(.var 0), (.con (.int 6))])]), .ret (.tup [(.con (.str "price")), (.var 10), (.call 20 [(.var 0), (.var 1), (.pr .sub [(.var 2), (.con (.int 1))]), (.var 3), (.var 4)])])]⟩
def d20 : He.DefD := ⟨("_law_pattern", none), "_law_pattern", "_law_pattern", defArgs (top 29), defBody (top 29), defScope (top 29), [], []⟩
def N21 : List Str := ["pool", "deepest", "letters", "room"]
def P21 : List Str := ["pool", "deepest"]
/-- _law_drawn -/
def fn21 : Fn := ⟨4, [true, false], [.asg (.nm 2) (.call 17 [(.var 0)]), .asg (.nm 3) (.lst [(.pr .idx [(.lst [(.con (.int 1)), (.con (.int 3)), (.con (.int 6)), (.con (.int 10)), (.con (.int 16)), (.con (.int 24)), (.con (.int 32)), (.con (.int 40))]), (.call 16 [(.var 0), (.con (.int 8))])])]), .ret (.call 20 [(.var 0), (.var 2), (.pr .add [(.con (.int 2)), (.call 16 [(.var 0), (.pr .sub [(.var 1), (.con (.int 1))])])]), (.var 3), (.con (.bl true))])]⟩
def d21 : He.DefD := ⟨("_law_drawn", none), "_law_drawn", "_law_drawn", defArgs (top 30), defBody (top 30), defScope (top 30), [], []⟩
def N22 : List Str := ["parts", "found", "heads", "part", "shift", "numbers", "one"]
def P22 : List Str := ["parts"]
/-- _law_joined -/
def fn22 : Fn := ⟨7, [false], [.asg (.nm 1) (.lst [(.tup [])]), .asg (.nm 2) (.lst []), .fr (.nm 3) .vals [(.var 0)] [.asg (.nm 4) (.pr .len [(.var 1)]), .meth .append 2 [(.var 4)], .fr (.nm 5) .vals [(.call 13 [(.var 3)])] [.meth .append 1 [(.pr .tuple [(.comp [6] (.nm 6) .vals [(.var 5)] [] (.pr .add [(.var 4), (.var 6)]))])]]], .set 1 (.con (.int 0)) (.pr .tuple [(.var 2)]), .ret (.var 1)]⟩
def d22 : He.DefD := ⟨("_law_joined", none), "_law_joined", "_law_joined", defArgs (top 31), defBody (top 31), defScope (top 31), [], []⟩
def N23 : List Str := ["word", "parts", "part"]
def P23 : List Str := ["word", "parts"]
/-- _law_bounded -/
def fn23 : Fn := ⟨3, [false, false], [.ite (.or [(.and [(.pr .inn [(.var 0), (.lst [(.con (.str "row")), (.con (.str "pick"))])]), (.pr .lt [(.pr .len [(.var 1)]), (.con (.int 2))])]), (.and [(.pr .eq [(.var 0), (.con (.str "again"))]), (.call 4 [(.pr .idx [(.var 1), (.con (.int 0))])])])]) [.ret (.con (.bl false))] [], .ite (.pr .gt [(.pr .max [(.comp [2] (.nm 2) .vals [(.var 1)] [] (.call 10 [(.var 2)]))]), (.con (.int 8))]) [.ret (.con (.bl false))] [], .ret (.pr .le [(.pr .sum [(.comp [2] (.nm 2) .vals [(.var 1)] [] (.pr .len [(.call 11 [(.var 2)])]))]), (.con (.int 39))])]⟩
def d23 : He.DefD := ⟨("_law_bounded", none), "_law_bounded", "_law_bounded", defArgs (top 32), defBody (top 32), defScope (top 32), [], []⟩
def N24 : List Str := ["whole", "parts", "word", "good", "found", "blanks_let", "part", "some", "due", "makes", "signs"]
def P24 : List Str := ["whole", "parts"]
/-- _law_right -/
def fn24 : Fn := ⟨11, [false, false], [.asg (.nm 2) (.pr .idx [(.var 0), (.con (.int 0))]), .asg (.nm 3) (.call 23 [(.var 2), (.var 1)]), .asg (.nm 4) (.call 9 [(.var 0)]), .ite (.pr .ne [(.var 4), (.var 3)]) [.ret (.con (.bl false))] [], .ite (.not (.var 3)) [.ret (.con (.bl true))] [], .asg (.nm 5) (.comp [6] (.nm 6) .vals [(.var 1)] [] (.call 4 [(.var 6)])), .asg (.nm 7) (.comp [6] (.nm 6) .vals [(.var 1)] [] (.call 5 [(.var 6)])), .asg (.nm 8) (.lst [(.pr .any [(.var 5)]), (.pr .any [(.var 7)])]), .ite (.pr .eq [(.var 2), (.con (.str "row"))]) [.asg (.nm 8) (.lst [(.pr .all [(.var 5)]), (.pr .all [(.var 7)])])] [], .ite (.pr .eq [(.var 2), (.con (.str "again"))]) [.asg (.nm 8) (.lst [(.con (.bl true)), (.con (.bl true))])] [], .ite (.pr .ne [(.lst [(.call 4 [(.var 0)]), (.call 5 [(.var 0)])]), (.var 8)]) [.ret (.con (.bl false))] [], .asg (.nm 9) (.lst [(.var 0)]), .asg (.nm 10) (.con (.str "")), .fr (.nm 6) .vals [(.var 1)] [.meth .extend 9 [(.call 11 [(.var 6)])], .asg (.nm 10) (.pr .add [(.var 10), (.call 14 [(.var 6)])])], .ite (.or [(.pr .ne [(.call 11 [(.var 0)]), (.var 9)]), (.pr .ne [(.call 13 [(.var 0)]), (.call 22 [(.var 1)])])]) [.ret (.con (.bl false))] [], .ite (.pr .ne [(.call 10 [(.var 0)]), (.pr .add [(.con (.int 1)), (.pr .max [(.comp [6] (.nm 6) .vals [(.var 1)] [] (.call 10 [(.var 6)]))])])]) [.ret (.con (.bl false))] [], .ret (.pr .eq [(.call 14 [(.var 0)]), (.sm .join (.con (.str "")) (.pr .sset [(.var 10)]))])]⟩
def d24 : He.DefD := ⟨("_law_right", none), "_law_right", "_law_right", defArgs (top 33), defBody (top 33), defScope (top 33), [], []⟩
def N25 : List Str := ["script", "cell", "pool", "count", "parts", "k", "number", "word", "whole"]
def P25 : List Str := ["script"]
/-- law -/
def fn25 : Fn := ⟨9, [false], [.fr (.nm 1) .vals [(.pr .add [(.lst [(.con (.int 0))]), (.var 0)])] [.asg (.nm 2) (.call 15 [(.var 1)]), .asg (.nm 3) (.pr .add [(.con (.int 1)), (.call 16 [(.var 2), (.con (.int 6))])]), .asg (.nm 4) (.comp [5] (.nm 5) .range [(.var 3)] [] (.call 21 [(.var 2), (.pr .idx [(.lst [(.con (.int 9)), (.con (.int 9)), (.con (.int 5)), (.con (.int 4)), (.con (.int 3)), (.con (.int 3))]), (.pr .sub [(.var 3), (.con (.int 1))])])])), .asg (.nm 6) (.call 16 [(.var 2), (.con (.int 1001))]), .fr (.nm 7) .vals [(.lst [(.con (.str "row")), (.con (.str "pick"))])] [.ite (.not (.call 24 [(.tup [(.var 7), (.pr .tuple [(.var 4)])]), (.var 4)])) [.ret (.con (.bl false))] []], .fr (.nm 8) .vals [(.lst [(.tup [(.con (.str "held")), (.con (.str "x")), (.pr .idx [(.var 4), (.con (.int 0))])]), (.tup [(.con (.str "price")), (.var 6), (.pr .idx [(.var 4), (.con (.int 0))])]), (.tup [(.con (.str "again")), (.pr .idx [(.var 4), (.con (.int 0))])])])] [.ite (.not (.call 24 [(.var 8), (.pr (.sl false true) [(.var 4), (.con (.int 1))])])) [.ret (.con (.bl false))] []]], .ret (.con (.bl true))]⟩
def d25 : He.DefD := ⟨("law", none), "law", "law", defArgs (top 34), defBody (top 34), defScope (top 34), [], []⟩
def tab : List Fn := [fn0, fn1, fn2, fn3, fn4, fn5, fn6, fn7, fn8, fn9, fn10, fn11, fn12, fn13, fn14, fn15, fn16, fn17, fn18, fn19, fn20, fn21, fn22, fn23, fn24, fn25]
def nms : List Str := ["is_whole", "is_word", "is_text", "inner_of", "can_be_blank", "has_texts", "are_signs", "are_formed", "is_formed", "is_pattern", "depth_of", "makes_of", "put_numbers", "parts_of", "signs_of", "_law_pool", "_law_next", "_law_letters", "_law_leaf", "_law_parts", "_law_pattern", "_law_drawn", "_law_joined", "_law_bounded", "_law_right", "law"]
def consts : List (Str × D) := [("LETTERS", (.str "abcdefghijklmnopqrstuvwxyz")), ("LONGEST", (.int 8)), ("MOST_DEEP", (.int 9)), ("MOST_MAKES", (.int 40)), ("MOST_PARTS", (.int 6)), ("GREATEST_PRICE", (.int 1000))]
def fnD : List He.DefD := [d0, d1, d2, d3, d4, d5, d6, d7, d8, d9, d10, d11, d12, d13, d14, d15, d16, d17, d18, d19, d20, d21, d22, d23, d24, d25]
def bl : List Str := bltNames
def fa : List He.Fa := [.glo "is_whole", .glo "is_word", .glo "is_text", .glo "inner_of", .glo "can_be_blank", .glo "has_texts", .glo "are_signs", .glo "are_formed", .glo "is_formed", .glo "is_pattern", .glo "depth_of", .glo "makes_of", .glo "put_numbers", .glo "parts_of", .glo "signs_of", .glo "_law_pool", .glo "_law_next", .glo "_law_letters", .glo "_law_leaf", .glo "_law_parts", .glo "_law_pattern", .glo "_law_drawn", .glo "_law_joined", .glo "_law_bounded", .glo "_law_right", .glo "law", .str "LETTERS" "abcdefghijklmnopqrstuvwxyz", .int "LONGEST" (8), .int "MOST_DEEP" (9), .int "MOST_MAKES" (40), .int "MOST_PARTS" (6), .int "GREATEST_PRICE" (1000)] ++ bltNames.map .free
theorem s0 : FnScope N0 P0 (defScope (top 3)) := ⟨rfl, rfl, rfl, by decide +kernel, rfl, by decide +kernel, by decide +kernel⟩
theorem c0 : chkTs ⟨N0, nms, consts⟩ (defScope (top 3)).names fn0.body (defBody (top 3)) = true := by decide +kernel
theorem s1 : FnScope N1 P1 (defScope (top 4)) := ⟨rfl, rfl, rfl, by decide +kernel, rfl, by decide +kernel, by decide +kernel⟩
theorem c1 : chkTs ⟨N1, nms, consts⟩ (defScope (top 4)).names fn1.body (defBody (top 4)) = true := by decide +kernel
theorem s2 : FnScope N2 P2 (defScope (top 5)) := ⟨rfl, rfl, rfl, by decide +kernel, rfl, by decide +kernel, by decide +kernel⟩
theorem c2 : chkTs ⟨N2, nms, consts⟩ (defScope (top 5)).names fn2.body (defBody (top 5)) = true := by decide +kernel
theorem s3 : FnScope N3 P3 (defScope (top 11)) := ⟨rfl, rfl, rfl, by decide +kernel, rfl, by decide +kernel, by decide +kernel⟩
theorem c3 : chkTs ⟨N3, nms, consts⟩ (defScope (top 11)).names fn3.body (defBody (top 11)) = true := by decide +kernel
theorem s4 : FnScope N4 P4 (defScope (top 12)) := ⟨rfl, rfl, rfl, by decide +kernel, rfl, by decide +kernel, by decide +kernel⟩
theorem c4 : chkTs ⟨N4, nms, consts⟩ (defScope (top 12)).names fn4.body (defBody (top 12)) = true := by decide +kernel
theorem s5 : FnScope N5 P5 (defScope (top 13)) := ⟨rfl, rfl, rfl, by decide +kernel, rfl, by decide +kernel, by decide +kernel⟩
theorem c5 : chkTs ⟨N5, nms, consts⟩ (defScope (top 13)).names fn5.body (defBody (top 13)) = true := by decide +kernel
theorem s6 : FnScope N6 P6 (defScope (top 14)) := ⟨rfl, rfl, rfl, by decide +kernel, rfl, by decide +kernel, by decide +kernel⟩
theorem c6 : chkTs ⟨N6, nms, consts⟩ (defScope (top 14)).names fn6.body (defBody (top 14)) = true := by decide +kernel
theorem s7 : FnScope N7 P7 (defScope (top 15)) := ⟨rfl, rfl, rfl, by decide +kernel, rfl, by decide +kernel, by decide +kernel⟩
theorem c7 : chkTs ⟨N7, nms, consts⟩ (defScope (top 15)).names fn7.body (defBody (top 15)) = true := by decide +kernel
theorem s8 : FnScope N8 P8 (defScope (top 16)) := ⟨rfl, rfl, rfl, by decide +kernel, rfl, by decide +kernel, by decide +kernel⟩
theorem c8 : chkTs ⟨N8, nms, consts⟩ (defScope (top 16)).names fn8.body (defBody (top 16)) = true := by decide +kernel
theorem s9 : FnScope N9 P9 (defScope (top 17)) := ⟨rfl, rfl, rfl, by decide +kernel, rfl, by decide +kernel, by decide +kernel⟩
theorem c9 : chkTs ⟨N9, nms, consts⟩ (defScope (top 17)).names fn9.body (defBody (top 17)) = true := by decide +kernel
theorem s10 : FnScope N10 P10 (defScope (top 18)) := ⟨rfl, rfl, rfl, by decide +kernel, rfl, by decide +kernel, by decide +kernel⟩
theorem c10 : chkTs ⟨N10, nms, consts⟩ (defScope (top 18)).names fn10.body (defBody (top 18)) = true := by decide +kernel
theorem s11 : FnScope N11 P11 (defScope (top 19)) := ⟨rfl, rfl, rfl, by decide +kernel, rfl, by decide +kernel, by decide +kernel⟩
theorem c11 : chkTs ⟨N11, nms, consts⟩ (defScope (top 19)).names fn11.body (defBody (top 19)) = true := by decide +kernel
theorem s12 : FnScope N12 P12 (defScope (top 20)) := ⟨rfl, rfl, rfl, by decide +kernel, rfl, by decide +kernel, by decide +kernel⟩
theorem c12 : chkTs ⟨N12, nms, consts⟩ (defScope (top 20)).names fn12.body (defBody (top 20)) = true := by decide +kernel
theorem s13 : FnScope N13 P13 (defScope (top 21)) := ⟨rfl, rfl, rfl, by decide +kernel, rfl, by decide +kernel, by decide +kernel⟩
theorem c13 : chkTs ⟨N13, nms, consts⟩ (defScope (top 21)).names fn13.body (defBody (top 21)) = true := by decide +kernel
theorem s14 : FnScope N14 P14 (defScope (top 22)) := ⟨rfl, rfl, rfl, by decide +kernel, rfl, by decide +kernel, by decide +kernel⟩
theorem c14 : chkTs ⟨N14, nms, consts⟩ (defScope (top 22)).names fn14.body (defBody (top 22)) = true := by decide +kernel
theorem s15 : FnScope N15 P15 (defScope (top 24)) := ⟨rfl, rfl, rfl, by decide +kernel, rfl, by decide +kernel, by decide +kernel⟩
theorem c15 : chkTs ⟨N15, nms, consts⟩ (defScope (top 24)).names fn15.body (defBody (top 24)) = true := by decide +kernel
theorem s16 : FnScope N16 P16 (defScope (top 25)) := ⟨rfl, rfl, rfl, by decide +kernel, rfl, by decide +kernel, by decide +kernel⟩
theorem c16 : chkTs ⟨N16, nms, consts⟩ (defScope (top 25)).names fn16.body (defBody (top 25)) = true := by decide +kernel
theorem s17 : FnScope N17 P17 (defScope (top 26)) := ⟨rfl, rfl, rfl, by decide +kernel, rfl, by decide +kernel, by decide +kernel⟩
theorem c17 : chkTs ⟨N17, nms, consts⟩ (defScope (top 26)).names fn17.body (defBody (top 26)) = true := by decide +kernel
theorem s18 : FnScope N18 P18 (defScope (top 27)) := ⟨rfl, rfl, rfl, by decide +kernel, rfl, by decide +kernel, by decide +kernel⟩
theorem c18 : chkTs ⟨N18, nms, consts⟩ (defScope (top 27)).names fn18.body (defBody (top 27)) = true := by decide +kernel
theorem s19 : FnScope N19 P19 (defScope (top 28)) := ⟨rfl, rfl, rfl, by decide +kernel, rfl, by decide +kernel, by decide +kernel⟩
theorem c19 : chkTs ⟨N19, nms, consts⟩ (defScope (top 28)).names fn19.body (defBody (top 28)) = true := by decide +kernel
theorem s20 : FnScope N20 P20 (defScope (top 29)) := ⟨rfl, rfl, rfl, by decide +kernel, rfl, by decide +kernel, by decide +kernel⟩
theorem c20 : chkTs ⟨N20, nms, consts⟩ (defScope (top 29)).names fn20.body (defBody (top 29)) = true := by decide +kernel
theorem s21 : FnScope N21 P21 (defScope (top 30)) := ⟨rfl, rfl, rfl, by decide +kernel, rfl, by decide +kernel, by decide +kernel⟩
theorem c21 : chkTs ⟨N21, nms, consts⟩ (defScope (top 30)).names fn21.body (defBody (top 30)) = true := by decide +kernel
theorem s22 : FnScope N22 P22 (defScope (top 31)) := ⟨rfl, rfl, rfl, by decide +kernel, rfl, by decide +kernel, by decide +kernel⟩
theorem c22 : chkTs ⟨N22, nms, consts⟩ (defScope (top 31)).names fn22.body (defBody (top 31)) = true := by decide +kernel
theorem s23 : FnScope N23 P23 (defScope (top 32)) := ⟨rfl, rfl, rfl, by decide +kernel, rfl, by decide +kernel, by decide +kernel⟩
theorem c23 : chkTs ⟨N23, nms, consts⟩ (defScope (top 32)).names fn23.body (defBody (top 32)) = true := by decide +kernel
theorem s24 : FnScope N24 P24 (defScope (top 33)) := ⟨rfl, rfl, rfl, by decide +kernel, rfl, by decide +kernel, by decide +kernel⟩
theorem c24 : chkTs ⟨N24, nms, consts⟩ (defScope (top 33)).names fn24.body (defBody (top 33)) = true := by decide +kernel
theorem s25 : FnScope N25 P25 (defScope (top 34)) := ⟨rfl, rfl, rfl, by decide +kernel, rfl, by decide +kernel, by decide +kernel⟩
theorem c25 : chkTs ⟨N25, nms, consts⟩ (defScope (top 34)).names fn25.body (defBody (top 34)) = true := by decide +kernel
section
variable {K : PySem.W.Frag} {h : Heap} {mg : Str → Option Value}
theorem k0 (X : K.In h) (G : h.Ns mainGlobals mg) (c : He.SaysD fa fnD K) : ∃ fd, DefOk K mg nms consts "is_whole" fn0 N0 P0 (top 3) (He.ga K "is_whole") fd := def_of X G c 0 rfl rfl s0 rfl rfl c0 fun _ _ _ _ _ _ us hl => match us, hl with | [_], _ => rfl
theorem k1 (X : K.In h) (G : h.Ns mainGlobals mg) (c : He.SaysD fa fnD K) : ∃ fd, DefOk K mg nms consts "is_word" fn1 N1 P1 (top 4) (He.ga K "is_word") fd := def_of X G c 1 rfl rfl s1 rfl rfl c1 fun _ _ _ _ _ _ us hl => match us, hl with | [_], _ => rfl
theorem k2 (X : K.In h) (G : h.Ns mainGlobals mg) (c : He.SaysD fa fnD K) : ∃ fd, DefOk K mg nms consts "is_text" fn2 N2 P2 (top 5) (He.ga K "is_text") fd := def_of X G c 2 rfl rfl s2 rfl rfl c2 fun _ _ _ _ _ _ us hl => match us, hl with | [_], _ => rfl
theorem k3 (X : K.In h) (G : h.Ns mainGlobals mg) (c : He.SaysD fa fnD K) : ∃ fd, DefOk K mg nms consts "inner_of" fn3 N3 P3 (top 11) (He.ga K "inner_of") fd := def_of X G c 3 rfl rfl s3 rfl rfl c3 fun _ _ _ _ _ _ us hl => match us, hl with | [_], _ => rfl
theorem k4 (X : K.In h) (G : h.Ns mainGlobals mg) (c : He.SaysD fa fnD K) : ∃ fd, DefOk K mg nms consts "can_be_blank" fn4 N4 P4 (top 12) (He.ga K "can_be_blank") fd := def_of X G c 4 rfl rfl s4 rfl rfl c4 fun _ _ _ _ _ _ us hl => match us, hl with | [_], _ => rfl
theorem k5 (X : K.In h) (G : h.Ns mainGlobals mg) (c : He.SaysD fa fnD K) : ∃ fd, DefOk K mg nms consts "has_texts" fn5 N5 P5 (top 13) (He.ga K "has_texts") fd := def_of X G c 5 rfl rfl s5 rfl rfl c5 fun _ _ _ _ _ _ us hl => match us, hl with | [_], _ => rfl
theorem k6 (X : K.In h) (G : h.Ns mainGlobals mg) (c : He.SaysD fa fnD K) : ∃ fd, DefOk K mg nms consts "are_signs" fn6 N6 P6 (top 14) (He.ga K "are_signs") fd := def_of X G c 6 rfl rfl s6 rfl rfl c6 fun _ _ _ _ _ _ us hl => match us, hl with | [_], _ => rfl
theorem k7 (X : K.In h) (G : h.Ns mainGlobals mg) (c : He.SaysD fa fnD K) : ∃ fd, DefOk K mg nms consts "are_formed" fn7 N7 P7 (top 15) (He.ga K "are_formed") fd := def_of X G c 7 rfl rfl s7 rfl rfl c7 fun _ _ _ _ _ _ us hl => match us, hl with | [_, _, _], _ => rfl
theorem k8 (X : K.In h) (G : h.Ns mainGlobals mg) (c : He.SaysD fa fnD K) : ∃ fd, DefOk K mg nms consts "is_formed" fn8 N8 P8 (top 16) (He.ga K "is_formed") fd := def_of X G c 8 rfl rfl s8 rfl rfl c8 fun _ _ _ _ _ _ us hl => match us, hl with | [_, _, _], _ => rfl
theorem k9 (X : K.In h) (G : h.Ns mainGlobals mg) (c : He.SaysD fa fnD K) : ∃ fd, DefOk K mg nms consts "is_pattern" fn9 N9 P9 (top 17) (He.ga K "is_pattern") fd := def_of X G c 9 rfl rfl s9 rfl rfl c9 fun _ _ _ _ _ _ us hl => match us, hl with | [_], _ => rfl
theorem k10 (X : K.In h) (G : h.Ns mainGlobals mg) (c : He.SaysD fa fnD K) : ∃ fd, DefOk K mg nms consts "depth_of" fn10 N10 P10 (top 18) (He.ga K "depth_of") fd := def_of X G c 10 rfl rfl s10 rfl rfl c10 fun _ _ _ _ _ _ us hl => match us, hl with | [_], _ => rfl
theorem k11 (X : K.In h) (G : h.Ns mainGlobals mg) (c : He.SaysD fa fnD K) : ∃ fd, DefOk K mg nms consts "makes_of" fn11 N11 P11 (top 19) (He.ga K "makes_of") fd := def_of X G c 11 rfl rfl s11 rfl rfl c11 fun _ _ _ _ _ _ us hl => match us, hl with | [_], _ => rfl
theorem k12 (X : K.In h) (G : h.Ns mainGlobals mg) (c : He.SaysD fa fnD K) : ∃ fd, DefOk K mg nms consts "put_numbers" fn12 N12 P12 (top 20) (He.ga K "put_numbers") fd := def_of X G c 12 rfl rfl s12 rfl rfl c12 fun _ _ _ _ _ _ us hl => match us, hl with | [_, _], _ => rfl
theorem k13 (X : K.In h) (G : h.Ns mainGlobals mg) (c : He.SaysD fa fnD K) : ∃ fd, DefOk K mg nms consts "parts_of" fn13 N13 P13 (top 21) (He.ga K "parts_of") fd := def_of X G c 13 rfl rfl s13 rfl rfl c13 fun _ _ _ _ _ _ us hl => match us, hl with | [_], _ => rfl
theorem k14 (X : K.In h) (G : h.Ns mainGlobals mg) (c : He.SaysD fa fnD K) : ∃ fd, DefOk K mg nms consts "signs_of" fn14 N14 P14 (top 22) (He.ga K "signs_of") fd := def_of X G c 14 rfl rfl s14 rfl rfl c14 fun _ _ _ _ _ _ us hl => match us, hl with | [_], _ => rfl
theorem k15 (X : K.In h) (G : h.Ns mainGlobals mg) (c : He.SaysD fa fnD K) : ∃ fd, DefOk K mg nms consts "_law_pool" fn15 N15 P15 (top 24) (He.ga K "_law_pool") fd := def_of X G c 15 rfl rfl s15 rfl rfl c15 fun _ _ _ _ _ _ us hl => match us, hl with | [_], _ => rfl
theorem k16 (X : K.In h) (G : h.Ns mainGlobals mg) (c : He.SaysD fa fnD K) : ∃ fd, DefOk K mg nms consts "_law_next" fn16 N16 P16 (top 25) (He.ga K "_law_next") fd := def_of X G c 16 rfl rfl s16 rfl rfl c16 fun _ _ _ _ _ _ us hl => match us, hl with | [_, _], _ => rfl
theorem k17 (X : K.In h) (G : h.Ns mainGlobals mg) (c : He.SaysD fa fnD K) : ∃ fd, DefOk K mg nms consts "_law_letters" fn17 N17 P17 (top 26) (He.ga K "_law_letters") fd := def_of X G c 17 rfl rfl s17 rfl rfl c17 fun _ _ _ _ _ _ us hl => match us, hl with | [_], _ => rfl
theorem k18 (X : K.In h) (G : h.Ns mainGlobals mg) (c : He.SaysD fa fnD K) : ∃ fd, DefOk K mg nms consts "_law_leaf" fn18 N18 P18 (top 27) (He.ga K "_law_leaf") fd := def_of X G c 18 rfl rfl s18 rfl rfl c18 fun _ _ _ _ _ _ us hl => match us, hl with | [_, _, _], _ => rfl
theorem k19 (X : K.In h) (G : h.Ns mainGlobals mg) (c : He.SaysD fa fnD K) : ∃ fd, DefOk K mg nms consts "_law_parts" fn19 N19 P19 (top 28) (He.ga K "_law_parts") fd := def_of X G c 19 rfl rfl s19 rfl rfl c19 fun _ _ _ _ _ _ us hl => match us, hl with | [_, _, _, _, _], _ => rfl
theorem k20 (X : K.In h) (G : h.Ns mainGlobals mg) (c : He.SaysD fa fnD K) : ∃ fd, DefOk K mg nms consts "_law_pattern" fn20 N20 P20 (top 29) (He.ga K "_law_pattern") fd := def_of X G c 20 rfl rfl s20 rfl rfl c20 fun _ _ _ _ _ _ us hl => match us, hl with | [_, _, _, _, _], _ => rfl
theorem k21 (X : K.In h) (G : h.Ns mainGlobals mg) (c : He.SaysD fa fnD K) : ∃ fd, DefOk K mg nms consts "_law_drawn" fn21 N21 P21 (top 30) (He.ga K "_law_drawn") fd := def_of X G c 21 rfl rfl s21 rfl rfl c21 fun _ _ _ _ _ _ us hl => match us, hl with | [_, _], _ => rfl
theorem k22 (X : K.In h) (G : h.Ns mainGlobals mg) (c : He.SaysD fa fnD K) : ∃ fd, DefOk K mg nms consts "_law_joined" fn22 N22 P22 (top 31) (He.ga K "_law_joined") fd := def_of X G c 22 rfl rfl s22 rfl rfl c22 fun _ _ _ _ _ _ us hl => match us, hl with | [_], _ => rfl
theorem k23 (X : K.In h) (G : h.Ns mainGlobals mg) (c : He.SaysD fa fnD K) : ∃ fd, DefOk K mg nms consts "_law_bounded" fn23 N23 P23 (top 32) (He.ga K "_law_bounded") fd := def_of X G c 23 rfl rfl s23 rfl rfl c23 fun _ _ _ _ _ _ us hl => match us, hl with | [_, _], _ => rfl
theorem k24 (X : K.In h) (G : h.Ns mainGlobals mg) (c : He.SaysD fa fnD K) : ∃ fd, DefOk K mg nms consts "_law_right" fn24 N24 P24 (top 33) (He.ga K "_law_right") fd := def_of X G c 24 rfl rfl s24 rfl rfl c24 fun _ _ _ _ _ _ us hl => match us, hl with | [_, _], _ => rfl
theorem k25 (X : K.In h) (G : h.Ns mainGlobals mg) (c : He.SaysD fa fnD K) : ∃ fd, DefOk K mg nms consts "law" fn25 N25 P25 (top 34) (He.ga K "law") fd := def_of X G c 25 rfl rfl s25 rfl rfl c25 fun _ _ _ _ _ _ us hl => match us, hl with | [_], _ => rfl
theorem tabOk (X : K.In h) (G : h.Ns mainGlobals mg) (c : He.SaysD fa fnD K) : TabOk K mg nms consts tab := by
  refine ⟨fun f nm e => ?_, free_of X G c (pre := [.glo "is_whole", .glo "is_word", .glo "is_text", .glo "inner_of", .glo "can_be_blank", .glo "has_texts", .glo "are_signs", .glo "are_formed", .glo "is_formed", .glo "is_pattern", .glo "depth_of", .glo "makes_of", .glo "put_numbers", .glo "parts_of", .glo "signs_of", .glo "_law_pool", .glo "_law_next", .glo "_law_letters", .glo "_law_leaf", .glo "_law_parts", .glo "_law_pattern", .glo "_law_drawn", .glo "_law_joined", .glo "_law_bounded", .glo "_law_right", .glo "law", .str "LETTERS" "abcdefghijklmnopqrstuvwxyz", .int "LONGEST" (8), .int "MOST_DEEP" (9), .int "MOST_MAKES" (40), .int "MOST_PARTS" (6), .int "GREATEST_PRICE" (1000)]) rfl, ?_⟩
  · match f, e with
    | 0, e => have e : some ("is_whole" : Str) = some nm := e; cases e; obtain ⟨fd, q⟩ := k0 X G c; exact ⟨_, _, _, _, _, _, rfl, q⟩
    | 1, e => have e : some ("is_word" : Str) = some nm := e; cases e; obtain ⟨fd, q⟩ := k1 X G c; exact ⟨_, _, _, _, _, _, rfl, q⟩
    | 2, e => have e : some ("is_text" : Str) = some nm := e; cases e; obtain ⟨fd, q⟩ := k2 X G c; exact ⟨_, _, _, _, _, _, rfl, q⟩
    | 3, e => have e : some ("inner_of" : Str) = some nm := e; cases e; obtain ⟨fd, q⟩ := k3 X G c; exact ⟨_, _, _, _, _, _, rfl, q⟩
    | 4, e => have e : some ("can_be_blank" : Str) = some nm := e; cases e; obtain ⟨fd, q⟩ := k4 X G c; exact ⟨_, _, _, _, _, _, rfl, q⟩
    | 5, e => have e : some ("has_texts" : Str) = some nm := e; cases e; obtain ⟨fd, q⟩ := k5 X G c; exact ⟨_, _, _, _, _, _, rfl, q⟩
    | 6, e => have e : some ("are_signs" : Str) = some nm := e; cases e; obtain ⟨fd, q⟩ := k6 X G c; exact ⟨_, _, _, _, _, _, rfl, q⟩
    | 7, e => have e : some ("are_formed" : Str) = some nm := e; cases e; obtain ⟨fd, q⟩ := k7 X G c; exact ⟨_, _, _, _, _, _, rfl, q⟩
    | 8, e => have e : some ("is_formed" : Str) = some nm := e; cases e; obtain ⟨fd, q⟩ := k8 X G c; exact ⟨_, _, _, _, _, _, rfl, q⟩
    | 9, e => have e : some ("is_pattern" : Str) = some nm := e; cases e; obtain ⟨fd, q⟩ := k9 X G c; exact ⟨_, _, _, _, _, _, rfl, q⟩
    | 10, e => have e : some ("depth_of" : Str) = some nm := e; cases e; obtain ⟨fd, q⟩ := k10 X G c; exact ⟨_, _, _, _, _, _, rfl, q⟩
    | 11, e => have e : some ("makes_of" : Str) = some nm := e; cases e; obtain ⟨fd, q⟩ := k11 X G c; exact ⟨_, _, _, _, _, _, rfl, q⟩
    | 12, e => have e : some ("put_numbers" : Str) = some nm := e; cases e; obtain ⟨fd, q⟩ := k12 X G c; exact ⟨_, _, _, _, _, _, rfl, q⟩
    | 13, e => have e : some ("parts_of" : Str) = some nm := e; cases e; obtain ⟨fd, q⟩ := k13 X G c; exact ⟨_, _, _, _, _, _, rfl, q⟩
    | 14, e => have e : some ("signs_of" : Str) = some nm := e; cases e; obtain ⟨fd, q⟩ := k14 X G c; exact ⟨_, _, _, _, _, _, rfl, q⟩
    | 15, e => have e : some ("_law_pool" : Str) = some nm := e; cases e; obtain ⟨fd, q⟩ := k15 X G c; exact ⟨_, _, _, _, _, _, rfl, q⟩
    | 16, e => have e : some ("_law_next" : Str) = some nm := e; cases e; obtain ⟨fd, q⟩ := k16 X G c; exact ⟨_, _, _, _, _, _, rfl, q⟩
    | 17, e => have e : some ("_law_letters" : Str) = some nm := e; cases e; obtain ⟨fd, q⟩ := k17 X G c; exact ⟨_, _, _, _, _, _, rfl, q⟩
    | 18, e => have e : some ("_law_leaf" : Str) = some nm := e; cases e; obtain ⟨fd, q⟩ := k18 X G c; exact ⟨_, _, _, _, _, _, rfl, q⟩
    | 19, e => have e : some ("_law_parts" : Str) = some nm := e; cases e; obtain ⟨fd, q⟩ := k19 X G c; exact ⟨_, _, _, _, _, _, rfl, q⟩
    | 20, e => have e : some ("_law_pattern" : Str) = some nm := e; cases e; obtain ⟨fd, q⟩ := k20 X G c; exact ⟨_, _, _, _, _, _, rfl, q⟩
    | 21, e => have e : some ("_law_drawn" : Str) = some nm := e; cases e; obtain ⟨fd, q⟩ := k21 X G c; exact ⟨_, _, _, _, _, _, rfl, q⟩
    | 22, e => have e : some ("_law_joined" : Str) = some nm := e; cases e; obtain ⟨fd, q⟩ := k22 X G c; exact ⟨_, _, _, _, _, _, rfl, q⟩
    | 23, e => have e : some ("_law_bounded" : Str) = some nm := e; cases e; obtain ⟨fd, q⟩ := k23 X G c; exact ⟨_, _, _, _, _, _, rfl, q⟩
    | 24, e => have e : some ("_law_right" : Str) = some nm := e; cases e; obtain ⟨fd, q⟩ := k24 X G c; exact ⟨_, _, _, _, _, _, rfl, q⟩
    | 25, e => have e : some ("law" : Str) = some nm := e; cases e; obtain ⟨fd, q⟩ := k25 X G c; exact ⟨_, _, _, _, _, _, rfl, q⟩
    | f + 26, e => have e : (none : Option Str) = some nm := e; cases e
  · intro x d e _
    unfold consts List.lookup at e
    cases hx0 : x == ("LETTERS" : Str) with
    | true =>
      rw [hx0] at e; cases e; cases (eq_of_beq hx0)
      obtain ⟨t, q⟩ := He.str_ok X G (c.fact 26 (f := .str "LETTERS" "abcdefghijklmnopqrstuvwxyz") rfl)
      exact ⟨_, q, ⟨t, rfl⟩⟩
    | false =>
    rw [hx0] at e; dsimp only at e
    unfold List.lookup at e
    cases hx1 : x == ("LONGEST" : Str) with
    | true =>
      rw [hx1] at e; cases e; cases (eq_of_beq hx1)
      obtain ⟨t, q⟩ := He.int_ok X G (c.fact 27 (f := .int "LONGEST" (8)) rfl)
      exact ⟨_, q, ⟨t, rfl⟩⟩
    | false =>
    rw [hx1] at e; dsimp only at e
    unfold List.lookup at e
    cases hx2 : x == ("MOST_DEEP" : Str) with
    | true =>
      rw [hx2] at e; cases e; cases (eq_of_beq hx2)
      obtain ⟨t, q⟩ := He.int_ok X G (c.fact 28 (f := .int "MOST_DEEP" (9)) rfl)
      exact ⟨_, q, ⟨t, rfl⟩⟩
    | false =>
    rw [hx2] at e; dsimp only at e
    unfold List.lookup at e
    cases hx3 : x == ("MOST_MAKES" : Str) with
    | true =>
      rw [hx3] at e; cases e; cases (eq_of_beq hx3)
      obtain ⟨t, q⟩ := He.int_ok X G (c.fact 29 (f := .int "MOST_MAKES" (40)) rfl)
      exact ⟨_, q, ⟨t, rfl⟩⟩
    | false =>
    rw [hx3] at e; dsimp only at e
    unfold List.lookup at e
    cases hx4 : x == ("MOST_PARTS" : Str) with
    | true =>
      rw [hx4] at e; cases e; cases (eq_of_beq hx4)
      obtain ⟨t, q⟩ := He.int_ok X G (c.fact 30 (f := .int "MOST_PARTS" (6)) rfl)
      exact ⟨_, q, ⟨t, rfl⟩⟩
    | false =>
    rw [hx4] at e; dsimp only at e
    unfold List.lookup at e
    cases hx5 : x == ("GREATEST_PRICE" : Str) with
    | true =>
      rw [hx5] at e; cases e; cases (eq_of_beq hx5)
      obtain ⟨t, q⟩ := He.int_ok X G (c.fact 31 (f := .int "GREATEST_PRICE" (1000)) rfl)
      exact ⟨_, q, ⟨t, rfl⟩⟩
    | false =>
    rw [hx5] at e; dsimp only at e
    cases e
end
abbrev R : PySem.W.OpenRow := PySem.W.OpenLaw.row PySem.Challenge.rw_tastegrove_k07_whole_patterns_put_togeth
abbrev hk : PySem.W.Hook := He.hookD 4 fa fnD
def ob (s : PySem.W.SharedT) : He.AlD := He.obsDG 4 fa fnD (HandSHeadRun.getT s)
theorem ob_eq (s : PySem.W.SharedT) : ob s = hk.obs s.abs := He.obsDG_eq (HandSHeadRun.getT_eq s)
def loose : List Str := ["is_whole", "is_word", "is_text", "inner_of", "can_be_blank", "has_texts", "are_signs", "are_formed", "is_formed", "is_pattern", "depth_of", "makes_of", "put_numbers", "parts_of", "signs_of", "_law_pool", "_law_next", "_law_letters", "_law_leaf", "_law_parts", "_law_pattern", "_law_drawn", "_law_joined", "_law_bounded", "_law_right", "LETTERS", "LONGEST", "MOST_DEEP", "MOST_MAKES", "MOST_PARTS", "GREATEST_PRICE"]
theorem runT (w : World) : HandSHeadRun.RunEq R (PySem.W.view R.prog [34]) hk ob 8000 loose w := by
  intro os
  kernel_rfl
end K07
set_option maxHeartbeats 4000000
namespace K07
open PySem Ev
def idxs : List Pat → Nat → List Nat
  | [], _ => []
  | p :: ps, n => n :: idxs ps (n + p.size)
mutual
def nums : Pat → Nat → List (List Nat)
  | .none, _ => [[]]
  | .blank, _ => [[]]
  | .sign _, _ => [[]]
  | .row ps, n => idxs ps (n + 1) :: numsL ps (n + 1)
  | .pick ps, n => idxs ps (n + 1) :: numsL ps (n + 1)
  | .again p, n => [n + 1] :: nums p (n + 1)
  | .held _ p, n => [n + 1] :: nums p (n + 1)
  | .price _ p, n => [n + 1] :: nums p (n + 1)
def numsL : List Pat → Nat → List (List Nat)
  | [], _ => []
  | p :: ps, n => nums p n ++ numsL ps (n + p.size)
end
theorem nums_eq (p : Pat) (n : Nat) : nums p n = idxs (kids p) (n + 1) :: numsL (kids p) (n + 1) := by
  cases p <;> simp [nums, kids, numsL, idxs]
mutual
theorem nums_len : ∀ (p : Pat) (n : Nat), (nums p n).length = p.size
  | .none, _ => rfl
  | .blank, _ => rfl
  | .sign _, _ => rfl
  | .row ps, n => by simp only [nums, Pat.size, List.length_cons, numsL_len ps]; omega
  | .pick ps, n => by simp only [nums, Pat.size, List.length_cons, numsL_len ps]; omega
  | .again p, n => by simp only [nums, Pat.size, List.length_cons, nums_len p]; omega
  | .held _ p, n => by simp only [nums, Pat.size, List.length_cons, nums_len p]; omega
  | .price _ p, n => by simp only [nums, Pat.size, List.length_cons, nums_len p]; omega
theorem numsL_len : ∀ (ps : List Pat) (n : Nat), (numsL ps n).length = sizeL ps
  | [], _ => rfl
  | p :: ps, n => by simp only [numsL, sizeL, List.length_append, nums_len p, numsL_len ps]
end
def tupI (l : List Nat) : D := .tup (l.map fun i => .int (i : Nat))
theorem put_loop {C : Calls} (hm : C.md 12 = some [false, true]) (e : D) (k : Int) : ∀ (ps : List Pat) (M acc : List D) (s3 : Option S), (∀ q ∈ ps, ∀ M : List D, M.length + q.size ≤ 900 → C.run 12 [enc q, .lst M] = .ok (.int M.length, false, [.lst (M ++ (nums q M.length).map tupI)])) → M.length + sizeL ps ≤ 900 → acc.length + ps.length ≤ 1900 →
    ∃ s3', compLoop [3] (.nm 3) (fun δ => evIfs C [] δ) (fun δ => evE C (.call 12 [(.var 3), (.var 1)]) δ) (encL ps) [some (.p e), some (.io false (.lst M)), some (.p (.int k)), s3] acc
      = .ok (acc ++ (idxs ps M.length).map (fun i => .int (i : Nat)), [some (.p e), some (.io false (.lst (M ++ (numsL ps M.length).map tupI))), some (.p (.int k)), s3'])
  | [], M, acc, s3, _, _, _ => ⟨s3, by simp [compLoop, encL, idxs, numsL]⟩
  | p :: ps, M, acc, s3, h, hM, hl => by
    simp only [sizeL] at hM
    simp only [List.length_cons] at hl
    have hr := h p List.mem_cons_self M (by omega)
    have hn := nums_len p M.length
    obtain ⟨s3', e2⟩ := put_loop hm e k ps (M ++ (nums p M.length).map tupI) (acc ++ [.int (M.length : Nat)]) (some (.p (enc p))) (fun q hq => h q (List.mem_cons_of_mem _ hq)) (by simp [hn]; omega) (by simp; omega)
    refine ⟨s3', ?_⟩
    have hl2 : (M ++ (nums p M.length).map tupI).length = M.length + p.size := by simp [hn]
    rw [hl2] at e2
    have ea : acc ++ (idxs (p :: ps) M.length).map (fun i => D.int (i : Nat)) = acc ++ [.int (M.length : Nat)] ++ (idxs ps (M.length + p.size)).map (fun i => .int (i : Nat)) := by simp [idxs]
    have eb : M ++ (numsL (p :: ps) M.length).map tupI = M ++ (nums p M.length).map tupI ++ (numsL ps (M.length + p.size)).map tupI := by simp [numsL]
    rw [ea, eb, ← e2]
    have hcap : acc.length < 1000000 := by omega
    show compLoop [3] (.nm 3) _ _ (enc p :: encL ps) _ _ = _
    conv => lhs; unfold compLoop
    simp [runFn, evTs, evT, evE, evL, evAnd, evOr, evIfs, start0, resL, resR, S.val, pev, seqOf, L2.atI, dLt, PR.r, tstR, put, asgR, slotL, escR, escL, upS, setI, L2.ixN, finF, finR, iosOf, callR, loan, apart, okP, sameK, valIx, ioIx, putIos, frzL, isOwn, D.scal, D.flat, methD, bindTg, wipeD, canWipe, backV, backL, lockL, lockR, backR, S.lock, pIn, hm, hr, hcap]
abbrev putComp : E := .comp [3] (.nm 3) .vals [(.call 3 [(.var 0)])] [] (.call 12 [(.var 3), (.var 1)])
theorem set_mid (L R : List D) (x y : D) : (L ++ x :: R).set L.length y = L ++ y :: R := by
  rw [List.set_append_right _ _ (Nat.le_refl _), Nat.sub_self]; rfl
theorem put_run {W : Nat} : ∀ (n : Nat) (p : Pat) (M : List D), p.dep ≤ n → M.length + p.size ≤ 900 → (calls W tab (n + 1)).run 12 [enc p, .lst M] = .ok (.int M.length, false, [.lst (M ++ (nums p M.length).map tupI)])
  | 0, p, M, h, _ => by cases p <;> simp only [Pat.dep] at h <;> omega
  | n + 1, p, M, h, hs => by
    rw [run_at (show tab[12]? = some fn12 from rfl)]
    have hi : (calls W tab (n + 1)).run 3 [enc p] = .ok (.lst (encL (kids p)), true, []) := by
      rw [run_at (show tab[3]? = some fn3 from rfl)]; exact inner_run W _ p
    have h0 : (calls W tab (n + 1)).md 3 = some [false] := rfl
    have h2 : (calls W tab (n + 1)).md 12 = some [false, true] := rfl
    have hk := kids_size p
    have hlk := len_le_size (kids p)
    have e := put_loop h2 (enc p) M.length (kids p) (M ++ [.tup []]) [] none (fun q hq M' hM' => put_run n q M' (by have := kid_dep hq; omega) hM') (by simp; omega) (by simp; omega)
    obtain ⟨s3', e⟩ := e
    have hl1 : (M ++ [D.tup []]).length = M.length + 1 := by simp
    rw [hl1] at e
    have hcap : M.length < 1000000 := by omega
    have s0 : evT W (calls W tab (n + 1)) (.asg (.nm 2) (.pr .len [(.var 1)])) [some (.p (enc p)), some (.io false (.lst M)), none, none] = .ok (.nx, [some (.p (enc p)), some (.io false (.lst M)), some (.p (.int M.length)), none]) := by
      simp [runFn, evTs, evT, evE, evL, evAnd, evOr, evIfs, start0, resL, resR, S.val, pev, seqOf, L2.atI, dLt, PR.r, tstR, put, asgR, slotL, escR, escL, upS, setI, L2.ixN, finF, finR, iosOf, callR, loan, apart, okP, sameK, valIx, ioIx, putIos, frzL, isOwn, D.scal, D.flat, methD, bindTg, wipeD, canWipe, backV, backL, lockL, lockR, backR, S.lock, pIn]
    have s1 : evT W (calls W tab (n + 1)) (.meth .append 1 [(.tup [])]) [some (.p (enc p)), some (.io false (.lst M)), some (.p (.int M.length)), none] = .ok (.nx, [some (.p (enc p)), some (.io false (.lst (M ++ [.tup []]))), some (.p (.int M.length)), none]) := by
      simp [runFn, evTs, evT, evE, evL, evAnd, evOr, evIfs, start0, resL, resR, S.val, pev, seqOf, L2.atI, dLt, PR.r, tstR, put, asgR, slotL, escR, escL, upS, setI, L2.ixN, finF, finR, iosOf, callR, loan, apart, okP, sameK, valIx, ioIx, putIos, frzL, isOwn, D.scal, D.flat, methD, bindTg, wipeD, canWipe, backV, backL, lockL, lockR, backR, S.lock, pIn, hcap]
    have hcomp : evE (calls W tab (n + 1)) putComp [some (.p (enc p)), some (.io false (.lst (M ++ [.tup []]))), some (.p (.int M.length)), none] = .ok (.o (.lst ((idxs (kids p) (M.length + 1)).map fun i => .int (i : Nat))), [some (.p (enc p)), some (.io false (.lst (M ++ [.tup []] ++ (numsL (kids p) (M.length + 1)).map tupI))), some (.p (.int M.length)), none]) := by
      rw [evE]
      have g1 : evL (calls W tab (n + 1)) [.call 3 [.var 0]] [some (.p (enc p)), some (.io false (.lst (M ++ [.tup []]))), some (.p (.int M.length)), none] = .ok ([.o (.lst (encL (kids p)))], [some (.p (enc p)), some (.io false (.lst (M ++ [.tup []]))), some (.p (.int M.length)), none]) := by
        simp [runFn, evTs, evT, evE, evL, evAnd, evOr, evIfs, start0, resL, resR, S.val, pev, seqOf, L2.atI, dLt, PR.r, tstR, put, asgR, slotL, escR, escL, upS, setI, L2.ixN, finF, finR, iosOf, callR, loan, apart, okP, sameK, valIx, ioIx, putIos, frzL, isOwn, D.scal, D.flat, methD, bindTg, wipeD, canWipe, backV, backL, lockL, lockR, backR, S.lock, pIn, h0, hi]
      rw [g1]
      simp only [bind_ok, resL, resR, evI, seqOf]
      rw [if_pos (by simp [canWipe])]
      have g2 : lockL [some (S.p (enc p)), some (S.io false (.lst (M ++ [.tup []]))), some (S.p (.int M.length)), none] [R.o (.lst (encL (kids p)))] = [some (S.p (enc p)), some (S.io false (.lst (M ++ [.tup []]))), some (S.p (.int M.length)), none] := rfl
      rw [g2, e]
      simp [backL, backR, backV]
    have s2 : evT W (calls W tab (n + 1)) (.set 1 (.var 2) (.pr .tuple [putComp])) [some (.p (enc p)), some (.io false (.lst (M ++ [.tup []]))), some (.p (.int M.length)), none] = .ok (.nx, [some (.p (enc p)), some (.io false (.lst (M ++ (nums p M.length).map tupI))), some (.p (.int M.length)), none]) := by
      rw [evT, evE]
      have g1 : evL (calls W tab (n + 1)) [putComp] [some (.p (enc p)), some (.io false (.lst (M ++ [.tup []]))), some (.p (.int M.length)), none] = .ok ([.o (.lst ((idxs (kids p) (M.length + 1)).map fun i => .int (i : Nat)))], [some (.p (enc p)), some (.io false (.lst (M ++ [.tup []] ++ (numsL (kids p) (M.length + 1)).map tupI))), some (.p (.int M.length)), none]) := by
        simp only [evL, hcomp, bind_ok]
      rw [g1, nums_eq]
      have hset := set_mid M ((numsL (kids p) (M.length + 1)).map tupI) (.tup []) (tupI (idxs (kids p) (M.length + 1)))
      have hlt : (M.length : Int) < M.length + ((numsL (kids p) (M.length + 1)).length + 1) := by omega
      simp [runFn, evTs, evT, evE, evL, evAnd, evOr, evIfs, start0, resL, resR, S.val, pev, seqOf, L2.atI, dLt, PR.r, tstR, put, asgR, slotL, escR, escL, upS, setI, L2.ixN, finF, finR, iosOf, callR, loan, apart, okP, sameK, valIx, ioIx, putIos, frzL, isOwn, D.scal, D.flat, methD, bindTg, wipeD, canWipe, backV, backL, lockL, lockR, backR, S.lock, pIn, hset, tupI, hlt]
    have e0 : start0 fn12 [enc p, .lst M] = [some (.p (enc p)), some (.io false (.lst M)), none, none] := rfl
    unfold runFn
    rw [if_pos (show [enc p, D.lst M].length = fn12.ps.length from rfl), e0]
    show (evTs W (calls W tab (n + 1)) [.asg (.nm 2) (.pr .len [(.var 1)]), .meth .append 1 [(.tup [])], .set 1 (.var 2) (.pr .tuple [putComp]), .ret (.var 2)] _).bind _ = _
    simp only [evTs, s0, s1, s2, bind_ok]
    simp [evT, evE, finF, finR, iosOf, fn12]
def partsD (p : Pat) : D := .lst ((nums p 0).map tupI)
theorem partsOf_run {W : Nat} (n : Nat) (p : Pat) (h : p.dep ≤ n) (hs : p.size ≤ 900) : (calls W tab (n + 2)).run 13 [enc p] = .ok (partsD p, true, []) := by
  rw [run_at (show tab[13]? = some fn13 from rfl)]
  have hr := put_run (W := W) n p [] h (by simpa using hs)
  have hm : (calls W tab (n + 1)).md 12 = some [false, true] := rfl
  simp only [List.length_nil, List.nil_append] at hr
  have hr : (calls W tab (n + 1)).run 12 [enc p, .lst []] = .ok (.int 0, false, [partsD p]) := hr
  simp [runFn, evTs, evT, evE, evL, evAnd, evOr, evIfs, start0, resL, resR, S.val, pev, seqOf, L2.atI, dLt, PR.r, tstR, put, asgR, slotL, escR, escL, upS, setI, L2.ixN, finF, finR, iosOf, callR, loan, apart, okP, sameK, valIx, ioIx, putIos, frzL, isOwn, D.scal, D.flat, methD, bindTg, wipeD, canWipe, backV, backL, lockL, lockR, backR, S.lock, pIn, fn13, hm, hr]
end K07
set_option maxHeartbeats 4000000
namespace K07
open PySem Ev
mutual
theorem nums_add : ∀ (p : Pat) (n k : Nat), nums p (n + k) = (nums p n).map fun l => l.map (k + ·)
  | .none, _, _ => rfl
  | .blank, _, _ => rfl
  | .sign _, _, _ => rfl
  | .row ps, n, k => by
    simp only [nums, List.map_cons, show n + k + 1 = n + 1 + k by omega, numsL_add ps, idxs_add ps]
  | .pick ps, n, k => by
    simp only [nums, List.map_cons, show n + k + 1 = n + 1 + k by omega, numsL_add ps, idxs_add ps]
  | .again p, n, k => by
    simp only [nums, List.map_cons, List.map_nil, show n + k + 1 = n + 1 + k by omega, nums_add p, show k + (n + 1) = n + 1 + k by omega]
  | .held _ p, n, k => by
    simp only [nums, List.map_cons, List.map_nil, show n + k + 1 = n + 1 + k by omega, nums_add p, show k + (n + 1) = n + 1 + k by omega]
  | .price _ p, n, k => by
    simp only [nums, List.map_cons, List.map_nil, show n + k + 1 = n + 1 + k by omega, nums_add p, show k + (n + 1) = n + 1 + k by omega]
theorem numsL_add : ∀ (ps : List Pat) (n k : Nat), numsL ps (n + k) = (numsL ps n).map fun l => l.map (k + ·)
  | [], _, _ => rfl
  | p :: ps, n, k => by
    simp only [numsL, List.map_append, nums_add p, show n + k + p.size = n + p.size + k by omega, numsL_add ps]
theorem idxs_add : ∀ (ps : List Pat) (n k : Nat), idxs ps (n + k) = (idxs ps n).map (k + ·)
  | [], _, _ => rfl
  | p :: ps, n, k => by
    simp only [idxs, List.map_cons, show n + k + p.size = n + p.size + k by omega, idxs_add ps, show k + n = n + k by omega]
end
theorem nums_at (p : Pat) (k : Nat) : nums p k = (nums p 0).map fun l => l.map (k + ·) := by
  have := nums_add p 0 k
  rwa [Nat.zero_add] at this
theorem idxs_snoc (p : Pat) : ∀ (ps : List Pat) (n : Nat), idxs (ps ++ [p]) n = idxs ps n ++ [n + sizeL ps]
  | [], n => by simp [idxs, sizeL]
  | q :: ps, n => by simp only [List.cons_append, idxs, idxs_snoc p ps, sizeL, show n + q.size + sizeL ps = n + (q.size + sizeL ps) by omega]
theorem numsL_snoc (p : Pat) : ∀ (ps : List Pat) (n : Nat), numsL (ps ++ [p]) n = numsL ps n ++ nums p (n + sizeL ps)
  | [], n => by simp [numsL, sizeL]
  | q :: ps, n => by simp only [List.cons_append, numsL, numsL_snoc p ps, sizeL, List.append_assoc, show n + q.size + sizeL ps = n + (q.size + sizeL ps) by omega]
theorem sizeL_snoc (p : Pat) : ∀ ps : List Pat, sizeL (ps ++ [p]) = sizeL ps + p.size
  | [] => by simp [sizeL]
  | q :: ps => by simp only [List.cons_append, sizeL, sizeL_snoc p ps]; omega
theorem makesL_snoc (p : Pat) : ∀ ps : List Pat, makesL (ps ++ [p]) = makesL ps ++ makes p
  | [] => by simp [makesL]
  | q :: ps => by simp only [List.cons_append, makesL, makesL_snoc p ps, List.append_assoc]
theorem mem_makesL {q : Pat} : ∀ {ps : List Pat}, q ∈ makesL ps ↔ ∃ p ∈ ps, q ∈ makes p
  | [] => by simp [makesL]
  | p :: ps => by simp only [makesL, List.mem_append, mem_makesL (ps := ps), List.mem_cons, exists_eq_or_imp]
theorem makes_good : ∀ (n : Nat) (p : Pat), p.dep ≤ n → p.good → ∀ q ∈ makes p, q.good
  | 0, p, h, _, _, _ => absurd (dep_pos p) (by omega)
  | n + 1, p, h, g, q, hq => by
    rw [makes_eq] at hq
    rcases List.mem_cons.mp hq with rfl | hq
    · exact g
    · obtain ⟨r, hr, hq⟩ := mem_makesL.mp hq
      exact makes_good n r (by have := kid_dep hr; omega) (goodL_mem (good_kids g) r hr) q hq
theorem makes_dep : ∀ (n : Nat) (p : Pat), p.dep ≤ n → ∀ q ∈ makes p, q.dep ≤ p.dep
  | 0, p, h, _, _ => absurd (dep_pos p) (by omega)
  | n + 1, p, h, q, hq => by
    rw [makes_eq] at hq
    rcases List.mem_cons.mp hq with rfl | hq
    · exact Nat.le_refl _
    · obtain ⟨r, hr, hq⟩ := mem_makesL.mp hq
      have := kid_dep hr
      have := makes_dep n r (by omega) q hq
      omega
theorem goodL_of : ∀ {ps : List Pat}, (∀ q ∈ ps, q.good) → goodL ps
  | [], _ => trivial
  | p :: ps, h => ⟨h p List.mem_cons_self, goodL_of fun q hq => h q (List.mem_cons_of_mem _ hq)⟩
theorem depL_of {B : Nat} : ∀ {ps : List Pat}, (∀ q ∈ ps, q.dep ≤ B) → depL ps ≤ B
  | [], _ => Nat.zero_le _
  | p :: ps, h => by
    have := h p List.mem_cons_self
    have := depL_of (ps := ps) fun q hq => h q (List.mem_cons_of_mem _ hq)
    simp only [depL]; omega
/-! the whole, of its parts -/
inductive Whole : Pat → List Pat → Prop where
  | row (ps : List Pat) : Whole (.row ps) ps
  | pick (ps : List Pat) : Whole (.pick ps) ps
  | again (p : Pat) : Whole (.again p) [p]
  | held (p : Pat) : Whole (.held "x" p) [p]
  | price (n : Int) (p : Pat) (h : 0 ≤ n ∧ n ≤ 1000) : Whole (.price n p) [p]
theorem Whole.kids {w : Pat} {ps : List Pat} (h : Whole w ps) : kids w = ps := by cases h <;> rfl
def rp : Pat → Bool
  | .row _ => true
  | .pick _ => true
  | _ => false
def ag : Pat → Bool
  | .again _ => true
  | _ => false
def headBlk : List Pat → Bool
  | [] => false
  | p :: _ => p.blk
def bnd (w : Pat) (ps : List Pat) : Bool := if (rp w && decide (ps.length < 2)) || (ag w && headBlk ps) then false else if 8 < depL ps then false else decide (sizeL ps ≤ 39)
structure PartsOk (ps : List Pat) : Prop where
  ne : ps ≠ []
  few : ps.length ≤ 6
  good : ∀ p ∈ ps, p.good
  size : ∀ p ∈ ps, p.size ≤ 40
  dep : ∀ p ∈ ps, p.dep ≤ 9
theorem sizeL_le {B : Nat} : ∀ {ps : List Pat}, (∀ p ∈ ps, p.size ≤ B) → sizeL ps ≤ ps.length * B
  | [], _ => Nat.zero_le _
  | p :: ps, h => by
    have := h p List.mem_cons_self
    have := sizeL_le (ps := ps) fun q hq => h q (List.mem_cons_of_mem _ hq)
    simp only [sizeL, List.length_cons, Nat.add_mul]; omega
theorem PartsOk.sz {ps : List Pat} (O : PartsOk ps) : sizeL ps ≤ 240 := by
  have := sizeL_le O.size
  have := Nat.mul_le_mul_right 40 O.few
  omega
theorem whole_good {w : Pat} {ps : List Pat} (h : Whole w ps) (O : PartsOk ps) (hb : bnd w ps = true) : w.good ∧ w.dep ≤ 9 ∧ w.size ≤ 40 := by
  have hk := h.kids
  have hd := kids_dep w
  have hs := kids_size w
  rw [hk] at hd hs
  unfold bnd at hb
  split at hb
  · cases hb
  rename_i h1
  split at hb
  · cases hb
  rename_i h2
  have h3 := of_decide_eq_true hb
  have hg := goodL_of O.good
  refine ⟨?_, by omega, by omega⟩
  cases h with
  | row ps => exact ⟨⟨by simpa [rp] using (show ¬ (ps.length < 2) from fun hl => h1 (by simp [rp, hl])), O.few⟩, hg⟩
  | pick ps => exact ⟨⟨by simpa [rp] using (show ¬ (ps.length < 2) from fun hl => h1 (by simp [rp, hl])), O.few⟩, hg⟩
  | again p => exact ⟨by cases hbk : p.blk with | false => rfl | true => exact absurd (by simp [ag, headBlk, hbk]) h1, hg.1⟩
  | held p => exact ⟨by simp, hg.1⟩
  | price n p hn => exact ⟨hn, hg.1⟩
theorem form_one {w : Str} {p : Pat} (h : (isW (.str w) "none" || isW (.str w) "blank") = false) (h2 : isW (.str w) "sign" = false) (h3 : (isW (.str w) "row" || isW (.str w) "pick") = true) : (form 9 40 (.tup [.str w, .tup (encL [p])])).1 = false := by
  have e : form 9 40 (.tup [.str w, .tup (encL [p])]) = formW (form 8) 39 (.str w) [.tup (encL [p])] := rfl
  rw [e]
  unfold formW
  rw [if_neg (by rw [h]; decide), if_neg (by rw [h2]; decide), if_pos h3]
  rfl
theorem form_whole {w : Pat} {ps : List Pat} (h : Whole w ps) (O : PartsOk ps) : (form 9 40 (enc w)).1 = bnd w ps := by
  have hk := h.kids
  have hd := kids_dep w
  have hs := kids_size w
  rw [hk] at hd hs
  have hg := goodL_of O.good
  have hf := goodL_fm ps hg
  have ho := goodL_ok ps hg
  have go : w.ok → w.fm = !(ag w && headBlk ps) → (form 9 40 (enc w)).1 = (if (ag w && headBlk ps) then false else if 8 < depL ps then false else decide (sizeL ps ≤ 39)) := by
    intro hok hfm
    by_cases h8 : 8 < depL ps
    · rw [form_deep 40 (by omega), if_pos h8]
      split <;> rfl
    · by_cases h39 : sizeL ps ≤ 39
      · rw [form_enc 9 w 40 (by omega) (by omega) hok, if_neg h8, decide_eq_true h39, hfm]
        cases (ag w && headBlk ps) <;> rfl
      · rw [form_big (by omega), if_neg h8, decide_eq_false h39]
        split <;> rfl
  cases h with
  | row ps =>
    by_cases h2 : ps.length < 2
    · have h1 : bnd (.row ps) ps = false := by unfold bnd; rw [if_pos (by simp [rp, h2])]
      rw [h1]
      obtain ⟨p, rfl⟩ : ∃ p, ps = [p] := by
        match ps, O.ne, h2 with
        | [p], _, _ => exact ⟨p, rfl⟩
      exact form_one (by decide +kernel) (by decide +kernel) (by decide +kernel)
    · rw [go ⟨⟨by omega, O.few⟩, ho⟩ (by simp only [Pat.fm, hf, ag]; rfl)]
      unfold bnd
      simp only [rp, ag, h2, decide_false, Bool.and_false, Bool.false_and, Bool.or_false]
  | pick ps =>
    by_cases h2 : ps.length < 2
    · have h1 : bnd (.pick ps) ps = false := by unfold bnd; rw [if_pos (by simp [rp, h2])]
      rw [h1]
      obtain ⟨p, rfl⟩ : ∃ p, ps = [p] := by
        match ps, O.ne, h2 with
        | [p], _, _ => exact ⟨p, rfl⟩
      exact form_one (by decide +kernel) (by decide +kernel) (by decide +kernel)
    · rw [go ⟨⟨by omega, O.few⟩, ho⟩ (by simp only [Pat.fm, hf, ag]; rfl)]
      unfold bnd
      simp only [rp, ag, h2, decide_false, Bool.and_false, Bool.false_and, Bool.or_false]
  | again p =>
    have hfp : p.fm = true := by have := hf; simp only [fmL, Bool.and_true] at this; exact this
    rw [go ho.1 (by simp only [Pat.fm, hfp, ag, headBlk, Bool.true_and])]
    unfold bnd
    simp only [rp, Bool.false_and, Bool.false_or]
  | held p =>
    have hfp : p.fm = true := by have := hf; simp only [fmL, Bool.and_true] at this; exact this
    rw [go ⟨held_good "x" (by simp), ho.1⟩ (by simp only [Pat.fm, hfp, ag]; rfl)]
    unfold bnd
    simp only [rp, Bool.false_and, Bool.false_or]
  | price n p hn =>
    have hfp : p.fm = true := by have := hf; simp only [fmL, Bool.and_true] at this; exact this
    rw [go ⟨hn, ho.1⟩ (by simp only [Pat.fm, hfp, ag]; rfl)]
    unfold bnd
    simp only [rp, Bool.false_and, Bool.false_or]
theorem sane_whole {w : Pat} {ps : List Pat} (h : Whole w ps) (O : PartsOk ps) : (enc w).sane := by
  have hg := goodL_of O.good
  have ho := goodL_ok ps hg
  have hd := depL_of O.dep
  have hk := h.kids
  have hdw := kids_dep w
  rw [hk] at hdw
  have lr : PyData.strOk ("row" : Str) = true ∧ ("row" : Str).length ≤ 1000 ∧ PyData.strOk ("pick" : Str) = true ∧ ("pick" : Str).length ≤ 1000 := by decide +kernel
  cases h with
  | row ps => exact ⟨⟨wd_str lr.1, lr.2.1⟩, ⟨wd_encL ho (by omega), saneL_enc ps ho (by omega)⟩, trivial⟩
  | pick ps => exact ⟨⟨wd_str lr.2.2.1, lr.2.2.2⟩, ⟨wd_encL ho (by omega), saneL_enc ps ho (by omega)⟩, trivial⟩
  | again p => exact sane_enc (.again p) ho.1 (by omega)
  | held p => exact sane_enc (.held "x" p) ⟨held_good "x" (by simp), ho.1⟩ (by omega)
  | price n p hn => exact sane_enc (.price n p) ⟨hn, ho.1⟩ (by omega)
/-! the signs -/
theorem sg_facts {ks : List Nat} : (sgText ks).cps.toList.Perm ks := by
  unfold sgText
  have h : (Txt.join ("" : Str) (sortS (ks.map one))).cps.toList = ((sortS (ks.map one)).map (·.cps.toList)).flatten := by
    have go : ∀ l : List Str, (Txt.join ("" : Str) l).cps.toList = (l.map (·.cps.toList)).flatten := by
      intro l
      cases l with
      | nil => rfl
      | cons y ys =>
        show ((ys.foldl (fun acc p => acc ++ ("" : Str).cps ++ p.cps) y.cps).toList) = _
        rw [fold_cat _ (by decide +kernel)]; rfl
    exact go _
  rw [h]
  have h2 := ((sortS_perm (ks.map one)).map (·.cps.toList)).flatten
  rwa [flat_one] at h2
theorem mem_all {c : Nat} {ms : List Pat} : c ∈ allSigns ms ↔ ∃ m ∈ ms, c ∈ signsOf m := by
  unfold allSigns
  rw [addC_mem]
  constructor
  · rintro (h | h)
    · cases h
    · obtain ⟨l, hl, hc⟩ := List.mem_flatten.mp h
      obtain ⟨m, hm, rfl⟩ := List.mem_map.mp hl
      exact ⟨m, hm, hc⟩
  · rintro ⟨m, hm, hc⟩
    exact .inr (List.mem_flatten.mpr ⟨_, List.mem_map_of_mem hm, hc⟩)
/-- the signs of the parts, one behind the other -/
def cat : List Pat → List Nat
  | [] => []
  | p :: ps => (sgText (allSigns (makes p))).cps.toList ++ cat ps
theorem cat_snoc (p : Pat) : ∀ ps : List Pat, cat (ps ++ [p]) = cat ps ++ (sgText (allSigns (makes p))).cps.toList
  | [] => by simp [cat]
  | q :: ps => by simp only [List.cons_append, cat, cat_snoc p ps, List.append_assoc]
theorem mem_cat {c : Nat} : ∀ {ps : List Pat}, c ∈ cat ps ↔ ∃ p ∈ ps, c ∈ allSigns (makes p)
  | [] => by simp [cat]
  | p :: ps => by
    simp only [cat, List.mem_append, mem_cat (ps := ps), (sg_facts (ks := allSigns (makes p))).mem_iff, List.mem_cons, exists_eq_or_imp]
theorem no_sign {w : Pat} {ps : List Pat} (h : Whole w ps) : signsOf w = [] := by cases h <;> rfl
theorem mem_whole {w : Pat} {ps : List Pat} (h : Whole w ps) {c : Nat} : c ∈ allSigns (makes w) ↔ c ∈ cat ps := by
  rw [mem_all, mem_cat, makes_eq, h.kids]
  constructor
  · rintro ⟨m, hm, hc⟩
    rcases List.mem_cons.mp hm with rfl | hm
    · rw [no_sign h] at hc; cases hc
    · obtain ⟨p, hp, hm⟩ := mem_makesL.mp hm
      exact ⟨p, hp, mem_all.mpr ⟨m, hm, hc⟩⟩
  · rintro ⟨p, hp, hc⟩
    obtain ⟨m, hm, hc⟩ := mem_all.mp hc
    exact ⟨m, List.mem_cons_of_mem _ (mem_makesL.mpr ⟨p, hp, hm⟩), hc⟩
def dedN : List Nat → List Nat
  | [] => []
  | x :: xs => if x ∈ xs then dedN xs else x :: dedN xs
theorem dedN_mem : ∀ (xs : List Nat) (x : Nat), x ∈ dedN xs ↔ x ∈ xs
  | [], x => Iff.rfl
  | y :: ys, x => by
    unfold dedN
    split
    · rename_i h
      rw [dedN_mem ys x]
      exact ⟨List.mem_cons_of_mem _, fun h2 => by rcases List.mem_cons.mp h2 with rfl | h2; exact h; exact h2⟩
    · rw [List.mem_cons, List.mem_cons, dedN_mem ys x]
theorem dedN_nodup : ∀ xs : List Nat, (dedN xs).Nodup
  | [] => List.nodup_nil
  | y :: ys => by
    unfold dedN
    split
    · exact dedN_nodup ys
    · rename_i h
      exact List.nodup_cons.mpr ⟨fun h2 => h ((dedN_mem ys y).mp h2), dedN_nodup ys⟩
theorem ded_one : ∀ xs : List Nat, dedS (xs.map one) = (dedN xs).map one
  | [] => rfl
  | x :: xs => by
    rw [List.map_cons]
    unfold dedS dedN
    by_cases h : x ∈ xs
    · rw [if_pos h, if_pos (List.mem_map_of_mem h), ded_one xs]
    · rw [if_neg h, if_neg (fun h2 => h (by
        obtain ⟨y, hy, e⟩ := List.mem_map.mp h2
        rw [← one_inj e]; exact hy)), ded_one xs]
      rfl
theorem signs_whole {w : Pat} {ps : List Pat} (h : Whole w ps) : sgText (allSigns (makes w)) = sgText (dedN (cat ps)) :=
  sgText_eq (addC_nodup (ks := []) .nil) (dedN_nodup _) fun c => by rw [dedN_mem, mem_whole h]
end K07
set_option maxHeartbeats 4000000
namespace K07
open PySem Ev
theorem tup_add (k : Nat) (l : List Nat) : D.tup (l.map fun i => .int ((k : Nat) + ((i : Nat) : Int))) = tupI (l.map (k + ·)) := by
  unfold tupI
  rw [List.map_map]
  congr 1
theorem set0 (h d : D) (L : List D) : setI (.lst (h :: L)) (.int 0) d = some (.lst (d :: L)) := by
  have e : setI (.lst (h :: L)) (.int 0) d = match L2.ixN (h :: L).length 0 with | some j => some (.lst ((h :: L).set j d)) | none => none := rfl
  have hi : L2.ixN (h :: L).length 0 = some 0 := by
    unfold L2.ixN
    rw [if_pos (by omega), if_pos (by simp only [List.length_cons]; omega)]
    rfl
  rw [e, hi]
  rfl
theorem upS_m {δ : DEnv} {i : Nat} {f : D → Option D} {d d' : D} (hi : δ[i]? = some (some (.m false d))) (hf : f d = some d') : upS δ i f = some (δ.set i (some (.m false d'))) := by
  unfold upS
  rw [hi]
  simp only [hf]
theorem numsL_len2 (ps : List Pat) (n : Nat) : ((numsL ps n).map tupI).length = sizeL ps := by rw [List.length_map, numsL_len]
theorem joined_run {W : Nat} {C : Calls} (m13 : C.md 13 = some [false]) (ps : List Pat) (r13 : ∀ p ∈ ps, C.run 13 [enc p] = .ok (partsD p, true, [])) (hs : sizeL ps ≤ 900) : ∃ z, runFn W C fn22 [.lst (encL ps)] = .ok z ∧ z = (.lst ((idxs ps 1 :: numsL ps 1).map tupI), true, []) := by
  refine w_run rfl ?_
  show wTs W C fn22.body [some (.p (.lst (encL ps))), none, none, none, none, none, none] _
  refine w_ts ?_
  (repeat (first | refine w_con ?_ | refine w_varp rfl ?_ | refine w_vario rfl ?_ | refine w_varm rfl ?_ | refine w_pr1 ?_ | refine w_pr2 rfl ?_ | refine w_not ?_ | refine w_ife ?_ | refine w_and ?_ | refine w_or ?_ | refine w_and1 ?_ | refine w_or1 ?_ | refine w_andc ?_ | refine w_orc ?_ | refine w_nil ?_ | refine w_cons ?_ | refine w_tup ?_ | refine w_lst ?_ | refine w_sm ?_ | refine w_chain ?_ | refine w_ex ?_ | refine w_ret ?_ | refine w_asg ?_ | refine w_if ?_ | refine w_app rfl ?_ | refine w_set rfl ?_ | refine (Exists.intro _ (Exists.intro _ (And.intro rfl (And.intro rfl ?_)))) | refine (Exists.intro _ (Exists.intro _ (Exists.intro _ (And.intro rfl (And.intro rfl (And.intro rfl ?_)))))) | refine (Exists.intro _ (Exists.intro _ (And.intro rfl ?_))) | refine (Exists.intro _ (And.intro rfl (And.intro free_n ?_))) | refine (Exists.intro _ (And.intro rfl (And.intro free_p ?_))) | refine (Exists.intro _ (And.intro rfl (And.intro free_m ?_))) | refine (Exists.intro _ (And.intro rfl (And.intro (by assumption) ?_))) | refine (Exists.intro _ (Exists.intro _ (Exists.intro _ (Exists.intro _ (Exists.intro _ (And.intro rfl (And.intro rfl (And.intro rfl (And.intro rfl (And.intro rfl (And.intro rfl (And.intro rfl ?_)))))))))))) | refine (Exists.intro _ (And.intro rfl ?_)) | refine (Exists.intro _ (Exists.intro _ (Exists.intro _ (Exists.intro _ (And.intro rfl (And.intro rfl (And.intro rfl ?_)))))))))
  refine w_ts ?_
  (repeat (first | refine w_con ?_ | refine w_varp rfl ?_ | refine w_vario rfl ?_ | refine w_varm rfl ?_ | refine w_pr1 ?_ | refine w_pr2 rfl ?_ | refine w_not ?_ | refine w_ife ?_ | refine w_and ?_ | refine w_or ?_ | refine w_and1 ?_ | refine w_or1 ?_ | refine w_andc ?_ | refine w_orc ?_ | refine w_nil ?_ | refine w_cons ?_ | refine w_tup ?_ | refine w_lst ?_ | refine w_sm ?_ | refine w_chain ?_ | refine w_ex ?_ | refine w_ret ?_ | refine w_asg ?_ | refine w_if ?_ | refine w_app rfl ?_ | refine w_set rfl ?_ | refine (Exists.intro _ (Exists.intro _ (And.intro rfl (And.intro rfl ?_)))) | refine (Exists.intro _ (Exists.intro _ (Exists.intro _ (And.intro rfl (And.intro rfl (And.intro rfl ?_)))))) | refine (Exists.intro _ (Exists.intro _ (And.intro rfl ?_))) | refine (Exists.intro _ (And.intro rfl (And.intro free_n ?_))) | refine (Exists.intro _ (And.intro rfl (And.intro free_p ?_))) | refine (Exists.intro _ (And.intro rfl (And.intro free_m ?_))) | refine (Exists.intro _ (And.intro rfl (And.intro (by assumption) ?_))) | refine (Exists.intro _ (Exists.intro _ (Exists.intro _ (Exists.intro _ (Exists.intro _ (And.intro rfl (And.intro rfl (And.intro rfl (And.intro rfl (And.intro rfl (And.intro rfl (And.intro rfl ?_)))))))))))) | refine (Exists.intro _ (And.intro rfl ?_)) | refine (Exists.intro _ (Exists.intro _ (Exists.intro _ (Exists.intro _ (And.intro rfl (And.intro rfl (And.intro rfl ?_)))))))))
  refine w_ts (w_forl enc (w_varp rfl ?_))
  refine ⟨_, ps, .inl rfl, by show some (encL ps) = _; rw [encL_map], fun rest δ => ∃ (done : List Pat) (s3 s4 s5 : Option S), δ = [some (.p (.lst (encL ps))), some (.m false (.lst (.tup [] :: (numsL done 1).map tupI))), some (.m false (.lst ((idxs done 1).map fun i => .int (i : Nat)))), s3, s4, s5, none] ∧ Free s3 ∧ Free s4 ∧ Free s5 ∧ ps = done ++ rest, ⟨[], none, none, none, rfl, free_n, free_n, free_n, rfl⟩, ?_, ?_⟩
  · rintro u rest δ ⟨done, s3, s4, s5, rfl, f3, f4, f5, hd⟩
    refine ⟨_, bind_nm rfl f3, ?_⟩
    have hu : u ∈ ps := by rw [hd]; simp
    have hsz : sizeL ps = sizeL done + (u.size + sizeL rest) := by
      have : ∀ a b : List Pat, sizeL (a ++ b) = sizeL a + sizeL b := by
        intro a b
        induction a with
        | nil => simp [sizeL]
        | cons p a ih => simp only [List.cons_append, sizeL, ih]; omega
      rw [hd, this]
      rfl
    have hdl := len_le_size done
    have elen : pev .len [.lst (.tup [] :: (numsL done 1).map tupI)] = some (.sc (.int ((1 + sizeL done : Nat) : Int))) := by
      show some (PR.sc (.int ((((D.tup [] :: (numsL done 1).map tupI).length : Nat) : Int)))) = _
      rw [List.length_cons, numsL_len2, Nat.add_comm]
    refine w_ts (w_asg (w_pr1 (w_varm rfl ?_)))
    refine ⟨_, _, rfl, elen, _, rfl, f4, ?_⟩
    refine w_ts (w_app rfl (w_varp rfl ?_))
    have hil : ((idxs done 1).map fun i => D.int (i : Nat)).length ≤ 900 := by
      have : ∀ (l : List Pat) (n : Nat), (idxs l n).length = l.length := by
        intro l
        induction l with
        | nil => intro n; rfl
        | cons p l ih => intro n; simp only [idxs, List.length_cons, ih]
      rw [List.length_map, this]
      omega
    refine ⟨_, _, _, rfl, app_up rfl (by omega), ?_⟩
    refine w_ts ?_
    show wT W C _ [some (.p (.lst (encL ps))), some (.m false (.lst (.tup [] :: (numsL done 1).map tupI))), some (.m false (.lst (((idxs done 1).map fun i => D.int (i : Nat)) ++ [.int ((1 + sizeL done : Nat) : Int)]))), some (.p (enc u)), some (.p (.int ((1 + sizeL done : Nat) : Int))), s5, none] _
    refine w_forl tupI (w_call ?_)
    (repeat (first | refine w_con ?_ | refine w_varp rfl ?_ | refine w_vario rfl ?_ | refine w_varm rfl ?_ | refine w_pr1 ?_ | refine w_pr2 rfl ?_ | refine w_not ?_ | refine w_ife ?_ | refine w_and ?_ | refine w_or ?_ | refine w_and1 ?_ | refine w_or1 ?_ | refine w_andc ?_ | refine w_orc ?_ | refine w_nil ?_ | refine w_cons ?_ | refine w_tup ?_ | refine w_lst ?_ | refine w_sm ?_ | refine w_chain ?_ | refine w_ts0 ?_ | refine w_ts ?_ | refine w_ex ?_ | refine w_ret ?_ | refine w_asg ?_ | refine w_if ?_ | refine w_app rfl ?_ | refine w_set rfl ?_))
    have e13 : C.run 13 [enc u] = .ok (.lst ((nums u 0).map tupI), true, []) := r13 u hu
    refine ⟨_, _, _, _, _, _, m13, rfl, rfl, rfl, e13, rfl, ?_⟩
    refine ⟨_, nums u 0, .inr rfl, rfl, fun rest2 δ => ∃ (d2 : List (List Nat)) (s5 : Option S), δ = [some (.p (.lst (encL ps))), some (.m false (.lst ((.tup [] :: (numsL done 1).map tupI) ++ (d2.map fun l => l.map ((1 + sizeL done) + ·)).map tupI))), some (.m false (.lst (((idxs done 1).map fun i => D.int (i : Nat)) ++ [.int ((1 + sizeL done : Nat) : Int)]))), some (.p (enc u)), some (.p (.int ((1 + sizeL done : Nat) : Int))), s5, none] ∧ Free s5 ∧ nums u 0 = d2 ++ rest2, ⟨[], s5, by simp, f5, rfl⟩, ?_, ?_⟩
    · rintro l rest2 δ ⟨d2, s5, rfl, f5, hd2⟩
      refine ⟨_, bind_nm rfl f5, ?_⟩
      have hnl := nums_len u 0
      have hd2l : d2.length + (rest2.length + 1) = u.size := by
        rw [← hnl, hd2, List.length_append]; rfl
      have hlm : l ∈ nums u 0 := by rw [hd2]; simp
      have hll : l.length ≤ 900 := by
        have go : ∀ (k : Nat) (p : Pat) (n : Nat), p.dep ≤ k → p.size ≤ 900 → ∀ l ∈ nums p n, l.length ≤ 900 := by
          intro k
          induction k with
          | zero => intro p n h; exact absurd (dep_pos p) (by omega)
          | succ k ih =>
            intro p n h hz l hl
            have hks := kids_size p
            rw [nums_eq] at hl
            rcases List.mem_cons.mp hl with rfl | hl
            · have h1 : ∀ (ps : List Pat) (n : Nat), (idxs ps n).length = ps.length := by
                intro ps
                induction ps with
                | nil => intro n; rfl
                | cons p ps ih => intro n; simp only [idxs, List.length_cons, ih]
              rw [h1]
              have := len_le_size (kids p)
              omega
            · have h2 : ∀ (ps : List Pat) (n : Nat), (∀ r ∈ ps, r.dep ≤ k ∧ r.size ≤ 900) → l ∈ numsL ps n → l.length ≤ 900 := by
                intro ps
                induction ps with
                | nil => intro n _ h; cases h
                | cons p ps ih2 =>
                  intro n h hl
                  rcases List.mem_append.mp hl with hl | hl
                  · exact ih p n (h p List.mem_cons_self).1 (h p List.mem_cons_self).2 l hl
                  · exact ih2 _ (fun r hr => h r (List.mem_cons_of_mem _ hr)) hl
              exact h2 (kids p) _ (fun r hr => ⟨by have := kid_dep hr; omega, by have := mem_size hr; omega⟩) hl
        exact go u.dep u 0 (Nat.le_refl _) (by omega) l hlm
      refine w_ts ?_
      show wT W C _ [some (.p (.lst (encL ps))), some (.m false (.lst ((.tup [] :: (numsL done 1).map tupI) ++ (d2.map fun l => l.map ((1 + sizeL done) + ·)).map tupI))), some (.m false (.lst (((idxs done 1).map fun i => D.int (i : Nat)) ++ [.int ((1 + sizeL done : Nat) : Int)]))), some (.p (enc u)), some (.p (.int ((1 + sizeL done : Nat) : Int))), some (.p (tupI l)), none] _
      have ec : evE C (.comp [6] (.nm 6) .vals [(.var 5)] [] (.pr .add [(.var 4), (.var 6)])) [some (S.p (.lst (encL ps))), some (.m false (.lst ((.tup [] :: (numsL done 1).map tupI) ++ (d2.map fun l => l.map ((1 + sizeL done) + ·)).map tupI))), some (.m false (.lst (((idxs done 1).map fun i => D.int (i : Nat)) ++ [.int ((1 + sizeL done : Nat) : Int)]))), some (.p (enc u)), some (.p (.int ((1 + sizeL done : Nat) : Int))), some (.p (tupI l)), none]
          = .ok (.o (.lst (l.map fun i => .int (((1 + sizeL done : Nat) : Int) + ((i : Nat) : Int)))), [some (S.p (.lst (encL ps))), some (.m false (.lst ((.tup [] :: (numsL done 1).map tupI) ++ (d2.map fun l => l.map ((1 + sizeL done) + ·)).map tupI))), some (.m false (.lst (((idxs done 1).map fun i => D.int (i : Nat)) ++ [.int ((1 + sizeL done : Nat) : Int)]))), some (.p (enc u)), some (.p (.int ((1 + sizeL done : Nat) : Int))), some (.p (tupI l)), none]) :=
        comp_vals (f := fun i : Nat => .int (i : Nat)) (show 6 < 7 by decide) (evE_var rfl) (.inl rfl) rfl rfl (fun i hi => ⟨_, pr2_of (w := .sc (.int (((1 + sizeL done : Nat) : Int) + ((i : Nat) : Int)))) (evE_var rfl) (evE_var rfl) rfl rfl rfl, .inl rfl⟩) (by omega)
      refine w_app rfl (w_pr1 ⟨_, _, ec, ?_⟩)
      refine ⟨_, _, rfl, rfl, ?_⟩
      refine ⟨_, _, _, rfl, app_up rfl (by
        have hnl1 := numsL_len done 1
        simp only [List.length_append, List.length_cons, List.length_map]
        omega), ?_⟩
      refine w_ts0 ?_
      refine ⟨d2 ++ [l], some (.p (tupI l)), ?_, free_p, by rw [hd2]; simp⟩
      have := tup_add (1 + sizeL done) l
      rw [this]
      simp
    · rintro δ ⟨d2, s5, rfl, f5, hd2⟩
      rw [List.append_nil] at hd2
      subst hd2
      refine w_ts0 ?_
      refine ⟨done ++ [u], some (.p (enc u)), some (.p (.int ((1 + sizeL done : Nat) : Int))), s5, ?_, free_p, free_p, f5, by rw [hd]; simp⟩
      rw [numsL_snoc, idxs_snoc, nums_at u (1 + sizeL done)]
      simp
  · rintro δ ⟨done, s3, s4, s5, rfl, f3, f4, f5, hd⟩
    rw [List.append_nil] at hd
    subst hd
    refine w_ts (w_set rfl (w_pr1 (w_varm rfl ?_)))
    refine ⟨_, _, rfl, rfl, ?_⟩
    refine w_con ?_
    refine ⟨_, _, _, _, rfl, rfl, upS_m rfl (set0 _ _ _), ?_⟩
    refine w_ts (w_ret (w_varm rfl ?_))
    exact ⟨_, rfl, rfl⟩
/-! bounded -/
theorem maxd_dep (ps : List Pat) (h : ps ≠ []) : pev .max [.lst (ps.map fun p => .int ((p.dep : Nat) : Int))] = some (.sc (.int ((depL ps : Nat) : Int))) := by
  have e : (ps.map fun p => D.int ((p.dep : Nat) : Int)) = (ps.map fun p => ((p.dep : Nat) : Int)).map .int := by rw [List.map_map]; rfl
  have hb := bestI_dep ps
  cases ps with
  | nil => exact absurd rfl h
  | cons p ps =>
    rw [e]
    simp only [pev, intsD_map]
    exact congrArg (fun i => some (PR.sc (.int i))) hb
theorem sum_makes (ps : List Pat) : pev .sum [.lst (ps.map fun p => .int ((p.size : Nat) : Int))] = some (.sc (.int ((sizeL ps : Nat) : Int))) := by
  have e : (ps.map fun p => D.int ((p.size : Nat) : Int)) = (ps.map fun p => ((p.size : Nat) : Int)).map .int := by rw [List.map_map]; rfl
  rw [e]
  simp only [pev, intsD_map, sum_sizes]
theorem len_lst {xs : List D} : pev .len [.lst xs] = some (.sc (.int (xs.length : Nat))) := rfl
theorem tag_rp (w : Pat) : pev .inn [.str w.tag, .lst [.str "row", .str "pick"]] = some (.sc (.bl (rp w))) := by cases w <;> rfl
theorem tag_ag (w : Pat) : pev .eq [.str w.tag, .str "again"] = some (.sc (.bl (ag w))) := by
  have := tag_again w
  cases w <;> exact this
structure BndOk (C : Calls) (ps : List Pat) : Prop where
  m4 : C.md 4 = some [false]
  m10 : C.md 10 = some [false]
  m11 : C.md 11 = some [false]
  r4 : ∀ p ∈ ps, C.run 4 [enc p] = .ok (.bl p.blk, false, [])
  r10 : ∀ p ∈ ps, C.run 10 [enc p] = .ok (.int ((p.dep : Nat) : Int), false, [])
  r11 : ∀ p ∈ ps, C.run 11 [enc p] = .ok (.lst ((makes p).map enc), true, [])
theorem bnd_run {W : Nat} {C : Calls} {w : Pat} {ps : List Pat} (B : BndOk C ps) (O : PartsOk ps) : ∃ z, runFn W C fn23 [.str w.tag, .lst (encL ps)] = .ok z ∧ z = (.bl (bnd w ps), false, []) := by
  obtain ⟨m4, m10, m11, r4, r10, r11⟩ := B
  refine w_run rfl ?_
  show wTs W C fn23.body [some (.p (.str w.tag)), some (.p (.lst (encL ps))), none] _
  have hel : (encL ps).length = ps.length := by rw [encL_map, List.length_map]
  have hfew := O.few
  have el : pev .len [.lst (encL ps)] = some (.sc (.int ((ps.length : Nat) : Int))) := by rw [len_lst, hel]
  have e1 : evE C (.and [(.pr .inn [(.var 0), (.lst [(.con (.str "row")), (.con (.str "pick"))])]), (.pr .lt [(.pr .len [(.var 1)]), (.con (.int 2))])]) [some (S.p (.str w.tag)), some (.p (.lst (encL ps))), none] = .ok (.d (.bl (rp w && decide (ps.length < 2))), [some (S.p (.str w.tag)), some (.p (.lst (encL ps))), none]) := by
    have x1 : evE C (.pr .inn [(.var 0), (.lst [(.con (.str "row")), (.con (.str "pick"))])]) [some (S.p (.str w.tag)), some (.p (.lst (encL ps))), none] = .ok (.d (.bl (rp w)), [some (S.p (.str w.tag)), some (.p (.lst (encL ps))), none]) :=
      pr2_of (r2 := .o (.lst [.str "row", .str "pick"])) (w := .sc (.bl (rp w))) (evE_var rfl) (by simp [evE, evL, escL, escR]) rfl rfl (tag_rp w)
    have x2 : evE C (.pr .lt [(.pr .len [(.var 1)]), (.con (.int 2))]) [some (S.p (.str w.tag)), some (.p (.lst (encL ps))), none] = .ok (.d (.bl (decide (ps.length < 2))), [some (S.p (.str w.tag)), some (.p (.lst (encL ps))), none]) := by
      refine pr2_of (w := .sc (.bl (decide (ps.length < 2)))) (pr1_of (w := .sc (.int ((ps.length : Nat) : Int))) (evE_var rfl) rfl el) evE_con rfl rfl ?_
      show some (PR.sc (.bl (decide (((ps.length : Nat) : Int) < 2)))) = _
      rw [show decide (((ps.length : Nat) : Int) < 2) = decide (ps.length < 2) from decide_eq_decide.mpr (by omega)]
    cases hr : rp w with
    | true => rw [hr] at x1; exact and_yes x1 (and_last x2)
    | false => rw [hr] at x1; exact and_no x1
  have e2 : evE C (.and [(.pr .eq [(.var 0), (.con (.str "again"))]), (.call 4 [(.pr .idx [(.var 1), (.con (.int 0))])])]) [some (S.p (.str w.tag)), some (.p (.lst (encL ps))), none] = .ok (.d (.bl (ag w && headBlk ps)), [some (S.p (.str w.tag)), some (.p (.lst (encL ps))), none]) := by
    have x1 : evE C (.pr .eq [(.var 0), (.con (.str "again"))]) [some (S.p (.str w.tag)), some (.p (.lst (encL ps))), none] = .ok (.d (.bl (ag w)), [some (S.p (.str w.tag)), some (.p (.lst (encL ps))), none]) :=
      pr2_of (w := .sc (.bl (ag w))) (evE_var rfl) evE_con rfl rfl (tag_ag w)
    have hne := O.ne
    have x2 : evE C (.call 4 [(.pr .idx [(.var 1), (.con (.int 0))])]) [some (S.p (.str w.tag)), some (.p (.lst (encL ps))), none] = .ok (.d (.bl (headBlk ps)), [some (S.p (.str w.tag)), some (.p (.lst (encL ps))), none]) := by
      cases ps with
      | nil => exact absurd rfl hne
      | cons p ps =>
        exact call1 (o := false) m4 (pr2_of (w := .sc (enc p)) (evE_var rfl) evE_con rfl rfl (by
          have e : pev .idx [.lst (encL (p :: ps)), .int 0] = match L2.atI (encL (p :: ps)) ((0 : Nat) : Int) with | some x => some (.sc x) | none => none := rfl
          rw [e, L2.atI_nat (v := enc p) rfl])) (r4 p List.mem_cons_self)
    cases hr : ag w with
    | true => rw [hr] at x1; exact and_yes x1 (and_last x2)
    | false => rw [hr] at x1; exact and_no x1
  have eo : evE C (.or [(.and [(.pr .inn [(.var 0), (.lst [(.con (.str "row")), (.con (.str "pick"))])]), (.pr .lt [(.pr .len [(.var 1)]), (.con (.int 2))])]), (.and [(.pr .eq [(.var 0), (.con (.str "again"))]), (.call 4 [(.pr .idx [(.var 1), (.con (.int 0))])])])]) [some (S.p (.str w.tag)), some (.p (.lst (encL ps))), none] = .ok (.d (.bl ((rp w && decide (ps.length < 2)) || (ag w && headBlk ps))), [some (S.p (.str w.tag)), some (.p (.lst (encL ps))), none]) := by
    cases hb : (rp w && decide (ps.length < 2)) with
    | true => rw [hb] at e1; exact or_yes e1
    | false => rw [hb] at e1; exact or_no e1 (or_last e2)
  refine w_ts (w_if ⟨_, _, eo, _, rfl, (fun h => ?_), fun h => ?_⟩)
  · refine w_ts (w_ret (w_con ⟨_, rfl, ?_⟩))
    unfold bnd
    rw [if_pos h]
  have ec : evE C (.comp [2] (.nm 2) .vals [(.var 1)] [] (.call 10 [(.var 2)])) [some (S.p (.str w.tag)), some (.p (.lst (encL ps))), none] = .ok (.o (.lst (ps.map fun p => .int ((p.dep : Nat) : Int))), [some (S.p (.str w.tag)), some (.p (.lst (encL ps))), none]) :=
    comp_vals (f := enc) (show 2 < 3 by decide) (evE_var rfl) (.inl rfl) (by show some (encL ps) = _; rw [encL_map]) rfl (fun u hu => ⟨_, call1 (o := false) (δ1 := [some (S.p (.str w.tag)), some (.p (.lst (encL ps))), some (.p (enc u))]) m10 (evE_var rfl) (r10 u hu), .inl rfl⟩) (by omega)
  refine w_ts0 ?_
  refine w_ts (w_if (w_pr2 rfl ⟨_, _, pr1_of ec rfl (maxd_dep ps O.ne), ?_⟩))
  refine w_con ?_
  refine ⟨_, _, _, rfl, rfl, rfl, _, rfl, (fun h8 => ?_), fun h8 => ?_⟩
  · have h8 : 8 < depL ps := by
      have h8 : decide ((8 : Int) < ((depL ps : Nat) : Int)) = true := h8
      have := of_decide_eq_true h8
      omega
    refine w_ts (w_ret (w_con ⟨_, rfl, ?_⟩))
    unfold bnd
    rw [if_neg (by rw [h]; decide), if_pos h8]
  · have h8 : ¬ 8 < depL ps := by
      have h8 : decide ((8 : Int) < ((depL ps : Nat) : Int)) = false := h8
      have := of_decide_eq_false h8
      omega
    have hsz : ∀ p ∈ ps, p.size ≤ 40 := O.size
    have ec2 : evE C (.comp [2] (.nm 2) .vals [(.var 1)] [] (.pr .len [(.call 11 [(.var 2)])])) [some (S.p (.str w.tag)), some (.p (.lst (encL ps))), none] = .ok (.o (.lst (ps.map fun p => .int ((p.size : Nat) : Int))), [some (S.p (.str w.tag)), some (.p (.lst (encL ps))), none]) :=
      comp_vals (f := enc) (show 2 < 3 by decide) (evE_var rfl) (.inl rfl) (by show some (encL ps) = _; rw [encL_map]) rfl (fun u hu => ⟨_, pr1_of (w := .sc (.int ((u.size : Nat) : Int))) (call1 (o := true) (δ1 := [some (S.p (.str w.tag)), some (.p (.lst (encL ps))), some (.p (enc u))]) m11 (evE_var rfl) (r11 u hu)) rfl (by rw [len_lst, List.length_map, makes_len]), .inl rfl⟩) (by omega)
    refine w_ts0 ?_
    refine w_ts (w_ret (w_pr2 rfl ⟨_, _, pr1_of ec2 rfl (sum_makes ps), ?_⟩))
    refine w_con ?_
    refine ⟨_, _, _, rfl, rfl, rfl, _, rfl, ?_⟩
    unfold bnd
    rw [if_neg (by rw [h]; decide), if_neg h8]
    show (D.bl (decide (((sizeL ps : Nat) : Int) ≤ 39)), false, []) = _
    rw [show decide (((sizeL ps : Nat) : Int) ≤ 39) = decide (sizeL ps ≤ 39) from decide_eq_decide.mpr (by omega)]
end K07
set_option maxHeartbeats 4000000
namespace K07
open PySem Ev
theorem w_of {C : Calls} {e : E} {δ δ1 : DEnv} {r : Ev.R} {Q : Ev.R → DEnv → Prop} (h : evE C e δ = .ok (r, δ1)) (q : Q r δ1) : wE C e δ Q := ⟨r, δ1, h, q⟩
theorem w_ext {W : Nat} {C : Calls} {δ : DEnv} {F : Fl → DEnv → Prop} {i : Nat} {e : E} (h0 : slotL δ i = true) (h : wE C e δ fun r δ1 => ∃ x δ3, resR δ1 r = some x ∧ upS δ1 i (methD .extend [x]) = some δ3 ∧ F .nx δ3) : wT W C (.meth .extend i [e]) δ F := by
  obtain ⟨r, δ1, e1, x, δ3, e2, e3, q⟩ := h
  refine ⟨_, _, ?_, q⟩
  rw [evT, if_pos h0]
  have g1 : evL C [e] δ = .ok ([r], δ1) := by simp only [evL, e1, bind_ok]
  have g2 : resL δ1 [r] = some [x] := by simp only [resL, e2]
  rw [g1]
  simp [g2, e3]
theorem ext_up {i : Nat} {δ : DEnv} {acc zs : List D} (hi : δ[i]? = some (some (.m false (.lst acc)))) (hl : acc.length + zs.length ≤ 1000000) : upS δ i (methD .extend [.lst zs]) = some (δ.set i (some (.m false (.lst (acc ++ zs))))) := by
  have g3 : methD .extend [.lst zs] (.lst acc) = some (.lst (acc ++ zs)) := by
    show (if acc.length + zs.length ≤ cap then some (D.lst (acc ++ zs)) else none) = _
    rw [if_pos hl]
  unfold upS
  rw [hi]
  simp only [g3]
theorem idx0 (w : Pat) : pev .idx [enc w, .int 0] = some (.sc (.str w.tag)) := by cases w <;> rfl
def isRow : Pat → Bool
  | .row _ => true
  | _ => false
theorem tag_row (w : Pat) : pev .eq [.str w.tag, .str "row"] = some (.sc (.bl (isRow w))) := by
  cases w with
  | none => exact tag_eq (x := "none") false (by decide +kernel) (by decide +kernel)
  | blank => exact tag_eq (x := "blank") false (by decide +kernel) (by decide +kernel)
  | sign x => exact tag_eq (x := "sign") false (by decide +kernel) (by decide +kernel)
  | row ps => exact tag_eq (x := "row") true (by decide +kernel) (by decide +kernel)
  | pick ps => exact tag_eq (x := "pick") false (by decide +kernel) (by decide +kernel)
  | again p => exact tag_eq (x := "again") false (by decide +kernel) (by decide +kernel)
  | held x p => exact tag_eq (x := "held") false (by decide +kernel) (by decide +kernel)
  | price n p => exact tag_eq (x := "price") false (by decide +kernel) (by decide +kernel)
theorem row_ag {w : Pat} (h : isRow w = true) : ag w = false := by cases w <;> first | rfl | cases h
def due (w : Pat) (l : List Bool) : Bool := if isRow w then l.all id else if ag w then true else l.any id
theorem blk_whole {w : Pat} {ps : List Pat} (h : Whole w ps) : w.blk = due w (ps.map Pat.blk) := by
  cases h with
  | row ps => exact allBlk_eq ps
  | pick ps => exact anyBlk_eq ps
  | again p => rfl
  | held p => show p.blk = (p.blk || false); rw [Bool.or_false]
  | price n p _ => show p.blk = (p.blk || false); rw [Bool.or_false]
theorem txt_whole {w : Pat} {ps : List Pat} (h : Whole w ps) : w.txt = due w (ps.map Pat.txt) := by
  cases h with
  | row ps => exact allTxt_eq ps
  | pick ps => exact anyTxt_eq ps
  | again p => rfl
  | held p => show p.txt = (p.txt || false); rw [Bool.or_false]
  | price n p _ => show p.txt = (p.txt || false); rw [Bool.or_false]
theorem two_same (a b : Bool) : pev .ne [.lst [.bl a, .bl b], .lst [.bl a, .bl b]] = some (.sc (.bl false)) := by
  show pEq true (.lst [.bl a, .bl b]) (.lst [.bl a, .bl b]) = some (.sc (.bl (!true)))
  exact pEq_same (neg := true) (y := .list [.bool a, .bool b]) rfl rfl (by simp [PyData.depth, PyData.depthAll])
def pyI (l : List Nat) : PyData := .tuple (l.map fun i => .int (i : Nat))
theorem toPyI : ∀ l : List Nat, toPyL (l.map fun i => D.int (i : Nat)) = some (l.map fun i => PyData.int (i : Nat))
  | [] => rfl
  | i :: l => by simp only [List.map_cons, toPyL, toPy, toPyI l]
theorem toPyT : ∀ ls : List (List Nat), toPyL (ls.map tupI) = some (ls.map pyI)
  | [] => rfl
  | l :: ls => by simp only [List.map_cons, toPyL, tupI, toPy, toPyI l, toPyT ls, pyI]
theorem layI : ∀ l : List Nat, PyData.canLayAll0 (l.map fun i => PyData.int (i : Nat)) = true
  | [] => rfl
  | i :: l => by simp only [List.map_cons, PyData.canLayAll0, PyData.canLay0, layI l, Bool.and_self]
theorem layT : ∀ ls : List (List Nat), PyData.canLayAll0 (ls.map pyI) = true
  | [] => rfl
  | l :: ls => by simp only [List.map_cons, PyData.canLayAll0, pyI, PyData.canLay0, layI l, layT ls, Bool.and_self]
theorem depI : ∀ l : List Nat, PyData.depthAll (l.map fun i => PyData.int (i : Nat)) ≤ 2
  | [] => by simp only [List.map_nil, PyData.depthAll]; omega
  | i :: l => by have := depI l; simp only [List.map_cons, PyData.depthAll, PyData.depth]; omega
theorem depT : ∀ ls : List (List Nat), PyData.depthAll (ls.map pyI) ≤ 4
  | [] => by simp only [List.map_nil, PyData.depthAll]; omega
  | l :: ls => by have := depI l; have := depT ls; simp only [List.map_cons, PyData.depthAll, pyI, PyData.depth]; omega
theorem nums_same (ls : List (List Nat)) : pev .ne [.lst (ls.map tupI), .lst (ls.map tupI)] = some (.sc (.bl false)) := by
  show pEq true (.lst (ls.map tupI)) (.lst (ls.map tupI)) = some (.sc (.bl (!true)))
  refine pEq_same (neg := true) (y := .list (ls.map pyI)) (by simp only [toPy, toPyT]) (by simp only [PyData.canLay0, layT]) ?_
  have := depT ls
  simp only [PyData.depth]; omega
theorem makes_same {w : Pat} (hg : w.good) (hd : w.dep ≤ 9) : pev .ne [.lst ((makes w).map enc), .lst ((makes w).map enc)] = some (.sc (.bl false)) := by
  have h1 := makes_good w.dep w (Nat.le_refl _) hg
  have h2 := makes_dep w.dep w (Nat.le_refl _)
  have := pEq_encL true (makes w) (goodL_of h1) (depL_of fun q hq => by have := h2 q hq; omega)
  rw [encL_map] at this
  exact this
structure RightOk (C : Calls) (w : Pat) (ps : List Pat) : Prop where
  m4 : C.md 4 = some [false]
  m5 : C.md 5 = some [false]
  m9 : C.md 9 = some [false]
  m10 : C.md 10 = some [false]
  m11 : C.md 11 = some [false]
  m13 : C.md 13 = some [false]
  m14 : C.md 14 = some [false]
  m22 : C.md 22 = some [false]
  m23 : C.md 23 = some [false, false]
  r9 : C.run 9 [enc w] = .ok (.bl (bnd w ps), false, [])
  r23 : C.run 23 [.str w.tag, .lst (encL ps)] = .ok (.bl (bnd w ps), false, [])
  r22 : C.run 22 [.lst (encL ps)] = .ok (.lst ((idxs ps 1 :: numsL ps 1).map tupI), true, [])
  r4 : ∀ p, p.good → p.dep ≤ 9 → p.size ≤ 40 → C.run 4 [enc p] = .ok (.bl p.blk, false, [])
  r5 : ∀ p, p.good → p.dep ≤ 9 → p.size ≤ 40 → C.run 5 [enc p] = .ok (.bl p.txt, false, [])
  r10 : ∀ p, p.good → p.dep ≤ 9 → p.size ≤ 40 → C.run 10 [enc p] = .ok (.int ((p.dep : Nat) : Int), false, [])
  r11 : ∀ p, p.good → p.dep ≤ 9 → p.size ≤ 40 → C.run 11 [enc p] = .ok (.lst ((makes p).map enc), true, [])
  r13 : ∀ p, p.good → p.dep ≤ 9 → p.size ≤ 40 → C.run 13 [enc p] = .ok (partsD p, true, [])
  r14 : ∀ p, p.good → p.dep ≤ 9 → p.size ≤ 40 → C.run 14 [enc p] = .ok (.str (sgText (allSigns (makes p))), false, [])
theorem sg_len {p : Pat} (hg : p.good) : (sgText (allSigns (makes p))).cps.toList.length ≤ 64 ∧ ∀ c ∈ (sgText (allSigns (makes p))).cps.toList, c ∈ lets := by
  obtain ⟨h1, h2⟩ := few_signs (makes_good p.dep p (Nat.le_refl _) hg)
  have h3 := sg_facts (ks := allSigns (makes p))
  exact ⟨by rw [h3.length_eq]; omega, fun c hc => h1 c (h3.mem_iff.mp hc)⟩
theorem cat_lets : ∀ {ps : List Pat}, (∀ p ∈ ps, p.good) → ∀ c ∈ cat ps, c ∈ lets
  | [], _, c, hc => by cases hc
  | p :: ps, h, c, hc => by
    rcases List.mem_append.mp hc with hc | hc
    · exact (sg_len (h p List.mem_cons_self)).2 c hc
    · exact cat_lets (fun q hq => h q (List.mem_cons_of_mem _ hq)) c hc
theorem sset_cat {x : Str} {ps : List Pat} (hx : x.cps.toList = cat ps) (hl : x.length ≤ 400) : pev .sset [.str x] = some (.new (.lst ((sortS ((dedN (cat ps)).map one)).map .str))) := by
  have e : chrS x = (cat ps).map one := by
    unfold chrS
    rw [hx]
    rfl
  simp only [pev]
  rw [if_pos (by omega), e, ded_one]
theorem app_cps (x y : Str) : (x ++ y).cps.toList = x.cps.toList ++ y.cps.toList := by
  show (x.cps ++ y.cps).toList = _
  rw [Array.toList_append]
theorem len_cps (x : Str) : x.length = x.cps.toList.length := rfl
theorem add_strs {x y : Str} (h : x.length + y.length ≤ 1000000) : pev .add [.str x, .str y] = some (.sc (.str (x ++ y))) := by
  show (if x.length + y.length ≤ cap then _ else none) = _
  rw [if_pos h]
theorem sizeL_app : ∀ a b : List Pat, sizeL (a ++ b) = sizeL a + sizeL b
  | [], b => by simp [sizeL]
  | p :: a, b => by simp only [List.cons_append, sizeL, sizeL_app a b]; omega
theorem makesL_len : ∀ ps : List Pat, (makesL ps).length = sizeL ps
  | [] => rfl
  | p :: ps => by simp only [makesL, sizeL, List.length_append, makes_len, makesL_len ps]
theorem right_run {W : Nat} {C : Calls} {w : Pat} {ps : List Pat} (B : RightOk C w ps) (h : Whole w ps) (O : PartsOk ps) : ∃ z, runFn W C fn24 [enc w, .lst (encL ps)] = .ok z ∧ z = (.bl true, false, []) := by
  obtain ⟨m4, m5, m9, m10, m11, m13, m14, m22, m23, r9, r23, r22, r4, r5, r10, r11, r13, r14⟩ := B
  refine w_run rfl ?_
  show wTs W C fn24.body [some (.p (enc w)), some (.p (.lst (encL ps))), none, none, none, none, none, none, none, none, none] _
  have q4 : ∀ p ∈ ps, C.run 4 [enc p] = .ok (.bl p.blk, false, []) := fun p hp => r4 p (O.good p hp) (O.dep p hp) (O.size p hp)
  have q5 : ∀ p ∈ ps, C.run 5 [enc p] = .ok (.bl p.txt, false, []) := fun p hp => r5 p (O.good p hp) (O.dep p hp) (O.size p hp)
  have q10 : ∀ p ∈ ps, C.run 10 [enc p] = .ok (.int ((p.dep : Nat) : Int), false, []) := fun p hp => r10 p (O.good p hp) (O.dep p hp) (O.size p hp)
  have q11 : ∀ p ∈ ps, C.run 11 [enc p] = .ok (.lst ((makes p).map enc), true, []) := fun p hp => r11 p (O.good p hp) (O.dep p hp) (O.size p hp)
  have q14 : ∀ p ∈ ps, C.run 14 [enc p] = .ok (.str (sgText (allSigns (makes p))), false, []) := fun p hp => r14 p (O.good p hp) (O.dep p hp) (O.size p hp)
  have hfew := O.few
  have hsz := O.sz
  have hk := h.kids
  have hkd := kids_dep w
  rw [hk] at hkd
  have e0 : evE C (.pr .idx [(.var 0), (.con (.int 0))]) [some (S.p (enc w)), some (.p (.lst (encL ps))), none, none, none, none, none, none, none, none, none] = .ok (.d (.str w.tag), [some (S.p (enc w)), some (.p (.lst (encL ps))), none, none, none, none, none, none, none, none, none]) :=
    pr2_of (w := .sc (.str w.tag)) (evE_var rfl) evE_con rfl rfl (idx0 w)
  refine w_ts (w_asg (w_of e0 ⟨_, rfl, free_n, ?_⟩))
  refine w_ts (w_asg (w_call ?_))
  (repeat (first | refine w_con ?_ | refine w_varp rfl ?_ | refine w_vario rfl ?_ | refine w_varm rfl ?_ | refine w_pr1 ?_ | refine w_pr2 rfl ?_ | refine w_not ?_ | refine w_ife ?_ | refine w_and ?_ | refine w_or ?_ | refine w_and1 ?_ | refine w_or1 ?_ | refine w_andc ?_ | refine w_orc ?_ | refine w_nil ?_ | refine w_cons ?_ | refine w_tup ?_ | refine w_lst ?_ | refine w_sm ?_ | refine w_chain ?_ | refine w_ts0 ?_ | refine w_ts ?_ | refine w_ex ?_ | refine w_ret ?_ | refine w_asg ?_ | refine w_if ?_ | refine w_app rfl ?_ | refine w_set rfl ?_))
  refine ⟨_, _, _, _, _, _, m23, rfl, rfl, rfl, r23, rfl, ?_⟩
  refine ⟨_, rfl, free_n, ?_⟩
  refine w_ts (w_asg (w_call ?_))
  (repeat (first | refine w_con ?_ | refine w_varp rfl ?_ | refine w_vario rfl ?_ | refine w_varm rfl ?_ | refine w_pr1 ?_ | refine w_pr2 rfl ?_ | refine w_not ?_ | refine w_ife ?_ | refine w_and ?_ | refine w_or ?_ | refine w_and1 ?_ | refine w_or1 ?_ | refine w_andc ?_ | refine w_orc ?_ | refine w_nil ?_ | refine w_cons ?_ | refine w_tup ?_ | refine w_lst ?_ | refine w_sm ?_ | refine w_chain ?_ | refine w_ts0 ?_ | refine w_ts ?_ | refine w_ex ?_ | refine w_ret ?_ | refine w_asg ?_ | refine w_if ?_ | refine w_app rfl ?_ | refine w_set rfl ?_))
  refine ⟨_, _, _, _, _, _, m9, rfl, rfl, rfl, r9, rfl, ?_⟩
  refine ⟨_, rfl, free_n, ?_⟩
  refine w_ts (w_if (w_eqd (w_varp rfl (w_varp rfl ⟨_, _, .sc (.bl false), rfl, rfl, ne_same _, false, rfl, (fun h => by cases h), fun _ => ?_⟩))))
  refine w_ts0 ?_
  refine w_ts (w_if (w_not (w_varp rfl ⟨_, rfl, _, rfl, (fun hb => ?_), fun hb => ?_⟩)))
  · exact w_ts (w_ret (w_con ⟨_, rfl, rfl⟩))
  have hb : bnd w ps = true := by cases hbb : bnd w ps with | true => rfl | false => rw [hbb] at hb; cases hb
  obtain ⟨gw, dw, zw⟩ := whole_good h O hb
  refine w_ts0 ?_
  generalize bnd w ps = bb
  have ec4 : evE C (.comp [6] (.nm 6) .vals [(.var 1)] [] (.call 4 [(.var 6)])) [some (S.p (enc w)), some (.p (.lst (encL ps))), some (.p (.str w.tag)), some (.p (.bl bb)), some (.p (.bl bb)), none, none, none, none, none, none] = .ok (.o (.lst (ps.map fun p => .bl p.blk)), [some (S.p (enc w)), some (.p (.lst (encL ps))), some (.p (.str w.tag)), some (.p (.bl bb)), some (.p (.bl bb)), none, none, none, none, none, none]) :=
    comp_vals (f := enc) (show 6 < 11 by decide) (evE_var rfl) (.inl rfl) (by show some (encL ps) = _; rw [encL_map]) rfl (fun u hu => ⟨_, call1 (o := false) (δ1 := [some (S.p (enc w)), some (.p (.lst (encL ps))), some (.p (.str w.tag)), some (.p (.bl bb)), some (.p (.bl bb)), none, some (.p (enc u)), none, none, none, none]) m4 (evE_var rfl) (q4 u hu), .inl rfl⟩) (by omega)
  refine w_ts (w_asg (w_of ec4 ⟨_, rfl, free_n, ?_⟩))
  have ec5 : evE C (.comp [6] (.nm 6) .vals [(.var 1)] [] (.call 5 [(.var 6)])) [some (S.p (enc w)), some (.p (.lst (encL ps))), some (.p (.str w.tag)), some (.p (.bl bb)), some (.p (.bl bb)), some (.m false (.lst (ps.map fun p => .bl p.blk))), none, none, none, none, none] = .ok (.o (.lst (ps.map fun p => .bl p.txt)), [some (S.p (enc w)), some (.p (.lst (encL ps))), some (.p (.str w.tag)), some (.p (.bl bb)), some (.p (.bl bb)), some (.m false (.lst (ps.map fun p => .bl p.blk))), none, none, none, none, none]) :=
    comp_vals (f := enc) (show 6 < 11 by decide) (evE_var rfl) (.inl rfl) (by show some (encL ps) = _; rw [encL_map]) rfl (fun u hu => ⟨_, call1 (o := false) (δ1 := [some (S.p (enc w)), some (.p (.lst (encL ps))), some (.p (.str w.tag)), some (.p (.bl bb)), some (.p (.bl bb)), some (.m false (.lst (ps.map fun p => .bl p.blk))), some (.p (enc u)), none, none, none, none]) m5 (evE_var rfl) (q5 u hu), .inl rfl⟩) (by omega)
  refine w_ts (w_asg (w_of ec5 ⟨_, rfl, free_n, ?_⟩))
  have aB := any_map Pat.blk ps
  have aT := any_map Pat.txt ps
  have lB := all_map Pat.blk ps
  have lT := all_map Pat.txt ps
  refine w_ts (w_asg (w_lst (w_cons (w_pr1 (w_varm rfl ⟨_, _, rfl, aB, w_cons (w_pr1 (w_varm rfl ⟨_, _, rfl, aT, w_nil ⟨_, _, rfl, _, rfl, free_n, ?_⟩⟩))⟩)))))
  have rest : wTs W C (fn24.body.drop 10) [some (.p (enc w)), some (.p (.lst (encL ps))), some (.p (.str w.tag)), some (.p (.bl bb)), some (.p (.bl bb)), some (.m false (.lst (ps.map fun p => .bl p.blk))), none, some (.m false (.lst (ps.map fun p => .bl p.txt))), some (.m false (.lst [.bl w.blk, .bl w.txt])), none, none] (fun f δ => match f with
        | .rt r => ∃ z, finF fn24.ps δ r = .ok z ∧ z = (.bl true, false, [])
        | .nx => ∃ z, finF fn24.ps δ (.d .non) = .ok z ∧ z = (.bl true, false, [])
        | _ => False) := by
    have w4 := r4 w gw dw zw
    have w5 := r5 w gw dw zw
    have w10 := r10 w gw dw zw
    have w11 := r11 w gw dw zw
    have w13 := r13 w gw dw zw
    have w14 := r14 w gw dw zw
    refine w_ts (w_if (w_eqd (w_lst (w_cons (w_call ?_)))))
    (repeat (first | refine w_con ?_ | refine w_varp rfl ?_ | refine w_vario rfl ?_ | refine w_varm rfl ?_ | refine w_pr1 ?_ | refine w_pr2 rfl ?_ | refine w_not ?_ | refine w_ife ?_ | refine w_and ?_ | refine w_or ?_ | refine w_and1 ?_ | refine w_or1 ?_ | refine w_andc ?_ | refine w_orc ?_ | refine w_nil ?_ | refine w_cons ?_ | refine w_tup ?_ | refine w_lst ?_ | refine w_sm ?_ | refine w_chain ?_ | refine w_ts0 ?_ | refine w_ts ?_ | refine w_ex ?_ | refine w_ret ?_ | refine w_asg ?_ | refine w_if ?_ | refine w_app rfl ?_ | refine w_set rfl ?_))
    refine ⟨_, _, _, _, _, _, m4, rfl, rfl, rfl, w4, rfl, ?_⟩
    refine w_cons (w_call ?_)
    (repeat (first | refine w_con ?_ | refine w_varp rfl ?_ | refine w_vario rfl ?_ | refine w_varm rfl ?_ | refine w_pr1 ?_ | refine w_pr2 rfl ?_ | refine w_not ?_ | refine w_ife ?_ | refine w_and ?_ | refine w_or ?_ | refine w_and1 ?_ | refine w_or1 ?_ | refine w_andc ?_ | refine w_orc ?_ | refine w_nil ?_ | refine w_cons ?_ | refine w_tup ?_ | refine w_lst ?_ | refine w_sm ?_ | refine w_chain ?_ | refine w_ts0 ?_ | refine w_ts ?_ | refine w_ex ?_ | refine w_ret ?_ | refine w_asg ?_ | refine w_if ?_ | refine w_app rfl ?_ | refine w_set rfl ?_))
    refine ⟨_, _, _, _, _, _, m5, rfl, rfl, rfl, w5, rfl, ?_⟩
    refine w_nil ⟨_, _, rfl, ?_⟩
    refine w_varm rfl ⟨_, _, .sc (.bl false), rfl, rfl, two_same _ _, false, rfl, (fun h => by cases h), fun _ => ?_⟩
    refine w_ts0 ?_
    refine w_ts (w_asg (w_lst (w_cons (w_varp rfl (w_nil ⟨_, _, rfl, _, rfl, free_n, ?_⟩)))))
    refine w_ts (w_asg (w_con ⟨_, rfl, free_n, ?_⟩))
    refine w_ts (w_forl enc (w_varp rfl ⟨_, ps, .inl rfl, by show some (encL ps) = _; rw [encL_map], fun rest δ => ∃ (done : List Pat) (s6 : Option S) (x : Str), δ = [some (.p (enc w)), some (.p (.lst (encL ps))), some (.p (.str w.tag)), some (.p (.bl bb)), some (.p (.bl bb)), some (.m false (.lst (ps.map fun p => .bl p.blk))), s6, some (.m false (.lst (ps.map fun p => .bl p.txt))), some (.m false (.lst [.bl w.blk, .bl w.txt])), some (.m false (.lst ((w :: makesL done).map enc))), some (.p (.str x))] ∧ (s6 = none ∨ ∃ d, s6 = some (.p d)) ∧ x.cps.toList = cat done ∧ x.length ≤ 64 * done.length ∧ ps = done ++ rest, ⟨[], none, "", rfl, .inl rfl, by decide +kernel, by decide +kernel, rfl⟩, ?_, ?_⟩))
    · rintro u rest δ ⟨done, s6, x, rfl, f6, hx, hxl, hd⟩
      have f6' : Free s6 := by rcases f6 with rfl | ⟨d, rfl⟩; exact free_n; exact free_p
      refine ⟨_, bind_nm rfl f6', ?_⟩
      have hu : u ∈ ps := by rw [hd]; simp
      have hs2 : sizeL ps = sizeL done + (u.size + sizeL rest) := by rw [hd, sizeL_app]; rfl
      have hdl : done.length + (1 + rest.length) = ps.length := by rw [hd, List.length_append, List.length_cons]; omega
      have g11 := q11 u hu
      have g14 := q14 u hu
      refine w_ts (w_ext rfl (w_call ?_))
      (repeat (first | refine w_con ?_ | refine w_varp rfl ?_ | refine w_vario rfl ?_ | refine w_varm rfl ?_ | refine w_pr1 ?_ | refine w_pr2 rfl ?_ | refine w_not ?_ | refine w_ife ?_ | refine w_and ?_ | refine w_or ?_ | refine w_and1 ?_ | refine w_or1 ?_ | refine w_andc ?_ | refine w_orc ?_ | refine w_nil ?_ | refine w_cons ?_ | refine w_tup ?_ | refine w_lst ?_ | refine w_sm ?_ | refine w_chain ?_ | refine w_ts0 ?_ | refine w_ts ?_ | refine w_ex ?_ | refine w_ret ?_ | refine w_asg ?_ | refine w_if ?_ | refine w_app rfl ?_ | refine w_set rfl ?_))
      refine ⟨_, _, _, _, _, _, m11, rfl, rfl, rfl, g11, rfl, ?_⟩
      refine ⟨_, _, rfl, ext_up rfl (by rw [List.length_map, List.length_map, List.length_cons, makesL_len, makes_len]; omega), ?_⟩
      refine w_ts (w_asg (w_pr2 rfl (w_varp rfl (w_call ?_))))
      (repeat (first | refine w_con ?_ | refine w_varp rfl ?_ | refine w_vario rfl ?_ | refine w_varm rfl ?_ | refine w_pr1 ?_ | refine w_pr2 rfl ?_ | refine w_not ?_ | refine w_ife ?_ | refine w_and ?_ | refine w_or ?_ | refine w_and1 ?_ | refine w_or1 ?_ | refine w_andc ?_ | refine w_orc ?_ | refine w_nil ?_ | refine w_cons ?_ | refine w_tup ?_ | refine w_lst ?_ | refine w_sm ?_ | refine w_chain ?_ | refine w_ts0 ?_ | refine w_ts ?_ | refine w_ex ?_ | refine w_ret ?_ | refine w_asg ?_ | refine w_if ?_ | refine w_app rfl ?_ | refine w_set rfl ?_))
      refine ⟨_, _, _, _, _, _, m14, rfl, rfl, rfl, g14, rfl, ?_⟩
      have hul := (sg_len (O.good u hu)).1
      rw [← len_cps] at hul
      refine ⟨_, _, _, rfl, rfl, add_strs (by omega), _, rfl, free_p, ?_⟩
      refine w_ts0 ?_
      refine ⟨done ++ [u], some (.p (enc u)), x ++ sgText (allSigns (makes u)), ?_, .inr ⟨_, rfl⟩, by rw [app_cps, hx, cat_snoc], ?_, by rw [hd]; simp⟩
      · rw [makesL_snoc]
        simp only [List.map_cons, List.map_append, List.cons_append]
        rfl
      · rw [len_cps, app_cps, List.length_append, ← len_cps, ← len_cps, List.length_append]
        simp only [List.length_cons, List.length_nil]
        omega
    · rintro δ ⟨done, s6, x, rfl, f6, hx, hxl, hd⟩
      rw [List.append_nil] at hd
      subst hd
      have hmk : makes w = w :: makesL ps := by rw [makes_eq, hk]
      rw [← hmk]
      refine w_ts (w_if (w_or (w_orc (w_eqd (w_call ?_)))))
      (repeat (first | refine w_con ?_ | refine w_varp rfl ?_ | refine w_vario rfl ?_ | refine w_varm rfl ?_ | refine w_pr1 ?_ | refine w_pr2 rfl ?_ | refine w_not ?_ | refine w_ife ?_ | refine w_and ?_ | refine w_or ?_ | refine w_and1 ?_ | refine w_or1 ?_ | refine w_andc ?_ | refine w_orc ?_ | refine w_nil ?_ | refine w_cons ?_ | refine w_tup ?_ | refine w_lst ?_ | refine w_sm ?_ | refine w_chain ?_ | refine w_ts0 ?_ | refine w_ts ?_ | refine w_ex ?_ | refine w_ret ?_ | refine w_asg ?_ | refine w_if ?_ | refine w_app rfl ?_ | refine w_set rfl ?_))
      refine ⟨_, _, _, _, _, _, m11, rfl, rfl, rfl, w11, rfl, ?_⟩
      refine w_varm rfl ⟨_, _, .sc (.bl false), rfl, rfl, makes_same gw dw, false, rfl, (fun h => by cases h), fun _ => ?_⟩
      refine w_or1 (w_eqd (w_call ?_))
      (repeat (first | refine w_con ?_ | refine w_varp rfl ?_ | refine w_vario rfl ?_ | refine w_varm rfl ?_ | refine w_pr1 ?_ | refine w_pr2 rfl ?_ | refine w_not ?_ | refine w_ife ?_ | refine w_and ?_ | refine w_or ?_ | refine w_and1 ?_ | refine w_or1 ?_ | refine w_andc ?_ | refine w_orc ?_ | refine w_nil ?_ | refine w_cons ?_ | refine w_tup ?_ | refine w_lst ?_ | refine w_sm ?_ | refine w_chain ?_ | refine w_ts0 ?_ | refine w_ts ?_ | refine w_ex ?_ | refine w_ret ?_ | refine w_asg ?_ | refine w_if ?_ | refine w_app rfl ?_ | refine w_set rfl ?_))
      refine ⟨_, _, _, _, _, _, m13, rfl, rfl, rfl, w13, rfl, ?_⟩
      refine w_call ?_
      (repeat (first | refine w_con ?_ | refine w_varp rfl ?_ | refine w_vario rfl ?_ | refine w_varm rfl ?_ | refine w_pr1 ?_ | refine w_pr2 rfl ?_ | refine w_not ?_ | refine w_ife ?_ | refine w_and ?_ | refine w_or ?_ | refine w_and1 ?_ | refine w_or1 ?_ | refine w_andc ?_ | refine w_orc ?_ | refine w_nil ?_ | refine w_cons ?_ | refine w_tup ?_ | refine w_lst ?_ | refine w_sm ?_ | refine w_chain ?_ | refine w_ts0 ?_ | refine w_ts ?_ | refine w_ex ?_ | refine w_ret ?_ | refine w_asg ?_ | refine w_if ?_ | refine w_app rfl ?_ | refine w_set rfl ?_))
      refine ⟨_, _, _, _, _, _, m22, rfl, rfl, rfl, r22, rfl, ?_⟩
      have hn : partsD w = .lst ((idxs ps 1 :: numsL ps 1).map tupI) := by unfold partsD; rw [nums_eq, hk]
      refine ⟨_, _, .sc (.bl false), rfl, rfl, by rw [hn]; exact nums_same _, false, rfl, (fun h => by cases h), fun _ => ?_⟩
      refine w_ts0 ?_
      have ecd : ∀ mk xs, evE C (.comp [6] (.nm 6) .vals [(.var 1)] [] (.call 10 [(.var 6)])) [some (S.p (enc w)), some (.p (.lst (encL ps))), some (.p (.str w.tag)), some (.p (.bl bb)), some (.p (.bl bb)), some (.m false (.lst (ps.map fun p => .bl p.blk))), s6, some (.m false (.lst (ps.map fun p => .bl p.txt))), some (.m false (.lst [.bl w.blk, .bl w.txt])), some (.m false (.lst mk)), some (.p (.str xs))] = .ok (.o (.lst (ps.map fun p => .int ((p.dep : Nat) : Int))), [some (S.p (enc w)), some (.p (.lst (encL ps))), some (.p (.str w.tag)), some (.p (.bl bb)), some (.p (.bl bb)), some (.m false (.lst (ps.map fun p => .bl p.blk))), s6, some (.m false (.lst (ps.map fun p => .bl p.txt))), some (.m false (.lst [.bl w.blk, .bl w.txt])), some (.m false (.lst mk)), some (.p (.str xs))]) := fun mk xs =>
        comp_vals (f := enc) (show 6 < 11 by decide) (evE_var rfl) (.inl rfl) (by show some (encL ps) = _; rw [encL_map]) (by rcases f6 with rfl | ⟨d, rfl⟩ <;> rfl) (fun u hu => ⟨_, call1 (o := false) (δ1 := [some (S.p (enc w)), some (.p (.lst (encL ps))), some (.p (.str w.tag)), some (.p (.bl bb)), some (.p (.bl bb)), some (.m false (.lst (ps.map fun p => .bl p.blk))), some (.p (enc u)), some (.m false (.lst (ps.map fun p => .bl p.txt))), some (.m false (.lst [.bl w.blk, .bl w.txt])), some (.m false (.lst mk)), some (.p (.str xs))]) m10 (evE_var rfl) (q10 u hu), .inl rfl⟩) (by omega)
      refine w_ts (w_if (w_nei (w_call ?_)))
      (repeat (first | refine w_con ?_ | refine w_varp rfl ?_ | refine w_vario rfl ?_ | refine w_varm rfl ?_ | refine w_pr1 ?_ | refine w_pr2 rfl ?_ | refine w_not ?_ | refine w_ife ?_ | refine w_and ?_ | refine w_or ?_ | refine w_and1 ?_ | refine w_or1 ?_ | refine w_andc ?_ | refine w_orc ?_ | refine w_nil ?_ | refine w_cons ?_ | refine w_tup ?_ | refine w_lst ?_ | refine w_sm ?_ | refine w_chain ?_ | refine w_ts0 ?_ | refine w_ts ?_ | refine w_ex ?_ | refine w_ret ?_ | refine w_asg ?_ | refine w_if ?_ | refine w_app rfl ?_ | refine w_set rfl ?_))
      refine ⟨_, _, _, _, _, _, m10, rfl, rfl, rfl, w10, rfl, ?_⟩
      refine w_pr2 rfl (w_con (w_of (pr1_of (ecd _ _) rfl (maxd_dep ps O.ne)) ⟨_, _, _, rfl, rfl, rfl, ?_⟩))
      refine ⟨_, _, rfl, rfl, _, rfl, (fun hne => ?_), fun _ => ?_⟩
      · rw [decide_eq_true (show ((w.dep : Nat) : Int) = 1 + ((depL ps : Nat) : Int) by omega)] at hne
        cases hne
      refine w_ts0 ?_
      refine w_ts (w_ret (w_eqs (w_call ?_)))
      (repeat (first | refine w_con ?_ | refine w_varp rfl ?_ | refine w_vario rfl ?_ | refine w_varm rfl ?_ | refine w_pr1 ?_ | refine w_pr2 rfl ?_ | refine w_not ?_ | refine w_ife ?_ | refine w_and ?_ | refine w_or ?_ | refine w_and1 ?_ | refine w_or1 ?_ | refine w_andc ?_ | refine w_orc ?_ | refine w_nil ?_ | refine w_cons ?_ | refine w_tup ?_ | refine w_lst ?_ | refine w_sm ?_ | refine w_chain ?_ | refine w_ts0 ?_ | refine w_ts ?_ | refine w_ex ?_ | refine w_ret ?_ | refine w_asg ?_ | refine w_if ?_ | refine w_app rfl ?_ | refine w_set rfl ?_))
      refine ⟨_, _, _, _, _, _, m14, rfl, rfl, rfl, w14, rfl, ?_⟩
      have hss := sset_cat hx (by omega)
      have hdl2 : ∀ c ∈ dedN (cat ps), c ∈ lets := fun c hc => cat_lets O.good c ((dedN_mem _ _).mp hc)
      have h16 : (dedN (cat ps)).length < 64 := by
        have := nodup_sub (dedN_nodup (cat ps)) hdl2
        have h3 : lets.length = 16 := rfl
        omega
      refine w_sm (w_con ⟨_, rfl, w_pr1 (w_varp rfl ⟨_, _, rfl, hss, ?_⟩)⟩)
      refine ⟨_, _, rfl, join_sorted _ h16, ?_⟩
      have hsw := signs_whole h
      have hok : PyData.strOk (sgText (dedN (cat ps))) = true := sgText_str hdl2
      refine ⟨_, _, rfl, rfl, ⟨by rw [hsw]; exact hok, hok⟩, _, rfl, ?_⟩
      rw [decide_eq_true hsw]
  have e9 : ∀ d8, evE C (.pr .eq [(.var 2), (.con (.str "row"))]) [some (S.p (enc w)), some (.p (.lst (encL ps))), some (.p (.str w.tag)), some (.p (.bl bb)), some (.p (.bl bb)), some (.m false (.lst (ps.map fun p => .bl p.blk))), none, some (.m false (.lst (ps.map fun p => .bl p.txt))), some (.m false d8), none, none] = .ok (.d (.bl (isRow w)), [some (S.p (enc w)), some (.p (.lst (encL ps))), some (.p (.str w.tag)), some (.p (.bl bb)), some (.p (.bl bb)), some (.m false (.lst (ps.map fun p => .bl p.blk))), none, some (.m false (.lst (ps.map fun p => .bl p.txt))), some (.m false d8), none, none]) := fun d8 =>
    pr2_of (w := .sc (.bl (isRow w))) (evE_var rfl) evE_con rfl rfl (tag_row w)
  have e10 : ∀ d8, evE C (.pr .eq [(.var 2), (.con (.str "again"))]) [some (S.p (enc w)), some (.p (.lst (encL ps))), some (.p (.str w.tag)), some (.p (.bl bb)), some (.p (.bl bb)), some (.m false (.lst (ps.map fun p => .bl p.blk))), none, some (.m false (.lst (ps.map fun p => .bl p.txt))), some (.m false d8), none, none] = .ok (.d (.bl (ag w)), [some (S.p (enc w)), some (.p (.lst (encL ps))), some (.p (.str w.tag)), some (.p (.bl bb)), some (.p (.bl bb)), some (.m false (.lst (ps.map fun p => .bl p.blk))), none, some (.m false (.lst (ps.map fun p => .bl p.txt))), some (.m false d8), none, none]) := fun d8 =>
    pr2_of (w := .sc (.bl (ag w))) (evE_var rfl) evE_con rfl rfl (tag_ag w)
  have hB := blk_whole h
  have hT := txt_whole h
  unfold due at hB hT
  refine w_ts (w_if (w_of (e9 _) ⟨_, rfl, (fun hr => ?_), fun hr => ?_⟩))
  · refine w_ts (w_asg (w_lst (w_cons (w_pr1 (w_varm rfl ⟨_, _, rfl, lB, w_cons (w_pr1 (w_varm rfl ⟨_, _, rfl, lT, w_nil ⟨_, _, rfl, _, rfl, free_m, ?_⟩⟩))⟩)))))
    refine w_ts0 ?_
    refine w_ts (w_if (w_of (e10 _) ⟨_, rfl, (fun ha => absurd ha (by rw [row_ag hr]; decide)), fun ha => ?_⟩))
    refine w_ts0 ?_
    rw [hr, if_pos rfl] at hB hT
    rw [hB, hT] at rest
    exact rest
  · refine w_ts0 ?_
    rw [hr, if_neg Bool.false_ne_true] at hB hT
    refine w_ts (w_if (w_of (e10 _) ⟨_, rfl, (fun ha => ?_), fun ha => ?_⟩))
    · refine w_ts (w_asg (w_lst (w_cons (w_con (w_cons (w_con (w_nil ⟨_, _, rfl, _, rfl, free_m, ?_⟩)))))))
      refine w_ts0 ?_
      rw [ha, if_pos rfl] at hB hT
      rw [hB, hT] at rest
      exact rest
    · refine w_ts0 ?_
      rw [ha, if_neg Bool.false_ne_true] at hB hT
      rw [hB, hT] at rest
      exact rest
end K07
set_option maxHeartbeats 4000000
namespace K07
open PySem Ev
theorem callR_s {C : Calls} {δ : DEnv} {f : Nat} {ms : List Bool} {rs : List Ev.R} {ds : List D} {v : D} {ios : List D} {δ2 : DEnv} (hm : C.md f = some ms) (hd : resL δ rs = some ds) (hc : (decide (ms.length = rs.length) && ((ms.zip rs).all (loan δ) && apart (ms.zip rs))) = true)
    (hv : (v.scal && ios.all D.flat) = true) (hr : C.run f ds = .ok (v, false, ios)) (hp : putIos δ (ms.zip rs) ios = some δ2) : callR C f rs δ = .ok (.d v, δ2) := by
  simp only [Bool.and_eq_true, decide_eq_true_eq] at hc
  simp only [Bool.and_eq_true] at hv
  unfold callR
  simp only [hm, hd]
  rw [if_pos hc, hr]
  simp only [bind_ok]
  rw [if_pos (by rw [hv.1, hv.2]; simp)]
  simp only [hp]
  rfl
/-- a call of ours with a scalar answer -/
theorem w_calls {C : Calls} {δ : DEnv} {Q : Ev.R → DEnv → Prop} {f : Nat} {es : List E} (h : wL C es δ fun rs δ1 => ∃ ms ds v ios δ2, C.md f = some ms ∧ resL δ1 rs = some ds ∧ (decide (ms.length = rs.length) && ((ms.zip rs).all (loan δ1) && apart (ms.zip rs))) = true ∧
    (v.scal && ios.all D.flat) = true ∧ C.run f ds = .ok (v, false, ios) ∧ putIos δ1 (ms.zip rs) ios = some δ2 ∧ Q (.d v) δ2) : wE C (.call f es) δ Q := by
  obtain ⟨rs, δ1, e1, ms, ds, v, ios, δ2, hm, hd, hc, hv, hr, hp, q⟩ := h
  exact ⟨_, _, by rw [evE, e1, bind_ok]; exact callR_s hm hd hc hv hr hp, q⟩
/-- [elt for k in range(n)] -/
theorem w_compr {C : Calls} {δ : DEnv} {Q : Ev.R → DEnv → Prop} {elt it : E} {own : List Nat} {tg : Tg} (h : wE C it δ fun r δ1 => ∃ n : Nat, r = .d (.int (n : Nat)) ∧ n ≤ 1000 ∧ canWipe δ1 own = true ∧ ∃ P : Nat → List D → DEnv → Prop, P 0 [] δ1 ∧
    (∀ k acc δ, k < n → P k acc δ → ∃ δ1, bindTg (wipeD δ own) tg (.int (k : Nat)) = some δ1 ∧ acc.length < cap ∧ wE C elt δ1 fun r δ3 => ∃ d δ4, escR δ3 r = some (d, δ4) ∧ P (k + 1) (acc ++ [d]) δ4) ∧
    (∀ acc δ2, P n acc δ2 → Q (.o (.lst acc)) (backV δ1 δ2 own))) : wE C (.comp own tg .range [it] [] elt) δ Q := by
  refine w_comp (h.mono fun r δ1 ⟨n, hr, hn, hw, P, h0, step, fin⟩ => ?_)
  refine ⟨_, _, .inl hr, ev_range (by omega), hw, fun xs acc δ => ∃ k, k ≤ n ∧ xs = (List.range' k (n - k)).map (fun j => D.int (j : Nat)) ∧ P k acc δ, ⟨0, Nat.zero_le _, rfl, h0⟩, ?_, ?_⟩
  · rintro x xs acc δ ⟨k, hk, hx, hp⟩
    obtain ⟨m, hm⟩ : ∃ m, n - k = m + 1 := by
      cases h : n - k with
      | zero => rw [h] at hx; cases hx
      | succ r => exact ⟨r, rfl⟩
    rw [hm, List.range'_succ, List.map_cons] at hx
    obtain ⟨rfl, rfl⟩ := List.cons.inj hx
    obtain ⟨δ1, e1, hl, w⟩ := step k acc δ (by omega) hp
    exact ⟨δ1, δ1, true, e1, by rw [evIfs], fun _ => ⟨hl, w.mono fun r δ3 ⟨d, δ4, e2, q⟩ => ⟨d, δ4, e2, k + 1, by omega, by rw [show n - (k + 1) = m by omega], q⟩⟩, fun h => by cases h⟩
  · rintro acc δ2 ⟨k, hk, hx, hp⟩
    have : k = n := by
      cases h : n - k with
      | zero => omega
      | succ r => rw [h] at hx; cases hx
    subst this
    exact fin acc δ2 hp
theorem cut_one (x : D) (xs : List D) : pev (.sl false true) [.lst (x :: xs), .int 1] = some (.new (.lst [x])) := by
  have e : pev (.sl false true) [.lst (x :: xs), .int 1] = some (.new (.lst (cutD (x :: xs) none (some 1)))) := rfl
  rw [e]
  simp [cutD, HT.sIx]
theorem head_idx (x : D) (xs : List D) : pev .idx [.lst (x :: xs), .int 0] = some (.sc x) := by
  have e : pev .idx [.lst (x :: xs), .int 0] = match L2.atI (x :: xs) ((0 : Nat) : Int) with | some x => some (.sc x) | none => none := rfl
  rw [e, L2.atI_nat (v := x) rfl]
structure LawOk (C : Calls) : Prop where
  m15 : C.md 15 = some [false]
  m21 : C.md 21 = some [true, false]
  m24 : C.md 24 = some [false, false]
  N : NextOk C 16
  r15 : ∀ c : Int, ∃ pool, IsPool pool ∧ C.run 15 [.int c] = .ok (pool, true, [])
  r21 : ∀ (e : Nat) (pool : D), 2 ≤ e → e ≤ 9 → IsPool pool → ∃ (p : Pat) (pool' : D), IsPool pool' ∧ p.size ≤ 40 ∧ Fits p e ∧ C.run 21 [pool, .int (e : Nat)] = .ok (enc p, false, [pool'])
  r24 : ∀ (w : Pat) (ps : List Pat), Whole w ps → PartsOk ps → C.run 24 [enc w, .lst (encL ps)] = .ok (.bl true, false, [])
theorem deepest (c : Nat) (hc : c < 6) : ∃ e : Nat, 2 ≤ e ∧ e ≤ 9 ∧ pev .idx [.lst [.int 9, .int 9, .int 5, .int 4, .int 3, .int 3], .int (c : Nat)] = some (.sc (.int (e : Nat))) := by
  obtain ⟨x, hx, e⟩ := idx_mem (L := [.int 9, .int 9, .int 5, .int 4, .int 3, .int 3]) (k := c) (by simp; omega)
  simp only [List.mem_cons, List.not_mem_nil, or_false] at hx
  rcases hx with rfl | rfl | rfl | rfl | rfl | rfl
  · exact ⟨9, by omega, by omega, e⟩
  · exact ⟨9, by omega, by omega, e⟩
  · exact ⟨5, by omega, by omega, e⟩
  · exact ⟨4, by omega, by omega, e⟩
  · exact ⟨3, by omega, by omega, e⟩
  · exact ⟨3, by omega, by omega, e⟩
theorem law_main {W : Nat} {C : Calls} (O : LawOk C) (ns : List Int) (hl : ns.length ≤ 63) : ∃ z, runFn W C fn25 [.lst (ns.map D.int)] = .ok z ∧ z = (.bl true, false, []) := by
  obtain ⟨m15, m21, m24, N, r15, r21, r24⟩ := O
  refine w_run rfl ?_
  show wTs W C fn25.body [some (.p (.lst (ns.map D.int))), none, none, none, none, none, none, none, none] _
  refine w_ts (w_forl D.int (w_pr2 rfl (w_lst (w_cons (w_con (w_nil ⟨_, _, rfl, w_varp rfl ?_⟩))))))
  have ea : pev .add [.lst [.int 0], .lst (ns.map D.int)] = some (.new (.lst ((0 :: ns).map D.int))) := by
    show (if [D.int 0].length + (ns.map D.int).length ≤ cap then some (PR.new (.lst ([D.int 0] ++ ns.map D.int))) else none) = _
    rw [if_pos (by simp only [List.length_map, List.length_cons, List.length_nil]; show _ ≤ 1000000; omega)]
    rfl
  refine ⟨_, _, _, rfl, rfl, ea, ?_⟩
  refine ⟨_, 0 :: ns, .inr rfl, rfl, fun rest δ => ∃ s1 s2 s3 s4 s6 s7 s8, δ = [some (.p (.lst (ns.map D.int))), s1, s2, s3, s4, none, s6, s7, s8] ∧ Free s1 ∧ Free s2 ∧ Free s3 ∧ Free s4 ∧ Free s6 ∧ Free s7 ∧ Free s8, ⟨none, none, none, none, none, none, none, rfl, free_n, free_n, free_n, free_n, free_n, free_n, free_n⟩, ?_, ?_⟩
  · rintro c rest δ ⟨s1, s2, s3, s4, s6, s7, s8, rfl, f1, f2, f3, f4, f6, f7, f8⟩
    refine ⟨_, bind_nm rfl f1, ?_⟩
    obtain ⟨pool, hp, e15⟩ := r15 c
    refine w_ts (w_asg (w_call ?_))
    (repeat (first | refine w_con ?_ | refine w_varp rfl ?_ | refine w_vario rfl ?_ | refine w_varm rfl ?_ | refine w_pr1 ?_ | refine w_pr2 rfl ?_ | refine w_not ?_ | refine w_ife ?_ | refine w_and ?_ | refine w_or ?_ | refine w_and1 ?_ | refine w_or1 ?_ | refine w_andc ?_ | refine w_orc ?_ | refine w_nil ?_ | refine w_cons ?_ | refine w_tup ?_ | refine w_lst ?_ | refine w_sm ?_ | refine w_chain ?_ | refine w_ts0 ?_ | refine w_ts ?_ | refine w_ex ?_ | refine w_ret ?_ | refine w_asg ?_ | refine w_if ?_ | refine w_app rfl ?_ | refine w_set rfl ?_))
    refine ⟨_, _, _, _, _, _, m15, rfl, rfl, rfl, e15, rfl, ?_⟩
    refine ⟨_, rfl, f2, ?_⟩
    refine w_ts (w_asg (w_pr2 rfl (w_con ?_)))
    refine w_nextm N hp (by omega) (by omega) evE_con rfl fun k pool1 hk hp1 => ?_
    refine ⟨_, _, _, rfl, rfl, rfl, _, rfl, f3, ?_⟩
    refine w_ts (w_asg (w_compr (w_varp rfl ?_)))
    refine ⟨1 + k, by show Ev.R.d (.int _) = _; congr 2, by omega, rfl, fun j acc δ => ∃ (pool : D) (s5 : Option S) (ps : List Pat), δ = [some (.p (.lst (ns.map D.int))), some (.p (.int c)), some (.m false pool), some (.p (.int (1 + ((k : Nat) : Int)))), s4, s5, s6, s7, s8] ∧ IsPool pool ∧ acc = ps.map enc ∧ ps.length = j ∧ ∀ p ∈ ps, p.good ∧ p.size ≤ 40 ∧ p.dep ≤ 9, ⟨pool1, none, [], rfl, hp1, rfl, rfl, fun p hp => by cases hp⟩, ?_, ?_⟩
    · rintro j acc δ hj ⟨pool, s5, ps, rfl, hp, rfl, hl, hps⟩
      refine ⟨_, rfl, by rw [List.length_map]; show _ < 1000000; omega, ?_⟩
      obtain ⟨e, h2, h9, ei⟩ := deepest k (by omega)
      obtain ⟨p, pool', hp', hsz, hf, e21⟩ := r21 e pool h2 h9 hp
      refine w_call (w_cons (w_varm rfl (w_cons (w_pr2 rfl (w_lst ?_)))))
      (repeat (first | refine w_con ?_ | refine w_varp rfl ?_ | refine w_vario rfl ?_ | refine w_varm rfl ?_ | refine w_pr1 ?_ | refine w_pr2 rfl ?_ | refine w_not ?_ | refine w_ife ?_ | refine w_and ?_ | refine w_or ?_ | refine w_and1 ?_ | refine w_or1 ?_ | refine w_andc ?_ | refine w_orc ?_ | refine w_nil ?_ | refine w_cons ?_ | refine w_tup ?_ | refine w_lst ?_ | refine w_sm ?_ | refine w_chain ?_ | refine w_ts0 ?_ | refine w_ts ?_ | refine w_ex ?_ | refine w_ret ?_ | refine w_asg ?_ | refine w_if ?_ | refine w_app rfl ?_ | refine w_set rfl ?_))
      refine ⟨_, _, rfl, ?_⟩
      refine w_pr2 rfl (w_varp rfl (w_con ⟨_, _, _, rfl, rfl, rfl, ?_⟩))
      refine ⟨_, _, .sc (.int (e : Nat)), rfl, rfl, ?_, w_nil ?_⟩
      · rw [← ei]
        show pev .idx [.lst _, .int (1 + ((k : Nat) : Int) - 1)] = _
        rw [show (1 + ((k : Nat) : Int) - 1) = ((k : Nat) : Int) by omega]
      refine ⟨_, _, _, _, _, _, m21, rfl, rfl, rfl, e21, rfl, ?_⟩
      refine ⟨_, _, rfl, pool', _, ps ++ [p], rfl, hp', by simp, by simp [hl], fun q hq => ?_⟩
      rcases List.mem_append.mp hq with hq | hq
      · exact hps q hq
      · rw [List.mem_singleton.mp hq]
        exact ⟨hf.2, hsz, by have := hf.1; omega⟩
    · rintro acc δ ⟨pool, s5, ps, rfl, hp, rfl, hl, hps⟩
      refine ⟨_, rfl, f4, ?_⟩
      obtain ⟨p, qs, rfl⟩ : ∃ p qs, ps = p :: qs := by
        cases ps with
        | nil => simp at hl; omega
        | cons p qs => exact ⟨p, qs, rfl⟩
      have O1 : PartsOk (p :: qs) := ⟨by simp, by omega, fun q hq => (hps q hq).1, fun q hq => (hps q hq).2.1, fun q hq => (hps q hq).2.2⟩
      have O2 : PartsOk [p] := ⟨by simp, by simp, fun q hq => by rw [List.mem_singleton.mp hq]; exact (hps p List.mem_cons_self).1, fun q hq => by rw [List.mem_singleton.mp hq]; exact (hps p List.mem_cons_self).2.1, fun q hq => by rw [List.mem_singleton.mp hq]; exact (hps p List.mem_cons_self).2.2⟩
      rw [← encL_map]
      refine w_ts (w_asg ?_)
      refine w_nextm N hp (by omega) (by omega) evE_con rfl fun nb pool2 hnb hp2 => ?_
      refine ⟨_, rfl, f6, ?_⟩
      have hnb2 : (0 : Int) ≤ ((nb : Nat) : Int) ∧ ((nb : Nat) : Int) ≤ 1000 := by omega
      refine w_ts (w_forl D.str (w_lst (w_cons (w_con (w_cons (w_con (w_nil ⟨_, _, rfl, _, [("row" : Str), "pick"], .inr rfl, rfl, fun rest δ => ∃ s7, δ = [some (.p (.lst (ns.map D.int))), some (.p (.int c)), some (.m false pool2), some (.p (.int (1 + ((k : Nat) : Int)))), some (.m false (.lst (encL (p :: qs)))), none, some (.p (.int (nb : Nat))), s7, s8] ∧ Free s7 ∧ ∀ y ∈ rest, y = ("row" : Str) ∨ y = "pick", ⟨s7, rfl, f7, fun y hy => by simpa using hy⟩, ?_, ?_⟩)))))))
      · rintro y rest δ ⟨s7, rfl, f7, hy⟩
        refine ⟨_, bind_nm rfl f7, ?_⟩
        obtain ⟨w, hw, ew⟩ : ∃ w, Whole w (p :: qs) ∧ enc w = .tup [.str y, .tup (encL (p :: qs))] := by
          rcases hy y List.mem_cons_self with rfl | rfl
          · exact ⟨.row (p :: qs), .row _, rfl⟩
          · exact ⟨.pick (p :: qs), .pick _, rfl⟩
        have e24 := r24 w _ hw O1
        rw [ew] at e24
        refine w_ts (w_if (w_not (w_calls (w_cons (w_tup (w_cons (w_varp rfl (w_cons (w_pr1 (w_varm rfl ?_))))))))))
        refine ⟨_, _, rfl, rfl, w_nil ⟨_, _, rfl, w_cons (w_varm rfl (w_nil ?_))⟩⟩
        refine ⟨_, _, _, _, _, m24, rfl, rfl, rfl, e24, rfl, ?_⟩
        refine ⟨_, rfl, _, rfl, (fun h => by cases h), fun _ => ?_⟩
        refine w_ts0 ?_
        refine w_ts0 ?_
        exact ⟨_, rfl, free_p, fun z hz => hy z (List.mem_cons_of_mem _ hz)⟩
      · rintro δ ⟨s7, rfl, f7, _⟩
        have hx : pev .idx [.lst (encL (p :: qs)), .int 0] = some (.sc (enc p)) := head_idx _ _
        refine w_ts (w_forl enc (w_lst (w_cons (w_tup (w_cons (w_con (w_cons (w_con (w_cons (w_pr2 rfl (w_varm rfl (w_con ?_))))))))))))
        refine ⟨_, _, _, rfl, rfl, hx, w_nil ⟨_, _, rfl, ?_⟩⟩
        refine w_cons (w_tup (w_cons (w_con (w_cons (w_varp rfl (w_cons (w_pr2 rfl (w_varm rfl (w_con ?_)))))))))
        refine ⟨_, _, _, rfl, rfl, hx, w_nil ⟨_, _, rfl, ?_⟩⟩
        refine w_cons (w_tup (w_cons (w_con (w_cons (w_pr2 rfl (w_varm rfl (w_con ?_)))))))
        refine ⟨_, _, _, rfl, rfl, hx, w_nil ⟨_, _, rfl, w_nil ?_⟩⟩
        refine ⟨_, _, rfl, _, [.held "x" p, .price (nb : Nat) p, .again p], .inr rfl, rfl, fun rest δ => ∃ s8, δ = [some (.p (.lst (ns.map D.int))), some (.p (.int c)), some (.m false pool2), some (.p (.int (1 + ((k : Nat) : Int)))), some (.m false (.lst (encL (p :: qs)))), none, some (.p (.int (nb : Nat))), s7, s8] ∧ Free s8 ∧ ∀ w ∈ rest, Whole w [p], ⟨s8, rfl, f8, fun w hw => ?_⟩, ?_, ?_⟩
        · simp only [List.mem_cons, List.not_mem_nil, or_false] at hw
          rcases hw with rfl | rfl | rfl
          · exact .held p
          · exact .price _ p hnb2
          · exact .again p
        · rintro w rest δ ⟨s8, rfl, f8, hw⟩
          refine ⟨_, bind_nm rfl f8, ?_⟩
          have e24 := r24 w [p] (hw w List.mem_cons_self) O2
          refine w_ts (w_if (w_not (w_call (w_cons (w_varp rfl (w_cons (w_pr2 rfl (w_varm rfl (w_con ?_)))))))))
          refine ⟨_, _, _, rfl, rfl, cut_one _ _, w_nil ?_⟩
          refine ⟨_, _, _, _, _, _, m24, rfl, rfl, rfl, e24, rfl, ?_⟩
          refine ⟨_, rfl, _, rfl, (fun h => by cases h), fun _ => ?_⟩
          refine w_ts0 ?_
          refine w_ts0 ?_
          exact ⟨_, rfl, free_p, fun z hz => hw z (List.mem_cons_of_mem _ hz)⟩
        · rintro δ ⟨s8, rfl, f8, _⟩
          refine w_ts0 ?_
          exact ⟨_, _, _, _, _, _, _, rfl, free_p, free_m, free_p, free_m, free_p, f7, f8⟩
  · rintro δ ⟨s1, s2, s3, s4, s6, s7, s8, rfl, _⟩
    exact w_ts (w_ret (w_con ⟨_, rfl, rfl⟩))
/-! levels -/
theorem drawTab : DrawTab tab 15 16 17 18 19 20 := ⟨rfl, rfl, rfl, rfl, rfl, rfl⟩
theorem formTab : FormTab tab 0 1 2 3 4 6 7 8 := ⟨rfl, rfl, rfl, rfl, rfl, rfl, rfl, rfl⟩
section
variable {W : Nat}
theorem r4_lvl (n : Nat) (p : Pat) (h : p.good) (hd : p.dep ≤ 9) (hz : p.size ≤ 40) (hn : 10 ≤ n) : (calls W tab n).run 4 [enc p] = .ok (.bl p.blk, false, []) := by
  obtain ⟨m, rfl⟩ : ∃ m, n = m + 1 := ⟨n - 1, by omega⟩
  exact blank_lvl (inn := 3) rfl rfl m p (by omega) (slim_of p (by omega))
theorem r5_lvl (n : Nat) (p : Pat) (h : p.good) (hd : p.dep ≤ 9) (hz : p.size ≤ 40) (hn : 10 ≤ n) : (calls W tab n).run 5 [enc p] = .ok (.bl p.txt, false, []) := by
  obtain ⟨m, rfl⟩ : ∃ m, n = m + 1 := ⟨n - 1, by omega⟩
  exact texts_lvl (inn := 3) rfl rfl m p (by omega) (slim_of p (by omega))
theorem r10_lvl (n : Nat) (p : Pat) (h : p.good) (hd : p.dep ≤ 9) (hz : p.size ≤ 40) (hn : 10 ≤ n) : (calls W tab n).run 10 [enc p] = .ok (.int ((p.dep : Nat) : Int), false, []) := by
  obtain ⟨m, rfl⟩ : ∃ m, n = m + 1 := ⟨n - 1, by omega⟩
  exact depth_lvl (inn := 3) rfl rfl m p (by omega) (by omega)
theorem r11_lvl (n : Nat) (p : Pat) (h : p.good) (hd : p.dep ≤ 9) (hz : p.size ≤ 40) (hn : 10 ≤ n) : (calls W tab n).run 11 [enc p] = .ok (.lst ((makes p).map enc), true, []) := by
  obtain ⟨m, rfl⟩ : ∃ m, n = m + 1 := ⟨n - 1, by omega⟩
  exact makes_lvl (inn := 3) rfl rfl m p (by omega) (by omega)
theorem r13_lvl (n : Nat) (p : Pat) (h : p.good) (hd : p.dep ≤ 9) (hz : p.size ≤ 40) (hn : 12 ≤ n) : (calls W tab n).run 13 [enc p] = .ok (partsD p, true, []) := by
  obtain ⟨m, rfl⟩ : ∃ m, n = m + 2 := ⟨n - 2, by omega⟩
  exact partsOf_run m p (by omega) (by omega)
theorem r14_lvl (n : Nat) (p : Pat) (h : p.good) (hd : p.dep ≤ 9) (hz : p.size ≤ 40) (hn : 12 ≤ n) : (calls W tab n).run 14 [enc p] = .ok (.str (sgText (allSigns (makes p))), false, []) := by
  obtain ⟨m, rfl⟩ : ∃ m, n = m + 2 := ⟨n - 2, by omega⟩
  rw [run_at (show tab[14]? = some (signsF 11) from rfl)]
  exact signs_run rfl p (r11_lvl (m + 1) p h hd hz (by omega)) (makes_good p.dep p (Nat.le_refl _) h) (by omega)
theorem bndOk (n : Nat) (hn : 10 ≤ n) {ps : List Pat} (O : PartsOk ps) : BndOk (calls W tab n) ps := by
  obtain ⟨m, rfl⟩ : ∃ m, n = m + 1 := ⟨n - 1, by omega⟩
  exact ⟨rfl, rfl, rfl, fun p hp => r4_lvl _ p (O.good p hp) (O.dep p hp) (O.size p hp) hn, fun p hp => r10_lvl _ p (O.good p hp) (O.dep p hp) (O.size p hp) hn, fun p hp => r11_lvl _ p (O.good p hp) (O.dep p hp) (O.size p hp) hn⟩
theorem rightOk (n : Nat) {w : Pat} {ps : List Pat} (h : Whole w ps) (O : PartsOk ps) : RightOk (calls W tab (n + 23)) w ps where
  m4 := rfl
  m5 := rfl
  m9 := rfl
  m10 := rfl
  m11 := rfl
  m13 := rfl
  m14 := rfl
  m22 := rfl
  m23 := rfl
  r9 := by
    rw [isPat_lvl formTab rfl (n + 23) (by omega) (enc w) (sane_whole h O), form_whole h O]
  r23 := by
    rw [run_at (show tab[23]? = some fn23 from rfl)]
    obtain ⟨z, e, rfl⟩ := bnd_run (W := W) (w := w) (bndOk (n + 22) (by omega) O) O
    exact e
  r22 := by
    rw [run_at (show tab[22]? = some fn22 from rfl)]
    obtain ⟨z, e, rfl⟩ := joined_run (W := W) (C := calls W tab (n + 22)) rfl ps (fun p hp => r13_lvl _ p (O.good p hp) (O.dep p hp) (O.size p hp) (by omega)) (by have := O.sz; omega)
    exact e
  r4 := fun p a b c => r4_lvl _ p a b c (by omega)
  r5 := fun p a b c => r5_lvl _ p a b c (by omega)
  r10 := fun p a b c => r10_lvl _ p a b c (by omega)
  r11 := fun p a b c => r11_lvl _ p a b c (by omega)
  r13 := fun p a b c => r13_lvl _ p a b c (by omega)
  r14 := fun p a b c => r14_lvl _ p a b c (by omega)
theorem lawOk (n : Nat) : LawOk (calls W tab (n + 24)) where
  m15 := rfl
  m21 := rfl
  m24 := rfl
  N := next_lvl rfl _
  r15 := fun c => pool_lvl drawTab _ c
  r21 := fun e pool h2 h9 hp => drawn_lvlD drawTab rfl e h2 (by omega) _ (by omega) _ rfl pool hp
  r24 := fun w ps h O => by
    rw [run_at (show tab[24]? = some fn24 from rfl)]
    obtain ⟨z, e, rfl⟩ := right_run (W := W) (rightOk n h O) h O
    exact e
theorem law_run (n : Nat) (ns : List Int) (hl : ns.length ≤ 63) : (calls W tab (n + 25)).run 25 [.lst (ns.map D.int)] = .ok (.bl true, false, []) := by
  rw [run_at (show tab[25]? = some fn25 from rfl)]
  obtain ⟨z, e, rfl⟩ := law_main (W := W) (lawOk n) ns hl
  exact e
end
end K07
set_option maxHeartbeats 0
namespace K07
open PySem Ev
def W : Nat := 1000
def lev0 : Nat := 60
def lev : Nat := lev0 + 1
theorem run_ok (ns : List Int) (hl : ns.length ≤ 63) : (calls W tab lev).run 25 [.lst (ns.map D.int)] = .ok (.bl true, false, []) := law_run 36 ns hl
end K07


open PySem PySem.W PySem.Calls PyProof.Rows
theorem PySem.Challenge.cw_tastegrove_k07_whole_patterns_put_togeth_holds : PySem.Challenge.rw_tastegrove_k07_whole_patterns_put_togeth.Holds := by
  w_on; o_law
  refine HandSHeadRun.head_any (r := K07.R) (q := view K07.R.prog [34]) (H := K07.hk) (ob := K07.ob) (M := 8000) (loose := K07.loose) (d := HandSHeadRun.topDef K07.R.prog 34) (kwd := []) K07.ob_eq
    (by kernel_rfl) (fun s => by kernel_rfl) K07.runT (by kernel_rfl) (by kernel_rfl) (by kernel_rfl) (by rfl) (by first | assumption | decide +kernel) (by decide +kernel) ⟨rfl, rfl, rfl, rfl, rfl, by decide +kernel⟩ ?hw ?hc
  case hw => w_witness2
  case hc =>
    refine L2.walk_ofE (l := PySem.Challenge.rw_tastegrove_k07_whole_patterns_put_togeth) (n := 63) (k := K07.lev) (x := "script") (CX := L2.CX0) rfl (by decide) (by kernel_rfl) ⟨rfl, by decide, by decide⟩ ?F (fun _ _ _ _ z => z)
    intro w mg fa h Y G hmg0
    obtain ⟨K, KX, c⟩ := Y
    have hmg : mg ("law" : PySem.Str) = some (.ref fa) := by
      have e : (HandSHeadRun.topDef K07.R.prog 34).name = ("law" : PySem.Str) := by kernel_rfl
      rw [← e]
      exact hmg0
    obtain ⟨fd0, D0⟩ := K07.k25 KX G c
    have F0 := D0.F
    have e2 := hmg.symm.trans (He.glo_ok KX G (c.fact 25 (f := .glo "law") rfl))
    cases e2
    refine ⟨K, fd0, Ev.spD K (Ev.calls K07.W K07.tab K07.lev) 25, KX, fun s v => L2.FunD.bindsA (ps := ["script"]) F0 (fun _ _ _ _ _ _ us hl => match us, hl with | [_], _ => rfl) s [v] rfl, fun H a ns hl hO hS => Ev.law_sp hS hO rfl (K07.run_ok ns hl), fun base _ _ => ?_⟩
    exact Ev.def_run (K07.tabOk KX G c) (Ev.tab_run K07.W (K07.tabOk KX G c) K07.lev0) rfl D0
