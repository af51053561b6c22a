import PyProof.Rows.All
import Wide.All
import OpenK.AllK
import Wide.FinOn
import KE.SortData
import HandS.ForMost
import HandS.TupAny
import HandS.TupMul
import HandS.IsInst
import HandS.Gcd
import HandS.Deep
import KE.KMathGC
import KE.KTupSum
import KE.DataMinMax
import HandS.Walk
import HandS.Zip
import KE.GoesEnum
import HandS.Defaults
import HandS.Words
import HandS.TupSets
import KE.KeyNested
import HandS.Head0
import HandS.Head1
import HandS.Head2
import HandS.Head3
import HandS.HeadEnd
import HandS.HeadHook1
import HandS.HeadHook2
import PySem.Challenge.RW_idealcore_k57_whole_values_of_ideals
set_option Elab.async false
set_option linter.all false
set_option maxRecDepth 100000
/-! Mp0: a small language of values, expressions and statements with a total evaluator, apart from the model. -/
namespace Mp
open PySem L2

/-- plain values; cell n: a shared mutable list or instance in the store; clo: a def of no name with what it has captured -/
inductive D where
  | non | bl (b : Bool) | int (i : Int) | str (x : Str)
  | tup (xs : List D) | lst (xs : List D) | dct (ks us : List D) | cell (n : Nat) | clo (f : Nat) (xs : List D)
instance : Inhabited D := ⟨.non⟩

mutual
/-- Python's ==, of data without dicts, cells, closures -/
def D.eqv : D → D → Bool
  | .non, .non => true
  | .bl a, .bl b => a == b
  | .bl a, .int j => (if a then 1 else 0) == j
  | .int i, .bl b => i == (if b then 1 else 0)
  | .int i, .int j => i == j
  | .str x, .str y => x == y
  | .lst xs, .lst ys => D.eqvL xs ys
  | .tup xs, .tup ys => D.eqvL xs ys
  | _, _ => false
def D.eqvL : List D → List D → Bool
  | [], [] => true
  | x :: xs, y :: ys => D.eqv x y && D.eqvL xs ys
  | _, _ => false
end
mutual
/-- data that == and the order may be asked of -/
def D.pure : D → Bool
  | .non => true | .bl _ => true | .int _ => true
  | .str _ => false
  | .tup xs => D.pureL xs | .lst xs => D.pureL xs
  | _ => false
def D.pureL : List D → Bool
  | [] => true
  | x :: xs => D.pure x && D.pureL xs
end
mutual
def D.depth : D → Nat
  | .tup xs => D.depthL xs + 1 | .lst xs => D.depthL xs + 1
  | _ => 0
def D.depthL : List D → Nat
  | [] => 0
  | x :: xs => max (D.depth x) (D.depthL xs)
end
/-- .. of no great depth -/
def D.ok (d : D) : Bool := d.pure && decide (d.depth ≤ 30)
mutual
/-- Python's <, of alike data -/
def D.lt : D → D → Bool
  | .bl a, .bl b => !a && b
  | .int i, .int j => decide (i < j)
  | .tup xs, .tup ys => D.ltL xs ys
  | .lst xs, .lst ys => D.ltL xs ys
  | _, _ => false
def D.ltL : List D → List D → Bool
  | [], [] => false
  | [], _ :: _ => true
  | _ :: _, [] => false
  | x :: xs, y :: ys => if D.eqv x y then D.ltL xs ys else D.lt x y
end
mutual
/-- the two can be compared by <, place by place -/
def D.alike : D → D → Bool
  | .non, .non => true
  | .bl _, .bl _ => true
  | .int _, .int _ => true
  | .tup xs, .tup ys => D.alikeL xs ys
  | .lst xs, .lst ys => D.alikeL xs ys
  | _, _ => false
def D.alikeL : List D → List D → Bool
  | x :: xs, y :: ys => D.alike x y && D.alikeL xs ys
  | _, _ => true
end
def D.le (a b : D) : Bool := !D.lt b a

mutual
/-- no shared list within -/
def D.flat : D → Bool
  | .tup xs => D.flatL xs | .lst xs => D.flatL xs
  | .cell _ => false | .clo _ _ => false
  | _ => true
def D.flatL : List D → Bool
  | [] => true
  | x :: xs => D.flat x && D.flatL xs
end
/-- insertion into an ordered list, behind equal ones ahead -/
def ins {A : Type} (le : A → A → Bool) (x : A) : List A → List A
  | [] => [x]
  | y :: ys => if le x y then x :: y :: ys else y :: ins le x ys
/-- the stable sort -/
def isort {A : Type} (le : A → A → Bool) : List A → List A
  | [] => []
  | x :: xs => ins le x (isort le xs)
/-- first ones of equal items -/
def dedup : List D → List D
  | [] => []
  | x :: xs => x :: (dedup xs).filter fun y => !D.eqv x y
def allAlike : List D → Bool
  | [] => true
  | x :: xs => D.alike x x && xs.all (fun y => D.alike x y && D.alike y x) && allAlike xs

/-- what Python's sort compares in one way: tuples with an item at least, or none a tuple or None; or but one -/
def sortOk (xs : List D) : Bool := decide (xs.length ≤ 1) && xs.all (fun d => match d with | .non => false | _ => true) || xs.all (fun d => match d with | .tup (_ :: _) => true | _ => false) || xs.all (fun d => match d with | .tup _ => false | .non => false | _ => true)
mutual
/-- a key: numbers, tuples of keys -/
def D.hk : D → Bool
  | .int _ => true
  | .tup xs => D.hkL xs
  | _ => false
def D.hkL : List D → Bool
  | [] => true
  | x :: xs => D.hk x && D.hkL xs
end
def isTup : D → Bool
  | .tup _ => true
  | _ => false
abbrev Mem := List D
inductive R (A : Type) where
  | ok (a : A) (m : Mem)
  | err (c : Nat) (a : D) (m : Mem)
  | no
def R.bind {A B : Type} (r : R A) (f : A → Mem → R B) : R B := match r with
  | .ok a m => f a m
  | .err c a m => .err c a m
  | .no => .no
def R.post {A : Type} (r : R A) (P : A → Mem → Prop) (E : Nat → D → Mem → Prop) : Prop := match r with
  | .ok a m => P a m
  | .err c a m => E c a m
  | .no => False
theorem post_bind {A B : Type} {r : R A} {f : A → Mem → R B} {P : B → Mem → Prop} {E : Nat → D → Mem → Prop} : (r.bind f).post P E ↔ r.post (fun a m => (f a m).post P E) E := by
  cases r <;> exact Iff.rfl
theorem post_mono {A : Type} {r : R A} {P P' : A → Mem → Prop} {E E' : Nat → D → Mem → Prop} (h : r.post P E) (hp : ∀ a m, P a m → P' a m) (he : ∀ c a m, E c a m → E' c a m) : r.post P' E' := by
  cases r with
  | ok a m => exact hp a m h
  | err c a m => exact he c a m h
  | no => exact h

inductive BOp where | add | sub | mul | fdiv | mod | pow
  deriving DecidableEq
inductive COp where | eq | ne | lt | le | gt | ge | isin | notin | isN | notN
  deriving DecidableEq
inductive Ty where | int | bool | str | tuple | list | dict
  deriving DecidableEq
inductive BI where | len | toint | abs | max2 | min2 | sum | maxl | minl | maxd | any | all | totup | tolst | sorted | sortset | comb | gcd
  deriving DecidableEq

inductive E where
  | lit (d : D)
  | var (i : Nat) | bor (i : Nat)
  | tup (es : List E) | lst (es : List E)
  | bin (o : BOp) (a b : E)
  | neg (a : E)
  | cmp (o : COp) (a b : E)
  | chn (o o' : COp) (a b c : E)
  | and (a b : E) | or (a b : E) | not (a : E)
  | ite (c a b : E)
  | call (f : Nat) (es : List E)
  | bi (b : BI) (es : List E)
  | isi (a : E) (ts : List Ty)
  | idx (a b : E)
  | sl (a : E) (pl : Bool) (lo : E) (ph : Bool) (hi : E)
  | rng (a : E) | rng2 (a b : E) | enm (a : E) | zip (a b : E)
  | comp (elt : E) (ts : List Nat) (one : Bool) (src : E) (cnd : E) (own : List Nat)
  | comp2 (elt : E) (ts : List Nat) (one : Bool) (src : E) (ts1 : List Nat) (one1 : Bool) (src1 cnd : E) (own : List Nat)
  | sortkey (src key : E)

inductive S where
  | set (i : Nat) (e : E)
  | own (i : Nat) (e : E)
  | frz (i : Nat)
  | cel (i : Nat) (e : E)
  | tups (is : List Nat) (e : E)
  | par (i j : Nat) (oi oj : Bool) (a b : E)
  | aug (i : Nat) (o : BOp) (e : E)
  | app (i : Nat) (e : E)
  | sti (i : Nat) (k e : E)
  | stc (i : Nat) (k e : E)
  | exp (e : E)
  | ret (e : E)
  | retN
  | retO (i : Nat)
  | ite (c : E) (a b : List S)
  | forS (ts : List Nat) (one : Bool) (src : E) (body : List S)
  | whl (c : E) (body : List S)
  | brk | cnt | pass | stop

abbrev Slot := Option (Bool × D)
abbrev Env := List Slot
abbrev LINE : Nat := 16777216

def getv (r : Env) (i : Nat) : Option D := match r[i]? with
  | some (some (false, d)) => some d
  | _ => none
def getb (r : Env) (i : Nat) : Option D := match r[i]? with
  | some (some (_, d)) => some d
  | _ => none
def seqOf : D → Option (List D)
  | .lst xs => some xs
  | .tup xs => some xs
  | _ => none
def small (i : Int) : Bool := decide (-(2 ^ 64) < i) && decide (i < 2 ^ 64)
def binV (o : BOp) (a b : D) : Option D := match o, a, b with
  | .add, .int i, .int j => some (.int (i + j))
  | .add, .tup xs, .tup ys => if xs.length + ys.length ≤ LINE then some (.tup (xs ++ ys)) else none
  | .add, .lst xs, .lst ys => if xs.length + ys.length ≤ LINE then some (.lst (xs ++ ys)) else none
  | .sub, .int i, .int j => some (.int (i - j))
  | .mul, .int i, .int j => if small i || small j then some (.int (i * j)) else none
  | .mul, .tup xs, .int k => if xs ≠ [] ∧ 0 ≤ k ∧ k ≤ 1000 ∧ xs.length ≤ 1000 then some (.tup (List.replicate k.toNat xs).flatten) else none
  | .mul, .lst xs, .int k => if 0 ≤ k ∧ k ≤ 1000 ∧ xs.length ≤ 1000 then some (.lst (List.replicate k.toNat xs).flatten) else none
  | .fdiv, .int i, .int j => if 0 < j ∧ j < 1073741824 then some (.int (i / j)) else none
  | .mod, .int i, .int j => if 0 < j then some (.int (i % j)) else none
  | .pow, .int i, .int j => if 0 ≤ j ∧ j ≤ 1000000 ∧ i.natAbs < 2 ^ 64 then some (.int (i ^ j.toNat)) else none
  | _, _, _ => none
def isNon : D → Bool
  | .non => true
  | _ => false
def cmpV (o : COp) (a b : D) : Option Bool := match o with
  | .eq => if a.ok && b.ok then some (D.eqv a b) else none
  | .ne => if a.ok && b.ok then some (!D.eqv a b) else none
  | .isin => match seqOf b with
    | some ys => if a.ok && b.ok then some (ys.any fun y => D.eqv y a) else none
    | none => none
  | .notin => match seqOf b with
    | some ys => if a.ok && b.ok then some (!ys.any fun y => D.eqv y a) else none
    | none => none
  | .isN => match b with
    | .non => some (isNon a)
    | _ => none
  | .notN => match b with
    | .non => some (!isNon a)
    | _ => none
  | .lt => match a, b with
    | .int i, .int j => some (decide (i < j))
    | _, _ => none
  | .le => match a, b with
    | .int i, .int j => some (decide (i ≤ j))
    | _, _ => none
  | .gt => match a, b with
    | .int i, .int j => some (decide (j < i))
    | _, _ => none
  | .ge => match a, b with
    | .int i, .int j => some (decide (j ≤ i))
    | _, _ => none
def isTy : D → Ty → Bool
  | .bl _, .bool => true | .bl _, .int => true
  | .int _, .int => true
  | .str _, .str => true
  | .tup _, .tuple => true
  | .lst _, .list => true
  | .dct _ _, .dict => true
  | _, _ => false
def tyKnown : D → Bool
  | .cell _ => false | .clo _ _ => false
  | _ => true
def intsOf : List D → Option (List Int)
  | [] => some []
  | .int i :: r => (intsOf r).map (i :: ·)
  | _ => none
def boolsOf : List D → Option (List Bool)
  | [] => some []
  | .bl i :: r => (boolsOf r).map (i :: ·)
  | _ => none
def biV (b : BI) (as : List D) : Option D := match b, as with
  | .len, [a] => (seqOf a).map fun xs => .int xs.length
  | .toint, [.int i] => some (.int i)
  | .toint, [.bl k] => some (.int (if k then 1 else 0))
  | .abs, [.int i] => some (.int (if i < 0 then -i else i))
  | .max2, [.int i, .int j] => some (.int (if j > i then j else i))
  | .min2, [.int i, .int j] => some (.int (if j < i then j else i))
  | .sum, [a] => (seqOf a).bind fun xs => (intsOf xs).map fun ns => .int ns.sum
  | .any, [.lst xs] => (boolsOf xs).map fun bs => .bl (bs.any id)
  | .all, [.lst xs] => (boolsOf xs).map fun bs => .bl (bs.all id)
  | .totup, [.lst xs] => some (.tup xs)
  | .totup, [.tup xs] => some (.tup xs)
  | .tolst, [a] => (seqOf a).map D.lst
  | .sorted, [.lst xs] => if allAlike xs && (D.lst xs).ok && sortOk xs then some (.lst (isort D.le xs)) else none
  | .sortset, [.lst xs] => if allAlike xs && D.hkL xs && xs.all isTup && decide (D.depthL xs ≤ 8) && decide (xs.length < 64) && sortOk (dedup xs) then some (.lst (isort D.le (dedup xs))) else none
  | .maxl, [.lst xs] => match intsOf xs with
    | some (n :: ns) => some (.int (ns.foldl max n))
    | _ => none
  | .minl, [.lst xs] => match intsOf xs with
    | some (n :: ns) => some (.int (ns.foldl min n))
    | _ => none
  | .maxd, [.lst xs, d] => match intsOf xs with
    | some (n :: ns) => some (.int (ns.foldl max n))
    | some [] => some d
    | none => none
  | .comb, [.int n, .int k] => if 0 ≤ n ∧ 0 ≤ k ∧ n < 2 ^ 64 ∧ k ≤ 9000 then some (.int (PySem.W.mcComb n k)) else none
  | .gcd, [.int a, .int b] => some (.int ((Nat.gcd a.natAbs b.natAbs : Nat) : Int))
  | _, _ => none
def idxV (mem : Mem) (a b : D) : Option D := match a, b with
  | .lst xs, .int i => atI xs i
  | .tup xs, .int i => atI xs i
  | .cell n, .int i => match mem[n]? with
    | some (.lst xs) => atI xs i
    | _ => none
  | _, _ => none
def cut (xs : List D) (lo hi : Option Int) : List D := (xs.drop (HT.sIx xs.length 0 lo)).take (HT.sIx xs.length xs.length hi - HT.sIx xs.length 0 lo)
def slV (a : D) (lo hi : Option Int) : Option D := match a with
  | .tup xs => some (.tup (cut xs lo hi))
  | .lst xs => some (.lst (cut xs lo hi))
  | _ => none
/-- a slice's part: left out, or an int -/
def partOf (p : Bool) (r : R D) (m : Mem) : R (Option Int) := if p then r.bind fun d m => match d with
    | .int i => .ok (some i) m
    | _ => .no
  else .ok none m
def lift {A : Type} (o : Option A) (m : Mem) : R A := match o with
  | some a => .ok a m
  | none => .no
def boolOf : D → Option Bool
  | .bl b => some b
  | _ => none
def enumFrom : Nat → List D → List D
  | _, [] => []
  | n, x :: xs => .tup [.int n, x] :: enumFrom (n + 1) xs
def zipD : List D → List D → List D
  | x :: xs, y :: ys => .tup [x, y] :: zipD xs ys
  | _, _ => []
def rangeFrom (lo : Int) : Nat → List D
  | 0 => []
  | n + 1 => .int lo :: rangeFrom (lo + 1) n
/-- store an item at its targets -/
def bindT (ts : List Nat) (one : Bool) (x : D) (r : Env) : Option Env := match one, ts, x with
  | true, [i], x => some (r.set i (some (false, x)))
  | false, ts, .tup xs => if ts.length = xs.length then some ((ts.zip xs).foldl (fun r p => r.set p.1 (some (false, p.2))) r) else none
  | _, _, _ => none
def wipeE (r : Env) : List Nat → Env
  | [] => r
  | v :: vs => (wipeE r vs).set v none
/-- map over the items, some left out -/
def mapL (f : D → Mem → R (Option D)) : List D → Mem → R (List D)
  | [], m => .ok [] m
  | x :: xs, m => (f x m).bind fun y m => (mapL f xs m).bind fun ys m => .ok (match y with | some y => y :: ys | none => ys) m
/-- an error may not leave a comprehension -/
def R.calm {A : Type} : R A → R A
  | .ok a m => .ok a m
  | _ => .no

section
variable (call : Nat → List D → Mem → R D)
mutual
def evE : E → Env → Mem → R D
  | .lit d, _, m => .ok d m
  | .var i, r, m => lift (getv r i) m
  | .bor i, r, m => lift (getb r i) m
  | .tup es, r, m => (evL es r m).bind fun ds m => .ok (.tup ds) m
  | .lst es, r, m => (evL es r m).bind fun ds m => .ok (.lst ds) m
  | .bin o a b, r, m => (evE a r m).bind fun x m => (evE b r m).bind fun y m => lift (binV o x y) m
  | .neg a, r, m => (evE a r m).bind fun x m => match x with
    | .int i => .ok (.int (-i)) m
    | _ => .no
  | .cmp o a b, r, m => (evE a r m).bind fun x m => (evE b r m).bind fun y m => lift ((cmpV o x y).map D.bl) m
  | .chn o o' a b c, r, m => (evE a r m).bind fun x m => (evE b r m).bind fun y m => match cmpV o x y with
    | some true => (evE c r m).bind fun z m => lift ((cmpV o' y z).map D.bl) m
    | some false => .ok (.bl false) m
    | none => .no
  | .and a b, r, m => (evE a r m).bind fun x m => match x with
    | .bl true => evE b r m
    | .bl false => .ok (.bl false) m
    | _ => .no
  | .or a b, r, m => (evE a r m).bind fun x m => match x with
    | .bl true => .ok (.bl true) m
    | .bl false => evE b r m
    | _ => .no
  | .not a, r, m => (evE a r m).bind fun x m => match x with
    | .bl b => .ok (.bl (!b)) m
    | _ => .no
  | .ite c a b, r, m => (evE c r m).bind fun x m => match x with
    | .bl true => evE a r m
    | .bl false => evE b r m
    | _ => .no
  | .call f es, r, m => (evL es r m).bind fun ds m => if D.flatL ds then (match call f ds [] with
      | .ok d _ => .ok d m
      | .err k a _ => .err k a m
      | .no => .no) else call f ds m
  | .bi b es, r, m => (evL es r m).bind fun ds m => lift (biV b ds) m
  | .isi a ts, r, m => (evE a r m).bind fun x m => if tyKnown x then .ok (.bl (ts.any fun t => isTy x t)) m else .no
  | .idx a b, r, m => (evE a r m).bind fun x m => (evE b r m).bind fun y m => lift (idxV m x y) m
  | .sl a pl lo ph hi, r, m => (evE a r m).bind fun x m => (partOf pl (evE lo r m) m).bind fun l m => (partOf ph (evE hi r m) m).bind fun h m => lift (slV x l h) m
  | .comp elt ts one src cnd own, r, m => ((evE src r m).bind fun z m => lift (seqOf z) m).bind fun xs m =>
      (mapL (fun x m => match bindT ts one x (wipeE r own) with
        | some r' => ((evE cnd r' m).bind fun b m => match b with
          | .bl true => (evE elt r' m).bind fun y m => .ok (some y) m
          | .bl false => .ok none m
          | _ => .no).calm
        | none => .no) xs m).bind fun ys m => .ok (.lst ys) m
  | .comp2 elt ts one src ts1 one1 src1 cnd own, r, m => ((evE src r m).bind fun z m => lift (seqOf z) m).bind fun xs m =>
      (if xs.length ≤ 4096 then mapL (fun x m => match bindT ts one x (wipeE r own) with
        | some r1 => (((evE src1 r1 m).bind fun z m => lift (seqOf z) m).bind fun zs m => if zs.length ≤ 4096 then
          (mapL (fun x m => match bindT ts1 one1 x (wipeE r1 ts1) with
            | some r' => ((evE cnd r' m).bind fun b m => match b with
              | .bl true => (evE elt r' m).bind fun y m => .ok (some y) m
              | .bl false => .ok none m
              | _ => .no).calm
            | none => .no) zs m).bind fun ys m => .ok (some (.lst ys)) m
          else .no).calm
        | none => .no) xs m else .no).bind fun yss m => .ok (.lst (yss.flatMap fun d => (seqOf d).getD [])) m
  | .sortkey src key, r, m => (evE src r m).bind fun x m => match seqOf x with
    | some xs => (mapL (fun x m => ((evE key [some (false, x)] m).bind fun k m => .ok (some (.tup [k, x])) m).calm) xs m).bind fun ps m =>
        let ks := ps.map fun p => match p with | .tup [k, _] => k | _ => .non
        if allAlike ks && (D.lst ks).ok then .ok (.lst ((isort (fun p q => match p, q with | .tup [k, _], .tup [l, _] => D.le k l | _, _ => true) ps).map fun p => match p with | .tup [_, x] => x | _ => .non)) m else .no
    | none => .no
  | .rng a, r, m => (evE a r m).bind fun x m => match x with
    | .int j => if decide (-(LINE : Int) ≤ j) && decide (j ≤ LINE) then .ok (.lst (rangeFrom 0 j.toNat)) m else .no
    | _ => .no
  | .rng2 a b, r, m => (evE a r m).bind fun x m => (evE b r m).bind fun y m => match x, y with
    | .int i, .int j => if decide (j - i ≤ LINE) && decide (-(2 ^ 60) < i) && decide (i < 2 ^ 60) && decide (-(2 ^ 60) < j) && decide (j < 2 ^ 60) then .ok (.lst (rangeFrom i (j - i).toNat)) m else .no
    | _, _ => .no
  | .enm a, r, m => (evE a r m).bind fun x m => lift ((seqOf x).map fun xs => .lst (enumFrom 0 xs)) m
  | .zip a b, r, m => (evE a r m).bind fun x m => (evE b r m).bind fun y m => match seqOf x, seqOf y with
    | some xs, some ys => .ok (.lst (zipD xs ys)) m
    | _, _ => .no
def evL : List E → Env → Mem → R (List D)
  | [], _, m => .ok [] m
  | e :: es, r, m => (evE e r m).bind fun d m => (evL es r m).bind fun ds m => .ok (d :: ds) m
end
/-- what a loop walks -/
def evI (e : E) (r : Env) (m : Mem) : R (List D) := (evE call e r m).bind fun z m => lift (seqOf z) m

inductive Fl where | next | brk | cnt | ret (d : D)

/-- turn by turn -/
def forL (f : D → Env → Mem → R (Fl × Env)) : List D → Env → Mem → R (Fl × Env)
  | [], r, m => .ok (.next, r) m
  | x :: xs, r, m => (f x r m).bind fun q m => match q.1 with
    | .next => forL f xs q.2 m
    | .cnt => forL f xs q.2 m
    | .brk => .ok (.next, q.2) m
    | .ret d => .ok (.ret d, q.2) m
/-- a while, at most so many turns -/
def whlL (c : Env → Mem → R D) (f : Env → Mem → R (Fl × Env)) : Nat → Env → Mem → R (Fl × Env)
  | 0, _, _ => .no
  | n + 1, r, m => (c r m).bind fun b m => match b with
    | .bl true => (f r m).bind fun q m => match q.1 with
      | .next => whlL c f n q.2 m
      | .cnt => whlL c f n q.2 m
      | .brk => .ok (.next, q.2) m
      | .ret d => .ok (.ret d, q.2) m
    | .bl false => .ok (.next, r) m
    | _ => .no
abbrev TURNS : Nat := 100000000

def isCont : D → Bool
  | .lst _ => true | .dct _ _ => true
  | _ => false
mutual
def evS : S → Env → Mem → R (Fl × Env)
  | .set i e, r, m => (evE call e r m).bind fun d m => .ok (.next, r.set i (some (false, d))) m
  | .own i e, r, m => (evE call e r m).bind fun d m => if isCont d then .ok (.next, r.set i (some (true, d))) m else .no
  | .frz i, r, m => match getb r i with
    | some d => .ok (.next, r.set i (some (false, d))) m
    | none => .no
  | .cel i e, r, m => (evE call e r m).bind fun d m => match d with
    | .lst xs => if D.flatL xs then .ok (.next, r.set i (some (false, .cell m.length))) (m ++ [.lst xs]) else .no
    | _ => .no
  | .tups is e, r, m => (evE call e r m).bind fun d m => match bindT is false d r with
    | some r' => .ok (.next, r') m
    | none => .no
  | .par i j oi oj a b, r, m => (evE call a r m).bind fun x m => (evE call b r m).bind fun y m => if (!oi || isCont x) && (!oj || isCont y) then .ok (.next, (r.set i (some (oi, x))).set j (some (oj, y))) m else .no
  | .aug i o e, r, m => match getv r i with
    | some x => (evE call e r m).bind fun y m => match o, x, y with
      | .add, .int a, .int b => .ok (.next, r.set i (some (false, .int (a + b)))) m
      | _, _, _ => .no
    | none => .no
  | .app i e, r, m => match r[i]? with
    | some (some (true, .lst xs)) => (evE call e r m).bind fun d m => if xs.length < LINE then .ok (.next, r.set i (some (true, .lst (xs ++ [d])))) m else .no
    | _ => .no
  | .sti i k e, r, m => match r[i]? with
    | some (some (true, .lst xs)) => (evE call e r m).bind fun d m => (evE call k r m).bind fun x m => match x with
      | .int n => match ixN xs.length n with
        | some j => .ok (.next, r.set i (some (true, .lst (xs.set j d)))) m
        | none => .no
      | _ => .no
    | _ => .no
  | .stc i k e, r, m => match getv r i with
    | some (.cell c) => (evE call e r m).bind fun d m => (evE call k r m).bind fun x m => match x with
      | .int n => match m[c]? with
        | some (.lst xs) => match ixN xs.length n with
          | some j => if D.flat d then .ok (.next, r) (m.set c (.lst (xs.set j d))) else .no
          | none => .no
        | _ => .no
      | _ => .no
    | _ => .no
  | .exp e, r, m => (evE call e r m).bind fun _ m => .ok (.next, r) m
  | .ret e, r, m => (evE call e r m).bind fun d m => .ok (.ret d, r) m
  | .retN, r, m => .ok (.ret .non, r) m
  | .retO i, r, m => match getb r i with
    | some d => .ok (.ret d, r.set i (some (false, d))) m
    | none => .no
  | .ite c a b, r, m => (evE call c r m).bind fun x m => match x with
    | .bl true => evB a r m
    | .bl false => evB b r m
    | _ => .no
  | .forS ts one src body, r, m => (evI call src r m).bind fun xs m => forL (fun x r m => match bindT ts one x r with
    | some r' => evB body r' m
    | none => .no) xs r m
  | .whl c body, r, m => whlL (fun r m => evE call c r m) (fun r m => evB body r m) TURNS r m
  | .brk, r, m => .ok (.brk, r) m
  | .cnt, r, m => .ok (.cnt, r) m
  | .pass, r, m => .ok (.next, r) m
  | .stop, _, _ => .no
def evB : List S → Env → Mem → R (Fl × Env)
  | [], r, m => .ok (.next, r) m
  | s :: ss, r, m => (evS s r m).bind fun q m => match q.1 with
    | .next => evB ss q.2 m
    | _ => .ok q m
end
end

structure Fn where
  pars : Nat
  slots : Nat
  body : List S
def startE (n : Nat) (ds : List D) : Env := ds.map (fun d => some (false, d)) ++ List.replicate (n - ds.length) none
def scalar : D → Bool
  | .non => true | .bl _ => true | .int _ => true | .str _ => true
  | _ => false
/-- a call: at most n deep; cells that the callee has made are gone behind it -/
def run (fs : List Fn) : Nat → Nat → List D → Mem → R D
  | 0, _, _, _ => .no
  | n + 1, f, ds, m => match fs[f]? with
    | none => .no
    | some fn => if ds.length = fn.pars then (match evB (run fs n) fn.body (startE fn.slots ds) m with
        | .ok q m' => (match q.1 with
          | .ret d => if m'.length = m.length || scalar d then .ok d (m'.take m.length) else .no
          | .next => .ok .non (m'.take m.length)
          | _ => .no)
        | .err k a m' => .err k a (m'.take m.length)
        | .no => .no)
      else .no
end Mp

set_option autoImplicit false
/-! Mp1: how the small language's values lie in the heap; readings by the evaluator. -/
namespace Mp
open PySem PySem.Spec L2

/-- a list that nobody changes: tracked and outside the zone Z, or known -/
def LsF (K : PySem.W.Frag) (Z : Addr → Prop) (H : Hp) (a : Addr) (vs : List V) : Prop :=
  (H a = some (.lst vs) ∧ ¬ Z a) ∨ (∃ o, H a = some (.frz o (.lst vs))) ∨ SqL K (fun _ => none) a vs
theorem LsF.sq {K : PySem.W.Frag} {Z : Addr → Prop} {H : Hp} {a : Addr} {vs : List V} (h : LsF K Z H a vs) : SqL K H a vs := by
  rcases h with h | h | h | h
  · exact .inl (.inl h.1)
  · exact .inl (.inr h)
  · rcases h with h | ⟨_, h⟩ <;> cases h
  · exact .inr h
section
variable (K : PySem.W.Frag) (cs : List Addr) (Z : Addr → Prop) (H : Hp)
mutual
def Rep : D → V → Prop
  | .non, v => v = .non
  | .bl b, v => v = .bl b
  | .int i, v => v = .int i
  | .str x, v => v = .str x
  | .tup ds, v => ∃ a vs, v = .ref a ∧ SqT K H a vs ∧ vs.length ≤ sizeLine ∧ RepL ds vs
  | .lst ds, v => ∃ a vs, v = .ref a ∧ LsF K Z H a vs ∧ vs.length ≤ sizeLine ∧ RepL ds vs
  | .dct _ _, _ => False
  | .cell n, v => ∃ a, cs[n]? = some a ∧ v = .ref a
  | .clo _ _, _ => False
def RepL : List D → List V → Prop
  | [], vs => vs = []
  | d :: ds, vs => ∃ v r, vs = v :: r ∧ Rep d v ∧ RepL ds r
end
/-- a value whose own list may be one that changes later -/
def RepB (d : D) (v : V) : Prop := match d with
  | .lst ds => ∃ a vs, v = .ref a ∧ LsF K (fun x => x ∈ cs) H a vs ∧ vs.length ≤ sizeLine ∧ RepL K cs Z H ds vs
  | d => Rep K cs Z H d v
/-- a list of one's own -/
def OwnAt (a : Addr) (d : D) : Prop := match d with
  | .lst ds => ∃ vs, H a = some (.lst vs) ∧ vs.length ≤ sizeLine ∧ RepL K cs Z H ds vs
  | _ => False
end
section
variable {K : PySem.W.Frag} {cs cs' : List Addr} {Z Z' : Addr → Prop} {H H' : Hp}
theorem LsF.weak {a : Addr} {vs : List V} (h : LsF K Z H a vs) (k : ∀ x, Z' x → Z x) : LsF K Z' H a vs := by
  rcases h with ⟨h, n⟩ | h | h
  · exact .inl ⟨h, fun z => n (k a z)⟩
  · exact .inr (.inl h)
  · exact .inr (.inr h)
theorem Rep.b {d : D} {v : V} (h : Rep K cs Z H d v) (hc : ∀ a ∈ cs, Z a) : RepB K cs Z H d v := by
  cases d with
  | lst ds =>
    obtain ⟨a, vs, e, l, z, r⟩ := h
    exact ⟨a, vs, e, l.weak hc, z, r⟩
  | _ => exact h
/-- what is read stays as it is -/
structure Stp (cs cs' : List Addr) (Z Z' : Addr → Prop) (H H' : Hp) : Prop where
  keep : ∀ a o, H a = some o → ¬ Z a → H' a = some o
  tup : ∀ a xs, H a = some (.tup xs) → H' a = some (.tup xs)
  frz : ∀ a o u, H a = some (.frz o u) → H' a = some (.frz o u)
  zone : ∀ a, Z' a → Z a ∨ H a = none
  cell : ∀ (n : Nat) (a : Addr), cs[n]? = some a → cs'[n]? = some a
theorem Stp.sqT (s : Stp cs cs' Z Z' H H') {a : Addr} {xs : List V} (h : SqT K H a xs) : SqT K H' a xs := by
  rcases h with (h | ⟨o, h⟩) | h
  · exact .inl (.inl (s.tup _ _ h))
  · exact .inl (.inr ⟨o, s.frz _ _ _ h⟩)
  · exact .inr h
theorem Stp.lsF (s : Stp cs cs' Z Z' H H') {a : Addr} {xs : List V} (h : LsF K Z H a xs) : LsF K Z' H' a xs := by
  rcases h with ⟨h, n⟩ | ⟨o, h⟩ | h
  · refine .inl ⟨s.keep _ _ h n, fun z => ?_⟩
    rcases s.zone a z with z | z
    · exact n z
    · rw [h] at z; cases z
  · exact .inr (.inl ⟨o, s.frz _ _ _ h⟩)
  · exact .inr (.inr h)
mutual
theorem Rep.step (s : Stp cs cs' Z Z' H H') : ∀ (d : D) (v : V), Rep K cs Z H d v → Rep K cs' Z' H' d v
  | .non, _, h => h
  | .bl _, _, h => h
  | .int _, _, h => h
  | .str _, _, h => h
  | .tup ds, v, h => by
    obtain ⟨a, vs, e, t, z, r⟩ := h
    exact ⟨a, vs, e, s.sqT t, z, RepL.step s ds vs r⟩
  | .lst ds, v, h => by
    obtain ⟨a, vs, e, t, z, r⟩ := h
    exact ⟨a, vs, e, s.lsF t, z, RepL.step s ds vs r⟩
  | .dct _ _, _, h => h
  | .cell n, v, h => by
    obtain ⟨a, e, e2⟩ := h
    exact ⟨a, s.cell n a e, e2⟩
  | .clo _ _, _, h => h
theorem RepL.step (s : Stp cs cs' Z Z' H H') : ∀ (ds : List D) (vs : List V), RepL K cs Z H ds vs → RepL K cs' Z' H' ds vs
  | [], _, h => h
  | d :: ds, vs, h => by
    obtain ⟨v, r, e, h1, h2⟩ := h
    exact ⟨v, r, e, Rep.step s d v h1, RepL.step s ds r h2⟩
end
theorem RepL.length : ∀ {ds : List D} {vs : List V}, RepL K cs Z H ds vs → vs.length = ds.length
  | [], vs, h => by rw [show vs = [] from h]; rfl
  | d :: ds, vs, h => by
    obtain ⟨v, r, e, _, h2⟩ := h
    subst e
    rw [List.length_cons, List.length_cons, RepL.length h2]
theorem RepL.get : ∀ {ds : List D} {vs : List V} {i : Nat} {d : D}, RepL K cs Z H ds vs → ds[i]? = some d → ∃ v, vs[i]? = some v ∧ Rep K cs Z H d v
  | [], _, _, _, _, e => by simp at e
  | d :: ds, vs, i, x, h, e => by
    obtain ⟨v, r, e1, h1, h2⟩ := h
    subst e1
    cases i with
    | zero =>
      simp only [List.getElem?_cons_zero, Option.some.injEq] at e
      subst e
      exact ⟨v, by simp, h1⟩
    | succ i =>
      simp only [List.getElem?_cons_succ] at e
      obtain ⟨w, e2, h3⟩ := RepL.get h2 e
      exact ⟨w, by simpa using e2, h3⟩
theorem RepL.append : ∀ {ds es : List D} {vs ws : List V}, RepL K cs Z H ds vs → RepL K cs Z H es ws → RepL K cs Z H (ds ++ es) (vs ++ ws)
  | [], _, vs, _, h, k => by rw [show vs = [] from h]; exact k
  | d :: ds, es, vs, ws, h, k => by
    obtain ⟨v, r, e, h1, h2⟩ := h
    subst e
    exact ⟨v, r ++ ws, rfl, h1, RepL.append h2 k⟩
theorem RepL.take : ∀ {ds : List D} {vs : List V} (n : Nat), RepL K cs Z H ds vs → RepL K cs Z H (ds.take n) (vs.take n)
  | _, _, 0, _ => by simp [RepL]
  | [], vs, n + 1, h => by rw [show vs = [] from h]; simp [RepL]
  | d :: ds, vs, n + 1, h => by
    obtain ⟨v, r, e, h1, h2⟩ := h
    subst e
    exact ⟨v, r.take n, rfl, h1, RepL.take n h2⟩
theorem RepL.drop : ∀ {ds : List D} {vs : List V} (n : Nat), RepL K cs Z H ds vs → RepL K cs Z H (ds.drop n) (vs.drop n)
  | _, _, 0, h => by simpa using h
  | [], vs, n + 1, h => by rw [show vs = [] from h]; simp [RepL]
  | d :: ds, vs, n + 1, h => by
    obtain ⟨v, r, e, h1, h2⟩ := h
    subst e
    exact RepL.drop n h2
theorem RepL.set : ∀ {ds : List D} {vs : List V} {d : D} {v : V} (i : Nat), RepL K cs Z H ds vs → Rep K cs Z H d v → RepL K cs Z H (ds.set i d) (vs.set i v)
  | [], vs, _, _, i, h, _ => by rw [show vs = [] from h]; simp [RepL]
  | d :: ds, vs, x, y, 0, h, k => by
    obtain ⟨v, r, e, h1, h2⟩ := h
    subst e
    exact ⟨y, r, rfl, k, h2⟩
  | d :: ds, vs, x, y, i + 1, h, k => by
    obtain ⟨v, r, e, h1, h2⟩ := h
    subst e
    exact ⟨v, r.set i y, rfl, h1, RepL.set i h2 k⟩
theorem RepL.rep {ds : List D} {vs : List V} (h : RepL K cs Z H ds vs) : ∀ k : Nat, RepL K cs Z H (List.replicate k ds).flatten (List.replicate k vs).flatten
  | 0 => by simp [RepL]
  | k + 1 => by
    rw [List.replicate_succ, List.replicate_succ, List.flatten_cons, List.flatten_cons]
    exact h.append (RepL.rep h k)
theorem repL_one {d : D} {v : V} (h : Rep K cs Z H d v) : RepL K cs Z H [d] [v] := ⟨v, [], rfl, h, rfl⟩
theorem repL_cons {d : D} {v : V} {ds : List D} {vs : List V} (h : Rep K cs Z H d v) (k : RepL K cs Z H ds vs) : RepL K cs Z H (d :: ds) (v :: vs) := ⟨v, vs, rfl, h, k⟩
theorem RepL.mem : ∀ {ds : List D} {vs : List V} {v : V}, RepL K cs Z H ds vs → v ∈ vs → ∃ d ∈ ds, Rep K cs Z H d v
  | [], vs, v, h, m => by rw [show vs = [] from h] at m; cases m
  | d :: ds, vs, v, h, m => by
    obtain ⟨w, r, e, h1, h2⟩ := h
    subst e
    rcases List.mem_cons.mp m with rfl | m
    · exact ⟨d, List.mem_cons_self, h1⟩
    · obtain ⟨x, hx, h3⟩ := RepL.mem h2 m
      exact ⟨x, List.mem_cons_of_mem _ hx, h3⟩
end

/-! ### cells, the frame -/
/-- the shared lists -/
structure MemOk (K : PySem.W.Frag) (cs : List Addr) (Z : Addr → Prop) (H : Hp) (m : Mem) : Prop where
  len : cs.length = m.length
  nd : cs.Nodup
  cz : ∀ a ∈ cs, Z a
  nc : ∀ d ∈ m, D.flat d = true
  at_ : ∀ (n : Nat) (a : Addr) (d : D), cs[n]? = some a → m[n]? = some d → ∃ ds vs, d = .lst ds ∧ H a = some (.lst vs) ∧ RepL K cs Z H ds vs
/-- all that is tracked but the shared lists stays -/
def Adv (cs : List Addr) (H H' : Hp) : Prop := ∀ a o, H a = some o → a ∉ cs → H' a = some o
theorem Adv.refl (cs : List Addr) (H : Hp) : Adv cs H H := fun _ _ h _ => h
theorem Adv.trans {cs : List Addr} {H H1 H2 : Hp} (a : Adv cs H H1) (b : Adv cs H1 H2) : Adv cs H H2 := fun x o h n => b x o (a x o h n) n
theorem Adv.new {cs : List Addr} {H : Hp} {p : Addr} {o : HO} (h : H p = none) : Adv cs H (upd H p o) := fun a u e _ => by rw [upd_ne (ne_of_none e h)]; exact e
theorem Adv.same {cs : List Addr} {H H' : Hp} (h : ∀ a o, H a = some o → H' a = some o) : Adv cs H H' := fun a o e _ => h a o e
section
variable {K : PySem.W.Frag} {cs : List Addr} {Z : Addr → Prop} {H H' : Hp} {m m' : Mem}
theorem MemOk.lst (M : MemOk K cs Z H m) {a : Addr} (h : a ∈ cs) : ∃ vs, H a = some (.lst vs) := by
  obtain ⟨n, hn, e⟩ := List.getElem_of_mem h
  have e1 : cs[n]? = some a := by rw [List.getElem?_eq_getElem hn, e]
  have hm : n < m.length := by rw [← M.len]; exact hn
  obtain ⟨ds, vs, _, h1, _⟩ := M.at_ n a _ e1 (List.getElem?_eq_getElem hm)
  exact ⟨vs, h1⟩
theorem MemOk.stp (M : MemOk K cs Z H m) (a : Adv cs H H') : Stp cs cs Z Z H H' where
  keep := fun x o h n => a x o h fun z => n (M.cz x z)
  tup := fun x xs h => a x _ h fun z => by
    obtain ⟨vs, e⟩ := M.lst z
    rw [e] at h; cases h
  frz := fun x o u h => a x _ h fun z => by
    obtain ⟨vs, e⟩ := M.lst z
    rw [e] at h; cases h
  zone := fun _ z => .inl z
  cell := fun _ _ e => e
/-- a value that may be one's own list stays, too -/
theorem MemOk.stepB (M : MemOk K cs Z H m) (a : Adv cs H H') {d : D} {v : V} (h : RepB K cs Z H d v) : RepB K cs Z H' d v := by
  have st := M.stp a
  cases d with
  | lst ds =>
    obtain ⟨b, vs, e, l, z, r⟩ := h
    refine ⟨b, vs, e, ?_, z, RepL.step st ds vs r⟩
    rcases l with ⟨l, n⟩ | ⟨o, l⟩ | l
    · exact .inl ⟨a _ _ l n, n⟩
    · exact .inr (.inl ⟨o, st.frz _ _ _ l⟩)
    · exact .inr (.inr l)
  | _ => exact Rep.step st _ v h
/-- nothing of the cells has changed -/
theorem MemOk.keep (M : MemOk K cs Z H m) (h : ∀ a o, H a = some o → H' a = some o) : MemOk K cs Z H' m :=
  ⟨M.len, M.nd, M.cz, M.nc, fun n a d e1 e2 => by
    obtain ⟨ds, vs, e, h1, h2⟩ := M.at_ n a d e1 e2
    exact ⟨ds, vs, e, h _ _ h1, RepL.step (M.stp (Adv.same h)) ds vs h2⟩⟩
theorem MemOk.new {p : Addr} {o : HO} (M : MemOk K cs Z H m) (h : H p = none) : MemOk K cs Z (upd H p o) m :=
  M.keep fun a u e => by rw [upd_ne (ne_of_none e h)]; exact e
end

/-- what stays through a frame: cells, zone, the heap at the entry and its cells and zone -/
structure Gh where
  cs : List Addr
  Z : Addr → Prop
  H0 : Hp
  cs0 : List Addr
  Z0 : Addr → Prop
/-- the frame's slots hold what the environment says -/
structure Sim (K : PySem.W.Frag) (g : Gh) (H : Hp) (σ : St) (r : Env) (m : Mem) : Prop where
  mem : MemOk K g.cs g.Z H m
  zin : ∀ a, g.Z a → H a ≠ none
  len : σ.length = r.length
  val : ∀ (i : Nat) (d : D), r[i]? = some (some (false, d)) → ∃ v, σ[i]? = some (some v) ∧ Rep K g.cs g.Z H d v
  own : ∀ (i : Nat) (d : D), r[i]? = some (some (true, d)) → ∃ a, σ[i]? = some (some (.ref a)) ∧ g.Z a ∧ a ∉ g.cs ∧ g.H0 a = none ∧ OwnAt K g.cs g.Z H a d
  sep : ∀ (i j : Nat) (d e : D) (a : Addr), i ≠ j → r[i]? = some (some (true, d)) → r[j]? = some (some (true, e)) → σ[i]? = some (some (.ref a)) → σ[j]? ≠ some (some (.ref a))
  keep : ∀ a o, g.H0 a = some o → a ∉ g.cs0 → H a = some o
  pre : ∃ more, g.cs = g.cs0 ++ more ∧ ∀ a ∈ more, g.H0 a = none
  z0 : ∀ a, g.Z0 a → g.Z a
  z0in : ∀ a, g.Z0 a → g.H0 a ≠ none
section
variable {K : PySem.W.Frag} {g : Gh} {H H' : Hp} {σ : St} {r : Env} {m m' : Mem}
/-- behind an expression -/
theorem Sim.adv (S : Sim K g H σ r m) (a : Adv g.cs H H') (M : MemOk K g.cs g.Z H' m') : Sim K g H' σ r m' := by
  have st := S.mem.stp a
  refine ⟨M, fun x z => ?_, S.len, fun i d e => ?_, fun i d e => ?_, S.sep, fun x o e n => ?_, S.pre, S.z0, S.z0in⟩
  · by_cases hx : x ∈ g.cs
    · obtain ⟨vs, e⟩ := M.lst hx
      rw [e]; simp
    · cases q : H x with
      | none => exact absurd q (S.zin x z)
      | some o => rw [a x o q hx]; simp
  · obtain ⟨v, e1, h⟩ := S.val i d e
    exact ⟨v, e1, Rep.step st d v h⟩
  · obtain ⟨b, e1, z, n, h0, h⟩ := S.own i d e
    refine ⟨b, e1, z, n, h0, ?_⟩
    cases d with
    | lst ds =>
      obtain ⟨vs, h1, h2, h3⟩ := h
      exact ⟨vs, a _ _ h1 n, h2, RepL.step st ds vs h3⟩
    | _ => exact h.elim
  · have h1 := S.keep x o e n
    obtain ⟨more, e2, hm⟩ := S.pre
    refine a x o h1 fun z => ?_
    rw [e2] at z
    rcases List.mem_append.mp z with z | z
    · exact n z
    · rw [hm x z] at e; cases e
theorem Sim.new {p : Addr} {o : HO} (S : Sim K g H σ r m) (h : H p = none) : Sim K g (upd H p o) σ r m := S.adv (.new h) (S.mem.new h)
end

/-! ### readings -/
/-- the program around: the evaluator of calls, how an error lies in the heap, what is wanted of it -/
structure Cc where
  K : PySem.W.Frag
  call : Nat → List D → Mem → R D
  Xr : Nat → D → Hp → Value → Option Addr → Prop
  E : XK
/-- an error's wish -/
def erP (c : Cc) (g : Gh) (H : Hp) : Nat → D → Mem → Prop := fun k a m' => ∀ H' cv od, Adv g.cs H H' → MemOk c.K g.cs g.Z H' m' → c.Xr k a H' cv od → c.E cv od H'
abbrev OkP : Type := Gh → Hp → D → V → Hp → Mem → Prop
/-- an expression's reading: whatever the evaluator says; P: how the value lies -/
def tX (P : Cc → OkP) (c : Cc) (e : E) : TE := fun σ H Q => ∃ g r m, Sim c.K g H σ r m ∧ (evE c.call e r m).post (fun d m' => ∀ v H', P c g H d v H' m' → Q v H') (erP c g H)
def PEx (c : Cc) : OkP := fun g H d v H' m' => Adv g.cs H H' ∧ MemOk c.K g.cs g.Z H' m' ∧ Rep c.K g.cs g.Z H' d v
def PBx (c : Cc) : OkP := fun g H d v H' m' => Adv g.cs H H' ∧ MemOk c.K g.cs g.Z H' m' ∧ RepB c.K g.cs g.Z H' d v
/-- a list is new -/
def PFx (c : Cc) : OkP := fun g H d v H' m' => match d with
  | .lst ds => ∃ H1 p vs, Adv g.cs H H1 ∧ MemOk c.K g.cs g.Z H1 m' ∧ H1 p = none ∧ v = .ref p ∧ H' = upd H1 p (.lst vs) ∧ vs.length ≤ sizeLine ∧ RepL c.K g.cs g.Z H1 ds vs
  | d => Adv g.cs H H' ∧ MemOk c.K g.cs g.Z H' m' ∧ Rep c.K g.cs g.Z H' d v
abbrev tE := tX PEx
abbrev tB := tX PBx
abbrev tF := tX PFx
theorem pe_imp {X : Cx} {e : Expr} {t t' : TE} (h : PE X e t) (k : ∀ σ H Q, t' σ H Q → t σ H Q) : PE X e t' := ⟨fun pins s σ H Q I q => h.run pins s σ H Q I (k σ H Q q)⟩
theorem pa_imp {X : Cx} {es : List Expr} {t t' : TA} (h : PA X es t) (k : ∀ σ H Q, t' σ H Q → t σ H Q) : PA X es t' := ⟨fun pos pins s σ H Q I q => h.run pos pins s σ H Q I (k σ H Q q)⟩
theorem pt_imp {X : Cx} {e : Expr} {t t' : TT} (h : PT X e t) (k : ∀ σ H Q, t' σ H Q → t σ H Q) : PT X e t' := ⟨fun pins s σ H Q I q => h.run pins s σ H Q I (k σ H Q q)⟩
theorem ps_imp {X : Cx} {e : Stmt} {t t' : TS} (h : PS X e t) (k : ∀ D σ H, t' D σ H → t D σ H) : PS X e t' := ⟨fun pins s σ H D I q => h.run pins s σ H D I (k D σ H q)⟩
theorem pss_imp {X : Cx} {e : List Stmt} {t t' : TS} (h : PSs X e t) (k : ∀ D σ H, t' D σ H → t D σ H) : PSs X e t' := ⟨fun pins s σ H D I q => h.run pins s σ H D I (k D σ H q)⟩
theorem tX_mono {P P' : Cc → OkP} {c : Cc} {e : E} (h : ∀ g H d v H' m', (∀ a, g.Z a → H a ≠ none) → P c g H d v H' m' → P' c g H d v H' m') {σ : St} {H : Hp} {Q : VK} (k : tX P' c e σ H Q) : tX P c e σ H Q := by
  obtain ⟨g, r, m, S, q⟩ := k
  exact ⟨g, r, m, S, post_mono q (fun d m' z v H' y => z v H' (h g H d v H' m' S.zin y)) fun _ _ _ z => z⟩
theorem PEx.b {c : Cc} {g : Gh} {H : Hp} {d : D} {v : V} {H' : Hp} {m' : Mem} (h : PEx c g H d v H' m') : PBx c g H d v H' m' := ⟨h.1, h.2.1, h.2.2.b h.2.1.cz⟩
theorem Adv.none {cs : List Addr} {H H1 : Hp} (a : Adv cs H H1) {p : Addr} (n : p ∉ cs) (h : H1 p = none) : H p = none := by
  cases q : H p with
  | none => rfl
  | some o => rw [a p o q n] at h; cases h
theorem MemOk.out {K : PySem.W.Frag} {cs : List Addr} {Z : Addr → Prop} {H : Hp} {m : Mem} (M : MemOk K cs Z H m) {p : Addr} (h : H p = none) : p ∉ cs := fun z => by
  obtain ⟨vs, e⟩ := M.lst z
  rw [e] at h; cases h
theorem PFx.e {c : Cc} {g : Gh} {H : Hp} {d : D} {v : V} {H' : Hp} {m' : Mem} (hz : ∀ a, g.Z a → H a ≠ none) (h : PFx c g H d v H' m') : PEx c g H d v H' m' := by
  cases d with
  | lst ds =>
    obtain ⟨H1, p, vs, a, M, n, e, e2, z, r⟩ := h
    subst e e2
    have hp : p ∉ g.cs := M.out n
    refine ⟨a.trans (.new n), M.new n, p, vs, rfl, .inl ⟨upd_same, fun zz => hz p zz (a.none hp n)⟩, z, RepL.step (M.stp (.new n)) ds vs r⟩
  | _ => exact h
section
variable {X : Cx} {c : Cc} {e : Expr} {m : E}
theorem BE.bb (h : PE X e (tE c m)) : PE X e (tB c m) := pe_imp h fun σ H Q k => tX_mono (fun _ _ _ _ _ _ _ y => y.b) k
theorem BF.be (h : PE X e (tF c m)) : PE X e (tE c m) := pe_imp h fun σ H Q k => tX_mono (fun _ _ _ _ _ _ z y => y.e z) k
end
/-- a reading that may begin earlier -/
def Back (P : Cc → OkP) : Prop := ∀ (c : Cc) (g : Gh) (H H1 : Hp) (d : D) (v : V) (H' : Hp) (m' : Mem), Adv g.cs H H1 → P c g H1 d v H' m' → P c g H d v H' m'
theorem backE : Back PEx := fun _ _ _ _ _ _ _ _ a h => ⟨a.trans h.1, h.2⟩
theorem backB : Back PBx := fun _ _ _ _ _ _ _ _ a h => ⟨a.trans h.1, h.2⟩
theorem backF : Back PFx := fun c g H H1 d v H' m' a h => by
  cases d with
  | lst ds =>
    obtain ⟨H2, p, vs, b, r⟩ := h
    exact ⟨H2, p, vs, a.trans b, r⟩
  | _ => exact ⟨a.trans h.1, h.2⟩
/-- two expressions in a row: the second where the first has come -/
theorem tX_bind {P : Cc → OkP} {c : Cc} {e : E} {σ : St} {H : Hp} {Q : VK} {g : Gh} {r : Env} {m : Mem} {B : Type} {f : D → Mem → R B} {G : B → Mem → Prop} (S : Sim c.K g H σ r m)
    (h : ((evE c.call e r m).bind f).post G (erP c g H)) (k : ∀ d v H' m', P c g H d v H' m' → (f d m').post G (erP c g H) → Q v H') : tX P c e σ H Q :=
  ⟨g, r, m, S, post_mono (post_bind.mp h) (fun d m' z v H' y => k d v H' m' y z) fun _ _ _ z => z⟩
/-- an error's wish from further on -/
theorem erP_adv {c : Cc} {g : Gh} {H H' : Hp} (a : Adv g.cs H H') : ∀ k d m, erP c g H k d m → erP c g H' k d m := fun _ _ _ h H2 cv od b M x => h H2 cv od (a.trans b) M x
end Mp

/-! Mp2: the operations on values. -/
namespace Mp
open PySem PySem.Spec L2

/-- a result: a list is new; all that stood before stands -/
def NewR (K : PySem.W.Frag) (cs : List Addr) (Z : Addr → Prop) (H : Hp) (d : D) (v : V) (H' : Hp) : Prop := match d with
  | .lst ds => ∃ p vs, H p = none ∧ v = .ref p ∧ H' = upd H p (.lst vs) ∧ vs.length ≤ sizeLine ∧ RepL K cs Z H ds vs
  | d => (∀ a o, H a = some o → H' a = some o) ∧ Rep K cs Z H' d v
def RepBL (K : PySem.W.Frag) (cs : List Addr) (Z : Addr → Prop) (H : Hp) : List D → List V → Prop
  | [], vs => vs = []
  | d :: ds, vs => ∃ v r, vs = v :: r ∧ RepB K cs Z H d v ∧ RepBL K cs Z H ds r
/-- what the operations may lean on -/
structure Zone (cs : List Addr) (Z : Addr → Prop) (H : Hp) (mem : Mem) (K : PySem.W.Frag) : Prop where
  zin : ∀ a, Z a → H a ≠ none
  mem : MemOk K cs Z H mem
def rD1 (K : PySem.W.Frag) (f : D → Option D) : V → Hp → VK → Prop := fun x H Q => ∃ cs Z mem a d, Zone cs Z H mem K ∧ RepB K cs Z H a x ∧ f a = some d ∧ ∀ v H', NewR K cs Z H d v H' → Q v H'
def rD2 (K : PySem.W.Frag) (f : D → D → Option D) : R2 := fun x y H Q => ∃ cs Z mem a b d, Zone cs Z H mem K ∧ RepB K cs Z H a x ∧ RepB K cs Z H b y ∧ f a b = some d ∧ ∀ v H', NewR K cs Z H d v H' → Q v H'
def rDn (K : PySem.W.Frag) (f : List D → Option D) : List V → Hp → VK → Prop := fun xs H Q => ∃ cs Z mem as d, Zone cs Z H mem K ∧ RepBL K cs Z H as xs ∧ f as = some d ∧ ∀ v H', NewR K cs Z H d v H' → Q v H'

section
variable {K : PySem.W.Frag} {cs : List Addr} {Z : Addr → Prop} {H : Hp} {mem : Mem}
theorem NewR.of {d : D} {v : V} (h : ∀ ds, d ≠ .lst ds) (r : Rep K cs Z H d v) : NewR K cs Z H d v H := by
  cases d with
  | lst ds => exact absurd rfl (h ds)
  | _ => exact ⟨fun _ _ e => e, r⟩
theorem NewR.tup {ds : List D} {vs : List V} {p : Addr} (zn : Zone cs Z H mem K) (hp : H p = none) (hl : vs.length ≤ sizeLine) (r : RepL K cs Z H ds vs) : NewR K cs Z H (.tup ds) (.ref p) (upd H p (.tup vs)) := by
  have k : ∀ a o, H a = some o → upd H p (.tup vs) a = some o := fun a o e => by rw [upd_ne (ne_of_none e hp)]; exact e
  exact ⟨k, p, vs, rfl, SqT.of upd_same, hl, RepL.step (zn.mem.stp (.same k)) ds vs r⟩
theorem NewR.lst {ds : List D} {vs : List V} {p : Addr} (hp : H p = none) (hl : vs.length ≤ sizeLine) (r : RepL K cs Z H ds vs) : NewR K cs Z H (.lst ds) (.ref p) (upd H p (.lst vs)) :=
  ⟨p, vs, hp, rfl, rfl, hl, r⟩
theorem RepB.int {i : Int} {x : V} (h : RepB K cs Z H (.int i) x) : x = .int i := h
theorem RepB.bl {b : Bool} {x : V} (h : RepB K cs Z H (.bl b) x) : x = .bl b := h
theorem RepB.tup {ds : List D} {x : V} (h : RepB K cs Z H (.tup ds) x) : ∃ a vs, x = .ref a ∧ SqT K H a vs ∧ vs.length ≤ sizeLine ∧ RepL K cs Z H ds vs := h
theorem RepB.lst {ds : List D} {x : V} (h : RepB K cs Z H (.lst ds) x) : ∃ a vs, x = .ref a ∧ LsF K (fun x => x ∈ cs) H a vs ∧ vs.length ≤ sizeLine ∧ RepL K cs Z H ds vs := h
theorem RepBL.one {d : D} {xs : List V} (h : RepBL K cs Z H [d] xs) : ∃ x, xs = [x] ∧ RepB K cs Z H d x := by
  obtain ⟨v, r, e, h1, h2⟩ := h
  rw [show r = [] from h2] at e
  exact ⟨v, e, h1⟩
theorem RepBL.two {d e : D} {xs : List V} (h : RepBL K cs Z H [d, e] xs) : ∃ x y, xs = [x, y] ∧ RepB K cs Z H d x ∧ RepB K cs Z H e y := by
  obtain ⟨v, r, e1, h1, h2⟩ := h
  obtain ⟨y, e2, h3⟩ := RepBL.one h2
  subst e2
  exact ⟨v, y, e1, h1, h3⟩
end

/-! ### + - * // % ** -/
section
variable {X : Cx}
theorem cat_lists {pins : List (Addr × Obj)} {s : Shared} {σ : St} {H : Hp} {l b : Addr} {xs ys : List V} {Q : VK} (I : Inv X pins σ H s) (hl : SqL X.K H l xs) (hb : SqL X.K H b ys) (hz : xs.length + ys.length ≤ sizeLine)
    (q : ∀ p, H p = none → Q (.ref p) (upd H p (.lst (xs ++ ys)))) : wpAny (model X.prog X.w) X.A (binaryOp .Add (.ref l) (.ref b)) (EP X pins σ Q) X.xe s := by
  obtain ⟨its, r, pl, _⟩ := I.list hl
  obtain ⟨its2, r2, pl2, _⟩ := I.list hb
  obtain ⟨⟨cls, dd, data, sl⟩, n, ho, hc, _, hd⟩ := pl
  obtain ⟨⟨cls2, dd2, data2, sl2⟩, n2, ho2, hc2, _, hd2⟩ := pl2
  simp only at hc hd hc2 hd2
  subst hc hd hc2 hd2
  have e : its.toArray ++ its2.toArray = (its ++ its2).toArray := by simp
  have e1 := r.length
  have e2 := r2.length
  refine concat_meets ⟨_, ho, rfl⟩ ⟨_, ho2, rfl⟩ PySem.noFill_list_add PySem.seq_list_add PySem.F.slot_list_add PySem.F.entry_list_add (PySem.F.args_list_add_2 _ _)
    (PyProof.Rows.list_addW l b its.toArray its2.toArray n n2 dd dd2 sl sl2 (by simp only [List.size_toArray]; omega)) ⟨ho, ho2, ?_⟩
  rw [e]
  exact ⟨.ref _, _, I.lnew (t' := s.toks) (r.append r2) (by rw [List.length_append]; exact hz), rfl, q _ I.fresh⟩
theorem opAdd : OpR X (binaryOp .Add) (rD2 X.K (binV .add)) := by
  intro pins s σ H x y v u Q I rx ry h
  obtain ⟨cs, Z, mem, a, b, d, zn, ra, rb, e, q⟩ := h
  cases a with
  | int i =>
    cases b with
    | int j =>
      cases e
      exact op_add pins s σ H x y v u Q I rx ry ⟨i, j, ra.int, rb.int, q _ _ (.of (by simp) rfl)⟩
    | _ => cases e
  | tup xs =>
    cases b with
    | tup ys =>
      have e' : (if xs.length + ys.length ≤ LINE then some (D.tup (xs ++ ys)) else none) = some d := e
      by_cases hz : xs.length + ys.length ≤ LINE
      · rw [if_pos hz] at e'
        cases e'
        obtain ⟨l, vs, rfl, t1, z1, r1⟩ := ra.tup
        obtain ⟨m, ws, rfl, t2, z2, r2⟩ := rb.tup
        have l1 := r1.length
        have l2 := r2.length
        have hz' : vs.length + ws.length ≤ sizeLine := by rw [l1, l2]; exact hz
        refine op_catA pins s σ H _ _ v u Q I rx ry ⟨l, m, vs, ws, rfl, rfl, t1, t2, hz', fun e1 => ?_, fun e1 e2 => ?_, fun e1 e2 p hp => ?_⟩
        · subst e1
          have e0 : xs = [] := List.eq_nil_of_length_eq_zero l1.symm
          subst e0
          exact q _ _ (.of (by simp) ⟨m, ws, rfl, t2, z2, r2⟩)
        · subst e2
          have e0 : ys = [] := List.eq_nil_of_length_eq_zero l2.symm
          subst e0
          rw [List.append_nil] at q
          exact q _ _ (.of (by simp) ⟨l, vs, rfl, t1, z1, r1⟩)
        · exact q _ _ (.tup zn hp (by rw [List.length_append]; exact hz') (r1.append r2))
      · rw [if_neg hz] at e'; cases e'
    | _ => cases e
  | lst xs =>
    cases b with
    | lst ys =>
      have e' : (if xs.length + ys.length ≤ LINE then some (D.lst (xs ++ ys)) else none) = some d := e
      by_cases hz : xs.length + ys.length ≤ LINE
      · rw [if_pos hz] at e'
        cases e'
        obtain ⟨l, vs, rfl, t1, z1, r1⟩ := ra.lst
        obtain ⟨m, ws, rfl, t2, z2, r2⟩ := rb.lst
        have hz' : vs.length + ws.length ≤ sizeLine := by rw [r1.length, r2.length]; exact hz
        cases rx
        cases ry
        exact cat_lists I t1.sq t2.sq hz' fun p hp => q _ _ (.lst hp (by rw [List.length_append]; exact hz') (r1.append r2))
      · rw [if_neg hz] at e'; cases e'
    | _ => cases e
  | _ => cases b <;> cases e
theorem opSub : OpR X (binaryOp .Sub) (rD2 X.K (binV .sub)) := by
  intro pins s σ H x y v u Q I rx ry h
  obtain ⟨cs, Z, mem, a, b, d, zn, ra, rb, e, q⟩ := h
  cases a with
  | int i =>
    cases b with
    | int j =>
      cases e
      exact op_sub pins s σ H x y v u Q I rx ry ⟨i, j, ra.int, rb.int, q _ _ (.of (by simp) rfl)⟩
    | _ => cases e
  | _ => cases b <;> cases e
theorem opDiv : OpR X (binaryOp .FloorDiv) (rD2 X.K (binV .fdiv)) := by
  intro pins s σ H x y v u Q I rx ry h
  obtain ⟨cs, Z, mem, a, b, d, zn, ra, rb, e, q⟩ := h
  cases a with
  | int i =>
    cases b with
    | int j =>
      have e' : (if 0 < j ∧ j < 1073741824 then some (D.int (i / j)) else none) = some d := e
      by_cases hz : 0 < j ∧ j < 1073741824
      · rw [if_pos hz] at e'
        cases e'
        exact op_fdiv pins s σ H x y v u Q I rx ry ⟨i, j, ra.int, rb.int, hz, q _ _ (.of (by simp) rfl)⟩
      · rw [if_neg hz] at e'; cases e'
    | _ => cases e
  | _ => cases b <;> cases e
theorem opMod : OpR X (binaryOp .Mod) (rD2 X.K (binV .mod)) := by
  intro pins s σ H x y v u Q I rx ry h
  obtain ⟨cs, Z, mem, a, b, d, zn, ra, rb, e, q⟩ := h
  cases a with
  | int i =>
    cases b with
    | int j =>
      have e' : (if 0 < j then some (D.int (i % j)) else none) = some d := e
      by_cases hz : 0 < j
      · rw [if_pos hz] at e'
        cases e'
        exact op_mod pins s σ H x y v u Q I rx ry ⟨i, j, ra.int, rb.int, hz, q _ _ (.of (by simp) rfl)⟩
      · rw [if_neg hz] at e'; cases e'
    | _ => cases e
  | _ => cases b <;> cases e
theorem opPow : OpR X (binaryOp .Pow) (rD2 X.K (binV .pow)) := by
  intro pins s σ H x y v u Q I rx ry h
  obtain ⟨cs, Z, mem, a, b, d, zn, ra, rb, e, q⟩ := h
  cases a with
  | int i =>
    cases b with
    | int j =>
      have e' : (if 0 ≤ j ∧ j ≤ 1000000 ∧ i.natAbs < 2 ^ 64 then some (D.int (i ^ j.toNat)) else none) = some d := e
      by_cases hz : 0 ≤ j ∧ j ≤ 1000000 ∧ i.natAbs < 2 ^ 64
      · rw [if_pos hz] at e'
        cases e'
        exact op_pow pins s σ H x y v u Q I rx ry ⟨i, j, ra.int, rb.int, hz, q _ _ (.of (by simp) rfl)⟩
      · rw [if_neg hz] at e'; cases e'
    | _ => cases e
  | _ => cases b <;> cases e
end
end Mp

set_option maxHeartbeats 4000000
/-! Mp3: products of sequences; comparisons; membership; the built-ins on values. -/
namespace Mp
open PySem PySem.Spec L2 PyProof.Rows
theorem tupTimes1 (l : Addr) (items : Array Value) (n : Nat) (dd : Option Addr) (sl : Array (Option Value)) (u : Tok) :
    Meets (Builtin.«tuple.__mul__» ⟨[.ref l, .int 1 u], []⟩) (fun _ R s => s.heap.get? l = some { cls := .type "tuple", dict := dd, data := .seq items n, slots := sl } ∧ R (.ok (.ret (Value.ref l))) s) :=
  .of_wp fun prog w A R s h => by
    obtain ⟨hp, g, d, tk, os⟩ := s
    obtain ⟨hl, h⟩ := h
    have f1 := AutoSeq1.idx_int
    have c1 : (items.isEmpty || (1 : Int) == 1) = true := by simp
    wp_walk using wpAny_loadPart' hl
    repeat (first
      | (refine wpAny_ite_true (decide_eq_true c1) ?_; wp_walk using wpAny_loadPart' hl))
    exact ⟨_, rfl, h⟩
theorem tupTimes0 (l : Addr) (items : Array Value) (n : Nat) (dd : Option Addr) (sl : Array (Option Value)) (u : Tok) (hi : items.isEmpty = false) :
    Meets (Builtin.«tuple.__mul__» ⟨[.ref l, .int 0 u], []⟩) (fun _ R s => s.heap.get? l = some { cls := .type "tuple", dict := dd, data := .seq items n, slots := sl } ∧
      R (.ok (.ret (Value.ref s.heap.objs.size))) { s with heap := s.heap.push { cls := Value.type "tuple", data := Data.seq #[] }, toks := s.toks }) :=
  .of_wp fun prog w A R s h => by
    obtain ⟨hp, g, d, tk, os⟩ := s
    obtain ⟨hl, h⟩ := h
    have f1 := AutoSeq1.idx_int
    have c1 : ¬ (items.isEmpty || (0 : Int) == 1) = true := by simp [hi]
    wp_walk using wpAny_loadPart' hl
    repeat (first
      | (refine wpAny_ite_false (decide_eq_false c1) ?_; wp_walk using wpAny_loadPart' hl))
    exact ⟨_, rfl, h⟩
theorem intTimesList (a : Int) (t : Tok) (l : Addr) (items : Array Value) (n : Nat) (dd : Option Addr) (sl : Array (Option Value)) :
    Meets (Builtin.«int.__rmul__» ⟨[.int a t, .ref l], []⟩) (fun _ R s => s.heap.get? l = some { cls := .type "list", dict := dd, data := .seq items n, slots := sl } ∧ R (.ok (.ret Value.notImplemented)) s) :=
  .of_wp fun prog w A R s h => by
    obtain ⟨hp, g, d, tk, os⟩ := s
    obtain ⟨hl, h⟩ := h
    wp_walk using wpAny_loadPart' hl
    exact ⟨_, rfl, h⟩
theorem listTimes (l : Addr) (items : Array Value) (n : Nat) (dd : Option Addr) (sl : Array (Option Value)) (x : Int) (u : Tok) (c0 : ¬ (!Builtin.List.listFitsIndex x) = true) (c1 : ¬ items.size * x.toNat > (2 ^ 63 - 1) / 8)
    (c2 : ¬ Builtin.List.listTooLong (items.size * x.toNat) = true) (hsz : (List.foldl (fun x1 x2 => x1 ++ x2) #[] (List.replicate (if items.isEmpty = true then 0 else x.toNat) items)).size ≤ sizeLine) :
    Meets (Builtin.«list.__mul__» ⟨[.ref l, .int x u], []⟩) (fun _ R s => s.heap.get? l = some { cls := .type "list", dict := dd, data := .seq items n, slots := sl } ∧
      R (.ok (.ret (Value.ref s.heap.objs.size))) { s with heap := s.heap.push { cls := Value.type "list", data := Data.seq (List.foldl (fun x1 x2 => x1 ++ x2) #[] (List.replicate (if items.isEmpty = true then 0 else x.toNat) items)) }, toks := s.toks }) :=
  .of_wp fun prog w A R s h => by
    obtain ⟨hp, g, d, tk, os⟩ := s
    obtain ⟨hl, h⟩ := h
    have f1 := AutoSeq1.idx_int
    wp_walk using wpAny_loadPart' hl
    repeat (first
      | (refine wpAny_ite_false (decide_eq_false c0) ?_; wp_walk using wpAny_loadPart' hl)
      | (refine wpAny_ite_false (decide_eq_false c1) ?_; wp_walk using wpAny_loadPart' hl)
      | (refine wpAny_ite_false (decide_eq_false c2) ?_; wp_walk using wpAny_loadPart' hl)
      | (refine wpAny_ite_false (decide_eq_false (Nat.not_lt.mpr hsz)) ?_; wp_walk using wpAny_loadPart' hl))
    exact ⟨_, rfl, h⟩

section
variable {X : Cx}
theorem flat_one {A : Type} (xs : List A) : (List.replicate 1 xs).flatten = xs := by simp
theorem opMul : OpR X (binaryOp .Mult) (rD2 X.K (binV .mul)) := by
  intro pins s σ H x y v u Q I rx ry h
  obtain ⟨cs, Z, mem, a, b, d, zn, ra, rb, e, q⟩ := h
  cases a with
  | int i =>
    cases b with
    | int j =>
      have e' : (if (small i || small j) = true then some (D.int (i * j)) else none) = some d := e
      by_cases hz : (small i || small j) = true
      · rw [if_pos hz] at e'
        cases e'
        refine op_mul pins s σ H x y v u Q I rx ry ⟨i, j, ra.int, rb.int, ?_, q _ _ (.of (by simp) rfl)⟩
        rw [Bool.or_eq_true] at hz
        unfold small at hz
        rw [Bool.and_eq_true, Bool.and_eq_true] at hz
        simp only [decide_eq_true_eq] at hz
        exact hz
      · rw [if_neg hz] at e'; cases e'
    | _ => cases e
  | tup xs =>
    cases b with
    | int k =>
      have e' : (if xs ≠ [] ∧ 0 ≤ k ∧ k ≤ 1000 ∧ xs.length ≤ 1000 then some (D.tup (List.replicate k.toNat xs).flatten) else none) = some d := e
      by_cases hz : xs ≠ [] ∧ 0 ≤ k ∧ k ≤ 1000 ∧ xs.length ≤ 1000
      · rw [if_pos hz] at e'
        cases e'
        obtain ⟨h0, h1, h2, h3⟩ := hz
        obtain ⟨l, vs, rfl, t1, z1, r1⟩ := ra.tup
        have ey := rb.int
        subst ey
        have l1 := r1.length
        have hne : vs ≠ [] := fun z => h0 (List.eq_nil_of_length_eq_zero (by rw [← l1, z]; rfl))
        by_cases k2 : 2 ≤ k
        · refine op_repT pins s σ H _ _ v u Q I rx ry ⟨l, k, vs, rfl, rfl, t1, hne, k2, h2, by rw [l1]; exact h3, fun p hp => q _ _ (.tup zn hp ?_ (r1.rep _))⟩
          rw [PyProof.Rows.lm_len_rep_flat, l1, sizeLine_eq]
          have a1 : k.toNat * xs.length ≤ 1000 * 1000 := Nat.mul_le_mul (by omega) h3
          omega
        · cases rx
          obtain ⟨t, rfl⟩ := ry
          obtain ⟨its, r, ⟨⟨cls, dd, data, sl⟩, ho, hc, n, hd⟩, hs⟩ := I.tuple t1
          simp only at hc hd
          subst hc hd
          have hk : k = 0 ∨ k = 1 := by omega
          rcases hk with rfl | rfl
          · refine wpAny_binaryOp_repeat_ref (T := "tuple") (U := "int") (by decide) ⟨_, ho, rfl⟩ (fun s' => typeIs_int s' 0 t) noFill_tuple_mul F.fills_int_mul F.slot_int_rmul repeat_tuple F.slot_int_index.lookup
              (call_meets F.slot_int_rmul (typeIs_int s 0 t) F.entry_int_rmul (F.args_int_rmul_2 _ _) (int_rmul_tuple 0 t l its.toArray n dd sl)
                ⟨ho, rfl, ⟨_, ho, rfl⟩, call_meets F.slot_tuple_mul ⟨_, ho, rfl⟩ F.entry_tuple_mul (F.args_tuple_mul_2 _ _) (tupTimes0 l its.toArray n dd sl t ?_) ⟨ho, ?_⟩⟩)
            · have hle : its.length = vs.length := r.length.symm
              cases its with
              | nil => exact absurd (List.eq_nil_of_length_eq_zero hle.symm) hne
              | cons _ _ => rfl
            · refine ⟨.ref s.heap.objs.size, _, I.laid (t' := s.toks) (o := .tup []) (fun b ob q => Heap.get?_push_of_some _ q) (Nat.le_refl _) ?_, rfl, q _ _ (.tup zn I.fresh (Nat.zero_le _) rfl)⟩
              exact ⟨Nat.zero_le _, [], .nil, IsTup.new _ _⟩
          · refine wpAny_binaryOp_repeat_ref (T := "tuple") (U := "int") (by decide) ⟨_, ho, rfl⟩ (fun s' => typeIs_int s' 1 t) noFill_tuple_mul F.fills_int_mul F.slot_int_rmul repeat_tuple F.slot_int_index.lookup
              (call_meets F.slot_int_rmul (typeIs_int s 1 t) F.entry_int_rmul (F.args_int_rmul_2 _ _) (int_rmul_tuple 1 t l its.toArray n dd sl)
                ⟨ho, rfl, ⟨_, ho, rfl⟩, call_meets F.slot_tuple_mul ⟨_, ho, rfl⟩ F.entry_tuple_mul (F.args_tuple_mul_2 _ _) (tupTimes1 l its.toArray n dd sl t) ⟨ho, ?_⟩⟩)
            have q' := q (.ref l) H (.of (by simp) ⟨l, vs, rfl, t1, z1, by rw [show (1 : Int).toNat = 1 from rfl, flat_one]; exact r1⟩)
            exact ⟨.ref l, H, I, rfl, q'⟩
      · rw [if_neg hz] at e'; cases e'
    | _ => cases e
  | lst xs =>
    cases b with
    | int k =>
      have e' : (if 0 ≤ k ∧ k ≤ 1000 ∧ xs.length ≤ 1000 then some (D.lst (List.replicate k.toNat xs).flatten) else none) = some d := e
      by_cases hz : 0 ≤ k ∧ k ≤ 1000 ∧ xs.length ≤ 1000
      · rw [if_pos hz] at e'
        cases e'
        obtain ⟨h1, h2, h3⟩ := hz
        obtain ⟨l, vs, rfl, t1, z1, r1⟩ := ra.lst
        have ey := rb.int
        subst ey
        have l1 := r1.length
        cases rx
        obtain ⟨t, rfl⟩ := ry
        obtain ⟨its, r, pl, _⟩ := I.list t1.sq
        obtain ⟨⟨cls, dd, data, sl⟩, n, ho, hc, _, hd⟩ := pl
        simp only at hc hd
        subst hc hd
        have hle : its.length = xs.length := by rw [← l1]; exact r.length.symm
        have hm : xs.length * k.toNat ≤ 1000 * 1000 := Nat.mul_le_mul h3 (by omega)
        have hfit : ¬ (!Builtin.List.listFitsIndex k) = true := by
          unfold Builtin.List.listFitsIndex
          rw [decide_eq_true (by omega : -(2 ^ 63 : Int) ≤ k), decide_eq_true (by omega : k < 2 ^ 63)]
          decide
        have hnew : List.foldl (fun x1 x2 => x1 ++ x2) #[] (List.replicate (if its.toArray.isEmpty = true then 0 else k.toNat) its.toArray) = (List.replicate k.toNat its).flatten.toArray := by
          rw [L2.size_rep]
          cases its with
          | nil => simp
          | cons a r' => rw [if_neg (by simp)]
        have hlenf : (List.replicate k.toNat its).flatten.length ≤ sizeLine := by
          rw [PyProof.Rows.lm_len_rep_flat, hle, Nat.mul_comm, sizeLine_eq]
          omega
        refine wpAny_binaryOp_repeat_ref (T := "list") (U := "int") (by decide) ⟨_, ho, rfl⟩ (fun s' => typeIs_int s' k t) noFill_list_mul F.fills_int_mul F.slot_int_rmul repeat_list F.slot_int_index.lookup
          (call_meets F.slot_int_rmul (typeIs_int s k t) F.entry_int_rmul (F.args_int_rmul_2 _ _) (intTimesList k t l its.toArray n dd sl)
            ⟨ho, rfl, ⟨_, ho, rfl⟩, call_meets F.slot_list_mul ⟨_, ho, rfl⟩ F.entry_list_mul (F.args_list_mul_2 _ _) (listTimes l its.toArray n dd sl k t hfit (by rw [List.size_toArray, hle]; omega)
              (by unfold Builtin.List.listTooLong; rw [List.size_toArray, hle, sizeLine_eq]; simp only [gt_iff_lt, decide_eq_true_eq]; omega) (by rw [hnew, List.size_toArray]; exact hlenf)) ⟨ho, ?_⟩⟩)
        rw [hnew]
        have hz2 : (List.replicate k.toNat vs).flatten.length ≤ sizeLine := by
          rw [PyProof.Rows.lm_len_rep_flat, l1, Nat.mul_comm, sizeLine_eq]
          omega
        exact ⟨.ref _, _, I.lnew (t' := s.toks) (r.rep k.toNat) hz2, rfl, q _ _ (.lst I.fresh hz2 (r1.rep _))⟩
      · rw [if_neg hz] at e'; cases e'
    | _ => cases e
  | _ => cases b <;> cases e
end
end Mp

/-! Mp4: == , in, is None, the order of ints; isinstance. -/
namespace Mp
open PySem PySem.Spec L2 PyProof.Rows
mutual
def D.py : D → PyData
  | .non => .none | .bl b => .bool b | .int i => .int i | .str x => .str x
  | .tup xs => .tuple (D.pyL xs) | .lst xs => .list (D.pyL xs)
  | .dct _ _ => .dict [] | .cell _ => .dict [] | .clo _ _ => .dict []
def D.pyL : List D → List PyData
  | [] => []
  | x :: xs => D.py x :: D.pyL xs
end
theorem pyL_map : ∀ xs : List D, D.pyL xs = xs.map D.py
  | [] => rfl
  | x :: xs => by rw [D.pyL, pyL_map xs]; rfl
mutual
theorem canLay_py : ∀ d : D, d.pure = true → d.py.canLay0 = true
  | .non, _ => by simp [D.py, PyData.canLay0]
  | .bl _, _ => by simp [D.py, PyData.canLay0]
  | .int _, _ => by simp [D.py, PyData.canLay0]
  | .str _, h => by simp [D.pure] at h
  | .tup xs, h => by
    rw [D.py, PyData.canLay0]
    exact canLay_pyL xs (by simpa [D.pure] using h)
  | .lst xs, h => by
    rw [D.py, PyData.canLay0]
    exact canLay_pyL xs (by simpa [D.pure] using h)
  | .dct _ _, h => by simp [D.pure] at h
  | .cell _, h => by simp [D.pure] at h
  | .clo _ _, h => by simp [D.pure] at h
theorem canLay_pyL : ∀ xs : List D, D.pureL xs = true → PyData.canLayAll0 (D.pyL xs) = true
  | [], _ => by simp [D.pyL, PyData.canLayAll0]
  | x :: xs, h => by
    rw [D.pureL, Bool.and_eq_true] at h
    rw [D.pyL, PyData.canLayAll0, canLay_py x h.1, canLay_pyL xs h.2]
    rfl
end
mutual
theorem depth_py : ∀ d : D, d.pure = true → d.py.depth = d.depth
  | .non, _ => by simp [D.py, PyData.depth, D.depth]
  | .bl _, _ => by simp [D.py, PyData.depth, D.depth]
  | .int _, _ => by simp [D.py, PyData.depth, D.depth]
  | .str _, h => by simp [D.pure] at h
  | .tup xs, h => by rw [D.py, PyData.depth, D.depth, depth_pyL xs (by simpa [D.pure] using h)]
  | .lst xs, h => by rw [D.py, PyData.depth, D.depth, depth_pyL xs (by simpa [D.pure] using h)]
  | .dct _ _, h => by simp [D.pure] at h
  | .cell _, h => by simp [D.pure] at h
  | .clo _ _, h => by simp [D.pure] at h
theorem depth_pyL : ∀ xs : List D, D.pureL xs = true → PyData.depthAll (D.pyL xs) = D.depthL xs
  | [], _ => by simp [D.pyL, PyData.depthAll, D.depthL]
  | x :: xs, h => by
    rw [D.pureL, Bool.and_eq_true] at h
    rw [D.pyL, PyData.depthAll, D.depthL, depth_py x h.1, depth_pyL xs h.2]
end
mutual
theorem eqv_py : ∀ a b : D, a.pure = true → b.pure = true → D.eqv a b = PyData.eqv a.py b.py
  | .non, b, _, hb => by cases b <;> first | (simp [D.pure] at hb; done) | simp [D.eqv, D.py, PyData.eqv]
  | .bl _, b, _, hb => by cases b <;> first | (simp [D.pure] at hb; done) | simp [D.eqv, D.py, PyData.eqv]
  | .int _, b, _, hb => by cases b <;> first | (simp [D.pure] at hb; done) | simp [D.eqv, D.py, PyData.eqv]
  | .str _, _, h, _ => by simp [D.pure] at h
  | .tup xs, b, ha, hb => by
    cases b with
    | tup ys =>
      rw [D.eqv, D.py, D.py, PyData.eqv]
      exact eqv_pyL xs ys (by simpa [D.pure] using ha) (by simpa [D.pure] using hb)
    | _ => first | (simp [D.pure] at hb; done) | simp [D.eqv, D.py, PyData.eqv]
  | .lst xs, b, ha, hb => by
    cases b with
    | lst ys =>
      rw [D.eqv, D.py, D.py, PyData.eqv]
      exact eqv_pyL xs ys (by simpa [D.pure] using ha) (by simpa [D.pure] using hb)
    | _ => first | (simp [D.pure] at hb; done) | simp [D.eqv, D.py, PyData.eqv]
  | .dct _ _, _, h, _ => by simp [D.pure] at h
  | .cell _, _, h, _ => by simp [D.pure] at h
  | .clo _ _, _, h, _ => by simp [D.pure] at h
theorem eqv_pyL : ∀ xs ys : List D, D.pureL xs = true → D.pureL ys = true → D.eqvL xs ys = PyData.eqvAll (D.pyL xs) (D.pyL ys)
  | [], [], _, _ => by simp [D.eqvL, D.pyL, PyData.eqvAll]
  | [], _ :: _, _, _ => by simp [D.eqvL, D.pyL, PyData.eqvAll]
  | _ :: _, [], _, _ => by simp [D.eqvL, D.pyL, PyData.eqvAll]
  | x :: xs, y :: ys, ha, hb => by
    rw [D.pureL, Bool.and_eq_true] at ha hb
    rw [D.eqvL, D.pyL, D.pyL, PyData.eqvAll, eqv_py x y ha.1 hb.1, eqv_pyL xs ys ha.2 hb.2]
end
theorem any_py (a : D) (ha : a.pure = true) : ∀ ys : List D, D.pureL ys = true → (ys.any fun y => D.eqv y a) = (D.pyL ys).any fun z => PyData.eqv z a.py
  | [], _ => rfl
  | y :: ys, h => by
    rw [D.pureL, Bool.and_eq_true] at h
    rw [D.pyL, List.any_cons, List.any_cons, any_py a ha ys h.2, eqv_py y a h.1 ha]
theorem ok_pure {d : D} (h : d.ok = true) : d.pure = true := (Bool.and_eq_true_iff.mp h).1
theorem ok_depth {d : D} (h : d.ok = true) : d.depth ≤ 30 := of_decide_eq_true (Bool.and_eq_true_iff.mp h).2
theorem ok_shaped {d : D} (h : d.ok = true) : SeqAt.shaped d.py = true := by
  unfold SeqAt.shaped
  rw [canLay_py d (ok_pure h), depth_py d (ok_pure h), Bool.true_and]
  exact decide_eq_true (by have := ok_depth h; omega)
section
variable {K : PySem.W.Frag} {cs : List Addr} {Z : Addr → Prop} {H : Hp}
mutual
theorem Rep.dp : ∀ (d : D) (v : V), Rep K cs Z H d v → d.pure = true → Dp K H v d.py
  | .non, _, h, _ => by rw [show _ = V.non from h]; exact .non
  | .bl _, _, h, _ => by rw [show _ = V.bl _ from h]; exact .bl _
  | .int _, _, h, _ => by rw [show _ = V.int _ from h]; exact .int _
  | .str _, _, _, h => by simp [D.pure] at h
  | .tup xs, v, h, hp => by
    obtain ⟨a, vs, rfl, t, _, r⟩ := h
    rw [D.py]
    exact .tup t (RepL.dp xs vs r (by simpa [D.pure] using hp))
  | .lst xs, v, h, hp => by
    obtain ⟨a, vs, rfl, t, _, r⟩ := h
    rw [D.py]
    exact .lst t.sq (RepL.dp xs vs r (by simpa [D.pure] using hp))
  | .dct _ _, _, _, h => by simp [D.pure] at h
  | .cell _, _, _, h => by simp [D.pure] at h
  | .clo _ _, _, _, h => by simp [D.pure] at h
theorem RepL.dp : ∀ (ds : List D) (vs : List V), RepL K cs Z H ds vs → D.pureL ds = true → DpAll K H vs (D.pyL ds)
  | [], vs, h, _ => by rw [show vs = [] from h]; exact .nil
  | d :: ds, vs, h, hp => by
    obtain ⟨v, r, rfl, h1, h2⟩ := h
    rw [D.pureL, Bool.and_eq_true] at hp
    rw [D.pyL]
    exact .cons (Rep.dp d v h1 hp.1) (RepL.dp ds r h2 hp.2)
end
theorem RepB.dp {d : D} {v : V} (h : RepB K cs Z H d v) (hp : d.pure = true) : Dp K H v d.py := by
  cases d with
  | lst xs =>
    obtain ⟨a, vs, rfl, t, _, r⟩ := h
    rw [D.py]
    exact .lst t.sq (RepL.dp xs vs r (by simpa [D.pure] using hp))
  | _ => exact Rep.dp (cs := cs) (Z := Z) _ v h hp
end
def cmpD (o : COp) (a b : D) : Option D := (cmpV o a b).map D.bl
section
variable {X : Cx}
theorem cEq (hu : X.A.units + 64 < cLine) : OpR X (compareOp .Eq) (rD2 X.K (cmpD .eq)) := by
  intro pins s σ H x y v u Q I rx ry h
  obtain ⟨cs, Z, mem, a, b, d, zn, ra, rb, e, q⟩ := h
  have e' : (if (a.ok && b.ok) = true then some (D.eqv a b) else none).map D.bl = some d := e
  by_cases hz : (a.ok && b.ok) = true
  · rw [if_pos hz] at e'
    cases e'
    obtain ⟨h1, h2⟩ := Bool.and_eq_true_iff.mp hz
    refine op_eqD hu pins s σ H x y v u Q I rx ry ⟨a.py, b.py, ra.dp (ok_pure h1), rb.dp (ok_pure h2), ok_shaped h1, ok_shaped h2, ?_⟩
    rw [← eqv_py a b (ok_pure h1) (ok_pure h2)]
    exact q _ _ (.of (by simp) rfl)
  · rw [if_neg hz] at e'; cases e'
theorem cNe (hu : X.A.units + 64 < cLine) : OpR X (compareOp .NotEq) (rD2 X.K (cmpD .ne)) := by
  intro pins s σ H x y v u Q I rx ry h
  obtain ⟨cs, Z, mem, a, b, d, zn, ra, rb, e, q⟩ := h
  have e' : (if (a.ok && b.ok) = true then some (!D.eqv a b) else none).map D.bl = some d := e
  by_cases hz : (a.ok && b.ok) = true
  · rw [if_pos hz] at e'
    cases e'
    obtain ⟨h1, h2⟩ := Bool.and_eq_true_iff.mp hz
    refine op_neD hu pins s σ H x y v u Q I rx ry ⟨a.py, b.py, ra.dp (ok_pure h1), rb.dp (ok_pure h2), ok_shaped h1, ok_shaped h2, ?_⟩
    rw [← eqv_py a b (ok_pure h1) (ok_pure h2)]
    exact q _ _ (.of (by simp) rfl)
  · rw [if_neg hz] at e'; cases e'
theorem depth_item {xs : List D} : ∀ {n : Nat}, D.depthL xs ≤ n → PyData.depthAll (D.pyL xs) ≤ n ∨ D.pureL xs = false := by
  intro n h
  cases q : D.pureL xs with
  | false => exact .inr rfl
  | true => exact .inl (by rw [depth_pyL xs q]; exact h)
theorem inSeq (neg : Bool) {a b : D} {ys : List D} (hs : seqOf b = some ys) (hb : b.ok = true) : D.pureL ys = true ∧ ((∃ zs, b = .lst zs ∧ zs = ys) ∨ ∃ zs, b = .tup zs ∧ zs = ys) := by
  cases b with
  | lst zs =>
    cases hs
    exact ⟨by have := ok_pure hb; simpa [D.pure] using this, .inl ⟨ys, rfl, rfl⟩⟩
  | tup zs =>
    cases hs
    exact ⟨by have := ok_pure hb; simpa [D.pure] using this, .inr ⟨ys, rfl, rfl⟩⟩
  | _ => cases hs
theorem cIn (hu : X.A.units + 65 < cLine) : OpR X (compareOp .In) (rD2 X.K (cmpD .isin)) := by
  intro pins s σ H x y v u Q I rx ry h
  obtain ⟨cs, Z, mem, a, b, d, zn, ra, rb, e, q⟩ := h
  cases hs : seqOf b with
  | none =>
    have e' : cmpD .isin a b = some d := e
    unfold cmpD cmpV at e'
    rw [hs] at e'
    cases e'
  | some ys =>
    have e' : (if (a.ok && b.ok) = true then some (ys.any fun y => D.eqv y a) else none).map D.bl = some d := by
      have e2 : cmpD .isin a b = some d := e
      unfold cmpD cmpV at e2
      rw [hs] at e2
      exact e2
    by_cases hz : (a.ok && b.ok) = true
    · rw [if_pos hz] at e'
      cases e'
      obtain ⟨h1, h2⟩ := Bool.and_eq_true_iff.mp hz
      obtain ⟨hp, hk⟩ := inSeq (a := a) false hs h2
      have q' : Q (.bl ((D.pyL ys).any fun z => PyData.eqv z a.py)) H := by
        rw [← any_py a (ok_pure h1) ys hp]
        exact q _ _ (.of (by simp) rfl)
      obtain ⟨as, r1⟩ := Dp.reads I a.py x v (ra.dp (ok_pure h1)) rx
      obtain ⟨bs, r2⟩ := Dp.reads I b.py y u (rb.dp (ok_pure h2)) ry
      rcases hk with ⟨zs, rfl, rfl⟩ | ⟨zs, rfl, rfl⟩
      · exact SeqAt.in_list_reads r2 r1 (canLay_pyL _ hp) (canLay_py _ (ok_pure h1)) (room_in_shaped (ok_shaped h1) hu) ⟨.bl _, H, I, rfl, q'⟩
      · exact SeqAt.in_tuple_reads r2 r1 (canLay_pyL _ hp) (canLay_py _ (ok_pure h1)) (room_in_shaped (ok_shaped h1) hu) ⟨.bl _, H, I, rfl, q'⟩
    · rw [if_neg hz] at e'; cases e'
theorem cNotIn (hu : X.A.units + 65 < cLine) : OpR X (compareOp .NotIn) (rD2 X.K (cmpD .notin)) := by
  intro pins s σ H x y v u Q I rx ry h
  obtain ⟨cs, Z, mem, a, b, d, zn, ra, rb, e, q⟩ := h
  cases hs : seqOf b with
  | none =>
    have e' : cmpD .notin a b = some d := e
    unfold cmpD cmpV at e'
    rw [hs] at e'
    cases e'
  | some ys =>
    have e' : (if (a.ok && b.ok) = true then some (!ys.any fun y => D.eqv y a) else none).map D.bl = some d := by
      have e2 : cmpD .notin a b = some d := e
      unfold cmpD cmpV at e2
      rw [hs] at e2
      exact e2
    by_cases hz : (a.ok && b.ok) = true
    · rw [if_pos hz] at e'
      cases e'
      obtain ⟨h1, h2⟩ := Bool.and_eq_true_iff.mp hz
      obtain ⟨hp, hk⟩ := inSeq (a := a) false hs h2
      have q' : Q (.bl (!(D.pyL ys).any fun z => PyData.eqv z a.py)) H := by
        rw [← any_py a (ok_pure h1) ys hp]
        exact q _ _ (.of (by simp) rfl)
      obtain ⟨as, r1⟩ := Dp.reads I a.py x v (ra.dp (ok_pure h1)) rx
      obtain ⟨bs, r2⟩ := Dp.reads I b.py y u (rb.dp (ok_pure h2)) ry
      rcases hk with ⟨zs, rfl, rfl⟩ | ⟨zs, rfl, rfl⟩
      · exact SeqAt.notIn_list_reads r2 r1 (canLay_pyL _ hp) (canLay_py _ (ok_pure h1)) (room_in_shaped (ok_shaped h1) hu) ⟨.bl _, H, I, rfl, q'⟩
      · exact SeqAt.notIn_tuple_reads r2 r1 (canLay_pyL _ hp) (canLay_py _ (ok_pure h1)) (room_in_shaped (ok_shaped h1) hu) ⟨.bl _, H, I, rfl, q'⟩
    · rw [if_neg hz] at e'; cases e'
/-- whether a value is None -/
theorem repB_non {K : PySem.W.Frag} {cs : List Addr} {Z : Addr → Prop} {H : Hp} {a : D} {x : V} (h : RepB K cs Z H a x) : decide (x = .non) = isNon a := by
  cases a with
  | non => rw [show x = V.non from h]; rfl
  | bl _ => rw [show x = V.bl _ from h]; rfl
  | int _ => rw [show x = V.int _ from h]; rfl
  | str _ => rw [show x = V.str _ from h]; rfl
  | tup _ => obtain ⟨a, vs, rfl, _⟩ := h; rfl
  | lst _ => obtain ⟨a, vs, rfl, _⟩ := h; rfl
  | dct _ _ => exact h.elim
  | cell _ => obtain ⟨a, _, rfl⟩ := h; rfl
  | clo _ _ => exact h.elim
theorem cIsN : OpR X (compareOp .Is) (rD2 X.K (cmpD .isN)) := by
  intro pins s σ H x y v u Q I rx ry h
  obtain ⟨cs, Z, mem, a, b, d, zn, ra, rb, e, q⟩ := h
  cases b with
  | non =>
    cases e
    refine op_isN pins s σ H x y v u Q I rx ry ⟨rb, ?_⟩
    rw [repB_non ra]
    exact q _ _ (.of (by simp) rfl)
  | _ => cases e
theorem cNotN : OpR X (compareOp .IsNot) (rD2 X.K (cmpD .notN)) := by
  intro pins s σ H x y v u Q I rx ry h
  obtain ⟨cs, Z, mem, a, b, d, zn, ra, rb, e, q⟩ := h
  cases b with
  | non =>
    cases e
    refine op_notN pins s σ H x y v u Q I rx ry ⟨rb, ?_⟩
    rw [repB_non ra]
    refine q _ _ (.of (by simp) ?_)
    cases a <;> rfl
  | _ => cases e
theorem cOrd {op : CmpOp} {o : COp} {p : Int → Int → Bool} (hr : OpR X (compareOp op) (rI0 fun i j => .bl (p i j))) (ho : ∀ a b d, cmpD o a b = some d → ∃ i j, a = .int i ∧ b = .int j ∧ d = .bl (p i j)) : OpR X (compareOp op) (rD2 X.K (cmpD o)) := by
  intro pins s σ H x y v u Q I rx ry h
  obtain ⟨cs, Z, mem, a, b, d, zn, ra, rb, e, q⟩ := h
  obtain ⟨i, j, rfl, rfl, rfl⟩ := ho a b d e
  exact hr pins s σ H x y v u Q I rx ry ⟨i, j, ra.int, rb.int, q _ _ (.of (by simp) rfl)⟩
theorem cLt : OpR X (compareOp .Lt) (rD2 X.K (cmpD .lt)) := cOrd op_lt fun a b d e => by
  cases a <;> cases b <;> first | (cases e; exact ⟨_, _, rfl, rfl, rfl⟩) | cases e
theorem cLe : OpR X (compareOp .LtE) (rD2 X.K (cmpD .le)) := cOrd op_le fun a b d e => by
  cases a <;> cases b <;> first | (cases e; exact ⟨_, _, rfl, rfl, rfl⟩) | cases e
theorem cGt : OpR X (compareOp .Gt) (rD2 X.K (cmpD .gt)) := cOrd op_gt fun a b d e => by
  cases a <;> cases b <;> first | (cases e; exact ⟨_, _, rfl, rfl, rfl⟩) | cases e
theorem cGe : OpR X (compareOp .GtE) (rD2 X.K (cmpD .ge)) := cOrd op_ge fun a b d e => by
  cases a <;> cases b <;> first | (cases e; exact ⟨_, _, rfl, rfl, rfl⟩) | cases e
end
end Mp

/-! Mp5: built-in functions on values; subscripts, slices. -/
namespace Mp
open PySem PySem.Spec L2 PyProof.Rows
section
variable {K : PySem.W.Frag} {cs : List Addr} {Z : Addr → Prop} {H : Hp} {mem : Mem}
theorem repL_ints : ∀ {ds : List D} {vs : List V} {ns : List Int}, RepL K cs Z H ds vs → intsOf ds = some ns → vs = ns.map V.int
  | [], vs, ns, h, e => by cases e; exact h
  | d :: ds, vs, ns, h, e => by
    obtain ⟨v, r, rfl, h1, h2⟩ := h
    cases d with
    | int i =>
      have e' : (intsOf ds).map (i :: ·) = some ns := e
      cases q : intsOf ds with
      | none => rw [q] at e'; cases e'
      | some ms =>
        rw [q] at e'
        cases e'
        rw [show v = V.int i from h1, repL_ints h2 q]
        rfl
    | _ => cases e
theorem repL_bools : ∀ {ds : List D} {vs : List V} {ns : List Bool}, RepL K cs Z H ds vs → boolsOf ds = some ns → vs = ns.map V.bl
  | [], vs, ns, h, e => by cases e; exact h
  | d :: ds, vs, ns, h, e => by
    obtain ⟨v, r, rfl, h1, h2⟩ := h
    cases d with
    | bl i =>
      have e' : (boolsOf ds).map (i :: ·) = some ns := e
      cases q : boolsOf ds with
      | none => rw [q] at e'; cases e'
      | some ms =>
        rw [q] at e'
        cases e'
        rw [show v = V.bl i from h1, repL_bools h2 q]
        rfl
    | _ => cases e
theorem RepB.seq {a : D} {xs : List D} {x : V} (h : RepB K cs Z H a x) (e : seqOf a = some xs) : ∃ p vs, x = .ref p ∧ vs.length ≤ sizeLine ∧ RepL K cs Z H xs vs ∧ ((a = .lst xs ∧ LsF K (fun x => x ∈ cs) H p vs) ∨ (a = .tup xs ∧ SqT K H p vs)) := by
  cases a with
  | lst ys =>
    cases e
    obtain ⟨p, vs, e1, l, z, r⟩ := h.lst
    exact ⟨p, vs, e1, z, r, .inl ⟨rfl, l⟩⟩
  | tup ys =>
    cases e
    obtain ⟨p, vs, e1, l, z, r⟩ := h.tup
    exact ⟨p, vs, e1, z, r, .inr ⟨rfl, l⟩⟩
  | _ => cases e
end
section
variable {X : Cx}
theorem fLen : CallR X (.builtin "len") (rDn X.K (biV .len)) := by
  intro pins s σ H xs us Q I rs h
  obtain ⟨cs, Z, mem, as, d, zn, ra, e, q⟩ := h
  match as, e with
  | [a], e =>
    have e' : (seqOf a).map (fun xs => D.int xs.length) = some d := e
    cases hs : seqOf a with
    | none => rw [hs] at e'; cases e'
    | some ys =>
      rw [hs] at e'
      cases e'
      obtain ⟨x, rfl, r⟩ := ra.one
      obtain ⟨p, vs, rfl, z, rl, k⟩ := r.seq hs
      have q' : Q (.int (vs.length : Nat)) H := by rw [rl.length]; exact q _ _ (.of (by simp) rfl)
      refine call_len_seq pins s σ H _ us Q I rs ⟨p, vs, rfl, ?_, q'⟩
      rcases k with ⟨_, k⟩ | ⟨_, k⟩
      · exact .inl k.sq
      · exact .inr k
theorem fInt : CallR X (.type "int") (rDn X.K (biV .toint)) := by
  intro pins s σ H xs us Q I rs h
  obtain ⟨cs, Z, mem, as, d, zn, ra, e, q⟩ := h
  match as, e with
  | [.int i], e =>
    cases e
    obtain ⟨x, rfl, r⟩ := ra.one
    rw [r.int] at rs
    exact call_int1 pins s σ H _ us Q I rs (.inl ⟨i, rfl, q _ _ (.of (by simp) rfl)⟩)
  | [.bl k], e =>
    cases e
    obtain ⟨x, rfl, r⟩ := ra.one
    rw [r.bl] at rs
    exact call_int1 pins s σ H _ us Q I rs (.inr ⟨k, rfl, q _ _ (.of (by simp) rfl)⟩)
theorem fAbs : CallR X (.builtin "abs") (rDn X.K (biV .abs)) := by
  intro pins s σ H xs us Q I rs h
  obtain ⟨cs, Z, mem, as, d, zn, ra, e, q⟩ := h
  match as, e with
  | [.int i], e =>
    cases e
    obtain ⟨x, rfl, r⟩ := ra.one
    rw [r.int] at rs
    exact call_abs pins s σ H _ us Q I rs ⟨i, rfl, q _ _ (.of (by simp) rfl)⟩
theorem fMax2 (hc : X.calm = true) : CallR X (.builtin "max") (rDn X.K (biV .max2)) := by
  intro pins s σ H xs us Q I rs h
  obtain ⟨cs, Z, mem, as, d, zn, ra, e, q⟩ := h
  match as, e with
  | [.int i, .int j], e =>
    cases e
    obtain ⟨x, y, rfl, r1, r2⟩ := ra.two
    rw [r1.int, r2.int] at rs
    exact call_max2 hc pins s σ H _ us Q I rs ⟨i, j, rfl, q _ _ (.of (by simp) rfl)⟩
theorem fMin2 (hc : X.calm = true) : CallR X (.builtin "min") (rDn X.K (biV .min2)) := by
  intro pins s σ H xs us Q I rs h
  obtain ⟨cs, Z, mem, as, d, zn, ra, e, q⟩ := h
  match as, e with
  | [.int i, .int j], e =>
    cases e
    obtain ⟨x, y, rfl, r1, r2⟩ := ra.two
    rw [r1.int, r2.int] at rs
    exact call_min2 hc pins s σ H _ us Q I rs ⟨i, j, rfl, q _ _ (.of (by simp) rfl)⟩
theorem sumTup {prog : Program} {w : World} {A : Around} {E : Value → Shared → Prop} {s : Shared} {t : Addr} {its : List Value} {ns : List Int} {Q : Value → Shared → Prop} (hh : A.handled = none) (ht : s.heap.IsTuple t its.toArray) (hi : IntsAre its ns)
    (h : ∀ h' tk t', (∀ b o, s.heap.get? b = some o → h'.get? b = some o) → Q (.int ns.sum t') { s with heap := h', toks := tk }) : wpAny (model prog w) A (call (.builtin "sum") [.ref t]) Q E s := by
  obtain ⟨xs, e⟩ := hi.allInts.items
  have hn : numsOf (intItems xs).toList = ns := by rw [← e]; exact hi.numsOf
  rw [nums_intItems] at hn
  rw [e] at ht
  refine PySem.W.ktm_sumG hh ht fun h' tk t' hk => ?_
  have z := h h' tk t' hk
  rw [preSum_eq, List.take_of_length_le (by simp), hn]
  exact z
theorem fSum (hc : X.calm = true) : CallR X (.builtin "sum") (rDn X.K (biV .sum)) := by
  intro pins s σ H xs us Q I rs h
  obtain ⟨cs, Z, mem, as, d, zn, ra, e, q⟩ := h
  match as, e with
  | [a], e =>
    have e' : ((seqOf a).bind fun xs => (intsOf xs).map fun ns => D.int ns.sum) = some d := e
    cases hs : seqOf a with
    | none => rw [hs] at e'; cases e'
    | some ys =>
      rw [hs] at e'
      have e2 : ((intsOf ys).map fun ns => D.int ns.sum) = some d := e'
      cases hn : intsOf ys with
      | none => rw [hn] at e2; cases e2
      | some ns =>
        rw [hn] at e2
        cases e2
        obtain ⟨x, rfl, r⟩ := ra.one
        obtain ⟨p, vs, rfl, z, rl, k⟩ := r.seq hs
        have ev := repL_ints rl hn
        subst ev
        rcases k with ⟨_, k⟩ | ⟨_, k⟩
        · exact cr_sum hc pins s σ H _ us Q I rs ⟨p, ns, rfl, k.sq, q _ _ (.of (by simp) rfl)⟩
        · obtain ⟨its, rv, ht, _⟩ := I.tuple k
          rw [Vals.ref1 rs]
          exact sumTup (I.ok.hd hc) (show s.heap.IsTuple p its.toArray from ht) rv.ints fun h' tk t' hk => ⟨.int _, H, I.kept hk, ⟨_, rfl⟩, q _ _ (.of (by simp) rfl)⟩
theorem fAny (hc : X.calm = true) : CallR X (.builtin "any") (rDn X.K (biV .any)) := by
  intro pins s σ H xs us Q I rs h
  obtain ⟨cs, Z, mem, as, d, zn, ra, e, q⟩ := h
  match as, e with
  | [.lst ys], e =>
    have e2 : ((boolsOf ys).map fun ns => D.bl (ns.any id)) = some d := e
    cases hn : boolsOf ys with
    | none => rw [hn] at e2; cases e2
    | some ns =>
      rw [hn] at e2
      cases e2
      obtain ⟨x, rfl, r⟩ := ra.one
      obtain ⟨p, vs, rfl, l, z, rl⟩ := r.lst
      have ev := repL_bools rl hn
      subst ev
      exact cr_any hc pins s σ H _ us Q I rs ⟨p, ns, rfl, l.sq, q _ _ (.of (by simp) rfl)⟩
theorem fAll (hc : X.calm = true) : CallR X (.builtin "all") (rDn X.K (biV .all)) := by
  intro pins s σ H xs us Q I rs h
  obtain ⟨cs, Z, mem, as, d, zn, ra, e, q⟩ := h
  match as, e with
  | [.lst ys], e =>
    have e2 : ((boolsOf ys).map fun ns => D.bl (ns.all id)) = some d := e
    cases hn : boolsOf ys with
    | none => rw [hn] at e2; cases e2
    | some ns =>
      rw [hn] at e2
      cases e2
      obtain ⟨x, rfl, r⟩ := ra.one
      obtain ⟨p, vs, rfl, l, z, rl⟩ := r.lst
      have ev := repL_bools rl hn
      subst ev
      exact cr_all hc pins s σ H _ us Q I rs ⟨p, ns, rfl, l.sq, q _ _ (.of (by simp) rfl)⟩
theorem fTup : CallR X (.type "tuple") (rDn X.K (biV .totup)) := by
  intro pins s σ H xs us Q I rs h
  obtain ⟨cs, Z, mem, as, d, zn, ra, e, q⟩ := h
  match as, e with
  | [.lst ys], e =>
    cases e
    obtain ⟨x, rfl, r⟩ := ra.one
    obtain ⟨p, vs, rfl, l, z, rl⟩ := r.lst
    exact call_tuple_of pins s σ H _ us Q I rs ⟨p, vs, rfl, .inl ⟨l.sq, fun l hl => q _ _ (.tup zn hl z rl)⟩⟩
  | [.tup ys], e =>
    cases e
    obtain ⟨x, rfl, r⟩ := ra.one
    obtain ⟨p, vs, rfl, l, z, rl⟩ := r.tup
    exact call_tuple_of pins s σ H _ us Q I rs ⟨p, vs, rfl, .inr ⟨l, q _ _ (.of (by simp) ⟨p, vs, rfl, l, z, rl⟩)⟩⟩
theorem fLst : CallR X (.type "list") (rDn X.K (biV .tolst)) := by
  intro pins s σ H xs us Q I rs h
  obtain ⟨cs, Z, mem, as, d, zn, ra, e, q⟩ := h
  match as, e with
  | [a], e =>
    have e' : (seqOf a).map D.lst = some d := e
    cases hs : seqOf a with
    | none => rw [hs] at e'; cases e'
    | some ys =>
      rw [hs] at e'
      cases e'
      obtain ⟨x, rfl, r⟩ := ra.one
      obtain ⟨p, vs, rfl, z, rl, k⟩ := r.seq hs
      refine call_list_of pins s σ H _ us Q I rs ⟨p, vs, rfl, ?_, fun l hl => q _ _ (.lst hl z rl)⟩
      rcases k with ⟨_, k⟩ | ⟨_, k⟩
      · exact .inl k.sq
      · exact .inr k
theorem fComb : CallR X (.builtin "math.comb") (rDn X.K (biV .comb)) := by
  intro pins s σ H xs us Q I rs h
  obtain ⟨cs, Z, mem, as, d, zn, ra, e, q⟩ := h
  match as, e with
  | [.int n, .int k], e =>
    have e' : (if 0 ≤ n ∧ 0 ≤ k ∧ n < 2 ^ 64 ∧ k ≤ 9000 then some (D.int (PySem.W.mcComb n k)) else none) = some d := e
    by_cases hz : 0 ≤ n ∧ 0 ≤ k ∧ n < 2 ^ 64 ∧ k ≤ 9000
    · rw [if_pos hz] at e'
      cases e'
      obtain ⟨x, y, rfl, r1, r2⟩ := ra.two
      rw [r1.int, r2.int] at rs
      obtain ⟨t, u, rfl⟩ := Vals.int2 rs
      exact PySem.W.mc_comb hz.1 hz.2.1 hz.2.2.1 (.inl hz.2.2.2) fun _ => ⟨.int _, H, I.tok _, ⟨_, rfl⟩, q _ _ (.of (by simp) rfl)⟩
    · rw [if_neg hz] at e'; cases e'
theorem fGcd : CallR X (.builtin "math.gcd") (rDn X.K (biV .gcd)) := by
  intro pins s σ H xs us Q I rs h
  obtain ⟨cs, Z, mem, as, d, zn, ra, e, q⟩ := h
  match as, e with
  | [.int n, .int k], e =>
    cases e
    obtain ⟨x, y, rfl, r1, r2⟩ := ra.two
    rw [r1.int, r2.int] at rs
    exact cr_gcd pins s σ H _ us Q I rs ⟨n, k, rfl, q _ _ (.of (by simp) rfl)⟩
/-! ### subscripts, slices -/
def rIxD (K : PySem.W.Frag) : R2 := fun x y H Q => ∃ cs Z mem a b d, Zone cs Z H mem K ∧ RepB K cs Z H a x ∧ RepB K cs Z H b y ∧ idxV mem a b = some d ∧ ∀ v, Rep K cs Z H d v → Q v H
theorem repL_at {K : PySem.W.Frag} {cs : List Addr} {Z : Addr → Prop} {H : Hp} {xs : List D} {vs : List V} {i : Int} {d : D} (r : RepL K cs Z H xs vs) (e : atI xs i = some d) : ∃ w, atI vs i = some w ∧ Rep K cs Z H d w := by
  unfold atI at e ⊢
  rw [r.length]
  cases hj : ixN xs.length i with
  | none => rw [hj] at e; cases e
  | some j =>
    rw [hj] at e
    exact r.get e
theorem ixD : IxR X (rIxD X.K) := by
  intro value slice pins s σ H x y v u Q I rx ry h hs
  obtain ⟨cs, Z, mem, a, b, d, zn, ra, rb, e, q⟩ := h
  cases b with
  | int i =>
    have ey := rb.int
    cases a with
    | lst xs =>
      have e' : atI xs i = some d := e
      obtain ⟨p, vs, rfl, l, z, r⟩ := ra.lst
      obtain ⟨w, h1, h2⟩ := repL_at r e'
      exact ix_list value slice pins s σ H _ y v u Q I rx ry ⟨p, vs, i, w, rfl, ey, l.sq, h1, q w h2⟩ hs
    | tup xs =>
      have e' : atI xs i = some d := e
      obtain ⟨p, vs, rfl, l, z, r⟩ := ra.tup
      obtain ⟨w, h1, h2⟩ := repL_at r e'
      exact ix_tup value slice pins s σ H _ y v u Q I rx ry ⟨p, vs, i, w, rfl, ey, l, h1, q w h2⟩ hs
    | cell n =>
      obtain ⟨p, hp, rfl⟩ := (show ∃ p, cs[n]? = some p ∧ x = .ref p from ra)
      cases hm : mem[n]? with
      | none =>
        have e' : (match mem[n]? with | some (.lst xs) => atI xs i | _ => none) = some d := e
        rw [hm] at e'; cases e'
      | some m =>
        obtain ⟨ds, vs, rfl, h3, r⟩ := zn.mem.at_ n p m hp hm
        have e' : (match mem[n]? with | some (.lst xs) => atI xs i | _ => none) = some d := e
        rw [hm] at e'
        obtain ⟨w, h1, h2⟩ := repL_at r e'
        exact ix_list value slice pins s σ H _ y v u Q I rx ry ⟨p, vs, i, w, rfl, ey, SqL.of h3, h1, q w h2⟩ hs
    | _ => cases e
  | _ => cases a <;> cases e
def rSlD (K : PySem.W.Frag) : V → Option Int → Option Int → Hp → VK → Prop := fun x lo hi H Q => ∃ cs Z mem a d, Zone cs Z H mem K ∧ RepB K cs Z H a x ∧
  slV a lo hi = some d ∧ ∀ v H', NewR K cs Z H d v H' → Q v H'
theorem cut_rep {K : PySem.W.Frag} {cs : List Addr} {Z : Addr → Prop} {H : Hp} {xs : List D} {vs : List V} (r : RepL K cs Z H xs vs) (lo hi : Option Int) : RepL K cs Z H (cut xs lo hi) (cutV vs lo hi) := by
  unfold cut cutV
  rw [r.length]
  exact (r.drop _).take _
theorem slD : SlR X (rSlD X.K) := by
  intro pins s σ H x v vl vu lo hi sl Q I rx hs pl pu h
  obtain ⟨cs, Z, mem, a, d, zn, ra, e, q⟩ := h
  cases a with
  | tup xs =>
    cases e
    obtain ⟨p, vs, rfl, l, z, r⟩ := ra.tup
    refine sl_tupA pins s σ H _ v vl vu lo hi sl Q I rx hs pl pu ⟨p, vs, rfl, l, fun hw => ?_, fun hw p2 hp => q _ _ (.tup zn hp (Nat.le_trans (cutV_length vs lo hi) z) (cut_rep r lo hi))⟩
    have ec : cut xs lo hi = xs := by
      unfold cut
      rw [← r.length, hw.1, hw.2, List.drop_zero, Nat.sub_zero]
      exact List.take_of_length_le (by rw [r.length]; exact Nat.le_refl _)
    rw [ec] at q
    exact q _ _ (.of (by simp) ⟨p, vs, rfl, l, z, r⟩)
  | lst xs =>
    cases e
    obtain ⟨p, vs, rfl, l, z, r⟩ := ra.lst
    exact sl_list pins s σ H _ v vl vu lo hi sl Q I rx hs pl pu ⟨p, vs, rfl, l.sq, fun p2 hp => q _ _ (.lst hp (Nat.le_trans (cutV_length vs lo hi) z) (cut_rep r lo hi))⟩
  | _ => cases e
/-! ### greatest and least of ints -/
theorem foldmax : ∀ (ns : List Int) (n m : Int), m ∈ n :: ns → (∀ y ∈ n :: ns, y ≤ m) → m = ns.foldl max n
  | [], n, m, h, _ => by simpa using h
  | k :: ns, n, m, h, hm => by
    rw [List.foldl_cons]
    refine foldmax ns (max n k) m ?_ fun y hy => ?_
    · have h1 := hm n List.mem_cons_self
      have h2 := hm k (List.mem_cons_of_mem _ List.mem_cons_self)
      rcases List.mem_cons.mp h with rfl | h
      · exact List.mem_cons.mpr (.inl (by omega))
      · rcases List.mem_cons.mp h with rfl | h
        · exact List.mem_cons.mpr (.inl (by omega))
        · exact List.mem_cons_of_mem _ h
    · rcases List.mem_cons.mp hy with rfl | hy
      · have h1 := hm n List.mem_cons_self
        have h2 := hm k (List.mem_cons_of_mem _ List.mem_cons_self)
        omega
      · exact hm y (List.mem_cons_of_mem _ (List.mem_cons_of_mem _ hy))
theorem foldmin : ∀ (ns : List Int) (n m : Int), m ∈ n :: ns → (∀ y ∈ n :: ns, m ≤ y) → m = ns.foldl min n
  | [], n, m, h, _ => by simpa using h
  | k :: ns, n, m, h, hm => by
    rw [List.foldl_cons]
    refine foldmin ns (min n k) m ?_ fun y hy => ?_
    · have h1 := hm n List.mem_cons_self
      have h2 := hm k (List.mem_cons_of_mem _ List.mem_cons_self)
      rcases List.mem_cons.mp h with rfl | h
      · exact List.mem_cons.mpr (.inl (by omega))
      · rcases List.mem_cons.mp h with rfl | h
        · exact List.mem_cons.mpr (.inl (by omega))
        · exact List.mem_cons_of_mem _ h
    · rcases List.mem_cons.mp hy with rfl | hy
      · have h1 := hm n List.mem_cons_self
        have h2 := hm k (List.mem_cons_of_mem _ List.mem_cons_self)
        omega
      · exact hm y (List.mem_cons_of_mem _ (List.mem_cons_of_mem _ hy))
theorem fMaxl (hc : X.calm = true) : CallR X (.builtin "max") (rDn X.K (biV .maxl)) := by
  intro pins s σ H xs us Q I rs h
  obtain ⟨cs, Z, mem, as, d, zn, ra, e, q⟩ := h
  match as, e with
  | [.lst ys], e =>
    have e' : (match intsOf ys with | some (n :: ns) => some (D.int (ns.foldl max n)) | _ => none) = some d := e
    cases hn : intsOf ys with
    | none => rw [hn] at e'; cases e'
    | some ms =>
      rw [hn] at e'
      cases ms with
      | nil => cases e'
      | cons n ns =>
        cases e'
        obtain ⟨x, rfl, r⟩ := ra.one
        obtain ⟨p, vs, rfl, l, z, rl⟩ := r.lst
        have ev := repL_ints rl hn
        subst ev
        exact cr_max hc pins s σ H _ us Q I rs ⟨p, n :: ns, rfl, l.sq, Nat.succ_pos _, fun m h1 h2 => by rw [foldmax ns n m h1 h2]; exact q _ _ (.of (by simp) rfl)⟩
theorem fMinl (hc : X.calm = true) : CallR X (.builtin "min") (rDn X.K (biV .minl)) := by
  intro pins s σ H xs us Q I rs h
  obtain ⟨cs, Z, mem, as, d, zn, ra, e, q⟩ := h
  match as, e with
  | [.lst ys], e =>
    have e' : (match intsOf ys with | some (n :: ns) => some (D.int (ns.foldl min n)) | _ => none) = some d := e
    cases hn : intsOf ys with
    | none => rw [hn] at e'; cases e'
    | some ms =>
      rw [hn] at e'
      cases ms with
      | nil => cases e'
      | cons n ns =>
        cases e'
        obtain ⟨x, rfl, r⟩ := ra.one
        obtain ⟨p, vs, rfl, l, z, rl⟩ := r.lst
        have ev := repL_ints rl hn
        subst ev
        exact cr_min hc pins s σ H _ us Q I rs ⟨p, n :: ns, rfl, l.sq, Nat.succ_pos _, fun m h1 h2 => by rw [foldmin ns n m h1 h2]; exact q _ _ (.of (by simp) rfl)⟩
end
end Mp

/-! Mp6: each expression of the text has the evaluator's reading. -/
namespace Mp
open PySem PySem.Spec L2
/-- an argument list's reading, by the evaluator -/
def tLX (P : PySem.W.Frag → List Addr → (Addr → Prop) → Hp → List D → List V → Prop) (c : Cc) (es : List E) : TA := fun σ H Q => ∃ g r m, Sim c.K g H σ r m ∧
  (evL c.call es r m).post (fun ds m' => ∀ vs H', Adv g.cs H H' → MemOk c.K g.cs g.Z H' m' → P c.K g.cs g.Z H' ds vs → Q vs H') (erP c g H)
abbrev tLE := tLX RepL
abbrev tLB := tLX RepBL
/-- a test's reading -/
def tT (c : Cc) (e : E) : TT := fun σ H Q => ∃ g r m, Sim c.K g H σ r m ∧ (evE c.call e r m).post (fun d m' => ∃ b, d = .bl b ∧ ∀ H', Adv g.cs H H' → MemOk c.K g.cs g.Z H' m' → Q b H') (erP c g H)
theorem lift_post {A : Type} {o : Option A} {m : Mem} {P : A → Mem → Prop} {Er : Nat → D → Mem → Prop} (h : (lift o m).post P Er) : ∃ a, o = some a ∧ P a m := by
  cases o with
  | none => exact h.elim
  | some a => exact ⟨a, rfl, h⟩
theorem Sim.zone {K : PySem.W.Frag} {g : Gh} {H : Hp} {σ : St} {r : Env} {m : Mem} (S : Sim K g H σ r m) : Zone g.cs g.Z H m K := ⟨S.zin, S.mem⟩
theorem NewR.f {c : Cc} {g : Gh} {H H2 H' : Hp} {d : D} {v : V} {m : Mem} (n : NewR c.K g.cs g.Z H2 d v H') (a : Adv g.cs H H2) (M : MemOk c.K g.cs g.Z H2 m) : PFx c g H d v H' m := by
  cases d with
  | lst ds =>
    obtain ⟨p, vs, h1, h2, h3, h4, h5⟩ := n
    exact ⟨H2, p, vs, a, M, h1, h2, h3, h4, h5⟩
  | _ =>
    obtain ⟨k, r⟩ := n
    exact ⟨a.trans (.same k), M.keep k, r⟩
section
variable {c : Cc} {ma mb : E} {σ : St} {H : Hp} {g : Gh} {r : Env} {m : Mem} {B : Type} {G : B → Mem → Prop}
/-- one operand -/
theorem one_run {f : D → Mem → R B} (S : Sim c.K g H σ r m) (h : ((evE c.call ma r m).bind f).post G (erP c g H)) {R : V → Hp → Prop}
    (k : ∀ dx m1 vx H1, Adv g.cs H H1 → Sim c.K g H1 σ r m1 → RepB c.K g.cs g.Z H1 dx vx → (f dx m1).post G (erP c g H) → R vx H1) : tB c ma σ H R :=
  ⟨g, r, m, S, post_mono (post_bind.mp h) (fun dx m1 q vx H1 ⟨a, M, rp⟩ => k dx m1 vx H1 a (S.adv a M) rp q) fun _ _ _ z => z⟩
/-- two operands -/
theorem two_run {f : D → D → Mem → R B} (S : Sim c.K g H σ r m) (h : ((evE c.call ma r m).bind fun x m => (evE c.call mb r m).bind fun y m => f x y m).post G (erP c g H)) {R : V → V → Hp → Prop}
    (k : ∀ dx dy m2 vx vy H2, Adv g.cs H H2 → Sim c.K g H2 σ r m2 → RepB c.K g.cs g.Z H2 dx vx → RepB c.K g.cs g.Z H2 dy vy → (f dx dy m2).post G (erP c g H) → R vx vy H2) :
    tB c ma σ H fun x H1 => tB c mb σ H1 fun y H2 => R x y H2 :=
  one_run S h fun dx m1 vx H1 a1 S1 rx q => ⟨g, r, m1, S1, post_mono (post_bind.mp q) (fun dy m2 q2 vy H2 ⟨a2, M2, ry⟩ => k dx dy m2 vx vy H2 (a1.trans a2) (S1.adv a2 M2) (S1.mem.stepB a2 rx) ry q2) (erP_adv a1)⟩
end
/-- the context as the readings take it -/
abbrev cc (X : Cx) (call : Nat → List D → Mem → R D) (Xr : Nat → D → Hp → Value → Option Addr → Prop) (Er : XK) : Cc := ⟨X.K, call, Xr, Er⟩
section
variable {X : Cx} {call : Nat → List D → Mem → R D} {Xr : Nat → D → Hp → Value → Option Addr → Prop} {Er : XK} {pos : Pos} {e e1 e2 e3 : Expr} {m1 m2 m3 : E}
theorem be_var {i : Nat} {x : Str} (hN : X.N[i]? = some x) (hv : Vis X.env.scope x) (hd : (x == ("__debug__" : Str)) = false) (hcd : (x == ("__classdict__" : Str)) = false) : PE X (.Name x pos) (tE (cc X call Xr Er) (.var i)) :=
  pe_imp (pe_var hN hv hd hcd) fun σ H Q ⟨g, r, m, S, h⟩ => by
    obtain ⟨d, e, q⟩ := lift_post h
    have e' : (match r[i]? with | some (some (false, d)) => some d | _ => none) = some d := e
    cases hr : r[i]? with
    | none => rw [hr] at e'; cases e'
    | some sl =>
      rw [hr] at e'
      match sl, e' with
      | some (false, d'), e' =>
        cases e'
        obtain ⟨v, h1, h2⟩ := S.val i d hr
        exact ⟨v, h1, q v H ⟨.refl _ _, S.mem, h2⟩⟩
theorem bb_bor {i : Nat} {x : Str} (hN : X.N[i]? = some x) (hv : Vis X.env.scope x) (hd : (x == ("__debug__" : Str)) = false) (hcd : (x == ("__classdict__" : Str)) = false) : PE X (.Name x pos) (tB (cc X call Xr Er) (.bor i)) :=
  pe_imp (pe_var hN hv hd hcd) fun σ H Q ⟨g, r, m, S, h⟩ => by
    obtain ⟨d, e, q⟩ := lift_post h
    have e' : (match r[i]? with | some (some (_, d)) => some d | _ => none) = some d := e
    cases hr : r[i]? with
    | none => rw [hr] at e'; cases e'
    | some sl =>
      rw [hr] at e'
      match sl, e' with
      | some (false, d'), e' =>
        cases e'
        obtain ⟨v, h1, h2⟩ := S.val i d hr
        exact ⟨v, h1, q v H ⟨.refl _ _, S.mem, h2.b S.mem.cz⟩⟩
      | some (true, d'), e' =>
        cases e'
        obtain ⟨a, h1, h2, h3, h4, h5⟩ := S.own i d hr
        refine ⟨.ref a, h1, q _ H ⟨.refl _ _, S.mem, ?_⟩⟩
        cases d with
        | lst ds =>
          obtain ⟨vs, k1, k2, k3⟩ := h5
          exact ⟨a, vs, rfl, .inl ⟨k1, h3⟩, k2, k3⟩
        | _ => exact h5.elim
theorem be_lit {d : D} {v : V} (h : PE X e (tC v)) (hr : ∀ cs Z H, Rep X.K cs Z H d v) : PE X e (tE (cc X call Xr Er) (.lit d)) :=
  pe_imp h fun σ H Q ⟨g, r, m, S, q⟩ => q v H ⟨.refl _ _, S.mem, hr _ _ _⟩
theorem be_int {i : Int} {j : Nat} : PE X (.Constant (.int i) j pos) (tE (cc X call Xr Er) (.lit (.int i))) := be_lit pe_int fun _ _ _ => rfl
theorem be_bl {b : Bool} {j : Nat} : PE X (.Constant (.bool b) j pos) (tE (cc X call Xr Er) (.lit (.bl b))) := be_lit pe_bl fun _ _ _ => rfl
theorem be_non {j : Nat} : PE X (.Constant .none j pos) (tE (cc X call Xr Er) (.lit .non)) := be_lit pe_non fun _ _ _ => rfl
theorem be_str {x : Str} {j : Nat} : PE X (.Constant (.str x) j pos) (tE (cc X call Xr Er) (.lit (.str x))) := be_lit pe_str fun _ _ _ => rfl
theorem be_glob {x : Str} {i : Int} {t : Tok} (hg : Gl X x) (hm : X.mg x = some (.int i t)) (hd : (x == ("__debug__" : Str)) = false) : PE X (.Name x pos) (tE (cc X call Xr Er) (.lit (.int i))) :=
  be_lit (pe_glob hg hm (v := .int i) ⟨t, rfl⟩ hd) fun _ _ _ => rfl

/-! ### argument lists, displays -/
theorem bl_nil : PA X [] (tLE (cc X call Xr Er) []) := pa_imp pa_nil fun σ H Q ⟨g, r, m, S, q⟩ => q [] H (.refl _ _) S.mem rfl
theorem bl_cons {es : List Expr} {ms : List E} (ha : PE X e (tE (cc X call Xr Er) m1)) (hr : PA X es (tLE (cc X call Xr Er) ms)) (hs : starEach (e :: es) X.env = (false, eval e X.env) :: starEach es X.env) : PA X (e :: es) (tLE (cc X call Xr Er) (m1 :: ms)) :=
  pa_imp (pa_cons ha hr hs) fun σ H Q ⟨g, r, m, S, q⟩ =>
    ⟨g, r, m, S, post_mono (post_bind.mp q) (fun d m' q1 v H1 ⟨a1, M1, rp⟩ => ⟨g, r, m', S.adv a1 M1, post_mono (post_bind.mp q1) (fun ds m2 q2 vs H2 a2 M2 rs =>
      q2 (v :: vs) H2 (a1.trans a2) M2 ⟨v, vs, rfl, Rep.step ((S.adv a1 M1).mem.stp a2) d v rp, rs⟩) (erP_adv a1)⟩) fun _ _ _ z => z⟩
theorem bn_nil : PA X [] (tLB (cc X call Xr Er) []) := pa_imp pa_nil fun σ H Q ⟨g, r, m, S, q⟩ => q [] H (.refl _ _) S.mem rfl
theorem bn_cons {es : List Expr} {ms : List E} (ha : PE X e (tB (cc X call Xr Er) m1)) (hr : PA X es (tLB (cc X call Xr Er) ms)) (hs : starEach (e :: es) X.env = (false, eval e X.env) :: starEach es X.env) : PA X (e :: es) (tLB (cc X call Xr Er) (m1 :: ms)) :=
  pa_imp (pa_cons ha hr hs) fun σ H Q ⟨g, r, m, S, q⟩ =>
    ⟨g, r, m, S, post_mono (post_bind.mp q) (fun d m' q1 v H1 ⟨a1, M1, rp⟩ => ⟨g, r, m', S.adv a1 M1, post_mono (post_bind.mp q1) (fun ds m2 q2 vs H2 a2 M2 rs =>
      q2 (v :: vs) H2 (a1.trans a2) M2 ⟨v, vs, rfl, (S.adv a1 M1).mem.stepB a2 rp, rs⟩) (erP_adv a1)⟩) fun _ _ _ z => z⟩
theorem evL_len {r : Env} : ∀ {ms : List E} {m : Mem} {P : List D → Mem → Prop} {Er : Nat → D → Mem → Prop}, (evL call ms r m).post P Er → (evL call ms r m).post (fun ds m' => ds.length = ms.length ∧ P ds m') Er
  | [], m, P, Er, h => ⟨rfl, h⟩
  | x :: ms, m, P, Er, h => by
    rw [evL] at h ⊢
    rw [post_bind] at h ⊢
    refine post_mono h (fun d m1 q => ?_) fun _ _ _ z => z
    rw [post_bind] at q ⊢
    exact post_mono (evL_len q) (fun ds m2 ⟨l, q2⟩ => ⟨by rw [List.length_cons, List.length_cons, l], q2⟩) fun _ _ _ z => z
theorem be_tup {es : List Expr} {ms : List E} {k : Nat} (h : PA X es (tLE (cc X call Xr Er) ms)) (hl : ms.length ≤ 1000) : PE X (.Tuple es k pos) (tE (cc X call Xr Er) (.tup ms)) :=
  pe_imp (pe_tup h) fun σ H Q ⟨g, r, m, S, q⟩ => ⟨g, r, m, S, post_mono (evL_len (post_bind.mp q)) (fun ds m' ⟨l, q1⟩ vs H' a M rs => by
    have hv : vs.length ≤ sizeLine := by rw [rs.length, l, sizeLine_eq]; omega
    refine ⟨hv, fun p hp => q1 _ _ ?_⟩
    obtain ⟨k, rp⟩ := NewR.tup ⟨(S.adv a M).zin, M⟩ hp hv rs
    exact ⟨a.trans (.same k), M.keep k, rp⟩) fun _ _ _ z => z⟩
theorem bf_lst {es : List Expr} {ms : List E} (h : PA X es (tLE (cc X call Xr Er) ms)) (hl : ms.length ≤ 1000) : PE X (.List es pos) (tF (cc X call Xr Er) (.lst ms)) :=
  pe_imp (pe_lst h) fun σ H Q ⟨g, r, m, S, q⟩ => ⟨g, r, m, S, post_mono (evL_len (post_bind.mp q)) (fun ds m' ⟨l, q1⟩ vs H' a M rs => by
    have hv : vs.length ≤ sizeLine := by rw [rs.length, l, sizeLine_eq]; omega
    exact ⟨hv, fun p hp => q1 _ _ ⟨H', p, vs, a, M, hp, rfl, rfl, hv, rs⟩⟩) fun _ _ _ z => z⟩

/-! ### operators -/
theorem bf_bin {o : BOp} {op : Operator} (ho : OpR X (binaryOp op) (rD2 X.K (binV o))) (ha : PE X e1 (tB (cc X call Xr Er) m1)) (hb : PE X e2 (tB (cc X call Xr Er) m2)) : PE X (.BinOp e1 op e2 pos) (tF (cc X call Xr Er) (.bin o m1 m2)) :=
  pe_imp (pe_op ho ha hb) fun σ H Q ⟨g, r, m, S, q⟩ => two_run S q fun dx dy m2 vx vy H2 a S2 rx ry q2 => by
    obtain ⟨d, e, q3⟩ := lift_post q2
    exact ⟨g.cs, g.Z, m2, dx, dy, d, S2.zone, rx, ry, e, fun v H' n => q3 v H' (n.f a S2.mem)⟩
theorem be_neg (ha : PE X e1 (tB (cc X call Xr Er) m1)) : PE X (.UnaryOp .USub e1 pos) (tE (cc X call Xr Er) (.neg m1)) :=
  pe_imp (pe_un un_neg ha) fun σ H Q ⟨g, r, m, S, q⟩ => one_run S q fun dx m2 vx H1 a S1 rx q2 => by
    cases dx with
    | int i => exact ⟨i, rx, q2 _ _ ⟨a, S1.mem, rfl⟩⟩
    | _ => exact q2.elim
theorem map_bl {o : Option Bool} {d : D} (h : o.map D.bl = some d) : ∃ b, o = some b ∧ d = .bl b := by
  cases o with
  | none => cases h
  | some b => exact ⟨b, rfl, (Option.some.inj h).symm⟩
theorem be_cmp {o : COp} {op : CmpOp} (ho : OpR X (compareOp op) (rD2 X.K (cmpD o))) (ha : PE X e1 (tB (cc X call Xr Er) m1)) (hb : PE X e2 (tB (cc X call Xr Er) m2)) (hm : behindInMarks op e2 = false) : PE X (.Compare e1 [op] [e2] pos) (tE (cc X call Xr Er) (.cmp o m1 m2)) :=
  pe_imp (pe_cmpR ho ha hb hm) fun σ H Q ⟨g, r, m, S, q⟩ => two_run S q fun dx dy m2 vx vy H2 a S2 rx ry q2 => by
    obtain ⟨d, e, q3⟩ := lift_post q2
    obtain ⟨b, _, rfl⟩ := map_bl e
    exact ⟨g.cs, g.Z, m2, dx, dy, _, S2.zone, rx, ry, e, fun v H' n => q3 v H' ((n.f (c := (cc X call Xr Er)) a S2.mem).e S.zin)⟩
theorem bt_cmp {o : COp} {op : CmpOp} (ho : OpR X (compareOp op) (rD2 X.K (cmpD o))) (ha : PE X e1 (tB (cc X call Xr Er) m1)) (hb : PE X e2 (tB (cc X call Xr Er) m2)) (hm : behindInMarks op e2 = false) : PT X (.Compare e1 [op] [e2] pos) (tT (cc X call Xr Er) (.cmp o m1 m2)) :=
  pt_imp (pt_cmpR ho ha hb hm) fun σ H Q ⟨g, r, m, S, q⟩ => two_run S q fun dx dy m2 vx vy H2 a S2 rx ry q2 => by
    obtain ⟨d, e, b, rfl, q3⟩ := lift_post q2
    refine ⟨g.cs, g.Z, m2, dx, dy, _, S2.zone, rx, ry, e, fun v H' n => ?_⟩
    obtain ⟨k, rp⟩ := (show (∀ a o, H2 a = some o → H' a = some o) ∧ v = .bl b from n)
    exact ⟨b, rp, q3 H' (a.trans (.same k)) (S2.mem.keep k)⟩
theorem be_chn {o o' : COp} {op op' : CmpOp} (ho : OpR X (compareOp op) (rD2 X.K (cmpD o))) (ho' : OpR X (compareOp op') (rD2 X.K (cmpD o'))) (ha : PE X e1 (tB (cc X call Xr Er) m1)) (hb : PE X e2 (tB (cc X call Xr Er) m2)) (hc : PE X e3 (tB (cc X call Xr Er) m3))
    (hm : lastMarks [op, op'] [e2, e3] = false) : PE X (.Compare e1 [op, op'] [e2, e3] pos) (tE (cc X call Xr Er) (.chn o o' m1 m2 m3)) :=
  pe_imp (pe_chain ho ho' ha hb hc hm) fun σ H Q ⟨g, r, m, S, q⟩ => two_run S q fun dx dy m2 vx vy H2 a S2 rx ry q2 => by
    cases hv : cmpV o dx dy with
    | none => rw [hv] at q2; exact q2.elim
    | some b =>
      rw [hv] at q2
      refine ⟨g.cs, g.Z, m2, dx, dy, .bl b, S2.zone, rx, ry, by unfold cmpD; rw [hv]; rfl, fun v H' n => ?_⟩
      obtain ⟨k, rp⟩ := (show (∀ a o, H2 a = some o → H' a = some o) ∧ v = .bl b from n)
      refine ⟨b, rp, ?_⟩
      have S3 := S2.adv (.same k) (S2.mem.keep k)
      have a3 := a.trans (Adv.same (cs := g.cs) k)
      cases b with
      | false =>
        rw [if_neg Bool.false_ne_true]
        exact q2 _ _ ⟨a3, S3.mem, rfl⟩
      | true =>
        rw [if_pos rfl]
        have q3 := post_mono q2 (fun _ _ z => z) (erP_adv a3)
        refine one_run S3 q3 fun dz m4 vz H4 a4 S4 rz q4 => ?_
        obtain ⟨d, e, q5⟩ := lift_post q4
        obtain ⟨b, _, rfl⟩ := map_bl e
        exact ⟨g.cs, g.Z, m4, dy, dz, _, S4.zone, S3.mem.stepB a4 (S2.mem.stepB (.same k) ry), rz, e, fun v H' n => q5 v H' ((n.f (c := (cc X call Xr Er)) (a3.trans a4) S4.mem).e S.zin)⟩
theorem bt_chn {o o' : COp} {op op' : CmpOp} (ho : OpR X (compareOp op) (rD2 X.K (cmpD o))) (ho' : OpR X (compareOp op') (rD2 X.K (cmpD o'))) (ha : PE X e1 (tB (cc X call Xr Er) m1)) (hb : PE X e2 (tB (cc X call Xr Er) m2)) (hc : PE X e3 (tB (cc X call Xr Er) m3))
    (hm : lastMarks [op, op'] [e2, e3] = false) : PT X (.Compare e1 [op, op'] [e2, e3] pos) (tT (cc X call Xr Er) (.chn o o' m1 m2 m3)) :=
  pt_imp (pt_chain ho ho' ha hb hc hm) fun σ H Q ⟨g, r, m, S, q⟩ => two_run S q fun dx dy m2 vx vy H2 a S2 rx ry q2 => by
    cases hv : cmpV o dx dy with
    | none => rw [hv] at q2; exact q2.elim
    | some b =>
      rw [hv] at q2
      refine ⟨g.cs, g.Z, m2, dx, dy, .bl b, S2.zone, rx, ry, by unfold cmpD; rw [hv]; rfl, fun v H' n => ?_⟩
      obtain ⟨k, rp⟩ := (show (∀ a o, H2 a = some o → H' a = some o) ∧ v = .bl b from n)
      refine ⟨b, rp, ?_⟩
      have S3 := S2.adv (.same k) (S2.mem.keep k)
      have a3 := a.trans (Adv.same (cs := g.cs) k)
      cases b with
      | false =>
        rw [if_neg Bool.false_ne_true]
        obtain ⟨b', e', q3⟩ := q2
        cases e'
        exact ⟨false, rfl, q3 _ a3 S3.mem⟩
      | true =>
        rw [if_pos rfl]
        have q3 := post_mono q2 (fun _ _ z => z) (erP_adv a3)
        refine one_run S3 q3 fun dz m4 vz H4 a4 S4 rz q4 => ?_
        obtain ⟨d, e, b, rfl, q5⟩ := lift_post q4
        refine ⟨g.cs, g.Z, m4, dy, dz, _, S4.zone, S3.mem.stepB a4 (S2.mem.stepB (.same k) ry), rz, e, fun v H' n => ?_⟩
        obtain ⟨k2, rp2⟩ := (show (∀ a o, H4 a = some o → H' a = some o) ∧ v = .bl b from n)
        exact ⟨b, rp2, q5 H' ((a3.trans a4).trans (.same k2)) (S4.mem.keep k2)⟩
end
end Mp

/-! Mp7: and, or, not, tests; calls; isinstance; subscripts, slices. -/
namespace Mp
open PySem PySem.Spec L2
section
variable {K : PySem.W.Frag}
mutual
/-- data without shared lists asks nothing of the cells -/
theorem Rep.thin {cs cs' : List Addr} {Z Z' : Addr → Prop} {H : Hp} (hz : ∀ a, Z' a → Z a) : ∀ (d : D) (v : V), D.flat d = true → Rep K cs Z H d v → Rep K cs' Z' H d v
  | .non, _, _, h => h
  | .bl _, _, _, h => h
  | .int _, _, _, h => h
  | .str _, _, _, h => h
  | .tup ds, v, f, h => by
    obtain ⟨a, vs, e, t, z, r⟩ := h
    exact ⟨a, vs, e, t, z, RepL.thin hz ds vs f r⟩
  | .lst ds, v, f, h => by
    obtain ⟨a, vs, e, t, z, r⟩ := h
    exact ⟨a, vs, e, t.weak hz, z, RepL.thin hz ds vs f r⟩
  | .dct _ _, _, _, h => h
  | .cell n, v, f, h => by cases f
  | .clo _ _, _, f, h => h
theorem RepL.thin {cs cs' : List Addr} {Z Z' : Addr → Prop} {H : Hp} (hz : ∀ a, Z' a → Z a) : ∀ (ds : List D) (vs : List V), D.flatL ds = true → RepL K cs Z H ds vs → RepL K cs' Z' H ds vs
  | [], _, _, h => h
  | d :: ds, vs, f, h => by
    simp only [D.flatL, Bool.and_eq_true] at f
    obtain ⟨v, r, e, h1, h2⟩ := h
    exact ⟨v, r, e, Rep.thin hz d v f.1 h1, RepL.thin hz ds r f.2 h2⟩
end
end
/-- a def's promise: whatever the evaluator says of its call -/
def spC (c : Cc) (f : Nat) : Sp := fun vs H Q E => ∃ cs Z ds m, MemOk c.K cs Z H m ∧ (∀ a, Z a → H a ≠ none) ∧ RepL c.K cs Z H ds vs ∧
  (c.call f ds m).post (fun d m' => ∀ v H', Adv cs H H' → MemOk c.K cs Z H' m' → Rep c.K cs Z H' d v → Q v H') (fun k a m' => ∀ H' cv od, Adv cs H H' → MemOk c.K cs Z H' m' → c.Xr k a H' cv od → E cv od H')
def tyName : D → String
  | .non => "NoneType" | .bl _ => "bool" | .int _ => "int" | .str _ => "str" | .tup _ => "tuple" | .lst _ => "list" | .dct _ _ => "dict" | .cell _ => "list" | .clo _ _ => "function"
def tyN : Ty → String
  | .int => "int" | .bool => "bool" | .str => "str" | .tuple => "tuple" | .list => "list" | .dict => "dict"
theorem repB_ty {K : PySem.W.Frag} {cs : List Addr} {Z : Addr → Prop} {H : Hp} {a : D} {x : V} (h : RepB K cs Z H a x) (hk : tyKnown a = true) : TyX K H x (.type (tyName a)) := by
  cases a with
  | non => rw [show x = V.non from h]; exact .base .non
  | bl _ => rw [show x = V.bl _ from h]; exact .base (.bl _)
  | int _ => rw [show x = V.int _ from h]; exact .base (.int _)
  | str _ => rw [show x = V.str _ from h]; exact .base (.str _)
  | tup ds =>
    obtain ⟨a, vs, rfl, t, _⟩ := h
    rcases t with (t | ⟨o, t⟩) | ⟨o, its, n, t, tc, _⟩
    · exact .base (.tup t)
    · exact .fTuple t
    · exact .kTuple t tc
  | lst ds =>
    obtain ⟨a, vs, rfl, t, _⟩ := h
    rcases t with ⟨t, _⟩ | ⟨o, t⟩ | (t | ⟨o, t⟩) | ⟨o, its, n, t, tc, _⟩
    · exact .base (.lst t)
    · exact .base (.frz t)
    · cases t
    · cases t
    · exact .kList t tc
  | dct _ _ => exact h.elim
  | cell _ => cases hk
  | clo _ _ => cases hk
theorem kit_isTy (K : PySem.W.Frag) : ∀ (d : D) (t : Ty), tyKnown d = true → PySem.W.kitOne K (.type (tyName d)) (.type (tyN t)) = some (isTy d t) := fun d t h => by
  cases d <;> cases t <;> first | (simp only [tyName, tyN, isTy]; exact kit_ty (by decide +kernel)) | exact absurd h (by simp [tyKnown])
theorem kit_any (K : PySem.W.Frag) (d : D) (hk : tyKnown d = true) : ∀ ts : List Ty, PySem.W.kitAny K (.type (tyName d)) (ts.map fun t => Value.type (tyN t)) = some (ts.any fun t => isTy d t)
  | [] => rfl
  | t :: ts => by
    refine kitAny_cons (kit_isTy K d t hk) (fun e => ?_) fun e => ?_
    · rw [kit_any K d hk ts, List.any_cons, e, Bool.false_or]
    · rw [List.any_cons, e, Bool.true_or]
section
variable {X : Cx} {call : Nat → List D → Mem → R D} {Xr : Nat → D → Hp → Value → Option Addr → Prop} {Er : XK} {pos : Pos} {e e1 e2 e3 : Expr} {m1 m2 m3 : E} {es rest : List Expr} {ms : List E}
/-! ### and, or, not -/
theorem be_one {P : Cc → OkP} {op : BoolOp} (h : PE X e (tX P (cc X call Xr Er) m1)) : PE X (.BoolOp op [e] pos) (tX P (cc X call Xr Er) m1) := pe_one h
theorem run_bl {c : Cc} {σ : St} {H : Hp} {g : Gh} {r : Env} {m : Mem} {B : Type} {G : B → Mem → Prop} {f : D → Mem → R B} (S : Sim c.K g H σ r m) (h : ((evE c.call m1 r m).bind f).post G (erP c g H)) {R : V → Hp → Prop}
    (hf : ∀ d m', (∀ b, d ≠ .bl b) → f d m' = .no) (k : ∀ b m' H1, Adv g.cs H H1 → Sim c.K g H1 σ r m' → (f (.bl b) m').post G (erP c g H) → R (.bl b) H1) : tE c m1 σ H R :=
  ⟨g, r, m, S, post_mono (post_bind.mp h) (fun d m' q v H1 ⟨a, M, rp⟩ => by
    by_cases hb : ∃ b, d = .bl b
    · obtain ⟨b, rfl⟩ := hb
      rw [show v = V.bl b from rp]
      exact k b m' H1 a (S.adv a M) q
    · have q' : (f d m').post G (erP c g H) := q
      rw [hf d m' fun b e => hb ⟨b, e⟩] at q'
      exact q'.elim) fun _ _ _ z => z⟩
theorem be_and {b : Expr} (ha : PE X e1 (tE (cc X call Xr Er) m1)) (hb : PE X (.BoolOp .And (b :: rest) pos) (tE (cc X call Xr Er) m2)) : PE X (.BoolOp .And (e1 :: b :: rest) pos) (tE (cc X call Xr Er) (.and m1 m2)) :=
  pe_imp (pe_and ha hb) fun σ H Q ⟨g, r, m, S, q⟩ => run_bl (c := cc X call Xr Er) S q (fun d m' h => by cases d <;> first | rfl | exact absurd rfl (h _)) fun b m' H1 a S1 q1 => by
    refine ⟨b, rfl, ?_⟩
    cases b with
    | true =>
      rw [if_pos rfl]
      exact ⟨g, r, m', S1, post_mono q1 (fun d m2 z v H' y => z v H' (backE _ _ _ _ _ _ _ _ a y)) (erP_adv a)⟩
    | false =>
      rw [if_neg Bool.false_ne_true]
      exact q1 _ _ ⟨a, S1.mem, rfl⟩
theorem be_or {b : Expr} (ha : PE X e1 (tE (cc X call Xr Er) m1)) (hb : PE X (.BoolOp .Or (b :: rest) pos) (tE (cc X call Xr Er) m2)) : PE X (.BoolOp .Or (e1 :: b :: rest) pos) (tE (cc X call Xr Er) (.or m1 m2)) :=
  pe_imp (pe_or ha hb) fun σ H Q ⟨g, r, m, S, q⟩ => run_bl (c := cc X call Xr Er) S q (fun d m' h => by cases d <;> first | rfl | exact absurd rfl (h _)) fun b m' H1 a S1 q1 => by
    refine ⟨b, rfl, ?_⟩
    cases b with
    | false =>
      rw [if_neg Bool.false_ne_true]
      exact ⟨g, r, m', S1, post_mono q1 (fun d m2 z v H' y => z v H' (backE _ _ _ _ _ _ _ _ a y)) (erP_adv a)⟩
    | true =>
      rw [if_pos rfl]
      exact q1 _ _ ⟨a, S1.mem, rfl⟩
theorem be_not (ha : PE X e1 (tE (cc X call Xr Er) m1)) : PE X (.UnaryOp .Not e1 pos) (tE (cc X call Xr Er) (.not m1)) :=
  pe_imp (pe_not ha) fun σ H Q ⟨g, r, m, S, q⟩ => run_bl (c := cc X call Xr Er) S q (fun d m' h => by cases d <;> first | rfl | exact absurd rfl (h _)) fun b m' H1 a S1 q1 => ⟨b, rfl, q1 _ _ ⟨a, S1.mem, rfl⟩⟩
/-- tests -/
theorem runT {c : Cc} {σ : St} {H : Hp} {g : Gh} {r : Env} {m : Mem} {B : Type} {G : B → Mem → Prop} {f : D → Mem → R B} (S : Sim c.K g H σ r m) (h : ((evE c.call m1 r m).bind f).post G (erP c g H)) {R : Bool → Hp → Prop}
    (hf : ∀ d m', (∀ b, d ≠ .bl b) → f d m' = .no) (k : ∀ b m' H1, Adv g.cs H H1 → Sim c.K g H1 σ r m' → (f (.bl b) m').post G (erP c g H) → R b H1) : tT c m1 σ H R :=
  ⟨g, r, m, S, post_mono (post_bind.mp h) (fun d m' q => by
    by_cases hb : ∃ b, d = .bl b
    · obtain ⟨b, rfl⟩ := hb
      exact ⟨b, rfl, fun H1 a M => k b m' H1 a (S.adv a M) q⟩
    · have q' : (f d m').post G (erP c g H) := q
      rw [hf d m' fun b e => hb ⟨b, e⟩] at q'
      exact q'.elim) fun _ _ _ z => z⟩
theorem backT {c : Cc} {σ : St} {H H1 : Hp} {g : Gh} {r : Env} {m : Mem} {Q : Bool → Hp → Prop} (S : Sim c.K g H1 σ r m) (a : Adv g.cs H H1)
    (h : (evE c.call m1 r m).post (fun d m' => ∃ b, d = .bl b ∧ ∀ H', Adv g.cs H H' → MemOk c.K g.cs g.Z H' m' → Q b H') (erP c g H)) : tT c m1 σ H1 Q :=
  ⟨g, r, m, S, post_mono h (fun d m' ⟨b, e, q⟩ => ⟨b, e, fun H' a' M => q H' (a.trans a') M⟩) (erP_adv a)⟩
theorem bt_val (h : PE X e (tE (cc X call Xr Er) m1)) (he : ∀ whole, isTrue e X.env whole = (do let v ← whole; standAt e.pos; holding [v] (truthy v))) : PT X e (tT (cc X call Xr Er) m1) :=
  pt_imp (pt_val h he) fun σ H Q ⟨g, r, m, S, q⟩ => ⟨g, r, m, S, post_mono q (fun d m' ⟨b, e, q1⟩ v H' ⟨a, M, rp⟩ => by
    subst e
    exact ⟨b, rp, q1 H' a M⟩) fun _ _ _ z => z⟩
theorem bw_one1 (h : PT X e (tT (cc X call Xr Er) m1)) : PW X (.BoolOp .And [e] pos) (tT (cc X call Xr Er) m1) := pw_and1 h
theorem bw_one2 (h : PT X e (tT (cc X call Xr Er) m1)) : PW X (.BoolOp .Or [e] pos) (tT (cc X call Xr Er) m1) := pw_or1 h
theorem PW.impW {t t' : TT} (h : PW X e t) (k : ∀ σ H Q, t' σ H Q → t σ H Q) : PW X e t' := ⟨fun wh pins s σ H Q I q => h.run wh pins s σ H Q I (k σ H Q q)⟩
theorem bw_and {b : Expr} (ha : PT X e1 (tT (cc X call Xr Er) m1)) (hb : PW X (.BoolOp .And (b :: rest) pos) (tT (cc X call Xr Er) m2)) : PW X (.BoolOp .And (e1 :: b :: rest) pos) (tT (cc X call Xr Er) (.and m1 m2)) :=
  PW.impW (pw_and ha hb) fun σ H Q ⟨g, r, m, S, q⟩ => runT (c := cc X call Xr Er) S q (fun d m' h => by cases d <;> first | rfl | exact absurd rfl (h _)) fun b m' H1 a S1 q1 => by
    cases b with
    | true =>
      rw [if_pos rfl]
      exact backT S1 a q1
    | false =>
      rw [if_neg Bool.false_ne_true]
      obtain ⟨b, e, q2⟩ := q1
      cases e
      exact q2 _ a S1.mem
theorem bw_or {b : Expr} (ha : PT X e1 (tT (cc X call Xr Er) m1)) (hb : PW X (.BoolOp .Or (b :: rest) pos) (tT (cc X call Xr Er) m2)) : PW X (.BoolOp .Or (e1 :: b :: rest) pos) (tT (cc X call Xr Er) (.or m1 m2)) :=
  PW.impW (pw_or ha hb) fun σ H Q ⟨g, r, m, S, q⟩ => runT (c := cc X call Xr Er) S q (fun d m' h => by cases d <;> first | rfl | exact absurd rfl (h _)) fun b m' H1 a S1 q1 => by
    cases b with
    | false =>
      rw [if_neg Bool.false_ne_true]
      exact backT S1 a q1
    | true =>
      rw [if_pos rfl]
      obtain ⟨b, e, q2⟩ := q1
      cases e
      exact q2 _ a S1.mem
theorem bt_not (ha : PT X e1 (tT (cc X call Xr Er) m1)) : PT X (.UnaryOp .Not e1 pos) (tT (cc X call Xr Er) (.not m1)) :=
  pt_imp (pt_not ha) fun σ H Q ⟨g, r, m, S, q⟩ => runT (c := cc X call Xr Er) S q (fun d m' h => by cases d <;> first | rfl | exact absurd rfl (h _)) fun b m' H1 a S1 q1 => by
    obtain ⟨b', e, q2⟩ := q1
    cases e
    exact q2 _ a S1.mem
theorem bx_ite {P : Cc → OkP} (hP : Back P) {t : Expr} (hc : PT X t (tT (cc X call Xr Er) m1)) (ha : PE X e1 (tX P (cc X call Xr Er) m2)) (hb : PE X e2 (tX P (cc X call Xr Er) m3)) : PE X (.IfExp t e1 e2 pos) (tX P (cc X call Xr Er) (.ite m1 m2 m3)) :=
  pe_imp (pe_ifExp hc ha hb) fun σ H Q ⟨g, r, m, S, q⟩ => runT (c := cc X call Xr Er) S q (fun d m' h => by cases d <;> first | rfl | exact absurd rfl (h _)) fun b m' H1 a S1 q1 => by
    cases b with
    | true =>
      rw [if_pos rfl]
      exact ⟨g, r, m', S1, post_mono q1 (fun d m2 z v H' y => z v H' (hP _ _ _ _ _ _ _ _ a y)) (erP_adv a)⟩
    | false =>
      rw [if_neg Bool.false_ne_true]
      exact ⟨g, r, m', S1, post_mono q1 (fun d m2 z v H' y => z v H' (hP _ _ _ _ _ _ _ _ a y)) (erP_adv a)⟩

/-! ### calls -/
theorem be_call {f : Addr} {fd : FuncData} {ps : List Str} {k fi : Nat} {CX : CXT} {x : Str} {p : Pos} (F : FnOk X.prog X.w X.K X.mg X.base CX k f fd ps (spC (cc X call Xr Er) fi)) (hr : Room k X.A) (hg : Gl X x) (hm : X.mg x = some (.ref f)) (hk : PySem.W.keepIn X.K (.ref f) = true)
    (hb : Binds X.K fd ps []) (hx : Passes CX X Er) (ha : PA X (e :: es) (tLE (cc X call Xr Er) ms)) (hd : (x == ("__debug__" : Str)) = false) (he : starEach (e :: es) X.env = (false, eval e X.env) :: starEach es X.env) (hpl : (backTo pos (starEach es X.env)).any (·.1) = false) :
    PE X (.Call (.Name x p) (e :: es) [] pos) (tE (cc X call Xr Er) (.call fi ms)) :=
  pe_imp (pe_call F hr hg hm hk hb .nil hx ha hd he hpl) fun σ H Q ⟨g, r, m, S, q⟩ => ⟨g, r, m, S, post_mono (post_bind.mp q) (fun ds m' q1 vs H1 a M rs => by
    show spC (cc X call Xr Er) fi (vs ++ []) H1 Q Er
    rw [List.append_nil]
    have q1 : (if D.flatL ds = true then (match call fi ds [] with | .ok d _ => R.ok d m' | .err k a _ => .err k a m' | .no => .no) else call fi ds m').post (fun d m' => ∀ v H', PEx (cc X call Xr Er) g H d v H' m' → Q v H') (erP (cc X call Xr Er) g H) := q1
    by_cases hf : D.flatL ds = true
    · rw [if_pos hf] at q1
      refine ⟨[], g.Z, ds, [], ⟨rfl, .nil, fun a h => (nomatch h), fun d h => (nomatch h), fun n a d h => (nomatch h)⟩, (S.adv a M).zin, RepL.thin (fun _ z => z) ds vs hf rs, ?_⟩
      have back : ∀ (H' : Hp), Adv [] H1 H' → (∀ b o, H1 b = some o → H' b = some o) := fun H' a' b o e => a' b o e (by simp)
      show (call fi ds []).post _ _
      cases hc : call fi ds [] with
      | no => rw [hc] at q1; exact q1
      | ok d m1 =>
        rw [hc] at q1
        intro v H' a2 M2 rp
        have k := back H' a2
        exact q1 v H' ⟨a.trans (.same k), M.keep k, Rep.step (cs := []) (cs' := g.cs) (Z := g.Z) (Z' := g.Z) ⟨fun _ _ e _ => e, fun _ _ e => e, fun _ _ _ e => e, fun _ z => .inl z, fun n a e => (nomatch e)⟩ d v rp⟩
      | err k1 a1 m1 =>
        rw [hc] at q1
        intro H' cv od a2 M2 x
        have k := back H' a2
        exact q1 H' cv od (a.trans (.same k)) (M.keep k) x
    · rw [if_neg hf] at q1
      exact ⟨g.cs, g.Z, ds, m', M, (S.adv a M).zin, rs, post_mono q1 (fun d m2 z v H' a2 M2 rp => z v H' ⟨a.trans a2, M2, rp⟩) fun kk d m2 z H' cv od a2 M2 x => z H' cv od (a.trans a2) M2 x⟩) fun _ _ _ z => z⟩
theorem bf_of_n {b : BI} {rr : List V → Hp → VK → Prop} {t : TA} (hr : rr = rDn X.K (biV b)) (h : PE X e (tCB rr (tLB (cc X call Xr Er) ms))) : PE X e (tF (cc X call Xr Er) (.bi b ms)) := by
  subst hr
  exact pe_imp h fun σ H Q ⟨g, r, m, S, q⟩ => ⟨g, r, m, S, post_mono (post_bind.mp q) (fun ds m' q1 vs H1 a M rs => by
    obtain ⟨d, e, q2⟩ := lift_post q1
    exact ⟨g.cs, g.Z, m', ds, d, (S.adv a M).zone, rs, e, fun v H' n => q2 v H' (n.f (c := cc X call Xr Er) a M)⟩) fun _ _ _ z => z⟩
theorem bf_biB {b : BI} {id : String} {x : Str} {p : Pos} (hc : CallR X (.builtin id) (rDn X.K (biV b))) (hg : Gl X x) (hm : X.mg x = none) (hv : bootBuiltins x = some (.builtin id)) (ha : PA X (e :: es) (tLB (cc X call Xr Er) ms)) (hn : x ≠ "__name__") (hd : (x == ("__debug__" : Str)) = false)
    (he : starEach (e :: es) X.env = (false, eval e X.env) :: starEach es X.env) (hpl : (backTo pos (starEach es X.env)).any (·.1) = false) : PE X (.Call (.Name x p) (e :: es) [] pos) (tF (cc X call Xr Er) (.bi b ms)) :=
  bf_of_n (t := tLB (cc X call Xr Er) ms) rfl (pe_callB hc hg hm hv ha hn hd he hpl)
theorem bf_biT {b : BI} {T : String} {x : Str} {p : Pos} (hc : CallR X (.type T) (rDn X.K (biV b))) (hg : Gl X x) (hm : X.mg x = none) (hv : bootBuiltins x = some (.type T)) (ha : PA X (e :: es) (tLB (cc X call Xr Er) ms)) (hn : x ≠ "__name__") (hd : (x == ("__debug__" : Str)) = false)
    (he : starEach (e :: es) X.env = (false, eval e X.env) :: starEach es X.env) (hpl : (backTo pos (starEach es X.env)).any (·.1) = false) : PE X (.Call (.Name x p) (e :: es) [] pos) (tF (cc X call Xr Er) (.bi b ms)) :=
  bf_of_n (t := tLB (cc X call Xr Er) ms) rfl (pe_callTy hc hg hm hv ha hn hd he hpl)
theorem bf_biF {b : BI} {id : String} {x : Str} {p : Pos} (hc : CallR X (.builtin id) (rDn X.K (biV b))) (hg : Gl X x) (hm : X.mg x = some (.builtin id)) (ha : PA X (e :: es) (tLB (cc X call Xr Er) ms)) (hd : (x == ("__debug__" : Str)) = false)
    (he : starEach (e :: es) X.env = (false, eval e X.env) :: starEach es X.env) (hpl : (backTo pos (starEach es X.env)).any (·.1) = false) : PE X (.Call (.Name x p) (e :: es) [] pos) (tF (cc X call Xr Er) (.bi b ms)) :=
  bf_of_n (t := tLB (cc X call Xr Er) ms) rfl (pe_callBfun hc hg hm ha hd he hpl)

/-! ### isinstance -/
theorem be_isi {x T : Str} {p q : Pos} {t : Ty} (hg : Gl X x) (hm : X.mg x = none) (hx : x = "isinstance") (hT : T = Str.ofString (tyN t)) (hgT : Gl X T) (hmT : X.mg T = none) (ha : PE X e (tB (cc X call Xr Er) m1))
    (he : starEach [e, .Name T q] X.env = (false, eval e X.env) :: starEach [.Name T q] X.env) : PE X (.Call (.Name x p) [e, .Name T q] [] pos) (tE (cc X call Xr Er) (.isi m1 [t])) := by
  subst hx
  have h2 : PE X (.Name T q) (tC (.ty (tyN t))) := by
    subst hT
    exact pe_bltn hgT hmT (by cases t <;> decide +kernel) rfl (by cases t <;> decide) (by cases t <;> decide)
  refine pe_imp (pe_callB call_isi hg hm (by decide +kernel) (pa_cons ha (pa_cons h2 pa_nil) he) (by decide) (by decide) he) fun σ H Q ⟨g, r, m, S, q⟩ => one_run (c := cc X call Xr Er) S q fun dx m2 vx H1 a S1 rx q2 => ?_
  by_cases hk : tyKnown dx = true
  · have q3 : (if tyKnown dx = true then R.ok (D.bl ([t].any fun t => isTy dx t)) m2 else .no).post (fun d m' => ∀ v H', PEx (cc X call Xr Er) g H d v H' m' → Q v H') (erP (cc X call Xr Er) g H) := q2
    rw [if_pos hk] at q3
    refine ⟨vx, .ty (tyN t), _, _, isTy dx t, rfl, .ty _, repB_ty rx hk, kit_isTy X.K dx t hk, q3 _ _ ⟨a, S1.mem, ?_⟩⟩
    show V.bl _ = V.bl ([t].any fun t => isTy dx t)
    rw [List.any_cons, List.any_nil, Bool.or_false]
  · have q3 : (if tyKnown dx = true then R.ok (D.bl ([t].any fun t => isTy dx t)) m2 else .no).post (fun d m' => ∀ v H', PEx (cc X call Xr Er) g H d v H' m' → Q v H') (erP (cc X call Xr Er) g H) := q2
    rw [if_neg hk] at q3
    exact q3.elim
/-- the classes of a tuple of built-in types -/
inductive TysAre (X : Cx) : List Expr → List Ty → Prop where
  | nil : TysAre X [] []
  | cons {T : Str} {q : Pos} {t : Ty} {es : List Expr} {ts : List Ty} (h : T = Str.ofString (tyN t)) (hg : Gl X T) (hm : X.mg T = none) (r : TysAre X es ts) : TysAre X (.Name T q :: es) (t :: ts)
theorem pa_tys : ∀ {es : List Expr} {ts : List Ty}, TysAre X es ts → PA X es (fun _ H Q => Q (ts.map fun t => V.ty (tyN t)) H)
  | _, _, .nil => pa_nil
  | _, _, .cons (t := t) h hg hm r => by
    subst h
    exact pa_cons (pe_bltn (v := .ty (tyN t)) hg hm (by cases t <;> decide +kernel) rfl (by cases t <;> decide) (by cases t <;> decide)) (pa_tys r)
theorem be_isiT {x : Str} {p q : Pos} {ts : List Ty} {k : Nat} (hg : Gl X x) (hm : X.mg x = none) (hx : x = "isinstance") (ht : TysAre X es ts) (hl : ts.length ≤ 100) (ha : PE X e (tB (cc X call Xr Er) m1))
    (he : starEach [e, .Tuple es k q] X.env = (false, eval e X.env) :: starEach [.Tuple es k q] X.env) : PE X (.Call (.Name x p) [e, .Tuple es k q] [] pos) (tE (cc X call Xr Er) (.isi m1 ts)) := by
  subst hx
  refine pe_imp (pe_callB call_isiT hg hm (by decide +kernel) (pa_cons ha (pa_cons (pe_tup (pa_tys ht)) pa_nil) he) (by decide) (by decide) he) fun σ H Q ⟨g, r, m, S, q⟩ => one_run (c := cc X call Xr Er) S q fun dx m2 vx H1 a S1 rx q2 => ?_
  by_cases hk : tyKnown dx = true
  · have q3 : (if tyKnown dx = true then R.ok (D.bl (ts.any fun t => isTy dx t)) m2 else .no).post (fun d m' => ∀ v H', PEx (cc X call Xr Er) g H d v H' m' → Q v H') (erP (cc X call Xr Er) g H) := q2
    rw [if_pos hk] at q3
    refine ⟨by rw [List.length_map, sizeLine_eq]; omega, fun tp hp => ?_⟩
    have keep : ∀ a o, H1 a = some o → upd H1 tp (.tup (ts.map fun t => V.ty (tyN t))) a = some o := fun a o e => by rw [upd_ne (ne_of_none e hp)]; exact e
    refine ⟨vx, tp, _, _, ts.map fun t => Value.type (tyN t), _, rfl, upd_same, ?_, repB_ty (S1.mem.stepB (.same keep) rx) hk, kit_any X.K dx hk ts, q3 _ _ ⟨a.trans (.same keep), S1.mem.keep keep, rfl⟩⟩
    have pr : ∀ l : List Ty, Paired ClsV (l.map fun t => V.ty (tyN t)) (l.map fun t => Value.type (tyN t)) := fun l => by
      induction l with
      | nil => exact .nil
      | cons t l ih => exact .cons (.ty _) ih
    exact pr ts
  · have q3 : (if tyKnown dx = true then R.ok (D.bl (ts.any fun t => isTy dx t)) m2 else .no).post (fun d m' => ∀ v H', PEx (cc X call Xr Er) g H d v H' m' → Q v H') (erP (cc X call Xr Er) g H) := q2
    rw [if_neg hk] at q3
    exact q3.elim

/-! ### subscripts, slices -/
theorem be_idx (ha : PE X e1 (tB (cc X call Xr Er) m1)) (hb : PE X e2 (tB (cc X call Xr Er) m2)) (hs : PlainIx e2) : PE X (.Subscript e1 e2 pos) (tE (cc X call Xr Er) (.idx m1 m2)) :=
  pe_imp (pe_ix ixD ha hb hs) fun σ H Q ⟨g, r, m, S, q⟩ => two_run (c := cc X call Xr Er) S q fun dx dy m2 vx vy H2 a S2 rx ry q2 => by
    obtain ⟨d, e, q3⟩ := lift_post q2
    exact ⟨g.cs, g.Z, m2, dx, dy, d, S2.zone, rx, ry, e, fun v rp => q3 v H2 ⟨a, S2.mem, rp⟩⟩
/-- a slice's part -/
def tPt (c : Cc) (p : Bool) (e : E) : TO := fun σ H Q => ∃ g r m, Sim c.K g H σ r m ∧ (partOf p (evE c.call e r m) m).post (fun o m' => ∀ H', Adv g.cs H H' → MemOk c.K g.cs g.Z H' m' → Q o H') (erP c g H)
theorem PO.impO {eo : Option Expr} {t t' : TO} (h : PO X eo t) (k : ∀ σ H Q, t' σ H Q → t σ H Q) : PO X eo t' := ⟨fun pins s σ H Q I q => h.run pins s σ H Q I (k σ H Q q)⟩
theorem bo_none {m1 : E} : PO X none (tPt (cc X call Xr Er) false m1) := PO.impO po_none fun σ H Q ⟨g, r, m, S, q⟩ => q H (.refl _ _) S.mem
theorem bo_some (h : PE X e (tE (cc X call Xr Er) m1)) : PO X (some e) (tPt (cc X call Xr Er) true m1) := PO.impO (po_some h) fun σ H Q ⟨g, r, m, S, q⟩ =>
  ⟨g, r, m, S, post_mono (post_bind.mp q) (fun d m' q1 v H' ⟨a, M, rp⟩ => by
    cases d with
    | int i => exact ⟨i, rp, q1 H' a M⟩
    | _ => exact q1.elim) fun _ _ _ z => z⟩
theorem bf_sl {lo hi : Option Expr} {pl ph : Bool} {p2 : Pos} (ha : PE X e1 (tB (cc X call Xr Er) m1)) (hl : PO X lo (tPt (cc X call Xr Er) pl m2)) (hh : PO X hi (tPt (cc X call Xr Er) ph m3)) :
    PE X (.Subscript e1 (.Slice lo hi none p2) pos) (tF (cc X call Xr Er) (.sl m1 pl m2 ph m3)) :=
  pe_imp (pe_slice slD ha hl hh) fun σ H Q ⟨g, r, m, S, q⟩ => one_run (c := cc X call Xr Er) S q fun dx ma vx H1 a1 S1 rx q1 => by
    refine ⟨g, r, ma, S1, post_mono (post_bind.mp q1) (fun l mb q2 H2 a2 M2 => ?_) (erP_adv a1)⟩
    have S2 := S1.adv a2 M2
    refine ⟨g, r, mb, S2, post_mono (post_bind.mp q2) (fun u mc q3 H3 a3 M3 => ?_) (erP_adv (a1.trans a2))⟩
    obtain ⟨d, e, q4⟩ := lift_post q3
    exact ⟨g.cs, g.Z, mc, dx, d, (S2.adv a3 M3).zone, S2.mem.stepB a3 (S1.mem.stepB a2 rx), e, fun v H' n => q4 v H' (n.f (c := cc X call Xr Er) ((a1.trans a2).trans a3) M3)⟩
end
end Mp

/-! Mp8: what is walked: a list or a tuple (told at the run), ranges, enumerate, zip. -/
namespace Mp
open PySem PySem.Spec L2
/-- a tuple (tl) or a list -/
def SqA (K : PySem.W.Frag) (tl : Bool) (H : Hp) (a : Addr) (xs : List V) : Prop := if tl = true then SqT K H a xs else SqL K H a xs
def IsA (tl : Bool) (h : Heap) (a : Addr) (its : Array Value) : Prop := if tl = true then h.IsTuple a its else h.IsList a its
def ItA (tl : Bool) (h : Heap) (it a : Addr) (i : Nat) : Prop := if tl = true then h.IsTupleIter it a i else h.IsListIter it a i
def itO (tl : Bool) (a : Addr) : Obj := { cls := .type (if tl = true then "tuple_iterator" else "list_iterator"), data := .fields #[.ref a, .int 0 0] }
section
variable {X : Cx} {pins : List (Addr × Obj)} {σ : St} {H : Hp} {s : Shared}
theorem inv_seqA (I : Inv X pins σ H s) {tl : Bool} {a : Addr} {xs : List V} (h : SqA X.K tl H a xs) : ∃ its : List Value, Vals xs its ∧ IsA tl s.heap a its.toArray := by
  cases tl with
  | true =>
    obtain ⟨its, rv, p, _⟩ := I.tuple (show SqT X.K H a xs from h)
    exact ⟨its, rv, p⟩
  | false =>
    obtain ⟨its, rv, p, _⟩ := I.list (show SqL X.K H a xs from h)
    exact ⟨its, rv, p.isList⟩
theorem inv_injA (I : Inv X pins σ H s) {tl : Bool} {a : Addr} {xs ys : List V} (h : SqA X.K tl H a xs) (k : SqA X.K tl H a ys) : xs = ys := by
  cases tl with
  | true => exact I.tuple_inj (show SqT X.K H a xs from h) k
  | false => exact I.list_inj (show SqL X.K H a xs from h) k
end
theorem itA_at {tl : Bool} {h h' : Heap} {it a : Addr} {i : Nat} (x : ItA tl h it a i) (k : ∀ o, h.get? it = some o → h'.get? it = some o) : ItA tl h' it a i := by
  cases tl with
  | true => exact Heap.IsTupleIter.at (show h.IsTupleIter it a i from x) k
  | false => exact Heap.IsListIter.at (show h.IsListIter it a i from x) k
theorem itA_obj {tl : Bool} {h : Heap} {it a : Addr} {i : Nat} (x : ItA tl h it a i) : ∃ o, h.get? it = some o ∧ ∀ v, o.data ≠ .cell v := by
  cases tl with
  | true =>
    obtain ⟨o, e, _, d⟩ := (show h.IsTupleIter it a i from x)
    exact ⟨o, e, fun v z => by rw [d] at z; cases z⟩
  | false =>
    obtain ⟨o, e, _, d⟩ := (show h.IsListIter it a i from x)
    exact ⟨o, e, fun v z => by rw [d] at z; cases z⟩
theorem drawsA {prog : Program} {w : World} {A : Around} (hh : A.handled = none) (tl : Bool) (it a : Addr) (hne : a ≠ it) (its : Array Value) :
    Draws prog w A it [it, a] its.size (fun i v => its[i]? = some v) (fun i h => ItA tl h it a i ∧ IsA tl h a its) := by
  cases tl with
  | true => exact Draws.tuple hh it a hne its
  | false => exact Draws.list hh it a hne its
theorem beginsA (tl : Bool) (a : Addr) (its : Array Value) : Begins (.ref a) (itO tl a) (fun h => IsA tl h a its) := by
  cases tl with
  | true => exact begins_tuple a its
  | false => exact begins_list a its
theorem itA_new {tl : Bool} {h : Heap} {it a : Addr} (e : h.get? it = some (itO tl a)) : ItA tl h it a 0 := by
  cases tl with
  | true => exact ⟨_, e, rfl, rfl⟩
  | false => exact ⟨_, e, rfl, rfl⟩
theorem isA_lt {tl : Bool} {h : Heap} {a : Addr} {its : Array Value} (x : IsA tl h a its) : a < h.objs.size := by
  cases tl with
  | true => obtain ⟨o, e, _⟩ := (show h.IsTuple a its from x); exact Heap.lt_size e
  | false => obtain ⟨o, e, _⟩ := (show h.IsList a its from x); exact Heap.lt_size e
theorem isA_keep {tl : Bool} {h h' : Heap} {a : Addr} {its : Array Value} (x : IsA tl h a its) (k : ∀ o, h.get? a = some o → h'.get? a = some o) : IsA tl h' a its := by
  cases tl with
  | true => exact Heap.IsTuple.at (show h.IsTuple a its from x) k
  | false => exact Heap.IsList.at (show h.IsList a its from x) k

/-! ### enumerate -/
/-- each item in a new pair with its place -/
def IteA (K : PySem.W.Frag) (tl : Bool) (a : Addr) : It where
  go := fun i H => ∃ (xs : List V) (x : V), SqA K tl H a xs ∧ xs[i]? = some x
  yld := fun i H v H' => ∃ T x, v = .ref T ∧ H T = none ∧ H' = upd H T (.tup [.int (i : Nat), x]) ∧ ∀ xs, SqA K tl H a xs → xs[i]? = some x
  stop := fun i H => ∃ xs : List V, SqA K tl H a xs ∧ i = xs.length
theorem turn_enumA {P : Program} {w : World} {K : PySem.W.Frag} {elts : List Expr} {kk : Nat} {tpos : Pos} (tl : Bool) (a e it : Addr) (hai : a ≠ it) (hae : a ≠ e) :
    Turn P w K (.Tuple elts kk tpos) (IteA K tl a) [e, it] e (fun i h => (∃ old, IsEnum h e it ((i : Nat) : Int) old) ∧ ItA tl h it a i ∧ e ≠ it) where
  mem := by simp
  obj := fun i h ⟨⟨old, he⟩, hi, _⟩ b hb => by
    rcases List.mem_cons.mp hb with z | hb
    · subst z; exact ⟨_, he, fun v q => nomatch q⟩
    · rw [List.mem_singleton.mp hb]; exact itA_obj hi
  keep := fun i h h' ⟨⟨old, he⟩, hi, hne⟩ k => ⟨⟨old, k e (by simp) _ he⟩, itA_at hi fun o q => k it (by simp) o q, hne⟩
  item := by
    intro X hP hw hK hc i pins s σ H E I hf ⟨⟨old, he⟩, hit, hne⟩ ⟨xs, x, hq, hx⟩
    subst hP hw hK
    obtain ⟨its, rv, p⟩ := inv_seqA I hq
    have hel : e < s.heap.objs.size := Heap.lt_size he
    have hil : it < s.heap.objs.size := by obtain ⟨_, q, _⟩ := itA_obj hit; exact Heap.lt_size q
    have hi : i < its.toArray.size := by
      rw [List.size_toArray, ← rv.length]
      exact (List.getElem?_eq_some_iff.mp hx).1
    have hef : e ∉ [it, a] := fun hm => by
      rcases List.mem_cons.mp hm with z | hm
      · exact hne z
      · exact hae (List.mem_singleton.mp hm).symm
    refine wpAny_pyNext_enum_itemC (drawsA (A := X.A.in1) (show X.A.in1.handled = none from I.ok.hd hc) tl it a hai its.toArray) he ⟨hit, p⟩ hi hne hef fun u h' tk hu ho hst hT hsz hk => ?_
    obtain ⟨u', hu', ru'⟩ := rv.get hx
    have ru : RelV x u := by
      have : u' = u := by
        have hu2 : its[i]? = some u := by simpa using hu
        rw [hu'] at hu2; exact Option.some.inj hu2
      rw [← this]; exact ru'
    refine ⟨_, rfl, wpAny_letOwnedTupleGo_enum (s := { s with heap := h', toks := tk + 1 }) ho fun h2 he2 sb => ?_⟩
    have hT2 : h2.get? s.heap.objs.size = some { cls := .type "tuple", data := .seq #[.int i tk, u] } := (sb.2 _ (Nat.ne_of_gt hel)).trans hT
    have ok : ObjOk X.prog X.w (upd H s.heap.objs.size (.tup [.int (i : Nat), x])) h2 s.heap.objs.size (.tup [.int (i : Nat), x]) :=
      ⟨by show 2 ≤ sizeLine; decide, [.int i tk, u], .cons ⟨_, rfl⟩ (.cons ru .nil), ⟨_, hT2, rfl, _, rfl⟩⟩
    have I1 : Inv X pins σ (upd H s.heap.objs.size (.tup [.int (i : Nat), x])) { s with heap := h2, toks := tk + 1 } :=
      I.turnedNew (ch := [e, it]) (fun b ob hb q => (sb.2 b fun z => hb (by rw [z]; exact List.mem_cons_self)).trans (hk b ob (fun z => hb (by rw [z]; exact List.mem_cons_self)) (fun z => hb (by rw [z]; exact List.mem_cons_of_mem _ List.mem_cons_self)) q)) hf (Nat.le_refl _) ok
    refine ⟨.ref s.heap.objs.size, _, I1, rfl, ⟨_, x, rfl, I.hok.fresh (Nat.le_refl _), rfl, fun ys hy => by rw [inv_injA I hy hq]; exact hx⟩, ⟨⟨u, ?_⟩, itA_at hst.1 fun o q => (sb.2 it (Ne.symm hne)).trans q, hne⟩, fun b hb => ?_⟩
    · rw [show ((i + 1 : Nat) : Int) = (i : Int) + 1 by omega]; exact he2
    · have hb' : b < s.heap.objs.size := by
        rcases List.mem_cons.mp hb with z | z
        · rw [z]; exact hel
        · rw [List.mem_singleton.mp z]; exact hil
      rw [upd_ne (Nat.ne_of_lt hb')]
      exact (hf b hb).1
  done := by
    intro X hP hw hK hc i pins s σ H E I hf ⟨⟨old, he⟩, hit, hne⟩ ⟨xs, hq, hx⟩
    subst hP hw hK
    obtain ⟨its, rv, p⟩ := inv_seqA I hq
    obtain ⟨f0, f1, f2, f3, f4, f5⟩ := hf it (by simp)
    have hn : i = its.toArray.size := by rw [List.size_toArray, ← rv.length]; exact hx
    refine wpAny_pyNext_enum_endD (drawsA (A := X.A.in1) (show X.A.in1.handled = none from I.ok.hd hc) tl it a hai its.toArray) he ⟨by rw [← hn]; exact hit, p⟩ fun h' eb => ⟨rfl, I.turned (t' := s.toks) (fun b o hb q => eb b o hb q) f0 f1 f3 f4 f5⟩
  self := fun A i s Q E ⟨⟨_, he⟩, _⟩ h => wpAny_pyIter_enum he h
/-- enumerate(v) is laid down -/
theorem meets_enumA {v : Value} {o : Obj} {Hh : Heap → Prop} (B : Begins v o Hh) : Meets (Builtin.«enumerate.__new__» ⟨[.type "enumerate", v], []⟩) (fun _ R s => Hh s.heap ∧
      R (.ok (.ret (.ref (s.heap.push o).objs.size))) { s with heap := (s.heap.push o).push { cls := .type "enumerate", data := .fields #[.none, .bool false, .ref s.heap.objs.size, rawInt 0, .none, .none] } }) := .of_wp fun prog w A R s hh => by
  rcases s with ⟨hp, g, d, tk, os⟩
  rcases hh with ⟨h1, hR⟩
  have hsub := sub_enumerate
  have step : ∀ {A' : Around} {E : Value → Shared → Prop} {Q : Value → Shared → Prop}, Q (.ref hp.objs.size) ⟨hp.push o, g, d, tk, os⟩ → wpAny (model prog w) A' (pyIter v) Q E ⟨hp, g, d, tk, os⟩ := fun q => B.iter prog w _ _ ⟨hp, g, d, tk, os⟩ _ h1 q
  wp_walk using step
  refine wpAny_stack_any fun st => wpAny_pure ?_
  split
  · rename_i c _ _ _ _ _
    cases (c == Value.type "enumerate") <;> (wp_walk using step; exact ⟨_, rfl, hR⟩)
  · wp_walk using step
    exact ⟨_, rfl, hR⟩
theorem call_enumA {prog : Program} {w : World} {A : Around} {E : Value → Shared → Prop} {s : Shared} {v : Value} {o : Obj} {Hh : Heap → Prop} {Q : Value → Shared → Prop} (B : Begins v o Hh) (h1 : Hh s.heap)
    (h : ∀ h', IsEnum h' (s.heap.objs.size + 1) s.heap.objs.size 0 .none → h'.get? s.heap.objs.size = some o → (∀ b o, s.heap.get? b = some o → h'.get? b = some o) → Q (.ref (s.heap.objs.size + 1)) { s with heap := h' }) :
    wpAny (model prog w) A (call (.type "enumerate") [v]) Q E s := by
  refine callType_new F.called_enumerate (by decide) (F.typeCall_enumerate_1 _) (F.newCall_enumerate_1 _) (fun obj => F.args_object_init_2 obj _) F.entry_enumerate_new (meets_enumA B) ⟨h1, ?_⟩
  have z : (s.heap.push o).objs.size = s.heap.objs.size + 1 := Heap.size_push ..
  have he : IsEnum ((s.heap.push o).push { cls := .type "enumerate", data := .fields #[.none, .bool false, .ref s.heap.objs.size, rawInt 0, .none, .none] }) (s.heap.objs.size + 1) s.heap.objs.size 0 .none := by
    have q := Heap.get?_push_size (s.heap.push o) (o := { cls := .type "enumerate", data := .fields #[.none, .bool false, .ref s.heap.objs.size, rawInt 0, .none, .none] }) rfl
    rw [z] at q
    exact q
  rw [z]
  exact ⟨⟨_, he, rfl⟩, h _ he (Heap.get?_push_of_some _ (Heap.get?_push_size _ B.free)) fun b o x => Heap.get?_push_of_some _ (Heap.get?_push_of_some _ x)⟩
def iEnumA (K : PySem.W.Frag) (ta : TA) : TI := fun σ H R => ta σ H fun vs H1 => ∃ tl a xs, vs = [.ref a] ∧ SqA K tl H1 a xs ∧ R (IteA K tl a) H1
theorem pi_enumA {X : Cx} {e : Expr} {ta : TA} {p pos tpos : Pos} {elts : List Expr} {kk : Nat} (hg : Gl X "enumerate") (hm : X.mg "enumerate" = none) (ha : PA X [e] ta) (hs : starEach [e] X.env = [(false, eval e X.env)]) :
    PI X (.Tuple elts kk tpos) (.Call (.Name "enumerate" p) [e] [] pos) (iEnumA X.K ta) := ⟨fun pins s σ H R I h => by
  refine PyProof.Rows.Call_ (ld_blt I hg hm PyProof.Rows.boot_enumerate (PyProof.Rows.callWith_type1 (thn (ha.run pos pins s σ H _ I h) fun us s1 ⟨vs, H1, I1, r1, tl, a, xs, ex, hq, q⟩ => ?_) hs rfl))
  subst ex
  cases r1 with
  | cons r rr =>
    cases rr
    cases r
    obtain ⟨its, rv, p'⟩ := inv_seqA I1 hq
    have hal : a < s1.heap.objs.size := isA_lt p'
    refine call_enumA (beginsA tl a its.toArray) p' fun h' he hit hk => wpAny_pyIter_enum he ?_
    have I2 : Inv X pins σ H1 { s1 with heap := h' } := I1.kept (t' := s1.toks) hk
    refine ⟨s1.heap.objs.size + 1, [s1.heap.objs.size + 1, s1.heap.objs.size], _, _, H1, rfl, I2, turn_enumA tl a (s1.heap.objs.size + 1) s1.heap.objs.size (Nat.ne_of_lt hal) (Nat.ne_of_lt (Nat.lt_succ_of_lt hal)), ⟨⟨.none, he⟩, itA_new hit, Nat.succ_ne_self _⟩, fun b hb => ?_, q⟩
    have hle : s1.heap.objs.size ≤ b := by
      rcases List.mem_cons.mp hb with z | z
      · rw [z]; exact Nat.le_succ _
      · rw [List.mem_singleton.mp z]; exact Nat.le_refl _
    exact I1.fpOk hle (I1.hok.fresh hle)⟩

/-! ### zip -/
def IzA (K : PySem.W.Frag) (t1 t2 : Bool) (a b : Addr) : It where
  go := fun i H => ∃ (xs ys : List V) (x y : V), SqA K t1 H a xs ∧ SqA K t2 H b ys ∧ xs[i]? = some x ∧ ys[i]? = some y
  yld := fun i H v H' => ∃ T x y, v = .ref T ∧ H T = none ∧ H' = upd H T (.tup [x, y]) ∧ (∀ xs, SqA K t1 H a xs → xs[i]? = some x) ∧ ∀ ys, SqA K t2 H b ys → ys[i]? = some y
  stop := fun i H => ∃ xs ys : List V, SqA K t1 H a xs ∧ SqA K t2 H b ys ∧ i = min xs.length ys.length
theorem turn_zipA {P : Program} {w : World} {K : PySem.W.Frag} {elts : List Expr} {kk : Nat} {tpos : Pos} {t1 t2 : Bool} {a b z TI TO i1 i2 : Addr} (D : ZipSep2 z TI TO i1 i2 [i1, a] [i2, b]) (ha1 : a ≠ i1) (hb2 : b ≠ i2) :
    Turn P w K (.Tuple elts kk tpos) (IzA K t1 t2 a b) [z, TI, TO, i1, i2] z (fun i h => IsZip h z TI TO .none ∧ IsTupOf2 h TI (.ref i1) (.ref i2) ∧ (∃ x y, IsTupOf2 h TO x y) ∧ ItA t1 h i1 a i ∧ ItA t2 h i2 b i) where
  mem := by simp
  obj := fun i h ⟨hz, hTI, ⟨x, y, hTO⟩, h1, h2⟩ c hc => by
    have e' : c = z ∨ c = TI ∨ c = TO ∨ c = i1 ∨ c = i2 := by simpa using hc
    rcases e' with q | q | q | q | q <;> rw [q]
    · exact ⟨_, hz, fun v q => nomatch q⟩
    · exact ⟨_, hTI, fun v q => nomatch q⟩
    · exact ⟨_, hTO, fun v q => nomatch q⟩
    · exact itA_obj h1
    · exact itA_obj h2
  keep := fun i h h' ⟨hz, hTI, ⟨x, y, hTO⟩, h1, h2⟩ k => ⟨k z (by simp) _ hz, k TI (by simp) _ hTI, ⟨x, y, k TO (by simp) _ hTO⟩, itA_at h1 fun o q => k i1 (by simp) o q, itA_at h2 fun o q => k i2 (by simp) o q⟩
  item := by
    intro X hP hw hK hc i pins s σ H E I hf ⟨hz, hTI, ⟨x0, y0, hTO⟩, h1, h2⟩ ⟨xs, ys, x, y, hqx, hqy, hx, hy⟩
    subst hP hw hK
    obtain ⟨its, rv, p⟩ := inv_seqA I hqx
    obtain ⟨its2, rv2, p2⟩ := inv_seqA I hqy
    have hh : X.A.in1.handled = none := I.ok.hd hc
    have l1 : i < its.toArray.size := by rw [List.size_toArray, ← rv.length]; exact (List.getElem?_eq_some_iff.mp hx).1
    have l2 : i < its2.toArray.size := by rw [List.size_toArray, ← rv2.length]; exact (List.getElem?_eq_some_iff.mp hy).1
    have hzl : z < s.heap.objs.size := Heap.lt_size hz
    have i1l : i1 < s.heap.objs.size := by obtain ⟨_, q, _⟩ := itA_obj h1; exact Heap.lt_size q
    have i2l : i2 < s.heap.objs.size := by obtain ⟨_, q, _⟩ := itA_obj h2; exact Heap.lt_size q
    refine wpAny_pyNext_zipD2_item D (drawsA (A := X.A.in1) hh t1 i1 a ha1 its.toArray) (drawsA (A := X.A.in1) hh t2 i2 b hb2 its2.toArray) hz hTI hTO ⟨h1, p⟩ ⟨h2, p2⟩ l1 l2 fun u u2 h' tk hu hu2 z' TO' s1 s2 hT hsz hk => ?_
    obtain ⟨w1, hw1, ru1⟩ := rv.get hx
    obtain ⟨w2, hw2, ru2⟩ := rv2.get hy
    have ru : RelV x u := by
      have hu' : its[i]? = some u := by simpa using hu
      rw [hw1] at hu'; cases hu'; exact ru1
    have rw2 : RelV y u2 := by
      have hu' : its2[i]? = some u2 := by simpa using hu2
      rw [hw2] at hu'; cases hu'; exact ru2
    refine ⟨_, rfl, wpAny_letOwnedTupleGo_zip (s := { s with heap := h', toks := tk }) z' fun h2' z2 sb => ?_⟩
    have hT2 : h2'.get? s.heap.objs.size = some { cls := .type "tuple", data := .seq #[u, u2] } := (sb.2 _ (Nat.ne_of_gt hzl)).trans hT
    have ok : ObjOk X.prog X.w (upd H s.heap.objs.size (.tup [x, y])) h2' s.heap.objs.size (.tup [x, y]) :=
      ⟨by show 2 ≤ sizeLine; decide, [u, u2], .cons ru (.cons rw2 .nil), ⟨_, hT2, rfl, _, rfl⟩⟩
    have I1 : Inv X pins σ (upd H s.heap.objs.size (.tup [x, y])) { s with heap := h2', toks := tk } :=
      I.turnedNew (ch := [z, TI, TO, i1, i2]) (fun c o hb q => (sb.2 c (fun e => hb (by simp [e]))).trans (hk c o (fun e => hb (by simp [e])) (fun e => hb (by simp [e])) (fun e => hb (by simp [e])) (fun e => hb (by simp [e])) q)) hf (Nat.le_refl _) ok
    refine ⟨.ref s.heap.objs.size, _, I1, rfl, ⟨_, x, y, rfl, I.hok.fresh (Nat.le_refl _), rfl, fun l hl => by rw [inv_injA I hl hqx]; exact hx, fun l hl => by rw [inv_injA I hl hqy]; exact hy⟩, ⟨z2, ?_, ⟨u, u2, ?_⟩, ?_, ?_⟩, fun c hcm => ?_⟩
    · exact (sb.2 _ D.TIz).trans (hk _ _ D.TIz D.TITO D.TIi1 D.TIi2 hTI)
    · exact (sb.2 _ D.TOz).trans TO'
    · exact itA_at s1.1 fun o q => (sb.2 _ (Ne.symm D.zi1)).trans q
    · exact itA_at s2.1 fun o q => (sb.2 _ (Ne.symm D.zi2)).trans q
    · have hlt : c < s.heap.objs.size := by
        have e' : c = z ∨ c = TI ∨ c = TO ∨ c = i1 ∨ c = i2 := by simpa using hcm
        rcases e' with q | q | q | q | q <;> rw [q]
        · exact hzl
        · exact Heap.lt_size hTI
        · exact Heap.lt_size hTO
        · exact i1l
        · exact i2l
      rw [upd_ne (Nat.ne_of_lt hlt)]
      exact (hf c hcm).1
  done := by
    intro X hP hw hK hc i pins s σ H E I hf ⟨hz, hTI, ⟨x0, y0, hTO⟩, h1, h2⟩ ⟨xs, ys, hqx, hqy, he⟩
    subst hP hw hK
    obtain ⟨its, rv, p⟩ := inv_seqA I hqx
    obtain ⟨its2, rv2, p2⟩ := inv_seqA I hqy
    have hh : X.A.in1.handled = none := I.ok.hd hc
    have l1 : xs.length = its.toArray.size := by rw [List.size_toArray, ← rv.length]
    have l2 : ys.length = its2.toArray.size := by rw [List.size_toArray, ← rv2.length]
    rw [l1, l2] at he
    exact wpAny_pyNext_zipD2_end D (drawsA (A := X.A.in1) hh t1 i1 a ha1 its.toArray) (drawsA (A := X.A.in1) hh t2 i2 b hb2 its2.toArray) hz hTI hTO ⟨h1, p⟩ ⟨h2, p2⟩ (by omega) (by omega) (by omega) fun h' tk hk => ⟨rfl, I.turnedL (ch := [z, TI, TO, i1, i2]) (fun c o hb q =>
      hk c o (fun e => hb (by simp [e])) (fun e => hb (by simp [e])) (fun e => hb (by simp [e])) (fun e => hb (by simp [e])) q) hf⟩
  self := fun A i s Q E st h => wpAny_pyIter_zip st.1 h
def iZipB (K : PySem.W.Frag) (ta : TA) : TI := fun σ H R => ta σ H fun vs H1 => ∃ t1 t2 a b xs ys, vs = [.ref a, .ref b] ∧ SqA K t1 H1 a xs ∧ SqA K t2 H1 b ys ∧ R (IzA K t1 t2 a b) H1
theorem pi_zipB {X : Cx} {e e2 : Expr} {ta : TA} {p pos tpos : Pos} {elts : List Expr} {kk : Nat} (hg : Gl X "zip") (hm : X.mg "zip" = none) (ha : PA X [e, e2] ta)
    (hs : starEach [e, e2] X.env = (false, eval e X.env) :: starEach [e2] X.env) (hpl : (backTo pos (starEach [e2] X.env)).any (·.1) = false) :
    PI X (.Tuple elts kk tpos) (.Call (.Name "zip" p) [e, e2] [] pos) (iZipB X.K ta) := ⟨fun pins s σ H R I h => by
  refine PyProof.Rows.Call_ (ld_blt I hg hm PyProof.Rows.boot_zip (PyProof.Rows.callWith_type1 (thn (ha.run pos pins s σ H _ I h) fun us s1 ⟨vs, H1, I1, r1, t1, t2, a, b, xs, ys, ex, hqx, hqy, q⟩ => ?_) hs hpl))
  subst ex
  cases r1 with
  | cons r rr =>
    cases rr with
    | cons r' rr =>
      cases rr
      cases r
      cases r'
      obtain ⟨its, rv, p1⟩ := inv_seqA I1 hqx
      obtain ⟨its2, rv2, p2⟩ := inv_seqA I1 hqy
      have la : a < s1.heap.objs.size := isA_lt p1
      have lb : b < s1.heap.objs.size := isA_lt p2
      refine zip_begins2 (beginsA t1 a its.toArray) (beginsA t2 b its2.toArray) p1 p2 fun h' hz hTI hTO h1 h2 hsz hk => wpAny_pyIter_zip hz ?_
      have I2 : Inv X pins σ H1 { s1 with heap := h' } := I1.kept (t' := s1.toks) hk
      have sep := zip_sep2 (N := s1.heap.objs.size) (fp1 := [a]) (fp2 := [b]) (fun c hc => by rw [List.mem_singleton.mp hc]; exact la) fun c hc => by rw [List.mem_singleton.mp hc]; exact lb
      refine ⟨s1.heap.objs.size + 4, [s1.heap.objs.size + 4, s1.heap.objs.size + 2, s1.heap.objs.size + 3, s1.heap.objs.size, s1.heap.objs.size + 1], _, _, H1, rfl, I2, turn_zipA (t1 := t1) (t2 := t2) sep (Nat.ne_of_lt la) (Nat.ne_of_lt (Nat.lt_succ_of_lt lb)), ⟨hz, hTI, ⟨_, _, hTO⟩, itA_new h1, itA_new h2⟩, fun c hcm => ?_, q⟩
      have hle : s1.heap.objs.size ≤ c := by
        have e' : c = s1.heap.objs.size + 4 ∨ c = s1.heap.objs.size + 2 ∨ c = s1.heap.objs.size + 3 ∨ c = s1.heap.objs.size ∨ c = s1.heap.objs.size + 1 := by simpa using hcm
        rcases e' with q | q | q | q | q <;> rw [q] <;> first | exact Nat.le_add_right _ _ | exact Nat.le_refl _
      exact I1.fpOk hle (I1.hok.fresh hle)⟩

/-! ### a list or a tuple, told at the run -/
def ItSeq (K : PySem.W.Frag) (tl : Bool) (a : Addr) : It := if tl = true then Itt K a else Itl K a
def iAny (K : PySem.W.Frag) (te : TE) : TI := fun σ H R => te σ H fun v H1 => ∃ tl a xs, v = .ref a ∧ SqA K tl H1 a xs ∧ R (ItSeq K tl a) H1
theorem pi_any {X : Cx} {tg e : Expr} {te : TE} (he : PE X e te) : PI X tg e (iAny X.K te) := ⟨fun pins s σ H R I h => by
  refine thn (he.run pins s σ H _ I h) fun v s1 ⟨x, H1, I1, r1, tl, a, xs, e, hq, q⟩ => ?_
  subst e
  cases r1
  have fp : ∀ b ∈ [s1.heap.objs.size], FpOk X pins H1 b := fun b hb => by
    rw [List.mem_singleton.mp hb]
    exact I1.fpOk (Nat.le_refl _) (I1.hok.fresh (Nat.le_refl _))
  cases tl with
  | true =>
    obtain ⟨its, rv, p, hz⟩ := I1.tuple (show SqT X.K H1 a xs from hq)
    exact wpAny_pyIter_tuple (show s1.heap.IsTuple a its.toArray from p) ⟨s1.heap.objs.size, [s1.heap.objs.size], _, _, H1, rfl, I1.kept (t' := s1.toks) fun b o e => Heap.get?_push_of_some _ e, turn_tuple a _, ⟨_, Heap.get?_push_size _ rfl, rfl, rfl⟩, fp, q⟩
  | false =>
    obtain ⟨its, rv, p, hz⟩ := I1.list (show SqL X.K H1 a xs from hq)
    exact wpAny_pyIter_list p.isList ⟨s1.heap.objs.size, [s1.heap.objs.size], _, _, H1, rfl, I1.kept (t' := s1.toks) fun b o e => Heap.get?_push_of_some _ e, turn_list a _, ⟨_, Heap.get?_push_size _ rfl, rfl, rfl⟩, fp, q⟩⟩

/-! ### what comes, turn by turn -/
abbrev Moves : Type := Hp → List Addr → (Addr → Prop) → Hp → List Addr → (Addr → Prop) → Hp → Prop
/-- a frame goes on -/
def MvF : Moves := fun _ cs Z H cs' Z' H' => Stp cs cs' Z Z' H H'
/-- .. without a write to one's own lists -/
def MvB : Moves := fun Hb cs Z H cs' Z' H' => cs' = cs ∧ Adv cs Hb H' ∧ Stp cs cs' Z Z' H H'
/-- a sequence that stands -/
def Std (K : PySem.W.Frag) (Mv : Moves) (cs : List Addr) (Z : Addr → Prop) (H : Hp) (tl : Bool) (a : Addr) (xs : List V) (ds : List D) : Prop :=
  ∃ Lk : List Addr → (Addr → Prop) → Hp → Prop, Lk cs Z H ∧ (∀ cs Z H, Lk cs Z H → SqA K tl H a xs ∧ RepL K cs Z H ds xs) ∧ ∀ cs Z H2 cs' Z' H', Mv H cs Z H2 cs' Z' H' → Lk cs Z H2 → Lk cs' Z' H'
/-- an iterator that gives ds -/
structure Src (K : PySem.W.Frag) (Mv : Moves) (cs : List Addr) (Z : Addr → Prop) (H : Hp) (J : It) (ds : List D) : Prop where
  len : ds.length ≤ sizeLine
  w : ∃ (G : Hp → Prop) (Y : Nat → Hp → V → Hp → Prop) (Ok : List Addr → (Addr → Prop) → Hp → Prop), Walk J ds.length G Y ∧ Ok cs Z H ∧ (∀ cs Z H, Ok cs Z H → G H) ∧ (∀ cs Z H2 cs' Z' H', Mv H cs Z H2 cs' Z' H' → Ok cs Z H2 → Ok cs' Z' H') ∧
    ∀ cs Z i H x H' m, MemOk K cs Z H m → Ok cs Z H → Y i H x H' → (∀ a o, H a = some o → H' a = some o) ∧ ∃ d, ds[i]? = some d ∧ Rep K cs Z H' d x
section
variable {K : PySem.W.Frag} {Mv : Moves} {cs : List Addr} {Z : Addr → Prop} {H : Hp} {tl t2 : Bool} {a b : Addr} {xs ys : List V} {ds es : List D}
theorem std_f {d : D} {v : V} (h : Rep K cs Z H d v) (e : seqOf d = some ds) : ∃ tl a xs, v = .ref a ∧ xs.length ≤ sizeLine ∧ Std K MvF cs Z H tl a xs ds := by
  cases d with
  | lst ys =>
    cases e
    obtain ⟨p, vs, e1, l, z, r⟩ := h
    exact ⟨false, p, vs, e1, z, fun cs Z H => LsF K Z H p vs ∧ RepL K cs Z H ds vs, ⟨l, r⟩, fun cs Z H k => ⟨k.1.sq, k.2⟩, fun cs Z H cs' Z' H' s k => ⟨Stp.lsF s k.1, RepL.step s _ _ k.2⟩⟩
  | tup ys =>
    cases e
    obtain ⟨p, vs, e1, l, z, r⟩ := h
    exact ⟨true, p, vs, e1, z, fun cs Z H => SqT K H p vs ∧ RepL K cs Z H ds vs, ⟨l, r⟩, fun cs Z H k => ⟨k.1, k.2⟩, fun cs Z H cs' Z' H' s k => ⟨Stp.sqT s k.1, RepL.step s _ _ k.2⟩⟩
  | _ => cases e
theorem std_b {d : D} {v : V} (h : RepB K cs Z H d v) (e : seqOf d = some ds) : ∃ tl a xs, v = .ref a ∧ xs.length ≤ sizeLine ∧ Std K MvB cs Z H tl a xs ds := by
  cases d with
  | lst ys =>
    cases e
    obtain ⟨p, vs, e1, l, z, r⟩ := h.lst
    rcases l with ⟨l, n⟩ | ⟨o, l⟩ | l
    · exact ⟨false, p, vs, e1, z, fun cs2 Z2 H2 => (cs2 = cs ∧ H2 p = some (.lst vs)) ∧ RepL K cs2 Z2 H2 ds vs, ⟨⟨rfl, l⟩, r⟩, fun cs2 Z2 H2 k => ⟨.inl (.inl k.1.2), k.2⟩, fun cs2 Z2 H2 cs' Z' H' ⟨e, a, s⟩ k => ⟨⟨e.trans k.1.1, by rw [k.1.1] at a; exact a _ _ l n⟩, RepL.step s _ _ k.2⟩⟩
    · exact ⟨false, p, vs, e1, z, fun cs2 Z2 H2 => (∃ o, H2 p = some (.frz o (.lst vs))) ∧ RepL K cs2 Z2 H2 ds vs, ⟨⟨o, l⟩, r⟩, fun cs2 Z2 H2 k => ⟨.inl (.inr k.1), k.2⟩, fun cs2 Z2 H2 cs' Z' H' ⟨e, a, s⟩ k => ⟨let ⟨o, q⟩ := k.1; ⟨o, s.frz _ _ _ q⟩, RepL.step s _ _ k.2⟩⟩
    · exact ⟨false, p, vs, e1, z, fun cs2 Z2 H2 => SqL K (fun _ => none) p vs ∧ RepL K cs2 Z2 H2 ds vs, ⟨l, r⟩, fun cs2 Z2 H2 k => ⟨(LsF.sq (Z := Z2) (.inr (.inr k.1)) : SqL K H2 p vs), k.2⟩, fun cs2 Z2 H2 cs' Z' H' ⟨e, a, s⟩ k => ⟨k.1, RepL.step s _ _ k.2⟩⟩
  | tup ys =>
    cases e
    obtain ⟨p, vs, e1, l, z, r⟩ := h.tup
    exact ⟨true, p, vs, e1, z, fun cs Z H => SqT K H p vs ∧ RepL K cs Z H ds vs, ⟨l, r⟩, fun cs Z H k => ⟨k.1, k.2⟩, fun cs Z H cs' Z' H' ⟨_, _, s⟩ k => ⟨Stp.sqT s k.1, RepL.step s _ _ k.2⟩⟩
  | _ => cases e
theorem Std.sq (h : Std K Mv cs Z H tl a xs ds) : SqA K tl H a xs ∧ RepL K cs Z H ds xs := by
  obtain ⟨Lk, k, f, _⟩ := h
  exact f _ _ _ k
theorem RepL.getV : ∀ {ds : List D} {vs : List V} {i : Nat} {v : V}, RepL K cs Z H ds vs → vs[i]? = some v → ∃ d, ds[i]? = some d ∧ Rep K cs Z H d v
  | [], vs, i, v, h, e => by rw [show vs = [] from h] at e; simp at e
  | d :: ds, vs, i, v, h, e => by
    obtain ⟨x, r, e1, h1, h2⟩ := h
    subst e1
    cases i with
    | zero =>
      simp only [List.getElem?_cons_zero, Option.some.injEq] at e
      subst e
      exact ⟨d, by simp, h1⟩
    | succ i =>
      simp only [List.getElem?_cons_succ] at e
      obtain ⟨w, e2, h3⟩ := RepL.getV h2 e
      exact ⟨w, by simpa using e2, h3⟩
theorem src_seq (h : Std K Mv cs Z H tl a xs ds) (hz : xs.length ≤ sizeLine) : Src K Mv cs Z H (ItSeq K tl a) ds := by
  obtain ⟨Lk, k, f, st⟩ := h
  have hl : xs.length = ds.length := (f _ _ _ k).2.length
  refine ⟨by rw [← hl]; exact hz, fun H => SqA K tl H a xs, YAt xs, Lk, ?_, k, fun cs Z H z => (f _ _ _ z).1, st, fun cs Z i H x H' m M z ⟨e, q⟩ => ?_⟩
  · rw [← hl]
    cases tl with
    | true => exact walk_tup
    | false => exact walk_list
  · subst e
    obtain ⟨d, e1, r⟩ := (f _ _ _ z).2.getV q
    exact ⟨fun _ _ e => e, d, e1, r⟩
theorem rng_len (lo : Int) : ∀ n, (rangeFrom lo n).length = n := fun n => by
  induction n generalizing lo with
  | zero => rfl
  | succ n ih => rw [rangeFrom, List.length_cons, ih]
theorem rng_get : ∀ (n : Nat) (lo : Int) (i : Nat), i < n → (rangeFrom lo n)[i]? = some (.int (lo + i))
  | n + 1, lo, 0, _ => by rw [rangeFrom, List.getElem?_cons_zero]; simp
  | n + 1, lo, i + 1, h => by
    rw [rangeFrom, List.getElem?_cons_succ, rng_get n (lo + 1) i (Nat.lt_of_succ_lt_succ h)]
    simp only [Option.some.injEq, D.int.injEq]
    omega
theorem src_rng {lo : Int} {n : Nat} (h : n ≤ sizeLine) : Src K Mv cs Z H (Itr lo n) (rangeFrom lo n) := by
  refine ⟨by rw [rng_len]; exact h, fun _ => True, fun i H v H' => i < n ∧ H' = H ∧ v = .int (lo + i), fun _ _ _ => True, ?_, trivial, fun _ _ _ _ => trivial, fun _ _ _ _ _ _ _ _ => trivial, fun cs Z i H x H' m M _ ⟨hi, e, q⟩ => ?_⟩
  · rw [rng_len]
    exact (walk_range (lo := lo) (n := n)).mono (fun _ z => z) fun i H x H' hi _ y => ⟨hi, y⟩
  · subst e q
    exact ⟨fun _ _ e => e, _, rng_get n lo i hi, rfl⟩
theorem enum_get : ∀ (ds : List D) (n i : Nat) (d : D), ds[i]? = some d → (enumFrom n ds)[i]? = some (.tup [.int ((n + i : Nat) : Int), d])
  | [], _, _, _, e => by simp at e
  | x :: ds, n, 0, d, e => by
    simp only [List.getElem?_cons_zero, Option.some.injEq] at e
    rw [enumFrom, List.getElem?_cons_zero, e, Nat.add_zero]
  | x :: ds, n, i + 1, d, e => by
    rw [enumFrom, List.getElem?_cons_succ, enum_get ds (n + 1) i d (by simpa using e)]
    rw [show n + 1 + i = n + (i + 1) by omega]
theorem enum_len : ∀ (ds : List D) (n : Nat), (enumFrom n ds).length = ds.length
  | [], _ => rfl
  | x :: ds, n => by rw [enumFrom, List.length_cons, List.length_cons, enum_len]
theorem pair_rep {m : Mem} {T : Addr} {d e : D} {x y : V} (M : MemOk K cs Z H m) (hT : H T = none) (h1 : Rep K cs Z H d x) (h2 : Rep K cs Z H e y) : (∀ a o, H a = some o → upd H T (.tup [x, y]) a = some o) ∧ Rep K cs Z (upd H T (.tup [x, y])) (.tup [d, e]) (.ref T) := by
  have k : ∀ a o, H a = some o → upd H T (.tup [x, y]) a = some o := fun a o e => by rw [upd_ne (ne_of_none e hT)]; exact e
  refine ⟨k, T, [x, y], rfl, .inl (.inl upd_same), by show 2 ≤ sizeLine; decide, ?_⟩
  exact RepL.step (M.stp (.same k)) _ _ (repL_cons h1 (repL_one h2))
theorem src_enum (h : Std K Mv cs Z H tl a xs ds) (hz : xs.length ≤ sizeLine) : Src K Mv cs Z H (IteA K tl a) (enumFrom 0 ds) := by
  obtain ⟨Lk, k, f, st⟩ := h
  have hl : xs.length = ds.length := (f _ _ _ k).2.length
  refine ⟨by rw [enum_len, ← hl]; exact hz, fun H => SqA K tl H a xs, fun i H v H' => ∃ T x, v = .ref T ∧ H T = none ∧ H' = upd H T (.tup [.int (i : Nat), x]) ∧ xs[i]? = some x, Lk, ?_, k, fun cs Z H z => (f _ _ _ z).1, st, fun cs Z i H x H' m M z ⟨T, y, e1, e2, e3, q⟩ => ?_⟩
  · rw [enum_len, ← hl]
    exact ⟨fun i H hi q => ⟨xs, xs[i], q, by simp [hi]⟩, fun H q => ⟨xs, q, rfl⟩, fun i H v H' _ q ⟨T, x, h1, h2, h3, h4⟩ => ⟨T, x, h1, h2, h3, h4 xs q⟩⟩
  · subst e1 e3
    obtain ⟨d, e1, r⟩ := (f _ _ _ z).2.getV q
    obtain ⟨k1, k2⟩ := pair_rep (d := .int (i : Nat)) (x := .int (i : Nat)) M e2 rfl r
    have := enum_get ds 0 i d e1
    rw [Nat.zero_add] at this
    exact ⟨k1, _, this, k2⟩
theorem zip_get : ∀ (ds es : List D) (i : Nat) (d e : D), ds[i]? = some d → es[i]? = some e → (zipD ds es)[i]? = some (.tup [d, e])
  | [], _, _, _, _, h, _ => by simp at h
  | _ :: _, [], _, _, _, _, h => by simp at h
  | x :: ds, y :: es, 0, d, e, h, k => by
    simp only [List.getElem?_cons_zero, Option.some.injEq] at h k
    rw [zipD, List.getElem?_cons_zero, h, k]
  | x :: ds, y :: es, i + 1, d, e, h, k => by
    rw [zipD, List.getElem?_cons_succ, zip_get ds es i d e (by simpa using h) (by simpa using k)]
theorem zip_len : ∀ ds es : List D, (zipD ds es).length = min ds.length es.length
  | [], _ => by simp [zipD]
  | _ :: _, [] => by simp [zipD]
  | x :: ds, y :: es => by rw [zipD, List.length_cons, zip_len, List.length_cons, List.length_cons]; omega
theorem src_zip (h : Std K Mv cs Z H tl a xs ds) (h2 : Std K Mv cs Z H t2 b ys es) (hz : xs.length ≤ sizeLine) : Src K Mv cs Z H (IzA K tl t2 a b) (zipD ds es) := by
  obtain ⟨Lk, k, f, st⟩ := h
  obtain ⟨Lk2, k2, f2, st2⟩ := h2
  have hl : xs.length = ds.length := (f _ _ _ k).2.length
  have hl2 : ys.length = es.length := (f2 _ _ _ k2).2.length
  refine ⟨by rw [zip_len, ← hl]; omega, fun H => SqA K tl H a xs ∧ SqA K t2 H b ys, fun i H v H' => ∃ T x y, v = .ref T ∧ H T = none ∧ H' = upd H T (.tup [x, y]) ∧ xs[i]? = some x ∧ ys[i]? = some y, fun cs Z H => Lk cs Z H ∧ Lk2 cs Z H, ?_, ⟨k, k2⟩,
    fun cs Z H z => ⟨(f _ _ _ z.1).1, (f2 _ _ _ z.2).1⟩, fun cs Z H cs' Z' H' mv z => ⟨st _ _ _ _ _ _ mv z.1, st2 _ _ _ _ _ _ mv z.2⟩, fun cs Z i H x H' m M z ⟨T, y, w, e1, e2, e3, q, q2⟩ => ?_⟩
  · rw [zip_len, ← hl, ← hl2]
    refine ⟨fun i H hi q => ?_, fun H q => ⟨xs, ys, q.1, q.2, rfl⟩, fun i H v H' _ q ⟨T, x, y, h1, h2, h3, h4, h5⟩ => ⟨T, x, y, h1, h2, h3, h4 xs q.1, h5 ys q.2⟩⟩
    have l1 : i < xs.length := by omega
    have l2 : i < ys.length := by omega
    exact ⟨xs, ys, xs[i], ys[i], q.1, q.2, by simp [l1], by simp [l2]⟩
  · subst e1 e3
    obtain ⟨d, e1, r⟩ := (f _ _ _ z.1).2.getV q
    obtain ⟨e, e3, r2⟩ := (f2 _ _ _ z.2).2.getV q2
    obtain ⟨k1, k2⟩ := pair_rep M e2 r r2
    exact ⟨k1, _, zip_get _ _ _ _ _ e1 e3, k2⟩
theorem Src.mono {Mv' : Moves} {J : It} (h : Src K Mv cs Z H J ds) (k : ∀ Hb cs Z H cs' Z' H', Mv' Hb cs Z H cs' Z' H' → Mv Hb cs Z H cs' Z' H') : Src K Mv' cs Z H J ds := by
  obtain ⟨l, G, Y, Ok, w, o, g, st, y⟩ := h
  exact ⟨l, G, Y, Ok, w, o, g, fun cs Z H cs' Z' H' mv z => st _ _ _ _ _ _ (k _ _ _ _ _ _ _ mv) z, y⟩
end

/-! ### sources -/
/-- a walk's source, by the evaluator -/
def tI (Mv : Moves) (c : Cc) (e : E) : TI := fun σ H R => ∃ g r m, Sim c.K g H σ r m ∧ (evI c.call e r m).post (fun ds m' => ∀ H' J, Adv g.cs H H' → MemOk c.K g.cs g.Z H' m' → Src c.K Mv g.cs g.Z H' J ds → R J H') (erP c g H)
theorem pi_imp {X : Cx} {tg e : Expr} {t t' : TI} (h : PI X tg e t) (k : ∀ σ H R, t' σ H R → t σ H R) : PI X tg e t' := ⟨fun pins s σ H R I q => h.run pins s σ H R I (k σ H R q)⟩
section
variable {X : Cx} {call : Nat → List D → Mem → R D} {Xr : Nat → D → Hp → Value → Option Addr → Prop} {Er : XK} {pos : Pos} {tg e e1 e2 : Expr} {m1 m2 : E} {Mv : Moves}
theorem bi_weak (h : PI X tg e (tI MvF (cc X call Xr Er) m1)) : PI X tg e (tI MvB (cc X call Xr Er) m1) := pi_imp h fun σ H R ⟨g, r, m, S, q⟩ =>
  ⟨g, r, m, S, post_mono q (fun ds m' k H' J a M s => k H' J a M (s.mono fun _ _ _ _ _ _ _ z => z.2.2)) fun _ _ _ z => z⟩
theorem bi_any (h : PE X e (tE (cc X call Xr Er) m1)) : PI X tg e (tI MvF (cc X call Xr Er) m1) := pi_imp (pi_any h) fun σ H R ⟨g, r, m, S, q⟩ => ⟨g, r, m, S, post_mono (post_bind.mp q) (fun d m' q1 v H1 ⟨a, M, rp⟩ => by
  obtain ⟨ds, e, q2⟩ := lift_post q1
  obtain ⟨tl, p, xs, e1, z, st⟩ := std_f rp e
  exact ⟨tl, p, xs, e1, st.sq.1, q2 H1 _ a M (src_seq st z)⟩) fun _ _ _ z => z⟩
theorem bi_anyB (h : PE X e (tB (cc X call Xr Er) m1)) : PI X tg e (tI MvB (cc X call Xr Er) m1) := pi_imp (pi_any h) fun σ H R ⟨g, r, m, S, q⟩ => ⟨g, r, m, S, post_mono (post_bind.mp q) (fun d m' q1 v H1 ⟨a, M, rp⟩ => by
  obtain ⟨ds, e, q2⟩ := lift_post q1
  obtain ⟨tl, p, xs, e1, z, st⟩ := std_b rp e
  exact ⟨tl, p, xs, e1, st.sq.1, q2 H1 _ a M (src_seq st z)⟩) fun _ _ _ z => z⟩
theorem bi_rng {p : Pos} (hg : Gl X "range") (hm : X.mg "range" = none) (ha : PE X e (tE (cc X call Xr Er) m1)) (hs : starEach [e] X.env = [(false, eval e X.env)]) : PI X tg (.Call (.Name "range" p) [e] [] pos) (tI Mv (cc X call Xr Er) (.rng m1)) :=
  pi_imp (pi_range1 hg hm (pa_cons ha pa_nil hs) hs) fun σ H W ⟨g, r, m, S, q⟩ => ⟨g, r, m, S, post_mono (post_bind.mp (post_bind.mp q)) (fun d m' q1 v H1 ⟨a, M, rp⟩ => by
    cases d with
    | int j =>
      have q2 : ((if (decide (-(LINE : Int) ≤ j) && decide (j ≤ LINE)) = true then R.ok (D.lst (rangeFrom 0 j.toNat)) m' else .no).post (fun z m => (lift (seqOf z) m).post (fun ds m' => ∀ H' J, Adv g.cs H H' → MemOk X.K g.cs g.Z H' m' → Src X.K Mv g.cs g.Z H' J ds → W J H') (erP (cc X call Xr Er) g H)) (erP (cc X call Xr Er) g H)) := q1
      by_cases hj : (decide (-(LINE : Int) ≤ j) && decide (j ≤ LINE)) = true
      · rw [if_pos hj] at q2
        simp only [Bool.and_eq_true, decide_eq_true_eq, LINE] at hj
        exact ⟨j, by rw [show v = V.int j from rp], by omega, by omega, q2 H1 _ a M (src_rng (by rw [sizeLine_eq]; omega))⟩
      · rw [if_neg hj] at q2
        exact q2.elim
    | _ => exact q1.elim) fun _ _ _ z => z⟩
theorem bi_rng2 {p : Pos} (hg : Gl X "range") (hm : X.mg "range" = none) (ha : PE X e1 (tE (cc X call Xr Er) m1)) (hb : PE X e2 (tE (cc X call Xr Er) m2)) (hs : starEach [e1, e2] X.env = [(false, eval e1 X.env), (false, eval e2 X.env)]) (hs2 : starEach [e2] X.env = [(false, eval e2 X.env)]) :
    PI X tg (.Call (.Name "range" p) [e1, e2] [] pos) (tI Mv (cc X call Xr Er) (.rng2 m1 m2)) :=
  pi_imp (pi_range2 hg hm (pa_cons ha (pa_cons hb pa_nil hs2) (by rw [hs, hs2])) hs hs2) fun σ H W ⟨g, r, m, S, q⟩ => ⟨g, r, m, S, post_mono (post_bind.mp (post_bind.mp q)) (fun d m1 q1 v H1 ⟨a, M, rp⟩ => by
    refine ⟨g, r, m1, S.adv a M, post_mono (post_bind.mp q1) (fun d2 m2 q1 v2 H2 ⟨a2, M2, rp2⟩ => ?_) (erP_adv a)⟩
    cases d with
    | int i =>
      cases d2 with
      | int j =>
        have q2 : ((if (decide (j - i ≤ LINE) && decide (-(2 ^ 60) < i) && decide (i < 2 ^ 60) && decide (-(2 ^ 60) < j) && decide (j < 2 ^ 60)) = true then R.ok (D.lst (rangeFrom i (j - i).toNat)) m2 else .no).post (fun z m => (lift (seqOf z) m).post (fun ds m' => ∀ H' J, Adv g.cs H H' → MemOk X.K g.cs g.Z H' m' → Src X.K Mv g.cs g.Z H' J ds → W J H') (erP (cc X call Xr Er) g H)) (erP (cc X call Xr Er) g H)) := q1
        by_cases hj : (decide (j - i ≤ LINE) && decide (-(2 ^ 60) < i) && decide (i < 2 ^ 60) && decide (-(2 ^ 60) < j) && decide (j < 2 ^ 60)) = true
        · rw [if_pos hj] at q2
          simp only [Bool.and_eq_true, decide_eq_true_eq, LINE] at hj
          exact ⟨i, j, by rw [show v = V.int i from rp, show v2 = V.int j from rp2], ⟨by omega, by omega, by omega, by omega⟩, q2 H2 _ (a.trans a2) M2 (src_rng (by rw [sizeLine_eq]; omega))⟩
        · rw [if_neg hj] at q2
          exact q2.elim
      | _ => exact q1.elim
    | _ => exact q1.elim) fun _ _ _ z => z⟩
end
end Mp

/-! Mp9: slots written; targets; comprehensions. -/
namespace Mp
open PySem PySem.Spec L2
/-! ### slots -/
section
variable {K : PySem.W.Frag} {g : Gh} {H : Hp} {σ : St} {r : Env} {m : Mem}
theorem get_set {A : Type} {l : List A} {i j : Nat} {x y : A} (h : (l.set i x)[j]? = some y) : (i = j ∧ i < l.length ∧ y = x) ∨ (i ≠ j ∧ l[j]? = some y) := by
  by_cases e : i = j
  · subst e
    by_cases hl : i < l.length
    · rw [List.getElem?_set_self hl] at h
      exact .inl ⟨rfl, hl, (Option.some.inj h).symm⟩
    · rw [List.getElem?_eq_none (by rw [List.length_set]; omega)] at h
      cases h
  · rw [List.getElem?_set_ne e] at h
    exact .inr ⟨e, h⟩
/-- a slot takes a value that stays as it is -/
theorem Sim.bind (S : Sim K g H σ r m) {i : Nat} {d : D} {v : V} (h : Rep K g.cs g.Z H d v) : Sim K g H (σ.set i (some v)) (r.set i (some (false, d))) m := by
  refine ⟨S.mem, S.zin, by rw [List.length_set, List.length_set, S.len], fun j d' e => ?_, fun j d' e => ?_, fun j k d1 d2 a hne e1 e2 e3 => ?_, S.keep, S.pre, S.z0, S.z0in⟩
  · rcases get_set e with ⟨ij, hl, e2⟩ | ⟨ne, e2⟩
    · subst ij
      cases e2
      exact ⟨v, by rw [List.getElem?_set_self (by rw [S.len]; exact hl)], h⟩
    · rw [List.getElem?_set_ne ne]
      exact S.val j d' e2
  · rcases get_set e with ⟨ij, hl, e2⟩ | ⟨ne, e2⟩
    · cases e2
    · rw [List.getElem?_set_ne ne]
      exact S.own j d' e2
  · rcases get_set e1 with ⟨_, _, z⟩ | ⟨n1, e1⟩
    · cases z
    · rcases get_set e2 with ⟨_, _, z⟩ | ⟨n2, e2⟩
      · cases z
      · rw [List.getElem?_set_ne n1] at e3
        rw [List.getElem?_set_ne n2]
        exact S.sep j k d1 d2 a hne e1 e2 e3
/-- a slot forgotten -/
theorem Sim.forget (S : Sim K g H σ r m) (i : Nat) : Sim K g H (σ.set i none) (r.set i none) m := by
  refine ⟨S.mem, S.zin, by rw [List.length_set, List.length_set, S.len], fun j d' e => ?_, fun j d' e => ?_, fun j k d1 d2 a hne e1 e2 e3 => ?_, S.keep, S.pre, S.z0, S.z0in⟩
  · rcases get_set e with ⟨ij, hl, e2⟩ | ⟨ne, e2⟩
    · cases e2
    · rw [List.getElem?_set_ne ne]
      exact S.val j d' e2
  · rcases get_set e with ⟨ij, hl, e2⟩ | ⟨ne, e2⟩
    · cases e2
    · rw [List.getElem?_set_ne ne]
      exact S.own j d' e2
  · rcases get_set e1 with ⟨_, _, z⟩ | ⟨n1, e1⟩
    · cases z
    · rcases get_set e2 with ⟨_, _, z⟩ | ⟨n2, e2⟩
      · cases z
      · rw [List.getElem?_set_ne n1] at e3
        rw [List.getElem?_set_ne n2]
        exact S.sep j k d1 d2 a hne e1 e2 e3
theorem Sim.wipe (S : Sim K g H σ r m) : ∀ vs : List Nat, Sim K g H (L2.wipe σ vs) (wipeE r vs) m
  | [] => S
  | v :: vs => (Sim.wipe S vs).forget v
/-- a list of the zone that no slot owns is written -/
theorem Sim.write (S : Sim K g H σ r m) {D : Addr} {ws us : List V} (hZ : g.Z D) (hc : D ∉ g.cs) (hL : H D = some (.lst us)) (h0 : g.H0 D = none) (ho : ∀ (i : Nat) (a : Addr) (d : Mp.D), r[i]? = some (some (true, d)) → σ[i]? = some (some (.ref a)) → a ≠ D) : Sim K g (upd H D (.lst ws)) σ r m := by
  have st : Stp g.cs g.cs g.Z g.Z H (upd H D (.lst ws)) := ⟨fun a o e n => by rw [upd_ne (fun z => n (by rw [z]; exact hZ))]; exact e, fun a xs e => by rw [upd_ne (fun z => by rw [z, hL] at e; cases e)]; exact e,
    fun a o u e => by rw [upd_ne (fun z => by rw [z, hL] at e; cases e)]; exact e, fun _ z => .inl z, fun _ _ e => e⟩
  refine ⟨⟨S.mem.len, S.mem.nd, S.mem.cz, S.mem.nc, fun n a d e1 e2 => ?_⟩, fun a z => ?_, S.len, fun j d e => ?_, fun j d e => ?_, S.sep, fun a o e n => ?_, S.pre, S.z0, S.z0in⟩
  · obtain ⟨ds, vs, e, h1, h2⟩ := S.mem.at_ n a d e1 e2
    exact ⟨ds, vs, e, by rw [upd_ne (fun z => hc (by rw [← z]; exact List.mem_of_getElem? e1))]; exact h1, RepL.step st _ _ h2⟩
  · by_cases e : a = D
    · rw [e, upd_same]; simp
    · rw [upd_ne e]; exact S.zin a z
  · obtain ⟨v, e1, h⟩ := S.val j d e
    exact ⟨v, e1, Rep.step st d v h⟩
  · obtain ⟨a, e1, z, n, h0', h⟩ := S.own j d e
    refine ⟨a, e1, z, n, h0', ?_⟩
    have hne := ho j a d e e1
    cases d with
    | lst ds =>
      obtain ⟨vs, h1, h2, h3⟩ := h
      exact ⟨vs, by rw [upd_ne hne]; exact h1, h2, RepL.step st _ _ h3⟩
    | _ => exact h.elim
  · rw [upd_ne (fun z => by rw [z, h0] at e; cases e)]
    exact S.keep a o e n
/-- a new list joins the zone -/
theorem Sim.grow (S : Sim K g H σ r m) {D : Addr} {ws : List V} (hD : H D = none) (hc : D ∉ g.cs) : Sim K { g with Z := fun a => g.Z a ∨ a = D } (upd H D (.lst ws)) σ r m ∧ Stp g.cs g.cs g.Z (fun a => g.Z a ∨ a = D) H (upd H D (.lst ws)) := by
  have kp : ∀ a o, H a = some o → upd H D (.lst ws) a = some o := fun a o e => by rw [upd_ne (ne_of_none e hD)]; exact e
  have st : Stp g.cs g.cs g.Z (fun a => g.Z a ∨ a = D) H (upd H D (.lst ws)) := ⟨fun a o e _ => kp a o e, fun a xs e => kp a _ e, fun a o u e => kp a _ e, fun a z => z.elim .inl fun e => .inr (by rw [e]; exact hD), fun _ _ e => e⟩
  refine ⟨⟨⟨S.mem.len, S.mem.nd, fun a z => .inl (S.mem.cz a z), S.mem.nc, fun n a d e1 e2 => ?_⟩, fun a z => ?_, S.len, fun j d e => ?_, fun j d e => ?_, S.sep, fun a o e n => kp a o (S.keep a o e n), S.pre, fun a z => .inl (S.z0 a z), S.z0in⟩, st⟩
  · obtain ⟨ds, vs, e, h1, h2⟩ := S.mem.at_ n a d e1 e2
    exact ⟨ds, vs, e, kp _ _ h1, RepL.step st _ _ h2⟩
  · rcases z with z | z
    · cases q : H a with
      | none => exact absurd q (S.zin a z)
      | some o => rw [kp a o q]; simp
    · rw [z, upd_same]; simp
  · obtain ⟨v, e1, h⟩ := S.val j d e
    exact ⟨v, e1, Rep.step st d v h⟩
  · obtain ⟨a, e1, z, n, h0, h⟩ := S.own j d e
    refine ⟨a, e1, .inl z, n, h0, ?_⟩
    cases d with
    | lst ds =>
      obtain ⟨vs, h1, h2, h3⟩ := h
      exact ⟨vs, kp _ _ h1, h2, RepL.step st _ _ h3⟩
    | _ => exact h.elim
end
theorem wipe_in {σ : St} {i : Nat} {v : Option V} : ∀ {vs : List Nat}, i ∈ vs → L2.wipe (σ.set i v) vs = L2.wipe σ vs := by
  intro vs h
  refine List.ext_getElem? fun j => ?_
  have key : ∀ (vs : List Nat) (τ : St) (j : Nat), j ∈ vs → j < τ.length → (L2.wipe τ vs)[j]? = some none := fun vs => by
    induction vs with
    | nil => intro τ j h; cases h
    | cons w vs ih =>
      intro τ j h hl
      show ((L2.wipe τ vs).set w none)[j]? = some none
      by_cases e : w = j
      · subst e
        rw [List.getElem?_set_self (by rw [wipe_length]; exact hl)]
      · rw [List.getElem?_set_ne e]
        rcases List.mem_cons.mp h with z | z
        · exact absurd z.symm e
        · exact ih τ j z hl
  by_cases hj : j ∈ vs
  · by_cases hl : j < σ.length
    · rw [key vs _ j hj (by rw [List.length_set]; exact hl), key vs _ j hj hl]
    · rw [List.getElem?_eq_none (by rw [wipe_length, List.length_set]; omega), List.getElem?_eq_none (by rw [wipe_length]; omega)]
  · rw [wipe_out hj, wipe_out hj, List.getElem?_set_ne (fun e => hj (by rw [← e]; exact h))]

theorem wipe_twice {σ : St} {own : List Nat} : L2.wipe (L2.wipe σ own) own = L2.wipe σ own := by
  have key : ∀ (τ : St) (j : Nat), j ∈ own → (L2.wipe τ own)[j]? = if j < τ.length then some none else none := fun τ j hj => by
    by_cases hl : j < τ.length
    · rw [if_pos hl]
      cases q : (L2.wipe τ own)[j]? with
      | none =>
        have := List.getElem?_eq_none_iff.mp q
        rw [wipe_length] at this
        omega
      | some z =>
        cases z with
        | none => rfl
        | some v => exact absurd hj (wipe_some q).2
    · rw [if_neg hl, List.getElem?_eq_none (by rw [wipe_length]; omega)]
  refine List.ext_getElem? fun j => ?_
  by_cases hj : j ∈ own
  · rw [key _ j hj, key _ j hj, wipe_length]
  · rw [wipe_out hj]

/-! ### targets -/
def gNames : List Nat → TGs
  | [] => gNil
  | i :: is => gCons (gName i) (gNames is)
def gD (K : PySem.W.Frag) (ts : List Nat) (one : Bool) : TG := match one, ts with
  | true, [i] => gName i
  | _, ts => gTup K ts.length (gNames ts)
section
variable {K : PySem.W.Frag} {g : Gh} {H : Hp} {m : Mem}
theorem names_run : ∀ (ts : List Nat) (ds : List D) (vs : List V) (σ : St) (r : Env) (Q : St → Hp → Prop), Sim K g H σ r m → ts.length = ds.length → RepL K g.cs g.Z H ds vs →
    (∀ σ', Sim K g H σ' ((ts.zip ds).foldl (fun r p => r.set p.1 (some (false, p.2))) r) m → (∀ ws : List Nat, (∀ t ∈ ts, t ∈ ws) → L2.wipe σ' ws = L2.wipe σ ws) → Q σ' H) → gNames ts vs σ H Q
  | [], ds, vs, σ, r, Q, S, hl, h, k => by
    cases ds with
    | nil => exact ⟨h, k σ S fun _ _ => rfl⟩
    | cons _ _ => cases hl
  | t :: ts, ds, vs, σ, r, Q, S, hl, h, k => by
    cases ds with
    | nil => cases hl
    | cons d ds =>
      obtain ⟨v, rest, e, h1, h2⟩ := h
      refine ⟨v, rest, e, ?_⟩
      exact names_run ts ds rest _ (r.set t (some (false, d))) Q (S.bind h1) (Nat.succ.inj hl) h2 fun σ' S' hw => k σ' S' fun ws hws => (hw ws fun u hu => hws u (List.mem_cons_of_mem _ hu)).trans (wipe_in (hws t List.mem_cons_self))
theorem gD_run {ts : List Nat} {one : Bool} {d : D} {v : V} {σ : St} {r r' : Env} {Q : St → Hp → Prop} (S : Sim K g H σ r m) (h : Rep K g.cs g.Z H d v) (e : bindT ts one d r = some r')
    (k : ∀ σ', Sim K g H σ' r' m → (∀ ws : List Nat, (∀ t ∈ ts, t ∈ ws) → L2.wipe σ' ws = L2.wipe σ ws) → Q σ' H) : gD K ts one v σ H Q := by
  cases one with
  | true =>
    match ts, e with
    | [i], e =>
      cases e
      exact k _ (S.bind h) fun ws hws => wipe_in (hws i List.mem_cons_self)
  | false =>
    cases d with
    | tup xs =>
      have e' : (if ts.length = xs.length then some ((ts.zip xs).foldl (fun r p => r.set p.1 (some (false, p.2))) r) else none) = some r' := e
      by_cases hl : ts.length = xs.length
      · rw [if_pos hl] at e'
        cases e'
        obtain ⟨a, vs, e1, t, z, rs⟩ := h
        show gTup K ts.length (gNames ts) v σ H Q
        exact ⟨a, vs, e1, t, by rw [rs.length, hl], names_run ts xs vs σ r Q S hl rs k⟩
      · rw [if_neg hl] at e'
        cases e'
    | _ => cases e
end

theorem fold_own : ∀ (ts : List Nat) (xs : List D) (r : Env) (i : Nat) (d : D), ((ts.zip xs).foldl (fun r p => r.set p.1 (some (false, p.2))) r)[i]? = some (some (true, d)) → r[i]? = some (some (true, d))
  | [], _, _, _, _, h => h
  | _ :: _, [], _, _, _, h => h
  | t :: ts, x :: xs, r, i, d, h => by
    have := fold_own ts xs _ i d h
    rcases get_set this with ⟨_, _, z⟩ | ⟨_, z⟩
    · cases z
    · exact z
theorem fold_notin : ∀ (ts : List Nat) (xs : List D) (r : Env) (i : Nat) (d : D), ts.length = xs.length → ((ts.zip xs).foldl (fun r p => r.set p.1 (some (false, p.2))) r)[i]? = some (some (true, d)) → i ∉ ts
  | [], _, _, _, _, _, h => by simp
  | _ :: _, [], _, _, _, h, _ => by cases h
  | t :: ts, x :: xs, r, i, d, hl, h => by
    intro hm
    have k := fold_own ts xs _ i d h
    rcases List.mem_cons.mp hm with e | hm
    · rcases get_set k with ⟨_, _, z⟩ | ⟨n, _⟩
      · cases z
      · exact n e.symm
    · exact fold_notin ts xs _ i d (Nat.succ.inj hl) h hm
theorem bindT_own {ts : List Nat} {one : Bool} {x : D} {r r' : Env} {i : Nat} {d : D} (e : bindT ts one x r = some r') (h : r'[i]? = some (some (true, d))) : i ∉ ts ∧ r[i]? = some (some (true, d)) := by
  cases one with
  | true =>
    match ts, e with
    | [t], e =>
      cases e
      rcases get_set h with ⟨_, _, z⟩ | ⟨n, z⟩
      · cases z
      · exact ⟨by simp only [List.mem_singleton]; exact fun e => n e.symm, z⟩
  | false =>
    cases x with
    | tup xs =>
      have e' : (if ts.length = xs.length then some ((ts.zip xs).foldl (fun r p => r.set p.1 (some (false, p.2))) r) else none) = some r' := e
      by_cases hl : ts.length = xs.length
      · rw [if_pos hl] at e'
        cases e'
        exact ⟨fold_notin _ _ _ _ _ hl h, fold_own _ _ _ _ _ h⟩
      · rw [if_neg hl] at e'
        cases e'
    | _ => cases e
theorem wipeE_own {r : Env} {i : Nat} {d : D} : ∀ {ws : List Nat}, (wipeE r ws)[i]? = some (some (true, d)) → r[i]? = some (some (true, d))
  | [], h => h
  | w :: ws, h => by
    rcases get_set (show ((wipeE r ws).set w none)[i]? = _ from h) with ⟨_, _, z⟩ | ⟨_, z⟩
    · cases z
    · exact wipeE_own z

/-! ### comprehensions -/
theorem calm_post {A : Type} {x : R A} {P : A → Mem → Prop} {E : Nat → D → Mem → Prop} (h : x.calm.post P E) : x.post P fun _ _ _ => False := by
  cases x with
  | ok a m => exact h
  | err _ _ _ => exact h.elim
  | no => exact h
/-- the context within a comprehension: no error leaves it -/
def calmC (c : Cc) : Cc := { c with E := fun _ _ _ => False }
/-- a turn of a comprehension -/
def compF (call : Nat → List D → Mem → R D) (cnd elt : E) (ts : List Nat) (one : Bool) (own : List Nat) (r : Env) (x : D) (m : Mem) : R (Option D) := match bindT ts one x (wipeE r own) with
  | some r' => ((evE call cnd r' m).bind fun b m => match b with
    | .bl true => (evE call elt r' m).bind fun y m => .ok (some y) m
    | .bl false => .ok none m
    | _ => .no).calm
  | none => .no
theorem compF_post {call : Nat → List D → Mem → R D} {cnd elt : E} {ts : List Nat} {one : Bool} {own : List Nat} {r : Env} {x : D} {m : Mem} {P : Option D → Mem → Prop} {Er : Nat → D → Mem → Prop} (h : (compF call cnd elt ts one own r x m).post P Er) :
    ∃ r', bindT ts one x (wipeE r own) = some r' ∧ (evE call cnd r' m).post (fun b m => ∃ k, b = .bl k ∧ if k = true then (evE call elt r' m).post (fun y m => P (some y) m) fun _ _ _ => False else P none m) fun _ _ _ => False := by
  unfold compF at h
  cases hb : bindT ts one x (wipeE r own) with
  | none => rw [hb] at h; exact h.elim
  | some r' =>
    rw [hb] at h
    refine ⟨r', rfl, post_mono (post_bind.mp (calm_post h)) (fun b m1 q => ?_) fun _ _ _ z => z⟩
    cases b with
    | bl k =>
      refine ⟨k, rfl, ?_⟩
      cases k with
      | true => rw [if_pos rfl]; exact post_mono (post_bind.mp q) (fun _ _ z => z) fun _ _ _ z => z
      | false => rw [if_neg Bool.false_ne_true]; exact q
    | _ => exact q.elim
section
variable {c : Cc} {g : Gh} {H1 : Hp}
/-- the comprehension's list, taken out of the zone again -/
theorem out_zone {K : PySem.W.Frag} {cs : List Addr} {Z : Addr → Prop} {H : Hp} {m : Mem} {D : Addr} {acc : List V} {ys : List Mp.D} (M : MemOk K cs (fun a => Z a ∨ a = D) H m) (hD : H D = some (.lst acc)) (hc : D ∉ cs) (hz : ¬ Z D) (cz : ∀ a ∈ cs, Z a) (rs : RepL K cs (fun a => Z a ∨ a = D) H ys acc) :
    ∃ Hx, H = upd Hx D (.lst acc) ∧ Hx D = none ∧ (∀ a, a ≠ D → Hx a = H a) ∧ MemOk K cs Z Hx m ∧ RepL K cs Z Hx ys acc := by
  refine ⟨fun a => if a = D then none else H a, ?_, if_pos rfl, fun a h => if_neg h, ?_⟩
  · funext a
    by_cases e : a = D
    · rw [e, upd_same, hD]
    · rw [upd_ne e, if_neg e]
  · have st : Stp cs cs (fun a => Z a ∨ a = D) Z H (fun a => if a = D then none else H a) := ⟨fun a o e n => by rw [if_neg (fun z => n (.inr z))]; exact e, fun a xs e => by rw [if_neg (fun z => by rw [z, hD] at e; cases e)]; exact e,
      fun a o u e => by rw [if_neg (fun z => by rw [z, hD] at e; cases e)]; exact e, fun a z => .inl (.inl z), fun _ _ e => e⟩
    refine ⟨⟨M.len, M.nd, cz, M.nc, fun n a d e1 e2 => ?_⟩, RepL.step st _ _ rs⟩
    obtain ⟨ds, vs, e, h1, h2⟩ := M.at_ n a d e1 e2
    exact ⟨ds, vs, e, by show (if a = D then none else H a) = _; rw [if_neg (fun z => hc (by rw [← z]; exact List.mem_of_getElem? e1))]; exact h1, RepL.step st _ _ h2⟩
end
section
variable {c : Cc} {σ : St} {H H1 : Hp} {g : Gh} {r : Env} {m : Mem} {J : It} {ds : List D} {own ts : List Nat} {one : Bool} {cnd elt : E} {Q : VK}
/-- what stands at a turn's head -/
def LcI (c : Cc) (g : Gh) (H1 : Hp) (σ : St) (r : Env) (D : Addr) (ys : List Mp.D) (acc : List V) (mi : Mem) (Hi : Hp) : Prop :=
  Sim c.K { g with Z := fun a => g.Z a ∨ a = D } Hi σ r mi ∧ Adv g.cs H1 Hi ∧ Hi D = some (.lst acc) ∧ RepL c.K g.cs (fun a => g.Z a ∨ a = D) Hi ys acc
/-- an item is appended -/
theorem LcI.app {D : Addr} {ys : List Mp.D} {acc : List V} {mi m4 : Mem} {Hi H4 : Hp} {y : V} {d : Mp.D} (L : LcI c g H1 σ r D ys acc mi Hi) (hD1 : H1 D = none) (hc : D ∉ g.cs) (h0 : g.H0 D = none) (ho : ∀ (i : Nat) (a : Addr) (d : Mp.D), r[i]? = some (some (true, d)) → σ[i]? = some (some (.ref a)) → a ≠ D)
    (a : Adv g.cs Hi H4) (M : MemOk c.K g.cs (fun a => g.Z a ∨ a = D) H4 m4) (rp : Rep c.K g.cs (fun a => g.Z a ∨ a = D) H4 d y) : H4 D = some (.lst acc) ∧ LcI c g H1 σ r D (ys ++ [d]) (acc ++ [y]) m4 (upd H4 D (.lst (acc ++ [y]))) ∧ Stp g.cs g.cs (fun a => g.Z a ∨ a = D) (fun a => g.Z a ∨ a = D) Hi (upd H4 D (.lst (acc ++ [y]))) := by
  obtain ⟨S, a1, hD, rs⟩ := L
  have h4 : H4 D = some (.lst acc) := a D _ hD hc
  have S4 := S.adv (g := { g with Z := fun a => g.Z a ∨ a = D }) a M
  have S5 : Sim c.K { g with Z := fun a => g.Z a ∨ a = D } (upd H4 D (.lst (acc ++ [y]))) σ r m4 := S4.write (.inr rfl) hc h4 h0 ho
  have st : Stp g.cs g.cs (fun a => g.Z a ∨ a = D) (fun a => g.Z a ∨ a = D) H4 (upd H4 D (.lst (acc ++ [y]))) := ⟨fun a o e n => by rw [upd_ne (fun z => n (.inr z))]; exact e, fun a xs e => by rw [upd_ne (fun z => by rw [z, h4] at e; cases e)]; exact e,
    fun a o u e => by rw [upd_ne (fun z => by rw [z, h4] at e; cases e)]; exact e, fun _ z => .inl z, fun _ _ e => e⟩
  have st1 := S.mem.stp (cs := g.cs) (Z := fun a => g.Z a ∨ a = D) a
  refine ⟨h4, ⟨S5, fun x o e n => ?_, upd_same, ?_⟩, ?_⟩
  · rw [upd_ne (fun z => by rw [z, hD1] at e; cases e)]
    exact a x o (a1 x o e n) n
  · exact RepL.step st _ _ (RepL.append (RepL.step st1 _ _ rs) (repL_one rp))
  · exact ⟨fun a o e n => st.keep a o (st1.keep a o e n) n, fun a xs e => st.tup _ _ (st1.tup _ _ e), fun a o u e => st.frz _ _ _ (st1.frz _ _ _ e), fun _ z => .inl z, fun _ _ e => e⟩
/-- a comprehension's loop from any heap -/
theorem lc_itS {J : It} {n : Nat} {G : Hp → Prop} {Y : Nat → Hp → V → Hp → Prop} (w : Walk J n G Y) {gg : TG} {tt : TT} {te : TE} {vs : List Nat} {σ : St} {Hs : Hp} {D : Addr} {Qd : Hp → Prop} (Pv : Nat → Hp → Prop) (h0 : Pv 0 Hs) (hG : ∀ i H, i ≤ n → Pv i H → G H)
    (hs : ∀ i x H H', i < n → Pv i H → Y i H x H' → gg x (L2.wipe σ vs) H' fun σ2 H2 => L2.wipe σ2 vs = L2.wipe σ vs ∧ tt σ2 H2 fun b H3 =>
      if b = true then te σ2 H3 fun y H4 => ∃ acc, H4 D = some (.lst acc) ∧ acc.length < sizeLine ∧ Pv (i + 1) (upd H4 D (.lst (acc ++ [y]))) else Pv (i + 1) H3) (hd : ∀ H, Pv n H → Qd H) :
    ∃ W : Nat → Nat → Hp → Prop, (∃ m, W 0 m Hs) ∧ ∀ i m H, W i m H →
      (J.stop i H ∧ Qd H) ∨ (J.go i H ∧ ∃ Nx : Hp → Prop, (∀ H', Nx H' → ∃ m', m' < m ∧ W (i + 1) m' H') ∧ ∀ x H', J.yld i H x H' → gg x (L2.wipe σ vs) H' fun σ2 H2 => L2.wipe σ2 vs = L2.wipe σ vs ∧ tt σ2 H2 fun b H3 =>
        if b = true then te σ2 H3 fun y H4 => ∃ acc, H4 D = some (.lst acc) ∧ acc.length < sizeLine ∧ Nx (upd H4 D (.lst (acc ++ [y]))) else Nx H3) :=
  ⟨fun i m H => i + m = n ∧ Pv i H, ⟨n, Nat.zero_add n, h0⟩, fun i m H ⟨e, p⟩ => by
    have gH := hG i H (by omega) p
    cases m with
    | zero =>
      have e : i = n := e
      rw [e] at p ⊢
      exact .inl ⟨w.stops H gH, hd H p⟩
    | succ m => exact .inr ⟨w.goes i H (by omega) gH, Pv (i + 1), fun H' p' => ⟨m, Nat.lt_succ_self m, by omega, p'⟩, fun x H' y => hs i x H H' (by omega) p (w.yields i H x H' (by omega) gH y)⟩⟩
/-- D is a list of no slot -/
def NoSlot (σ : St) (r : Env) (D : Addr) : Prop := ∀ (i : Nat) (a : Addr) (d : Mp.D), r[i]? = some (some (true, d)) → σ[i]? = some (some (.ref a)) → a ≠ D
/-- all stays but the cells and D -/
def AdvD (cs : List Addr) (D : Addr) (H H' : Hp) : Prop := ∀ a o, H a = some o → a ∉ cs → a ≠ D → H' a = some o
theorem AdvD.of {cs : List Addr} {D : Addr} {H H' : Hp} (a : Adv cs H H') : AdvD cs D H H' := fun x o e n _ => a x o e n
theorem AdvD.trans {cs : List Addr} {D : Addr} {H H1 H2 : Hp} (a : AdvD cs D H H1) (b : AdvD cs D H1 H2) : AdvD cs D H H2 := fun x o e n k => b x o (a x o e n k) n k
theorem AdvD.upd {cs : List Addr} {D : Addr} {H : Hp} {u : HO} : AdvD cs D H (upd H D u) := fun x o e _ k => by rw [upd_ne k]; exact e
theorem MemOk.stpD {K : PySem.W.Frag} {cs : List Addr} {Z : Addr → Prop} {H H' : Hp} {m : Mem} {D : Addr} {us : List V} (M : MemOk K cs Z H m) (hZ : Z D) (hD : H D = some (.lst us)) (a : AdvD cs D H H') : Stp cs cs Z Z H H' :=
  ⟨fun x o e n => a x o e (fun z => n (M.cz x z)) (fun z => n (by rw [z]; exact hZ)),
   fun x xs e => a x _ e (fun z => absurd (M.lst z) (fun ⟨vs, q⟩ => by rw [e] at q; cases q)) (fun z => by rw [z, hD] at e; cases e),
   fun x o u e => a x _ e (fun z => absurd (M.lst z) (fun ⟨vs, q⟩ => by rw [e] at q; cases q)) (fun z => by rw [z, hD] at e; cases e), fun _ z => .inl z, fun _ _ e => e⟩
theorem Sim.advD {K : PySem.W.Frag} {g : Gh} {H H' : Hp} {σ : St} {r : Env} {m m' : Mem} {D : Addr} {us ws : List V} (S : Sim K g H σ r m) (hZ : g.Z D) (hc : D ∉ g.cs) (hD : H D = some (.lst us)) (hD' : H' D = some (.lst ws)) (h0 : g.H0 D = none) (hn : NoSlot σ r D) (a : AdvD g.cs D H H') (M : MemOk K g.cs g.Z H' m') : Sim K g H' σ r m' := by
  have st := S.mem.stpD hZ hD a
  refine ⟨M, fun x z => ?_, S.len, fun i d e => ?_, fun i d e => ?_, S.sep, fun x o e n => ?_, S.pre, S.z0, S.z0in⟩
  · by_cases k : x = D
    · rw [k, hD']; simp
    · by_cases hx : x ∈ g.cs
      · obtain ⟨vs, e⟩ := M.lst hx
        rw [e]; simp
      · cases q : H x with
        | none => exact absurd q (S.zin x z)
        | some o => rw [a x o q hx k]; simp
  · obtain ⟨v, e1, h⟩ := S.val i d e
    exact ⟨v, e1, Rep.step st d v h⟩
  · obtain ⟨b, e1, z, n, h0', h⟩ := S.own i d e
    refine ⟨b, e1, z, n, h0', ?_⟩
    cases d with
    | lst ds =>
      obtain ⟨vs, h1, h2, h3⟩ := h
      exact ⟨vs, a _ _ h1 n (hn i b _ e e1), h2, RepL.step st ds vs h3⟩
    | _ => exact h.elim
  · have h1 := S.keep x o e n
    obtain ⟨more, e2, hm⟩ := S.pre
    refine a x o h1 (fun z => ?_) fun z => by rw [z, h0] at e; cases e
    rw [e2] at z
    rcases List.mem_append.mp z with z | z
    · exact n z
    · rw [hm x z] at e; cases e
theorem lc_loop {D : Addr} {Hs : Hp} {ys0 : List Mp.D} {acc0 : List V} {G : Hp → Prop} {Y : Nat → Hp → V → Hp → Prop} {Ok : Hp → Prop} (L : LcI c g H1 (L2.wipe σ own) (wipeE r own) D ys0 acc0 m Hs) (hc : D ∉ g.cs) (hD1 : H1 D = none) (h0 : g.H0 D = none) (hn : NoSlot (L2.wipe σ own) (wipeE r own) D)
    (w : Walk J ds.length G Y) (ok0 : Ok Hs) (og : ∀ Hi, Ok Hi → G Hi) (st : ∀ Hi Hj, Adv g.cs H1 Hj → Stp g.cs g.cs (fun a => g.Z a ∨ a = D) (fun a => g.Z a ∨ a = D) Hi Hj → Ok Hi → Ok Hj)
    (yl : ∀ i Hi x H' m, MemOk c.K g.cs (fun a => g.Z a ∨ a = D) Hi m → Ok Hi → Y i Hi x H' → (∀ a o, Hi a = some o → H' a = some o) ∧ ∃ d, ds[i]? = some d ∧ Rep c.K g.cs (fun a => g.Z a ∨ a = D) H' d x)
    (hts : ∀ t ∈ ts, t ∈ own) (hz : acc0.length + ds.length ≤ sizeLine) {E : Nat → Mp.D → Mem → Prop} {Fin : List Mp.D → Mem → Prop} (h : (mapL (compF c.call cnd elt ts one own r) ds m).post Fin E)
    {Qd : Hp → Prop} (hq : ∀ ys m2 acc Hn, Fin ys m2 → LcI c g H1 (L2.wipe σ own) (wipeE r own) D (ys0 ++ ys) acc m2 Hn → acc.length ≤ acc0.length + ds.length → AdvD g.cs D Hs Hn → Qd Hn) :
    ∃ W : Nat → Nat → Hp → Prop, (∃ m, W 0 m Hs) ∧ ∀ i m H, W i m H →
      (J.stop i H ∧ Qd H) ∨ (J.go i H ∧ ∃ Nx : Hp → Prop, (∀ H', Nx H' → ∃ m', m' < m ∧ W (i + 1) m' H') ∧ ∀ x H', J.yld i H x H' → gD c.K ts one x (L2.wipe σ own) H' fun σ2 H2 => L2.wipe σ2 own = L2.wipe σ own ∧ tT (calmC c) cnd σ2 H2 fun b H3 =>
        if b = true then tE (calmC c) elt σ2 H3 fun y H4 => ∃ acc, H4 D = some (.lst acc) ∧ acc.length < sizeLine ∧ Nx (upd H4 D (.lst (acc ++ [y]))) else Nx H3) := by
  refine lc_itS w (fun i Hi => ∃ ys mi acc, LcI c g H1 (L2.wipe σ own) (wipeE r own) D (ys0 ++ ys) acc mi Hi ∧ acc.length ≤ acc0.length + i ∧ Ok Hi ∧ AdvD g.cs D Hs Hi ∧
    (mapL (compF c.call cnd elt ts one own r) (ds.drop i) mi).post (fun ys' m2 => Fin (ys ++ ys') m2) E) ?_ ?_ ?_ ?_
  · refine ⟨[], m, acc0, by rw [List.append_nil]; exact L, Nat.le_refl _, ok0, fun _ _ e _ _ => e, ?_⟩
    rw [List.drop_zero]
    exact post_mono h (fun _ _ z => z) fun _ _ _ z => z
  · rintro i Hi _ ⟨ys, mi, acc, _, _, ok, _⟩
    exact og _ ok
  · rintro i x Hi H' hi ⟨ys, mi, acc, L, hl, ok, aS, q⟩ hy
    obtain ⟨kp, d, e1, rp⟩ := yl i Hi x H' mi L.1.mem ok hy
    have ed : ds.drop i = d :: ds.drop (i + 1) := by
      rw [List.drop_eq_getElem_cons hi]
      congr 1
      exact (List.getElem?_eq_some_iff.mp e1).2
    rw [ed] at q
    have q := post_bind.mp q
    have L0 := L
    obtain ⟨Si, ai, hDi, rs⟩ := L
    have S' := Si.adv (g := { g with Z := fun a => g.Z a ∨ a = D }) (.same kp) (Si.mem.keep kp)
    obtain ⟨r', hb, q⟩ := compF_post q
    refine gD_run S' rp hb fun σ2 S2 hw => ⟨by rw [hw own hts, wipe_twice], ?_⟩
    refine ⟨_, r', mi, S2, post_mono q (fun b mb qb => ?_) fun _ _ _ z => z.elim⟩
    obtain ⟨k, e, qb⟩ := qb
    subst e
    refine ⟨k, rfl, fun H3 a3 M3 => ?_⟩
    have aI : Adv g.cs Hi H3 := Adv.trans (.same kp) a3
    show (if k = true then _ else _)
    cases k with
    | true =>
      rw [if_pos rfl] at qb ⊢
      have S3 := S2.adv a3 M3
      refine ⟨_, r', mb, S3, post_mono qb (fun y m4 qy v H4 ⟨a4, M4, ry⟩ => ?_) fun _ _ _ z => z.elim⟩
      obtain ⟨h4, L', st'⟩ := L0.app hD1 hc h0 hn (aI.trans a4) M4 ry
      refine ⟨acc, h4, by omega, ys ++ [y], m4, acc ++ [v], by rw [← List.append_assoc]; exact L', by rw [List.length_append]; exact Nat.succ_le_succ hl, st _ _ L'.2.1 st' ok, aS.trans ((AdvD.of (aI.trans a4)).trans .upd), ?_⟩
      exact post_mono (post_bind.mp qy) (fun ys' m2 z => by rw [List.append_assoc]; exact z) fun _ _ _ z => z
    | false =>
      rw [if_neg Bool.false_ne_true] at qb ⊢
      have st3 := Si.mem.stp (cs := g.cs) (Z := fun a => g.Z a ∨ a = D) aI
      exact ⟨ys, mb, acc, ⟨Si.adv (g := { g with Z := fun a => g.Z a ∨ a = D }) aI M3, ai.trans aI, aI D _ hDi hc, RepL.step st3 _ _ rs⟩, Nat.le_succ_of_le hl, st _ _ (ai.trans aI) st3 ok, aS.trans (.of aI), post_mono (post_bind.mp qb) (fun _ _ z => z) fun _ _ _ z => z⟩
  · rintro Hn ⟨ys, mi, acc, L, hl, ok, aS, q⟩
    rw [List.drop_length] at q
    have q : Fin (ys ++ []) mi := q
    rw [List.append_nil] at q
    exact hq ys mi acc Hn q L hl aS
/-- a new list for a comprehension -/
theorem lc_start {D : Addr} (S : Sim c.K g H σ r m) (hc : D ∉ g.cs) (hD1 : H D = none) : LcI c g H (L2.wipe σ own) (wipeE r own) D [] [] m (upd H D (.lst [])) ∧ ¬ g.Z D ∧ g.H0 D = none ∧ NoSlot (L2.wipe σ own) (wipeE r own) D ∧ Stp g.cs g.cs g.Z (fun a => g.Z a ∨ a = D) H (upd H D (.lst [])) := by
  have SW := S.wipe own
  obtain ⟨S1, st1⟩ := SW.grow (ws := []) hD1 hc
  have hz : ¬ g.Z D := fun z => S.zin D z hD1
  refine ⟨⟨S1, .new hD1, upd_same, rfl⟩, hz, ?_, fun i a d e1 e2 z => ?_, st1⟩
  · cases q : g.H0 D with
    | none => rfl
    | some o =>
      by_cases k : D ∈ g.cs0
      · obtain ⟨more, e, _⟩ := S.pre
        exact absurd (by rw [e]; exact List.mem_append_left _ k) hc
      · have := S.keep D o q k
        rw [hD1] at this; cases this
  · obtain ⟨b, e3, z1, _⟩ := SW.own i d e1
    rw [e2] at e3
    cases e3
    rw [z] at z1
    exact hz z1
end
section
variable {X : Cx} {call : Nat → List D → Mem → R D} {Xr : Nat → D → Hp → Value → Option Addr → Prop} {Er : XK} {pos : Pos} {tg e : Expr} {m1 : E}
theorem bs_nil : PTs X [] (tT (cc X call Xr Er) (.lit (.bl true))) := ⟨fun pins s σ H Q I ⟨g, r, m, S, b, e, q⟩ => by
  cases e
  exact pts_nil.run pins s σ H Q I (q H (.refl _ _) S.mem)⟩
theorem bs_one (h : PT X e (tT (cc X call Xr Er) m1)) : PTs X [e] (tT (cc X call Xr Er) m1) := pts_one h
/-- a comprehension's reading -/
theorem lc_imp {own : List (Str × Nat)} {ts : List Nat} {one : Bool} {src cnd me : E} (hts : ∀ t ∈ ts, t ∈ own.map (·.2)) : ∀ (σ : St) (H : Hp) (Q : VK), tF (cc X call Xr Er) (.comp me ts one src cnd (own.map (·.2))) σ H Q →
    tLc (tI MvB (cc X call Xr Er) src) (gD X.K ts one) (tT (calmC (cc X call Xr Er)) cnd) (tE (calmC (cc X call Xr Er)) me) (own.map (·.2)) σ H Q :=
  fun σ H Q ⟨g, r, m, S, q⟩ => ⟨g, r, m, S, post_mono (post_bind.mp q) (fun ds m' q1 H1 J a M W D hD => by
    have S1 := S.adv a M
    have q2 : ((mapL (compF call cnd me ts one (own.map (·.2)) r) ds m').bind fun ys m => R.ok (Mp.D.lst ys) m).post _ _ := q1
    obtain ⟨hlen, G, Y, Ok, w, ok, og, st, yl⟩ := W
    obtain ⟨L, nz, h0, hn, st1⟩ := lc_start (c := cc X call Xr Er) (own := own.map (·.2)) S1 (M.out hD) hD
    refine lc_loop (Ok := Ok g.cs (fun a => g.Z a ∨ a = D)) L (M.out hD) hD h0 hn w (st _ _ _ _ _ _ ⟨rfl, .new hD, st1⟩ ok) (fun Hi => og _ _ Hi) (fun Hi Hj aj s k => st _ _ _ _ _ _ ⟨rfl, aj, s⟩ k) (fun i Hi x H' m => yl _ _ i Hi x H' m) hts (by rw [List.length_nil, Nat.zero_add]; exact hlen) (post_bind.mp q2) fun ys m2 acc Hn q2 ⟨Sn, an, hDn, rs⟩ hl _ => ?_
    obtain ⟨Hx, e1, e2, e3, M2, rx⟩ := out_zone Sn.mem hDn (M.out hD) nz S1.mem.cz rs
    rw [e1]
    exact q2 _ _ ⟨Hx, D, acc, a.trans fun x o e n => by rw [e3 x (fun z => by rw [z, hD] at e; cases e)]; exact an x o e n, M2, e2, rfl, rfl, by rw [List.length_nil, Nat.zero_add] at hl; exact Nat.le_trans hl hlen, rx⟩) fun _ _ _ z => z⟩
/-- the context of a comprehension's block, as the readings take it -/
theorem bf_comp {elt iter : Expr} {ifs : List Expr} {scope : Scope} {own : List (Str × Nat)} {ts : List Nat} {one : Bool} {src cnd me : E} (hc : X.calm = true) (hN : X.N.Nodup) (hi : PI X tg iter (tI MvB (cc X call Xr Er) src)) (ok : BlkOk X.N X.env.scope scope own) (hts : ∀ t ∈ ts, t ∈ own.map (·.2))
    (hg : ∀ (s : Shared) (H : Hp) (C : Addr) (cl : List (Str × Addr)) (fp : List Addr), PG (X.blk s H scope (compEnvC scope cl C X.env) fp) tg (gD X.K ts one))
    (ht : ∀ (s : Shared) (H : Hp) (C : Addr) (cl : List (Str × Addr)) (fp : List Addr), PTs (X.blk s H scope (compEnvC scope cl C X.env) fp) ifs (tT (calmC (cc X call Xr Er)) cnd))
    (he : ∀ (s : Shared) (H : Hp) (C : Addr) (cl : List (Str × Addr)) (fp : List Addr), PE (X.blk s H scope (compEnvC scope cl C X.env) fp) elt (tE (calmC (cc X call Xr Er)) me)) (hs : ∀ x, foldedSetIterable iter X.env x = pure x) :
    PE X (.ListComp elt [⟨tg, iter, ifs, 0⟩] scope pos) (tF (cc X call Xr Er) (.comp me ts one src cnd (own.map (·.2)))) :=
  pe_imp (pe_lc hc hN hi ok hg ht he hs) (lc_imp hts)
/-- a turn of the outer clause -/
def compG (call : Nat → List D → Mem → R D) (cnd elt src1 : E) (ts : List Nat) (one : Bool) (ts1 : List Nat) (one1 : Bool) (own : List Nat) (r : Env) (x : D) (m : Mem) : R (Option D) := match bindT ts one x (wipeE r own) with
  | some r1 => ((evI call src1 r1 m).bind fun zs m => if zs.length ≤ 4096 then (mapL (compF call cnd elt ts1 one1 ts1 r1) zs m).bind fun ys m => .ok (some (.lst ys)) m else .no).calm
  | none => .no
theorem compG_post {call : Nat → List D → Mem → R D} {cnd elt src1 : E} {ts : List Nat} {one : Bool} {ts1 : List Nat} {one1 : Bool} {own : List Nat} {r : Env} {x : D} {m : Mem} {P : Option D → Mem → Prop} {Er : Nat → D → Mem → Prop} (h : (compG call cnd elt src1 ts one ts1 one1 own r x m).post P Er) :
    ∃ r1, bindT ts one x (wipeE r own) = some r1 ∧ (evI call src1 r1 m).post (fun zs m => zs.length ≤ 4096 ∧ (mapL (compF call cnd elt ts1 one1 ts1 r1) zs m).post (fun ys m => P (some (.lst ys)) m) fun _ _ _ => False) fun _ _ _ => False := by
  unfold compG at h
  cases hb : bindT ts one x (wipeE r own) with
  | none => rw [hb] at h; exact h.elim
  | some r1 =>
    rw [hb] at h
    refine ⟨r1, rfl, post_mono (post_bind.mp (calm_post h)) (fun zs m1 q => ?_) fun _ _ _ z => z⟩
    by_cases hl : zs.length ≤ 4096
    · rw [if_pos hl] at q
      exact ⟨hl, post_mono (post_bind.mp q) (fun _ _ z => z) fun _ _ _ z => z⟩
    · rw [if_neg hl] at q
      exact q.elim
theorem lc2_imp {own : List (Str × Nat)} {ts ts1 : List Nat} {one one1 : Bool} {src src1 cnd me : E} (hts : ∀ t ∈ ts, t ∈ own.map (·.2)) : ∀ (σ : St) (H : Hp) (Q : VK), tF (cc X call Xr Er) (.comp2 me ts one src ts1 one1 src1 cnd (own.map (·.2))) σ H Q →
    tLc2 (tI MvB (cc X call Xr Er) src) (gD X.K ts one) tYes (tI MvF (calmC (cc X call Xr Er)) src1) (gD X.K ts1 one1) (tT (calmC (cc X call Xr Er)) cnd) (tE (calmC (cc X call Xr Er)) me) (own.map (·.2)) ts1 σ H Q :=
  fun σ H Q ⟨g, r, m, S, q⟩ => ⟨g, r, m, S, post_mono (post_bind.mp q) (fun ds m' q1 H1 J a M W D hD => by
    have S1 := S.adv a M
    obtain ⟨hlen, G, Y, Ok, w, ok, og, st, yl⟩ := W
    obtain ⟨L, nz, h0, hn, st1⟩ := lc_start (c := cc X call Xr Er) (own := own.map (·.2)) S1 (M.out hD) hD
    have hc := M.out hD
    have q2 : ((if ds.length ≤ 4096 then mapL (compG call cnd me src1 ts one ts1 one1 (own.map (·.2)) r) ds m' else R.no).bind fun yss m => R.ok (Mp.D.lst (yss.flatMap fun d => (seqOf d).getD [])) m).post _ _ := q1
    by_cases hz : ds.length ≤ 4096
    · rw [if_pos hz] at q2
      have q2 := post_bind.mp q2
      generalize hEr : erP (cc X call Xr Er) g H = er at q2
      let Zd : Addr → Prop := fun a => g.Z a ∨ a = D
      let Pv : Nat → Hp → Prop := fun i Hi => ∃ yss mi acc, LcI (cc X call Xr Er) g H1 (L2.wipe σ (own.map (·.2))) (wipeE r (own.map (·.2))) D (List.flatMap (fun d => (seqOf d).getD []) yss) acc mi Hi ∧ acc.length ≤ i * 4096 ∧ Ok g.cs Zd Hi ∧
        (mapL (compG call cnd me src1 ts one ts1 one1 (own.map (·.2)) r) (ds.drop i) mi).post (fun ys' m2 => ∀ v H', PFx (cc X call Xr Er) g H (.lst (List.flatMap (fun d => (seqOf d).getD []) (yss ++ ys'))) v H' m2 → Q v H') er
      refine ⟨fun i k Hi => i + k = ds.length ∧ Pv i Hi, ⟨ds.length, Nat.zero_add _, [], m', [], L, Nat.zero_le _, st _ _ _ _ _ _ ⟨rfl, .new hD, st1⟩ ok, ?_⟩, ?_⟩
      · rw [List.drop_zero]
        exact q2
      · rintro i k Hi ⟨e, yss, mi, acc, L, hl, ok, q⟩
        have gH := og _ _ _ ok
        cases k with
        | zero =>
          have e : i = ds.length := e
          rw [e] at hl q ⊢
          refine .inl ⟨w.stops Hi gH, ?_⟩
          rw [List.drop_length] at q
          have q : ∀ v H', PFx (cc X call Xr Er) g H (.lst (List.flatMap (fun d => (seqOf d).getD []) (yss ++ []))) v H' mi → Q v H' := q
          rw [List.append_nil] at q
          obtain ⟨Sn, an, hDn, rs⟩ := L
          obtain ⟨Hx, e1, e2, e3, M2, rx⟩ := out_zone Sn.mem hDn hc nz S1.mem.cz rs
          rw [e1]
          exact q _ _ ⟨Hx, D, acc, a.trans fun x o e n => by rw [e3 x (fun z => by rw [z, hD] at e; cases e)]; exact an x o e n, M2, e2, rfl, rfl, by rw [sizeLine_eq]; omega, rx⟩
        | succ k =>
          have hi : i < ds.length := by omega
          refine .inr ⟨w.goes i Hi hi gH, Pv (i + 1), fun H' p' => ⟨k, Nat.lt_succ_self k, by omega, p'⟩, fun x H' yy => ?_⟩
          obtain ⟨kp, d, e1, rp⟩ := yl _ _ i Hi x H' mi L.1.mem ok (w.yields i Hi x H' hi gH yy)
          have ed : ds.drop i = d :: ds.drop (i + 1) := by
            rw [List.drop_eq_getElem_cons hi]
            congr 1
            exact (List.getElem?_eq_some_iff.mp e1).2
          rw [ed] at q
          have q := post_bind.mp q
          have L0 := L
          obtain ⟨Si, ai, hDi, rs⟩ := L
          have S' := Si.adv (g := { g with Z := fun a => g.Z a ∨ a = D }) (.same kp) (Si.mem.keep kp)
          obtain ⟨r', hb, q⟩ := compG_post q
          refine gD_run S' rp hb fun σ2 S2 hw => ⟨by rw [hw (own.map (·.2)) hts, wipe_twice], ?_⟩
          simp only [tYes, if_true]
          refine ⟨_, r', mi, S2, post_mono q (fun zs mb ⟨hzs, qz⟩ H4 J1 a4 M4 W1 => ?_) fun _ _ _ z => z.elim⟩
          have S4 := S2.adv a4 M4
          obtain ⟨hlen1, G1, Y1, Ok1, w1, ok1, og1, st1', yl1⟩ := W1
          have aI : Adv g.cs Hi H4 := Adv.trans (.same kp) a4
          have sti := Si.mem.stp (cs := g.cs) (Z := fun a => g.Z a ∨ a = D) aI
          have hn4 : NoSlot (L2.wipe σ2 ts1) (wipeE r' ts1) D := fun i a d e1 e2 => by
            have e1' := wipeE_own e1
            obtain ⟨n1, e3⟩ := bindT_own hb e1'
            refine hn i a d e3 ?_
            have e4 := (wipe_some e2).1
            have e5 := hw ts fun _ h => h
            rw [← e4, ← wipe_out n1, ← e5, wipe_out n1]
          refine lc_loop (c := cc X call Xr Er) (g := g) (H1 := H1) (σ := σ2) (r := r') (own := ts1) (Ok := Ok1 g.cs (fun a => g.Z a ∨ a = D)) (Hs := H4) (ys0 := List.flatMap (fun d => (seqOf d).getD []) yss) (acc0 := acc) ⟨S4.wipe ts1, ai.trans aI, aI D _ hDi hc, RepL.step sti _ _ rs⟩ hc hD h0 hn4 w1 ok1 (fun Hi => og1 _ _ Hi) (fun Hi Hj aj s k => st1' _ _ _ _ _ _ s k) (fun i Hi x H' m => yl1 _ _ i Hi x H' m) (fun t ht => ht) (by rw [sizeLine_eq]; omega) qz fun ys m2 acc2 Hn q2 L2' hl2 aS => ?_
          obtain ⟨Sn, an, hDn, rn⟩ := L2'
          have aD : AdvD g.cs D Hi Hn := (AdvD.of aI).trans aS
          have stn := Si.mem.stpD (.inr rfl) hDi aD
          refine ⟨yss ++ [.lst ys], m2, acc2, ⟨Si.advD (.inr rfl) hc hDi hDn h0 hn aD Sn.mem, an, hDn, ?_⟩, by omega, st _ _ _ _ _ _ ⟨rfl, an, stn⟩ ok, post_mono (post_bind.mp q2) (fun ys' m3 z => by rw [List.append_assoc]; exact z) fun _ _ _ z => z⟩
          rw [List.flatMap_append, List.flatMap_cons, List.flatMap_nil, List.append_nil]
          exact rn
    · rw [if_neg hz] at q2
      exact q2.elim) fun _ _ _ z => z⟩
theorem bf_comp2 {elt iter tg1 iter1 : Expr} {ifs : List Expr} {scope : Scope} {own : List (Str × Nat)} {ts ts1 : List Nat} {one one1 : Bool} {src src1 cnd me : E} (hc : X.calm = true) (hN : X.N.Nodup) (hi : PI X tg iter (tI MvB (cc X call Xr Er) src)) (ok : BlkOk X.N X.env.scope scope own) (hts : ∀ t ∈ ts, t ∈ own.map (·.2)) (hts1 : ∀ t ∈ ts1, t ∈ own.map (·.2))
    (hg : ∀ (s : Shared) (H : Hp) (C : Addr) (cl : List (Str × Addr)) (fp : List Addr), PG (X.blk s H scope (compEnvC scope cl C X.env) fp) tg (gD X.K ts one))
    (hi1 : ∀ (s : Shared) (H : Hp) (C : Addr) (cl : List (Str × Addr)) (fp : List Addr), PI (X.blk s H scope (compEnvC scope cl C X.env) fp) tg1 iter1 (tI MvF (calmC (cc X call Xr Er)) src1))
    (hg1 : ∀ (s : Shared) (H : Hp) (C : Addr) (cl : List (Str × Addr)) (fp : List Addr), PG (X.blk s H scope (compEnvC scope cl C X.env) fp) tg1 (gD X.K ts1 one1))
    (ht : ∀ (s : Shared) (H : Hp) (C : Addr) (cl : List (Str × Addr)) (fp : List Addr), PTs (X.blk s H scope (compEnvC scope cl C X.env) fp) ifs (tT (calmC (cc X call Xr Er)) cnd))
    (he : ∀ (s : Shared) (H : Hp) (C : Addr) (cl : List (Str × Addr)) (fp : List Addr), PE (X.blk s H scope (compEnvC scope cl C X.env) fp) elt (tE (calmC (cc X call Xr Er)) me)) (hs : ∀ x, foldedSetIterable iter X.env x = pure x) (hs1 : ∀ env x, foldedSetIterable iter1 env x = pure x) :
    PE X (.ListComp elt [⟨tg, iter, [], 0⟩, ⟨tg1, iter1, ifs, 0⟩] scope pos) (tF (cc X call Xr Er) (.comp2 me ts one src ts1 one1 src1 cnd (own.map (·.2)))) :=
  pe_imp (pe_lc2 hc hN hi ok hts1 hg (fun s H C cl fp => pts_nil) hi1 hg1 ht he hs hs1) (lc2_imp hts)
end
end Mp

/-! Mp10: statements. -/
namespace Mp
open PySem PySem.Spec L2
/-! ### the frame as it goes on -/
theorem Stp.refl {cs : List Addr} {Z : Addr → Prop} {H : Hp} : Stp cs cs Z Z H H := ⟨fun _ _ e _ => e, fun _ _ e => e, fun _ _ _ e => e, fun _ z => .inl z, fun _ _ e => e⟩
theorem Stp.trans {cs cs1 cs2 : List Addr} {Z Z1 Z2 : Addr → Prop} {H H1 H2 : Hp} (a : Stp cs cs1 Z Z1 H H1) (b : Stp cs1 cs2 Z1 Z2 H1 H2) : Stp cs cs2 Z Z2 H H2 where
  keep := fun x o e n => b.keep x o (a.keep x o e n) fun z => (a.zone x z).elim n fun q => by rw [e] at q; cases q
  tup := fun x xs e => b.tup x xs (a.tup x xs e)
  frz := fun x o u e => b.frz x o u (a.frz x o u e)
  zone := fun x z => (b.zone x z).elim (a.zone x) fun q => by
    cases h : H x with
    | none => exact .inr rfl
    | some o =>
      by_cases hz : Z x
      · exact .inl hz
      · rw [a.keep x o h hz] at q; cases q
  cell := fun n x e => b.cell n x (a.cell n x e)
/-- the same frame, later -/
structure Ext (g : Gh) (H : Hp) (g' : Gh) (H' : Hp) : Prop where
  h0 : g'.H0 = g.H0
  c0 : g'.cs0 = g.cs0
  z0 : g'.Z0 = g.Z0
  stp : Stp g.cs g'.cs g.Z g'.Z H H'
theorem Ext.refl {g : Gh} {H : Hp} : Ext g H g H := ⟨rfl, rfl, rfl, .refl⟩
theorem Ext.trans {g g1 g2 : Gh} {H H1 H2 : Hp} (a : Ext g H g1 H1) (b : Ext g1 H1 g2 H2) : Ext g H g2 H2 := ⟨b.h0.trans a.h0, b.c0.trans a.c0, b.z0.trans a.z0, a.stp.trans b.stp⟩
/-- what a frame's end needs -/
structure Fr (K : PySem.W.Frag) (g : Gh) (H : Hp) (m : Mem) : Prop where
  mem : MemOk K g.cs g.Z H m
  zin : ∀ a, g.Z a → H a ≠ none
  keep : ∀ a o, g.H0 a = some o → a ∉ g.cs0 → H a = some o
  pre : ∃ more, g.cs = g.cs0 ++ more ∧ ∀ a ∈ more, g.H0 a = none
  z0 : ∀ a, g.Z0 a → g.Z a
  z0in : ∀ a, g.Z0 a → g.H0 a ≠ none
section
variable {K : PySem.W.Frag} {g g' : Gh} {H H' : Hp} {σ : St} {r : Env} {m m' : Mem}
theorem Sim.fr (S : Sim K g H σ r m) : Fr K g H m := ⟨S.mem, S.zin, S.keep, S.pre, S.z0, S.z0in⟩
theorem Sim.ext (S : Sim K g H σ r m) (a : Adv g.cs H H') : Ext g H g H' := ⟨rfl, rfl, rfl, S.mem.stp a⟩
/-- a slot of one's own -/
theorem Sim.bindOwn (S : Sim K g H σ r m) {i : Nat} {p : Addr} {d : D} (hz : g.Z p) (hc : p ∉ g.cs) (h0 : g.H0 p = none) (o : OwnAt K g.cs g.Z H p d) (hn : NoSlot σ r p) : Sim K g H (σ.set i (some (.ref p))) (r.set i (some (true, d))) m := by
  refine ⟨S.mem, S.zin, by rw [List.length_set, List.length_set, S.len], fun j d' e => ?_, fun j d' e => ?_, fun j k d1 d2 a hne e1 e2 e3 => ?_, S.keep, S.pre, S.z0, S.z0in⟩
  · rcases get_set e with ⟨ij, hl, e2⟩ | ⟨ne, e2⟩
    · cases e2
    · rw [List.getElem?_set_ne ne]
      exact S.val j d' e2
  · rcases get_set e with ⟨ij, hl, e2⟩ | ⟨ne, e2⟩
    · subst ij
      cases e2
      exact ⟨p, by rw [List.getElem?_set_self (by rw [S.len]; exact hl)], hz, hc, h0, o⟩
    · rw [List.getElem?_set_ne ne]
      exact S.own j d' e2
  · rcases get_set e1 with ⟨i1, l1, z1⟩ | ⟨n1, e1⟩
    · subst i1
      rw [List.getElem?_set_self (by rw [S.len]; exact l1)] at e3
      cases e3
      rcases get_set e2 with ⟨i2, _, _⟩ | ⟨n2, e2⟩
      · exact absurd i2 hne
      · rw [List.getElem?_set_ne n2]
        exact fun q => hn k p d2 e2 q rfl
    · rw [List.getElem?_set_ne n1] at e3
      rcases get_set e2 with ⟨i2, l2, z2⟩ | ⟨n2, e2⟩
      · subst i2
        rw [List.getElem?_set_self (by rw [S.len]; exact l2)]
        intro q
        cases q
        exact hn j p d1 e1 e3 rfl
      · rw [List.getElem?_set_ne n2]
        exact S.sep j k d1 d2 a hne e1 e2 e3
theorem set_same {A : Type} {l : List A} {i : Nat} {x : A} (h : l[i]? = some x) : l.set i x = l := by
  refine List.ext_getElem? fun j => ?_
  by_cases e : i = j
  · subst e
    obtain ⟨hl, _⟩ := List.getElem?_eq_some_iff.mp h
    rw [List.getElem?_set_self hl, h]
  · rw [List.getElem?_set_ne e]
/-- one's own list is frozen -/
theorem Sim.freeze (S : Sim K g H σ r m) {i : Nat} {d : D} (h : r[i]? = some (some (true, d))) : ∃ g', Ext g H g' H ∧ Sim K g' H σ (r.set i (some (false, d))) m ∧ g'.cs = g.cs := by
  obtain ⟨a, e1, z, n, h0, o⟩ := S.own i d h
  have st : Stp g.cs g.cs g.Z (fun x => g.Z x ∧ x ≠ a) H H := ⟨fun _ _ e _ => e, fun _ _ e => e, fun _ _ _ e => e, fun _ z => .inl z.1, fun _ _ e => e⟩
  refine ⟨{ g with Z := fun x => g.Z x ∧ x ≠ a }, ⟨rfl, rfl, rfl, st⟩, ⟨⟨S.mem.len, S.mem.nd, fun x hx => ⟨S.mem.cz x hx, fun e => n (by rw [← e]; exact hx)⟩, S.mem.nc, fun k b x e1 e2 => ?_⟩, fun x z => S.zin x z.1, by rw [List.length_set]; exact S.len, fun j x e => ?_, fun j x e => ?_, fun j k d1 d2 b hne e1 e2 e3 => ?_, S.keep, S.pre, fun x z => ⟨S.z0 x z, fun e => S.z0in x z (by rw [e]; exact h0)⟩, S.z0in⟩, rfl⟩
  · obtain ⟨ds, vs, e, h1, h2⟩ := S.mem.at_ k b x e1 e2
    exact ⟨ds, vs, e, h1, RepL.step st _ _ h2⟩
  · rcases get_set e with ⟨ij, hl, e2⟩ | ⟨ne, e2⟩
    · subst ij
      cases e2
      refine ⟨.ref a, e1, ?_⟩
      cases d with
      | lst ds =>
        obtain ⟨vs, k1, k2, k3⟩ := o
        exact ⟨a, vs, rfl, .inl ⟨k1, fun q => q.2 rfl⟩, k2, RepL.step st _ _ k3⟩
      | _ => exact o.elim
    · obtain ⟨v, q, rp⟩ := S.val j x e2
      exact ⟨v, q, Rep.step st x v rp⟩
  · rcases get_set e with ⟨ij, hl, e2⟩ | ⟨ne, e2⟩
    · cases e2
    · obtain ⟨b, q1, q2, q3, q4, q5⟩ := S.own j x e2
      refine ⟨b, q1, ⟨q2, fun e => S.sep i j d x a ne h e2 e1 (by rw [← e]; exact q1)⟩, q3, q4, ?_⟩
      cases x with
      | lst ds =>
        obtain ⟨vs, k1, k2, k3⟩ := q5
        exact ⟨vs, k1, k2, RepL.step st _ _ k3⟩
      | _ => exact q5.elim
  · rcases get_set e1 with ⟨_, _, z⟩ | ⟨n1, e1⟩
    · cases z
    · rcases get_set e2 with ⟨_, _, z⟩ | ⟨n2, e2⟩
      · cases z
      · exact S.sep j k d1 d2 b hne e1 e2 e3
theorem Sim.noSlot (S : Sim K g H σ r m) {p : Addr} (h : H p = none ∨ ¬ g.Z p) : NoSlot σ r p := fun i a d e1 e2 z => by
  obtain ⟨b, e3, z1, _⟩ := S.own i d e1
  rw [e2] at e3
  cases e3
  rw [z] at z1
  rcases h with h | h
  · exact S.zin p z1 h
  · exact h z1
theorem Sim.h0none (S : Sim K g H σ r m) {D : Addr} (hc : D ∉ g.cs) (hD1 : H D = none) : g.H0 D = none := by
  cases q : g.H0 D with
  | none => rfl
  | some o =>
    by_cases k : D ∈ g.cs0
    · obtain ⟨more, e, _⟩ := S.pre
      exact absurd (by rw [e]; exact List.mem_append_left _ k) hc
    · have := S.keep D o q k
      rw [hD1] at this; cases this
/-- a fresh list becomes one's own -/
theorem Sim.take (S : Sim K g H σ r m) {p : Addr} {vs : List V} {ds : List D} (hp : H p = none) (hl : vs.length ≤ sizeLine) (rs : RepL K g.cs g.Z H ds vs) : ∃ g', Ext g H g' (upd H p (.lst vs)) ∧ Sim K g' (upd H p (.lst vs)) σ r m ∧ g'.cs = g.cs ∧ g'.Z p ∧ g'.H0 p = none ∧ OwnAt K g'.cs g'.Z (upd H p (.lst vs)) p (.lst ds) ∧ NoSlot σ r p ∧ g'.Z = fun a => g.Z a ∨ a = p := by
  have hc := S.mem.out hp
  obtain ⟨S1, st⟩ := S.grow (ws := vs) hp hc
  exact ⟨{ g with Z := fun a => g.Z a ∨ a = p }, ⟨rfl, rfl, rfl, st⟩, S1, rfl, .inr rfl, S.h0none hc hp, ⟨vs, upd_same, hl, RepL.step st _ _ rs⟩, S.noSlot (.inl hp), rfl⟩
end

/-! ### readings of statements -/
def Nx (c : Cc) (g : Gh) (H : Hp) (P : St → Hp → Prop) (r' : Env) (m' : Mem) : Prop := ∀ g' σ' H', Ext g H g' H' → Sim c.K g' H' σ' r' m' → P σ' H'
def flP (c : Cc) (g : Gh) (H : Hp) (E : Ends) : Fl × Env → Mem → Prop := fun q m' => match q.1 with
  | .next => Nx c g H E.nx q.2 m'
  | .brk => Nx c g H E.bk q.2 m'
  | .cnt => Nx c g H E.ct q.2 m'
  | .ret d => ∀ g' H' v, Ext g H g' H' → Fr c.K g' H' m' → Rep c.K g'.cs g'.Z0 H' d v → E.rt v H'
/-- an error's wish, in a frame -/
def erS (c : Cc) (g : Gh) (H : Hp) : Nat → D → Mem → Prop := fun k a m' => ∀ g' H' cv od, Ext g H g' H' → Fr c.K g' H' m' → c.Xr k a H' cv od → c.E cv od H'
def tS (c : Cc) (s : S) : TS := fun E σ H => ∃ g r m, Sim c.K g H σ r m ∧ (evS c.call s r m).post (flP c g H E) (erS c g H)
def tSB (c : Cc) (s : List S) : TS := fun E σ H => ∃ g r m, Sim c.K g H σ r m ∧ (evB c.call s r m).post (flP c g H E) (erS c g H)
section
variable {c : Cc} {g g1 : Gh} {H H1 : Hp} {σ : St} {r : Env} {m : Mem} {E : Ends}
theorem erS_P (S : Sim c.K g H σ r m) : ∀ k a m', erS c g H k a m' → erP c g H k a m' := fun k a m' h H' cv od ad M x => h g H' cv od (S.ext ad) (S.adv ad M).fr x
theorem erS_ext (e : Ext g H g1 H1) : ∀ k a m', erS c g H k a m' → erS c g1 H1 k a m' := fun k a m' h g' H' cv od e2 F x => h g' H' cv od (e.trans e2) F x
theorem flP_ext (e : Ext g H g1 H1) : ∀ q m', flP c g H E q m' → flP c g1 H1 E q m' := fun q m' h => by
  rcases q with ⟨f, r'⟩
  cases f with
  | ret d => exact fun g' H' v e2 F rp => h g' H' v (e.trans e2) F rp
  | next => exact fun g' σ' H' e2 S => h g' σ' H' (e.trans e2) S
  | brk => exact fun g' σ' H' e2 S => h g' σ' H' (e.trans e2) S
  | cnt => exact fun g' σ' H' e2 S => h g' σ' H' (e.trans e2) S
theorem flP_next {r' : Env} {m' : Mem} (h : flP c g H E (.next, r') m') : Nx c g H E.nx r' m' := h
/-- an expression in a statement -/
theorem tX_stm {P : Cc → OkP} {e : Mp.E} {B : Type} {f : D → Mem → R B} {G : B → Mem → Prop} (S : Sim c.K g H σ r m) (h : ((evE c.call e r m).bind f).post G (erS c g H)) {Q : VK}
    (k : ∀ d v H' m', P c g H d v H' m' → (f d m').post G (erS c g H) → Q v H') : tX P c e σ H Q :=
  ⟨g, r, m, S, post_mono (post_bind.mp h) (fun d m' z v H' y => k d v H' m' y z) (erS_P S)⟩
end
section
variable {X : Cx} {call : Nat → List D → Mem → R D} {Xr : Nat → D → Hp → Value → Option Addr → Prop} {Er : XK} {pos : Pos} {tg e e1 e2 : Expr} {m1 m2 : E} {i : Nat} {x : Str} {pos' : Pos}
/-! ### one after another -/
theorem bb_nil : PSs X [] (tSB (cc X call Xr Er) []) := pss_imp pss_nil fun D σ H ⟨g, r, m, S, q⟩ => q g σ H .refl S
theorem bb_cons {st : Stmt} {sts : List Stmt} {s : S} {ss : List S} (h1 : PS X st (tS (cc X call Xr Er) s)) (h2 : PSs X sts (tSB (cc X call Xr Er) ss)) : PSs X (st :: sts) (tSB (cc X call Xr Er) (s :: ss)) :=
  pss_imp (pss_cons h1 h2) fun D σ H ⟨g, r, m, S, q⟩ => ⟨g, r, m, S, post_mono (post_bind.mp q) (fun q1 m1 h => by
    rcases q1 with ⟨f, r1⟩
    cases f with
    | next => exact fun g' σ' H' e S' => ⟨g', r1, m1, S', post_mono h (flP_ext e) (erS_ext e)⟩
    | brk => exact h
    | cnt => exact h
    | ret d => exact h) fun _ _ _ z => z⟩
/-- a list is frozen between two statements -/
theorem bb_frz {sts : List Stmt} {ss : List S} (h : PSs X sts (tSB (cc X call Xr Er) ss)) : PSs X sts (tSB (cc X call Xr Er) (.frz i :: ss)) :=
  pss_imp h fun D σ H ⟨g, r, m, S, q⟩ => by
    have q : ((match getb r i with | some d => R.ok (Fl.next, r.set i (some (false, d))) m | none => R.no).bind fun q m => match q.1 with | .next => evB call ss q.2 m | _ => .ok q m).post (flP (cc X call Xr Er) g H D) (erS (cc X call Xr Er) g H) := q
    cases hb : getb r i with
    | none => rw [hb] at q; exact q.elim
    | some d =>
      rw [hb] at q
      have q : (evB call ss (r.set i (some (false, d))) m).post (flP (cc X call Xr Er) g H D) (erS (cc X call Xr Er) g H) := q
      have hb' : (match r[i]? with | some (some (_, d)) => some d | _ => none) = some d := hb
      cases hr : r[i]? with
      | none => rw [hr] at hb'; cases hb'
      | some sl =>
        rw [hr] at hb'
        match sl, hb' with
        | some (true, d'), hb' =>
          cases hb'
          obtain ⟨g', e, S', _⟩ := S.freeze hr
          exact ⟨g', _, m, S', post_mono q (flP_ext e) (erS_ext e)⟩
        | some (false, d'), hb' =>
          cases hb'
          rw [set_same hr] at q
          exact ⟨g, r, m, S, q⟩
/-! ### stores -/
theorem asg_set : ∀ (D : Ends) (σ : St) (H : Hp), tS (cc X call Xr Er) (.set i m1) D σ H → tAsg (tE (cc X call Xr Er) m1) (gName i) D σ H :=
  fun D σ H ⟨g, r, m, S, q⟩ => tX_stm (P := PEx) S q fun d v H' m' ⟨a, M, rp⟩ k => k g _ H' (S.ext a) ((S.adv a M).bind rp)
theorem bs_set (hN : X.N.Nodup) (hi : X.N[i]? = some x) (hx : Loc X.env.scope x) (hf : X.fn x = true ∨ X.env.scope.names.lookup x = some .local) (he : PE X e (tE (cc X call Xr Er) m1)) (hs : swapsWith e (some (.Name x pos')) pos.line X.env = pure false) :
    PS X (.Assign [.Name x pos'] e pos) (tS (cc X call Xr Er) (.set i m1)) :=
  ps_imp (ps_set hN hi hx he hs hf) asg_set
theorem asg_own : ∀ (D : Ends) (σ : St) (H : Hp), tS (cc X call Xr Er) (.own i m1) D σ H → tAsg (tF (cc X call Xr Er) m1) (gName i) D σ H :=
  fun D σ H ⟨g, r, m, S, q⟩ => tX_stm (P := PFx) S q fun d v H' m' y k => by
    cases d with
    | lst ds =>
      obtain ⟨H1, p, vs, a, M, hp, ev, eH, hl, rs⟩ := y
      subst ev eH
      have S1 := S.adv a M
      obtain ⟨g', ex, S', hcs, hz, h0, ow, ns, _⟩ := S1.take hp hl rs
      exact k g' _ _ ((S.ext a).trans ex) (S'.bindOwn hz (by rw [hcs]; exact M.out hp) h0 ow ns)
    | dct _ _ => exact y.2.2.elim
    | _ => exact k.elim
theorem bs_own (hN : X.N.Nodup) (hi : X.N[i]? = some x) (hx : Loc X.env.scope x) (hf : X.fn x = true ∨ X.env.scope.names.lookup x = some .local) (he : PE X e (tF (cc X call Xr Er) m1)) (hs : swapsWith e (some (.Name x pos')) pos.line X.env = pure false) :
    PS X (.Assign [.Name x pos'] e pos) (tS (cc X call Xr Er) (.own i m1)) :=
  ps_imp (ps_set hN hi hx he hs hf) asg_own
theorem flatL_nc : ∀ {xs : List D}, D.flatL xs = true → ∀ d ∈ xs, D.flat d = true
  | x :: xs, h, d, hd => by
    simp only [D.flatL, Bool.and_eq_true] at h
    rcases List.mem_cons.mp hd with rfl | hd
    · exact h.1
    · exact flatL_nc h.2 d hd
theorem bs_cel (hN : X.N.Nodup) (hi : X.N[i]? = some x) (hx : Loc X.env.scope x) (hf : X.fn x = true ∨ X.env.scope.names.lookup x = some .local) (he : PE X e (tF (cc X call Xr Er) m1)) (hs : swapsWith e (some (.Name x pos')) pos.line X.env = pure false) :
    PS X (.Assign [.Name x pos'] e pos) (tS (cc X call Xr Er) (.cel i m1)) :=
  ps_imp (ps_set hN hi hx he hs hf) fun D σ H ⟨g, r, m, S, q⟩ => tX_stm (P := PFx) S q fun d v H' m' y k => by
    cases d with
    | lst ds =>
      obtain ⟨H1, p, vs, a, M, hp, ev, eH, hl, rs⟩ := y
      subst ev eH
      have k : (if Mp.D.flatL ds = true then R.ok (Fl.next, r.set i (some (false, .cell m'.length))) (m' ++ [.lst ds]) else R.no).post (flP (cc X call Xr Er) g H D) (erS (cc X call Xr Er) g H) := k
      by_cases hfl : Mp.D.flatL ds = true
      · rw [if_pos hfl] at k
        have S1 := S.adv a M
        have hc := M.out hp
        obtain ⟨g', ex, S', hcs, hz, h0, ow, ns, hZ⟩ := S1.take hp hl rs
        have hc' : p ∉ g'.cs := by rw [hcs]; exact hc
        let g2 : Gh := { g' with cs := g'.cs ++ [p] }
        have st2 : Stp g'.cs g2.cs g'.Z g2.Z (upd H1 p (.lst vs)) (upd H1 p (.lst vs)) := ⟨fun _ _ e _ => e, fun _ _ e => e, fun _ _ _ e => e, fun _ z => .inl z, fun n a e => by
          show (g'.cs ++ [p])[n]? = some a
          rw [List.getElem?_append_left (List.getElem?_eq_some_iff.mp e).1]
          exact e⟩
        have ml : g'.cs.length = m'.length := S'.mem.len
        have S2 : Sim X.K g2 (upd H1 p (.lst vs)) σ r (m' ++ [.lst ds]) := by
          refine ⟨⟨by show (g'.cs ++ [p]).length = _; rw [List.length_append, List.length_append, ml]; rfl, ?_, fun b hb => ?_, fun d hd => ?_, fun n b x e1 e2 => ?_⟩, S'.zin, S'.len, fun j x e => ?_, fun j x e => ?_, S'.sep, S'.keep, ?_, S'.z0, S'.z0in⟩
          · show (g'.cs ++ [p]).Nodup
            rw [List.nodup_append]
            exact ⟨S'.mem.nd, by simp, fun a ha b hb e => hc' (by rw [List.mem_singleton.mp hb] at e; rw [← e]; exact ha)⟩
          · rcases List.mem_append.mp (show b ∈ g'.cs ++ [p] from hb) with h | h
            · exact S'.mem.cz b h
            · rw [List.mem_singleton.mp h]; exact hz
          · rcases List.mem_append.mp hd with h | h
            · exact S'.mem.nc d h
            · rw [List.mem_singleton.mp h]; exact hfl
          · have e1 : (g'.cs ++ [p])[n]? = some b := e1
            by_cases hn : n < g'.cs.length
            · rw [List.getElem?_append_left hn] at e1
              rw [List.getElem?_append_left (by rw [← ml]; exact hn)] at e2
              obtain ⟨es, us, h1, h2, h3⟩ := S'.mem.at_ n b x e1 e2
              exact ⟨es, us, h1, h2, RepL.step st2 _ _ h3⟩
            · rw [List.getElem?_append_right (by omega)] at e1
              rw [List.getElem?_append_right (by omega)] at e2
              have hn' : n - g'.cs.length = 0 := by
                have := (List.getElem?_eq_some_iff.mp e1).1
                simp only [List.length_singleton] at this
                omega
              rw [hn'] at e1
              rw [show n - m'.length = 0 by omega] at e2
              cases e1
              cases e2
              obtain ⟨us, k1, k2, k3⟩ := ow
              exact ⟨ds, us, rfl, k1, RepL.step st2 _ _ k3⟩
          · obtain ⟨v, q, rp⟩ := S'.val j x e
            exact ⟨v, q, Rep.step st2 x v rp⟩
          · obtain ⟨b, q1, q2, q3, q4, q5⟩ := S'.own j x e
            refine ⟨b, q1, q2, fun hb => ?_, q4, ?_⟩
            · rcases List.mem_append.mp (show b ∈ g'.cs ++ [p] from hb) with h | h
              · exact q3 h
              · exact ns j b x e q1 (List.mem_singleton.mp h)
            · cases x with
              | lst ds =>
                obtain ⟨vs, k1, k2, k3⟩ := q5
                exact ⟨vs, k1, k2, RepL.step st2 _ _ k3⟩
              | _ => exact q5.elim
          · obtain ⟨more, e, hm⟩ := S'.pre
            exact ⟨more ++ [p], by show g'.cs ++ [p] = _; rw [e, List.append_assoc], fun b hb => by
              rcases List.mem_append.mp hb with h | h
              · exact hm b h
              · rw [List.mem_singleton.mp h]; exact h0⟩
        refine k g2 _ _ ((S.ext a).trans (ex.trans ⟨rfl, rfl, rfl, st2⟩)) (S2.bind (d := .cell m'.length) ⟨p, ?_, rfl⟩)
        show (g'.cs ++ [p])[m'.length]? = some p
        rw [← ml, List.getElem?_append_right (Nat.le_refl _), Nat.sub_self]
        rfl
      · rw [if_neg hfl] at k
        exact k.elim
    | _ => exact k.elim
theorem bs_tups {is : List Nat} {tps : Expr} (hg : PG X tps (gD X.K is false)) (he : PE X e (tE (cc X call Xr Er) m1)) (hs : swapsWithSole [tps] e pos.line X.env = pure false) (hw : swappedStores [tps] e X.env = pure none) (h1 : (assignEach [tps] X.env).map (·.2) = [assign tps X.env]) :
    PS X (.Assign [tps] e pos) (tS (cc X call Xr Er) (.tups is m1)) :=
  ps_imp (ps_asg he hg hs hw h1) fun D σ H ⟨g, r, m, S, q⟩ => tX_stm (P := PEx) S q fun d v H' m' ⟨a, M, rp⟩ k => by
    have k : (match bindT is false d r with | some r' => R.ok (Fl.next, r') m' | none => R.no).post (flP (cc X call Xr Er) g H D) (erS (cc X call Xr Er) g H) := k
    cases hb : bindT is false d r with
    | none => rw [hb] at k; exact k.elim
    | some r' =>
      rw [hb] at k
      exact gD_run (S.adv a M) rp hb fun σ' S' _ => k g σ' H' (S.ext a) S'
theorem bs_aug (hN : X.N.Nodup) (hi : X.N[i]? = some x) (hx : Loc X.env.scope x) (hf : X.fn x = true ∨ X.env.scope.names.lookup x = some .local) (he : PE X e (tE (cc X call Xr Er) m1)) : PS X (.AugAssign (.Name x pos') .Add e pos) (tS (cc X call Xr Er) (.aug i .add m1)) :=
  ps_imp (ps_aug hN hi hx he ip_add hf) fun D σ H ⟨g, r, m, S, q⟩ => by
    have q : (match getv r i with | some x => (evE call m1 r m).bind fun y m => (match BOp.add, x, y with | .add, .int a, .int b => R.ok (Fl.next, r.set i (some (false, .int (a + b)))) m | _, _, _ => .no) | none => R.no).post (flP (cc X call Xr Er) g H D) (erS (cc X call Xr Er) g H) := q
    cases hv : getv r i with
    | none => rw [hv] at q; exact q.elim
    | some d =>
      rw [hv] at q
      have hv' : (match r[i]? with | some (some (false, d)) => some d | _ => none) = some d := hv
      have hr : r[i]? = some (some (false, d)) := by
        cases hr : r[i]? with
        | none => rw [hr] at hv'; cases hv'
        | some sl =>
          rw [hr] at hv'
          match sl, hv' with
          | some (false, d'), hv' => cases hv'; rfl
      obtain ⟨v, e1, rp⟩ := S.val i d hr
      refine ⟨v, e1, tX_stm (c := cc X call Xr Er) (P := PEx) S q fun d2 w H' m' ⟨a, M, rp2⟩ k => ?_⟩
      cases d with
      | int a1 =>
        cases d2 with
        | int b1 => exact ⟨a1, b1, rp, rp2, k g _ H' (S.ext a) ((S.adv a M).bind (d := .int (a1 + b1)) rfl)⟩
        | _ => exact k.elim
      | _ => exact k.elim
theorem bs_exp (he : PE X e (tE (cc X call Xr Er) m1)) (hs : swapsWith e none pos.line X.env = pure false) : PS X (.Expr e pos) (tS (cc X call Xr Er) (.exp m1)) :=
  ps_imp (ps_expr he hs) fun D σ H ⟨g, r, m, S, q⟩ => tX_stm (P := PEx) S q fun d v H' m' ⟨a, M, rp⟩ k => k g _ H' (S.ext a) (S.adv a M)
theorem Rep.zone {K : PySem.W.Frag} {cs : List Addr} {Z Z0 : Addr → Prop} {H : Hp} (h : ∀ a, Z0 a → Z a) : Stp cs cs Z Z0 H H := ⟨fun _ _ e _ => e, fun _ _ e => e, fun _ _ _ e => e, fun a z => .inl (h a z), fun _ _ e => e⟩
theorem bs_ret (he : PE X e (tE (cc X call Xr Er) m1)) : PS X (.Return (some e) pos) (tS (cc X call Xr Er) (.ret m1)) :=
  ps_imp (ps_ret he) fun D σ H ⟨g, r, m, S, q⟩ => tX_stm (P := PEx) S q fun d v H' m' ⟨a, M, rp⟩ k => k g H' v (S.ext a) (S.adv a M).fr (Rep.step (Rep.zone (K := X.K) S.z0) d v rp)
theorem bs_retN : PS X (.Return none pos) (tS (cc X call Xr Er) .retN) := ps_imp ps_retN fun D σ H ⟨g, r, m, S, q⟩ => q g H _ .refl S.fr rfl
theorem bs_retO (hN : X.N[i]? = some x) (hv : Vis X.env.scope x) (hd : (x == ("__debug__" : Str)) = false) (hcd : (x == ("__classdict__" : Str)) = false) : PS X (.Return (some (.Name x pos')) pos) (tS (cc X call Xr Er) (.retO i)) :=
  ps_imp (ps_ret (pe_var hN hv hd hcd)) fun D σ H ⟨g, r, m, S, q⟩ => by
    have q : (match getb r i with | some d => R.ok (Fl.ret d, r.set i (some (false, d))) m | none => R.no).post (flP (cc X call Xr Er) g H D) (erS (cc X call Xr Er) g H) := q
    cases hb : getb r i with
    | none => rw [hb] at q; exact q.elim
    | some d =>
      rw [hb] at q
      have hb' : (match r[i]? with | some (some (_, d)) => some d | _ => none) = some d := hb
      cases hr : r[i]? with
      | none => rw [hr] at hb'; cases hb'
      | some sl =>
        rw [hr] at hb'
        match sl, hb' with
        | some (true, d'), hb' =>
          cases hb'
          obtain ⟨a, e1, z, n, h0, o⟩ := S.own i d hr
          refine ⟨.ref a, e1, q g H _ .refl S.fr ?_⟩
          cases d with
          | lst ds =>
            obtain ⟨vs, k1, k2, k3⟩ := o
            exact ⟨a, vs, rfl, .inl ⟨k1, fun z => S.z0in a z h0⟩, k2, RepL.step (Rep.zone (K := X.K) S.z0) _ _ k3⟩
          | _ => exact o.elim
        | some (false, d'), hb' =>
          cases hb'
          obtain ⟨v, e1, rp⟩ := S.val i d hr
          exact ⟨v, e1, q g H v .refl S.fr (Rep.step (Rep.zone (K := X.K) S.z0) d v rp)⟩
/-! ### branches, loops -/
theorem bs_ite {a b : List Stmt} {sa sb : List S} (hc : PT X e (tT (cc X call Xr Er) m1)) (ha : PSs X a (tSB (cc X call Xr Er) sa)) (hb : PSs X b (tSB (cc X call Xr Er) sb)) : PS X (.If e a b pos) (tS (cc X call Xr Er) (.ite m1 sa sb)) :=
  ps_imp (ps_if hc ha hb) fun D σ H ⟨g, r, m, S, q⟩ => ⟨g, r, m, S, post_mono (post_bind.mp q) (fun d m' k => by
    cases d with
    | bl b =>
      refine ⟨b, rfl, fun H' ad M => ?_⟩
      have S1 := S.adv ad M
      cases b with
      | true => exact ⟨g, r, m', S1, post_mono k (flP_ext (S.ext ad)) (erS_ext (S.ext ad))⟩
      | false => exact ⟨g, r, m', S1, post_mono k (flP_ext (S.ext ad)) (erS_ext (S.ext ad))⟩
    | _ => exact k.elim) (erS_P S)⟩
theorem bs_pass : PS X (.Pass pos) (tS (cc X call Xr Er) .pass) := ps_imp ps_pass fun D σ H ⟨g, r, m, S, q⟩ => q g σ H .refl S
theorem bs_brk : PS X (.Break pos) (tS (cc X call Xr Er) .brk) := ps_imp ps_break fun D σ H ⟨g, r, m, S, q⟩ => q g σ H .refl S
theorem bs_cnt : PS X (.Continue pos) (tS (cc X call Xr Er) .cnt) := ps_imp ps_continue fun D σ H ⟨g, r, m, S, q⟩ => q g σ H .refl S
theorem bs_stop {st : Stmt} : PS X st (tS (cc X call Xr Er) .stop) := ps_imp ps_never fun D σ H ⟨g, r, m, S, q⟩ => q
theorem bb_stop {sts : List Stmt} {ss : List S} : PSs X sts (tSB (cc X call Xr Er) (.stop :: ss)) := pss_imp pss_never fun D σ H ⟨g, r, m, S, q⟩ => q
theorem bs_whl {body : List Stmt} {sb : List S} (hp : PassesOwn (model X.prog X.w) X.A X.env X.xe) (hc : PT X e (tT (cc X call Xr Er) m1)) (hb : PSs X body (tSB (cc X call Xr Er) sb)) : PS X (.While e body [] pos) (tS (cc X call Xr Er) (.whl m1 sb)) :=
  ps_imp (ps_while hp hc hb) fun D σ H ⟨g, r, m, S, q⟩ => by
    refine ⟨fun n σ1 H1 => ∃ g1 r1 m1', Ext g H g1 H1 ∧ Sim X.K g1 H1 σ1 r1 m1' ∧ (whlL (fun r m => evE call m1 r m) (fun r m => evB call sb r m) n r1 m1').post (flP (cc X call Xr Er) g H D) (erS (cc X call Xr Er) g H), ⟨TURNS, g, r, m, .refl, S, q⟩, ?_⟩
    rintro n σ1 H1 ⟨g1, r1, m1', ex, S1, q⟩
    cases n with
    | zero => exact q.elim
    | succ n =>
      refine ⟨g1, r1, m1', S1, post_mono (post_bind.mp q) (fun d m' k => ?_) fun k a m' h => erS_P S1 k a m' (erS_ext ex k a m' h)⟩
      cases d with
      | bl b =>
        refine ⟨b, rfl, fun H' ad M => ?_⟩
        have S2 := S1.adv ad M
        have ex2 := ex.trans (S1.ext ad)
        cases b with
        | true =>
          refine ⟨fun σ' H' => ∃ g2 r2 m2, Ext g H g2 H' ∧ Sim X.K g2 H' σ' r2 m2 ∧ (whlL (fun r m => evE call m1 r m) (fun r m => evB call sb r m) n r2 m2).post (flP (cc X call Xr Er) g H D) (erS (cc X call Xr Er) g H), fun σ' H' h => ⟨n, Nat.lt_succ_self n, h⟩, g1, r1, m', S2, ?_⟩
          refine post_mono (post_bind.mp k) (fun q1 m2 h => ?_) (erS_ext ex2)
          rcases q1 with ⟨f, r2⟩
          cases f with
          | next => exact fun g' σ' H3 e S' => ⟨g', r2, m2, ex2.trans e, S', h⟩
          | cnt => exact fun g' σ' H3 e S' => ⟨g', r2, m2, ex2.trans e, S', h⟩
          | brk => exact fun g' σ' H3 e S' => h g' σ' H3 (ex2.trans e) S'
          | ret d => exact fun g' H3 v e F rp => h g' H3 v (ex2.trans e) F rp
        | false => exact k g1 σ1 H' ex2 S2
      | _ => exact k.elim
theorem bs_for {iter : Expr} {body : List Stmt} {sb : List S} {ts : List Nat} {one : Bool} {src : Mp.E} (hp : PassesOwn (model X.prog X.w) X.A X.env X.xe) (hc : X.calm = true) (hi : PI X tg iter (tI MvF (cc X call Xr Er) src)) (hg : PG X tg (gD X.K ts one)) (hb : PSs X body (tSB (cc X call Xr Er) sb))
    (hs : ∀ x, foldedSetIterable iter X.env x = pure x) : PS X (.For tg iter body [] pos) (tS (cc X call Xr Er) (.forS ts one src sb)) :=
  ps_imp (ps_for hp hc hi hg hb hs) fun D σ H ⟨g, r, m, S, q⟩ => ⟨g, r, m, S, post_mono (post_bind.mp q) (fun ds m' k H1 J ad M W => by
    have S1 := S.adv ad M
    obtain ⟨hlen, G, Y, Ok, w, ok, og, st, yl⟩ := W
    have ex0 : Ext g H g H1 := S.ext ad
    have k : (forL (fun x r m => match bindT ts one x r with | some r' => evB call sb r' m | none => .no) ds r m').post (flP (cc X call Xr Er) g H D) (erS (cc X call Xr Er) g H) := k
    refine ⟨fun i n σ' H' => i + n = ds.length ∧ ∃ g1 r1 m1, Ext g H1 g1 H' ∧ Sim X.K g1 H' σ' r1 m1 ∧ Ok g1.cs g1.Z H' ∧ (forL (fun x r m => match bindT ts one x r with | some r' => evB call sb r' m | none => .no) (ds.drop i) r1 m1).post (flP (cc X call Xr Er) g H D) (erS (cc X call Xr Er) g H),
      ⟨ds.length, Nat.zero_add _, g, r, m', .refl, S1, ok, by rw [List.drop_zero]; exact k⟩, ?_⟩
    rintro i n σ' Hi ⟨e, g1, r1, m1, ex, Si, oki, q⟩
    have gH := og _ _ _ oki
    cases n with
    | zero =>
      have e : i = ds.length := e
      rw [e] at q ⊢
      rw [List.drop_length] at q
      exact .inl ⟨w.stops Hi gH, q g1 σ' Hi (ex0.trans ex) Si⟩
    | succ n =>
      have hi : i < ds.length := by omega
      refine .inr ⟨w.goes i Hi hi gH, fun σ2 H2 => ∃ g1 r1 m1, Ext g H1 g1 H2 ∧ Sim X.K g1 H2 σ2 r1 m1 ∧ Ok g1.cs g1.Z H2 ∧ (forL (fun x r m => match bindT ts one x r with | some r' => evB call sb r' m | none => .no) (ds.drop (i + 1)) r1 m1).post (flP (cc X call Xr Er) g H D) (erS (cc X call Xr Er) g H),
        fun σ2 H2 h => ⟨n, Nat.lt_succ_self n, by omega, h⟩, fun x H' yy => ?_⟩
      obtain ⟨kp, d, e1, rp⟩ := yl _ _ i Hi x H' m1 Si.mem oki (w.yields i Hi x H' hi gH yy)
      have ed : ds.drop i = d :: ds.drop (i + 1) := by
        rw [List.drop_eq_getElem_cons hi]
        congr 1
        exact (List.getElem?_eq_some_iff.mp e1).2
      rw [ed] at q
      have aK : Adv g1.cs Hi H' := .same kp
      have S' := Si.adv aK (Si.mem.keep kp)
      have exk : Ext g1 Hi g1 H' := Si.ext aK
      have q : ((match bindT ts one d r1 with | some r' => evB call sb r' m1 | none => R.no).bind fun q m => match q.1 with | .next => forL (fun x r m => match bindT ts one x r with | some r' => evB call sb r' m | none => .no) (ds.drop (i + 1)) q.2 m | .cnt => forL (fun x r m => match bindT ts one x r with | some r' => evB call sb r' m | none => .no) (ds.drop (i + 1)) q.2 m | .brk => .ok (.next, q.2) m | .ret d => .ok (.ret d, q.2) m).post (flP (cc X call Xr Er) g H D) (erS (cc X call Xr Er) g H) := q
      cases hb : bindT ts one d r1 with
      | none => rw [hb] at q; exact q.elim
      | some r' =>
        rw [hb] at q
        refine gD_run S' rp hb fun σ3 S3 _ => ⟨g1, r', m1, S3, post_mono (post_bind.mp q) (fun q1 m2 h => ?_) (erS_ext (ex0.trans (ex.trans exk)))⟩
        rcases q1 with ⟨f, r2⟩
        have exx : Ext g H g1 H' := ex0.trans (ex.trans exk)
        have okx : ∀ g' H3, Ext g1 H' g' H3 → Ok g'.cs g'.Z H3 := fun g' H3 e2 => st _ _ _ _ _ _ (show MvF H1 g1.cs g1.Z Hi g'.cs g'.Z H3 from exk.stp.trans e2.stp) oki
        cases f with
        | next => exact fun g' σ4 H3 e2 S4 => ⟨g', r2, m2, ex.trans (exk.trans e2), S4, okx g' H3 e2, h⟩
        | cnt => exact fun g' σ4 H3 e2 S4 => ⟨g', r2, m2, ex.trans (exk.trans e2), S4, okx g' H3 e2, h⟩
        | brk => exact fun g' σ4 H3 e2 S4 => h g' σ4 H3 (exx.trans e2) S4
        | ret d => exact fun g' H3 v e2 F rp => h g' H3 v (exx.trans e2) F rp) (erS_P S)⟩
end
end Mp

/-! Mp11: pairs of stores, appends, items written; comprehensions on one line; a def as a whole. -/
namespace Mp
open PySem PySem.Spec L2
section
variable {K : PySem.W.Frag} {g g' : Gh} {H H' : Hp} {σ : St} {r : Env} {m m' : Mem}
theorem NoSlot.set {p : Addr} (h : NoSlot σ r p) {i : Nat} {sl : Slot} {v : Option V} (hl : σ.length = r.length) (k : ∀ d a, sl = some (true, d) → v = some (.ref a) → a ≠ p) : NoSlot (σ.set i v) (r.set i sl) p := fun j a d e1 e2 => by
  rcases get_set e1 with ⟨ij, l, z⟩ | ⟨n, e1⟩
  · subst ij
    rw [List.getElem?_set_self (by rw [hl]; exact l)] at e2
    exact k d a z.symm (Option.some.inj e2)
  · rw [List.getElem?_set_ne n] at e2
    exact h j a d e1 e2
end
section
variable {X : Cx} {call : Nat → List D → Mem → R D} {Xr : Nat → D → Hp → Value → Option Addr → Prop} {Er : XK} {pos : Pos} {tg e e1 e2 : Expr} {m1 m2 : E} {i j : Nat} {x y : Str} {pos' : Pos}
/-- two values, one ahead of the other -/
theorem bs_par {px py pt : Pos} {kt k2 pt2} (hc : X.calm = true) (hN : X.N.Nodup) (hi : X.N[i]? = some x) (hj : X.N[j]? = some y) (hij : i ≠ j) (hx : X.env.scope.names.lookup x = some .local) (hy : X.env.scope.names.lookup y = some .local)
    (ha : PE X e1 (tE (cc X call Xr Er) m1)) (hb : PE X e2 (tE (cc X call Xr Er) m2)) (he : starEach [e1, e2] X.env = (false, eval e1 X.env) :: starEach [e2] X.env) (he2 : starEach [e2] X.env = (false, eval e2 X.env) :: starEach [] X.env)
    (hw : swappedStores [.Tuple [.Name x px, .Name y py] kt pt] (.Tuple [e1, e2] k2 pt2) X.env = pure (some [x, y])) (hs : swapsWithSole [.Tuple [.Name x px, .Name y py] kt pt] (.Tuple [e1, e2] k2 pt2) pos.line X.env = pure false) :
    PS X (.Assign [.Tuple [.Name x px, .Name y py] kt pt] (.Tuple [e1, e2] k2 pt2) pos) (tS (cc X call Xr Er) (.par i j false false m1 m2)) :=
  ps_imp (ps_par hc hN hi hj hij hx hy (pa_cons ha (pa_cons hb pa_nil he2) he) hw hs) fun D σ H ⟨g, r, m, S, q⟩ => tX_stm (P := PEx) S q fun d v H1 m1' ⟨a, M, rp⟩ k => by
    have S1 := S.adv a M
    refine ⟨g, r, m1', S1, post_mono (post_bind.mp k) (fun d2 m2' k2 v2 H2 ⟨a2, M2, rp2⟩ => ⟨v, v2, rfl, k2 g _ H2 ((S.ext a).trans (S1.ext a2)) (((S1.adv a2 M2).bind (Rep.step (S1.mem.stp a2) d v rp)).bind rp2)⟩) fun k b m' h => erS_P S1 k b m' (erS_ext (S.ext a) k b m' h)⟩
theorem bs_parO {px py pt : Pos} {kt k2 pt2} (hc : X.calm = true) (hN : X.N.Nodup) (hi : X.N[i]? = some x) (hj : X.N[j]? = some y) (hij : i ≠ j) (hx : X.env.scope.names.lookup x = some .local) (hy : X.env.scope.names.lookup y = some .local)
    (ha : PE X e1 (tE (cc X call Xr Er) m1)) (hb : PE X e2 (tF (cc X call Xr Er) m2)) (he : starEach [e1, e2] X.env = (false, eval e1 X.env) :: starEach [e2] X.env) (he2 : starEach [e2] X.env = (false, eval e2 X.env) :: starEach [] X.env)
    (hw : swappedStores [.Tuple [.Name x px, .Name y py] kt pt] (.Tuple [e1, e2] k2 pt2) X.env = pure (some [x, y])) (hs : swapsWithSole [.Tuple [.Name x px, .Name y py] kt pt] (.Tuple [e1, e2] k2 pt2) pos.line X.env = pure false) :
    PS X (.Assign [.Tuple [.Name x px, .Name y py] kt pt] (.Tuple [e1, e2] k2 pt2) pos) (tS (cc X call Xr Er) (.par i j false true m1 m2)) :=
  ps_imp (ps_par hc hN hi hj hij hx hy (pa_cons ha (pa_cons hb pa_nil he2) he) hw hs) fun D σ H ⟨g, r, m, S, q⟩ => tX_stm (P := PEx) S q fun d v H1 m1' ⟨a, M, rp⟩ k => by
    have S1 := S.adv a M
    refine ⟨g, r, m1', S1, post_mono (post_bind.mp k) (fun d2 m2' k2 v2 H2 y => ⟨v, v2, rfl, ?_⟩) fun k b m' h => erS_P S1 k b m' (erS_ext (S.ext a) k b m' h)⟩
    cases d2 with
    | lst ds =>
      obtain ⟨H3, p, vs, a3, M3, hp, ev, eH, hl, rs⟩ := y
      subst ev eH
      have S3 := S1.adv a3 M3
      have rp3 := Rep.step (S1.mem.stp a3) d v rp
      obtain ⟨g', ex, S', hcs, hz, h0, ow, ns, _⟩ := S3.take hp hl rs
      have S4 := S'.bind (i := i) (Rep.step ex.stp d v rp3)
      have k2 : flP (cc X call Xr Er) g H D (.next, (r.set i (some (false, d))).set j (some (true, .lst ds))) m2' := k2
      exact k2 g' _ _ ((S.ext a).trans ((S1.ext a3).trans ex)) (S4.bindOwn hz (by rw [hcs]; exact M3.out hp) h0 ow (ns.set S'.len fun d a e => by cases e))
    | dct _ _ => exact y.2.2.elim
    | _ => exact k2.elim
end
/-! ### lists that change -/
section
variable {K : PySem.W.Frag} {g g' : Gh} {H H' : Hp} {σ : St} {r : Env} {m m' : Mem}
/-- one's own list is written -/
theorem Sim.writeOwn (S : Sim K g H σ r m) {i : Nat} {ds ds' : List D} {p : Addr} {ws : List V} (hr : r[i]? = some (some (true, .lst ds))) (hp : σ[i]? = some (some (.ref p))) (hl : ws.length ≤ sizeLine) (rs : RepL K g.cs g.Z H ds' ws) :
    Sim K g (upd H p (.lst ws)) σ (r.set i (some (true, .lst ds'))) m ∧ Ext g H g (upd H p (.lst ws)) := by
  obtain ⟨p', e1, hZ, hc, h0, us, hL, _, _⟩ := S.own i _ hr
  rw [hp] at e1
  cases e1
  have st : Stp g.cs g.cs g.Z g.Z H (upd H p (.lst ws)) := ⟨fun a o e n => by rw [upd_ne (fun z => n (by rw [z]; exact hZ))]; exact e, fun a xs e => by rw [upd_ne (fun z => by rw [z, hL] at e; cases e)]; exact e,
    fun a o u e => by rw [upd_ne (fun z => by rw [z, hL] at e; cases e)]; exact e, fun _ z => .inl z, fun _ _ e => e⟩
  refine ⟨⟨⟨S.mem.len, S.mem.nd, S.mem.cz, S.mem.nc, fun n a d e1 e2 => ?_⟩, fun a z => ?_, by rw [List.length_set]; exact S.len, fun j d e => ?_, fun j d e => ?_, fun j k d1 d2 a hne e1 e2 e3 => ?_, fun a o e n => ?_, S.pre, S.z0, S.z0in⟩, ⟨rfl, rfl, rfl, st⟩⟩
  · obtain ⟨ds, vs, e, h1, h2⟩ := S.mem.at_ n a d e1 e2
    exact ⟨ds, vs, e, by rw [upd_ne (fun z => hc (by rw [← z]; exact List.mem_of_getElem? e1))]; exact h1, RepL.step st _ _ h2⟩
  · by_cases e : a = p
    · rw [e, upd_same]; simp
    · rw [upd_ne e]; exact S.zin a z
  · rcases get_set e with ⟨_, _, z⟩ | ⟨n, e⟩
    · cases z
    · obtain ⟨v, e1, h⟩ := S.val j d e
      exact ⟨v, e1, Rep.step st d v h⟩
  · rcases get_set e with ⟨ij, _, z⟩ | ⟨n, e⟩
    · subst ij
      cases z
      exact ⟨p, hp, hZ, hc, h0, ws, upd_same, hl, RepL.step st _ _ rs⟩
    · obtain ⟨a, e1, z, nn, h0', h⟩ := S.own j d e
      refine ⟨a, e1, z, nn, h0', ?_⟩
      have hne : a ≠ p := fun z => S.sep i j _ d p n hr e hp (by rw [← z]; exact e1)
      cases d with
      | lst ds =>
        obtain ⟨vs, h1, h2, h3⟩ := h
        exact ⟨vs, by rw [upd_ne hne]; exact h1, h2, RepL.step st _ _ h3⟩
      | _ => exact h.elim
  · have key : ∀ (j : Nat) (d : D), (r.set i (some (true, Mp.D.lst ds')))[j]? = some (some (true, d)) → ∃ d', r[j]? = some (some (true, d')) := fun j d e => by
      rcases get_set e with ⟨ij, _, _⟩ | ⟨_, e⟩
      · exact ⟨_, by rw [← ij]; exact hr⟩
      · exact ⟨d, e⟩
    obtain ⟨d1', k1⟩ := key j d1 e1
    obtain ⟨d2', k2⟩ := key k d2 e2
    exact S.sep j k d1' d2' a hne k1 k2 e3
  · rw [upd_ne (fun z => by rw [z, h0] at e; cases e)]
    exact S.keep a o e n
/-- a shared list is written -/
theorem Sim.writeCell (S : Sim K g H σ r m) {c : Nat} {ds ds' : List D} {p : Addr} {ws us : List V} (hr : m[c]? = some (.lst ds)) (hp : g.cs[c]? = some p) (hL : H p = some (.lst us)) (hf : D.flat (.lst ds') = true) (rs : RepL K g.cs g.Z H ds' ws) :
    Sim K g (upd H p (.lst ws)) σ r (m.set c (.lst ds')) ∧ Ext g H g (upd H p (.lst ws)) := by
  have hpc : p ∈ g.cs := List.mem_of_getElem? hp
  have hZ := S.mem.cz p hpc
  have st : Stp g.cs g.cs g.Z g.Z H (upd H p (.lst ws)) := ⟨fun a o e n => by rw [upd_ne (fun z => n (by rw [z]; exact hZ))]; exact e, fun a xs e => by rw [upd_ne (fun z => by rw [z, hL] at e; cases e)]; exact e,
    fun a o u e => by rw [upd_ne (fun z => by rw [z, hL] at e; cases e)]; exact e, fun _ z => .inl z, fun _ _ e => e⟩
  refine ⟨⟨⟨by rw [List.length_set]; exact S.mem.len, S.mem.nd, S.mem.cz, fun d hd => ?_, fun n a d e1 e2 => ?_⟩, fun a z => ?_, S.len, fun j d e => ?_, fun j d e => ?_, S.sep, fun a o e n => ?_, S.pre, S.z0, S.z0in⟩, ⟨rfl, rfl, rfl, st⟩⟩
  · rcases List.mem_or_eq_of_mem_set hd with h | h
    · exact S.mem.nc d h
    · rw [h]; exact hf
  · rcases get_set e2 with ⟨ij, _, z⟩ | ⟨n1, e2⟩
    · subst ij
      rw [hp] at e1
      cases e1
      exact ⟨ds', ws, z, upd_same, RepL.step st _ _ rs⟩
    · obtain ⟨es, vs, e, h1, h2⟩ := S.mem.at_ n a d e1 e2
      have hne : a ≠ p := fun z => by
        obtain ⟨l1, q1⟩ := List.getElem?_eq_some_iff.mp e1
        obtain ⟨l2, q2⟩ := List.getElem?_eq_some_iff.mp hp
        exact n1 ((List.getElem_inj S.mem.nd).mp (by rw [q1, q2, z])).symm
      exact ⟨es, vs, e, by rw [upd_ne hne]; exact h1, RepL.step st _ _ h2⟩
  · by_cases e : a = p
    · rw [e, upd_same]; simp
    · rw [upd_ne e]; exact S.zin a z
  · obtain ⟨v, e1, h⟩ := S.val j d e
    exact ⟨v, e1, Rep.step st d v h⟩
  · obtain ⟨a, e1, z, nn, h0', h⟩ := S.own j d e
    refine ⟨a, e1, z, nn, h0', ?_⟩
    have hne : a ≠ p := fun z => nn (by rw [z]; exact hpc)
    cases d with
    | lst ds =>
      obtain ⟨vs, h1, h2, h3⟩ := h
      exact ⟨vs, by rw [upd_ne hne]; exact h1, h2, RepL.step st _ _ h3⟩
    | _ => exact h.elim
  · obtain ⟨more, e2, hm⟩ := S.pre
    have hne : a ≠ p := fun z => by
      rw [e2] at hpc
      rcases List.mem_append.mp hpc with h | h
      · exact n (by rw [z]; exact h)
      · rw [z, hm p h] at e; cases e
    rw [upd_ne hne]
    exact S.keep a o e n
end
section
variable {X : Cx} {call : Nat → List D → Mem → R D} {Xr : Nat → D → Hp → Value → Option Addr → Prop} {Er : XK} {pos : Pos} {tg e e1 e2 ek : Expr} {m1 m2 : E} {i j : Nat} {x y : Str} {pos' : Pos}
theorem getv_some {r : Env} {d : D} (h : getv r i = some d) : r[i]? = some (some (false, d)) := by
  have hv' : (match r[i]? with | some (some (false, d)) => some d | _ => none) = some d := h
  cases hr : r[i]? with
  | none => rw [hr] at hv'; cases hv'
  | some sl =>
    rw [hr] at hv'
    match sl, hv' with
    | some (false, d'), hv' => cases hv'; rfl
theorem own_case {A : Type} {P : A → Mem → Prop} {E : Nat → D → Mem → Prop} {r : Env} {f : List D → R A} (h : (match r[i]? with | some (some (true, .lst xs)) => f xs | _ => R.no).post P E) : ∃ xs, r[i]? = some (some (true, .lst xs)) ∧ (f xs).post P E := by
  cases hr : r[i]? with
  | none => rw [hr] at h; exact h.elim
  | some sl =>
    rw [hr] at h
    match sl, h with
    | some (true, .lst xs), h => exact ⟨xs, rfl, h⟩
theorem bs_app {apos cpos epos : Pos} (hN : X.N[i]? = some x) (hv : Vis X.env.scope x) (hd : (x == ("__debug__" : Str)) = false) (hcd : (x == ("__classdict__" : Str)) = false) (he : PE X e (tE (cc X call Xr Er) m1))
    (hbase : attributeBase (.Name x pos') "append" X.env (eval (.Name x pos') X.env) = eval (.Name x pos') X.env)
    (hfew : ((backTo cpos (starEach [e] X.env)).all (fun x => !x.1) && (backToKw cpos (keywordEach [] X.env)).all (fun x => x.1.isSome) && decide ([e].length + ([] : List Keyword).length + (if ([] : List Keyword).isEmpty then 0 else 1) < 30)) = true)
    (hline : (apos.endLine == cpos.line) = true) (hst : starEach [e] X.env = (false, eval e X.env) :: starEach [] X.env) (hplain : (backTo cpos (starEach [] X.env)).any (·.1) = false)
    (hs : swapsWith (.Call (.Attribute (.Name x pos') "append" apos) [e] [] cpos) none epos.line X.env = pure false) :
    PS X (.Expr (.Call (.Attribute (.Name x pos') "append" apos) [e] [] cpos) epos) (tS (cc X call Xr Er) (.app i m1)) :=
  ps_imp (ps_expr (pe_bm PySem.F.plainAttrs_list PySem.F.slot_list_append PySem.F.type_list_append mt_append (pe_var hN hv hd hcd) (pa_cons he pa_nil hst) hbase hfew hline hst hplain) hs) fun D σ H ⟨g, r, m, S, q⟩ => by
    obtain ⟨xs, hr, q⟩ := own_case (f := fun xs => (evE call m1 r m).bind fun d m => if xs.length < LINE then R.ok (Fl.next, r.set i (some (true, Mp.D.lst (xs ++ [d])))) m else .no) q
    obtain ⟨p, hp, hz, hc, h0, us, hL, hl, rs⟩ := S.own i _ hr
    refine ⟨.ref p, hp, .inl ⟨rfl, us, .inl (.inl hL)⟩, tX_stm (c := cc X call Xr Er) (P := PEx) S q fun d v H' m' ⟨a, M, rp⟩ k => ?_⟩
    have k : (if xs.length < LINE then R.ok (Fl.next, r.set i (some (true, Mp.D.lst (xs ++ [d])))) m' else .no).post (flP (cc X call Xr Er) g H D) (erS (cc X call Xr Er) g H) := k
    by_cases hlt : xs.length < LINE
    · rw [if_pos hlt] at k
      have S1 := S.adv a M
      have rs1 := RepL.step (S.mem.stp a) _ _ rs
      have hul : us.length = xs.length := rs.length
      have hlt' : us.length < sizeLine := by rw [hul, sizeLine_eq]; exact hlt
      obtain ⟨S2, ex⟩ := S1.writeOwn hr hp (ws := us ++ [v]) (by rw [List.length_append]; exact hlt') (rs1.append (repL_one rp))
      exact ⟨p, us, v, rfl, rfl, a _ _ hL hc, hlt', k g _ _ ((S.ext a).trans ex) S2⟩
    · rw [if_neg hlt] at k
      exact k.elim
theorem bs_sti {spos : Pos} (hN : X.N[i]? = some x) (hv : Vis X.env.scope x) (hd : (x == ("__debug__" : Str)) = false) (hcd : (x == ("__classdict__" : Str)) = false) (he : PE X e (tE (cc X call Xr Er) m1)) (hk : PE X ek (tE (cc X call Xr Er) m2))
    (ha : ∀ v, assign (.Subscript (.Name x pos') ek spos) X.env v = (do
      let ov ← holding [v] (eval (.Name x pos') X.env)
      let iv ← holding [v, ov] (eval ek X.env)
      standAt spos
      holding [v, ov, iv] (setItem ov iv v)
      release [v, ov, iv] []))
    (hs : swapsWithSole [.Subscript (.Name x pos') ek spos] e pos.line X.env = pure false) (hw : swappedStores [.Subscript (.Name x pos') ek spos] e X.env = pure none) (h1 : (assignEach [.Subscript (.Name x pos') ek spos] X.env).map (·.2) = [assign (.Subscript (.Name x pos') ek spos) X.env]) :
    PS X (.Assign [.Subscript (.Name x pos') ek spos] e pos) (tS (cc X call Xr Er) (.sti i m2 m1)) :=
  ps_imp (ps_asg he (pg_sub (pe_var hN hv hd hcd) hk set_list ha) hs hw h1) fun D σ H ⟨g, r, m, S, q⟩ => by
    obtain ⟨xs, hr, q⟩ := own_case (f := fun xs => (evE call m1 r m).bind fun d m => (evE call m2 r m).bind fun x m => match x with
      | .int n => match ixN xs.length n with
        | some j => R.ok (Fl.next, r.set i (some (true, Mp.D.lst (xs.set j d)))) m
        | none => .no
      | _ => .no) q
    refine tX_stm (c := cc X call Xr Er) (P := PEx) S q fun d v H1 m1' ⟨a, M, rp⟩ k => ?_
    have S1 := S.adv a M
    obtain ⟨p, hp, hz, hc, h0, us, hL, hl, rs⟩ := S1.own i _ hr
    refine ⟨.ref p, hp, g, r, m1', S1, post_mono (post_bind.mp k) (fun d2 m2' k2 v2 H2 ⟨a2, M2, rp2⟩ => ?_) fun k b m' h => erS_P S1 k b m' (erS_ext (S.ext a) k b m' h)⟩
    cases d2 with
    | int n =>
      have k2 : (match ixN xs.length n with | some j => R.ok (Fl.next, r.set i (some (true, Mp.D.lst (xs.set j d)))) m2' | none => .no).post (flP (cc X call Xr Er) g H D) (erS (cc X call Xr Er) g H) := k2
      cases hj : ixN xs.length n with
      | none => rw [hj] at k2; exact k2.elim
      | some j =>
        rw [hj] at k2
        have S2 := S1.adv a2 M2
        have st := S1.mem.stp a2
        obtain ⟨S3, ex⟩ := S2.writeOwn hr hp (ws := us.set j v) (by rw [List.length_set]; exact hl) ((RepL.step st _ _ rs).set j (Rep.step st d v rp))
        exact ⟨p, us, n, j, rfl, rp2, a2 _ _ hL hc, by rw [rs.length]; exact hj, k2 g _ _ ((S.ext a).trans ((S1.ext a2).trans ex)) S3⟩
    | _ => exact k2.elim
theorem flat_lst {xs : List D} {j : Nat} {d : D} : ∀ (xs : List D) (j : Nat), D.flatL xs = true → D.flat d = true → D.flatL (xs.set j d) = true
  | [], _, h, _ => by rw [List.set_nil]; exact h
  | x :: xs, 0, h, k => by
    simp only [D.flatL, Bool.and_eq_true] at h
    simp only [List.set_cons_zero, D.flatL, Bool.and_eq_true]
    exact ⟨k, h.2⟩
  | x :: xs, j + 1, h, k => by
    simp only [D.flatL, Bool.and_eq_true] at h
    simp only [List.set_cons_succ, D.flatL, Bool.and_eq_true]
    exact ⟨h.1, flat_lst (xs := xs) (j := j) xs j h.2 k⟩
theorem cell_case {A : Type} {P : A → Mem → Prop} {E : Nat → D → Mem → Prop} {r : Env} {f : Nat → R A} (h : (match getv r i with | some (.cell c) => f c | _ => R.no).post P E) : ∃ c, r[i]? = some (some (false, .cell c)) ∧ (f c).post P E := by
  cases hr : getv r i with
  | none => rw [hr] at h; exact h.elim
  | some d =>
    rw [hr] at h
    cases d with
    | cell c => exact ⟨c, getv_some hr, h⟩
    | _ => exact h.elim
theorem bs_stc {spos : Pos} (hN : X.N[i]? = some x) (hv : Vis X.env.scope x) (hd : (x == ("__debug__" : Str)) = false) (hcd : (x == ("__classdict__" : Str)) = false) (he : PE X e (tE (cc X call Xr Er) m1)) (hk : PE X ek (tE (cc X call Xr Er) m2))
    (ha : ∀ v, assign (.Subscript (.Name x pos') ek spos) X.env v = (do
      let ov ← holding [v] (eval (.Name x pos') X.env)
      let iv ← holding [v, ov] (eval ek X.env)
      standAt spos
      holding [v, ov, iv] (setItem ov iv v)
      release [v, ov, iv] []))
    (hs : swapsWithSole [.Subscript (.Name x pos') ek spos] e pos.line X.env = pure false) (hw : swappedStores [.Subscript (.Name x pos') ek spos] e X.env = pure none) (h1 : (assignEach [.Subscript (.Name x pos') ek spos] X.env).map (·.2) = [assign (.Subscript (.Name x pos') ek spos) X.env]) :
    PS X (.Assign [.Subscript (.Name x pos') ek spos] e pos) (tS (cc X call Xr Er) (.stc i m2 m1)) :=
  ps_imp (ps_asg he (pg_sub (pe_var hN hv hd hcd) hk set_list ha) hs hw h1) fun D σ H ⟨g, r, m, S, q⟩ => by
    obtain ⟨c, hr, q⟩ := cell_case (f := fun c => (evE call m1 r m).bind fun d m => (evE call m2 r m).bind fun x m => match x with
      | .int n => match m[c]? with
        | some (.lst xs) => match ixN xs.length n with
          | some j => if Mp.D.flat d then R.ok (Fl.next, r) (m.set c (.lst (xs.set j d))) else .no
          | none => .no
        | _ => .no
      | _ => .no) q
    refine tX_stm (c := cc X call Xr Er) (P := PEx) S q fun d v H1 m1' ⟨a, M, rp⟩ k => ?_
    have S1 := S.adv a M
    obtain ⟨w, hp, p, hcs, ew⟩ := S1.val i _ hr
    subst ew
    refine ⟨.ref p, hp, g, r, m1', S1, post_mono (post_bind.mp k) (fun d2 m2' k2 v2 H2 ⟨a2, M2, rp2⟩ => ?_) fun k b m' h => erS_P S1 k b m' (erS_ext (S.ext a) k b m' h)⟩
    cases d2 with
    | int n =>
      have S2 := S1.adv a2 M2
      have st := S1.mem.stp a2
      have k2 : (match m2'[c]? with
        | some (.lst xs) => (match ixN xs.length n with
          | some j => if Mp.D.flat d then R.ok (Fl.next, r) (m2'.set c (.lst (xs.set j d))) else .no
          | none => .no)
        | _ => R.no).post (flP (cc X call Xr Er) g H D) (erS (cc X call Xr Er) g H) := k2
      cases hm : m2'[c]? with
      | none => rw [hm] at k2; exact k2.elim
      | some dm =>
        rw [hm] at k2
        cases dm with
        | lst xs =>
          have k2 : (match ixN xs.length n with
            | some j => if Mp.D.flat d then R.ok (Fl.next, r) (m2'.set c (.lst (xs.set j d))) else .no
            | none => R.no).post (flP (cc X call Xr Er) g H D) (erS (cc X call Xr Er) g H) := k2
          cases hj : ixN xs.length n with
          | none => rw [hj] at k2; exact k2.elim
          | some j =>
            rw [hj] at k2
            have k2 : (if Mp.D.flat d then R.ok (Fl.next, r) (m2'.set c (.lst (xs.set j d))) else .no).post (flP (cc X call Xr Er) g H D) (erS (cc X call Xr Er) g H) := k2
            by_cases hfl : Mp.D.flat d = true
            · rw [if_pos hfl] at k2
              obtain ⟨ds, us, e1, hL, rs⟩ := M2.at_ c p _ hcs hm
              cases e1
              obtain ⟨S3, ex⟩ := S2.writeCell hm hcs hL (ds' := xs.set j d) (ws := us.set j v) (flat_lst (xs := xs) (j := j) xs j (by have := M2.nc _ (List.mem_of_getElem? hm); exact this) hfl) (rs.set j (Rep.step st d v rp))
              exact ⟨p, us, n, j, rfl, rp2, hL, by rw [rs.length]; exact hj, k2 g _ _ ((S.ext a).trans ((S1.ext a2).trans ex)) S3⟩
            · rw [if_neg hfl] at k2
              exact k2.elim
        | _ => exact k2.elim
    | _ => exact k2.elim
end
end Mp

/-! Mp12: a def as a whole. -/
namespace Mp
open PySem PySem.Spec L2
section
variable {K : PySem.W.Frag}
theorem Rep.scalar {cs cs' : List Addr} {Z Z' : Addr → Prop} {H H' : Hp} {d : D} {v : V} (s : scalar d = true) (h : Rep K cs Z H d v) : Rep K cs' Z' H' d v := by
  cases d with
  | non => exact h
  | bl _ => exact h
  | int _ => exact h
  | str _ => exact h
  | _ => cases s
theorem Fr.out {g : Gh} {H0 H : Hp} {cs : List Addr} {Z : Addr → Prop} {m : Mem} {n : Nat} (F : Fr K g H m) (h0 : g.H0 = H0) (hc : g.cs0 = cs) (hz : g.Z0 = Z) (hn : cs.length = n) (hcz : ∀ a ∈ cs, Z a) : Adv cs H0 H ∧ MemOk K cs Z H (m.take n) := by
  subst h0 hc hz hn
  obtain ⟨more, e, hm⟩ := F.pre
  have ml := F.mem.len
  have hle : g.cs0.length ≤ m.length := by rw [← ml, e, List.length_append]; omega
  refine ⟨F.keep, ⟨by rw [List.length_take]; omega, ?_, fun a ha => ?_, fun d hd => F.mem.nc d (List.mem_of_mem_take hd), fun k a d e1 e2 => ?_⟩⟩
  · have := F.mem.nd
    rw [e] at this
    exact (List.nodup_append.mp this).1
  · exact hcz a ha
  · have hk : k < g.cs0.length := (List.getElem?_eq_some_iff.mp e1).1
    rw [List.getElem?_take_of_lt hk] at e2
    obtain ⟨ds, vs, e3, h1, h2⟩ := F.mem.at_ k a d (by rw [e, List.getElem?_append_left hk]; exact e1) e2
    have hf := F.mem.nc d (List.mem_of_getElem? e2)
    rw [e3] at hf
    exact ⟨ds, vs, e3, h1, RepL.thin F.z0 ds vs hf h2⟩
end
/-! ### the call of a def, from its body's reading -/
theorem start_get {N : List Str} {vs : List V} {i : Nat} : i < vs.length → (L2.start N vs)[i]? = (vs[i]?).map some := fun h => by
  unfold L2.start
  rw [List.getElem?_append_left (by rw [List.length_map]; exact h), List.getElem?_map]
theorem startE_get {n : Nat} {ds : List D} {i : Nat} {b : Bool} {d : D} (h : (startE n ds)[i]? = some (some (b, d))) : b = false ∧ ds[i]? = some d := by
  unfold startE at h
  by_cases hi : i < ds.length
  · rw [List.getElem?_append_left (by rw [List.length_map]; exact hi), List.getElem?_map] at h
    cases e : ds[i]? with
    | none => rw [e] at h; cases h
    | some x =>
      rw [e] at h
      cases h
      exact ⟨rfl, rfl⟩
  · rw [List.getElem?_append_right (by rw [List.length_map]; omega), List.getElem?_replicate] at h
    split at h <;> cases h
theorem err_post {A : Type} {k : Nat} {a : D} {m : Mem} {P : A → Mem → Prop} {E : Nat → D → Mem → Prop} (h : (R.err k a m : R A).post P E) : E k a m := h
theorem sp_body {K : PySem.W.Frag} {fs : List Fn} {n f : Nat} {fn : Fn} {N : List Str} {Xr : Nat → D → Hp → Value → Option Addr → Prop} {Er : XK} {vs : List V} {H : Hp} {Q : VK} {E : XK} (hf : fs[f]? = some fn) (hN : N.length = fn.slots)
    (h : spC ⟨K, run fs (n + 1), Xr, Er⟩ f vs H Q E) : vs.length = fn.pars ∧ tSB ⟨K, run fs n, Xr, E⟩ fn.body { nx := fun _ H' => Q .non H', rt := Q } (L2.start N vs) H := by
  obtain ⟨cs, Z, ds, m, M, zin, rs, q⟩ := h
  have q : (run fs (n + 1) f ds m).post (fun d m' => ∀ v H', Adv cs H H' → MemOk K cs Z H' m' → Rep K cs Z H' d v → Q v H') (fun k a m' => ∀ H' cv od, Adv cs H H' → MemOk K cs Z H' m' → Xr k a H' cv od → E cv od H') := q
  rw [run, hf] at q
  simp only at q
  by_cases hl : ds.length = fn.pars
  · rw [if_pos hl] at q
    refine ⟨by rw [rs.length]; exact hl, ?_⟩
    have hle : ds.length ≤ fn.slots ∨ ¬ ds.length ≤ fn.slots := Decidable.em _
    let g : Gh := ⟨cs, Z, H, cs, Z⟩
    have S : Sim K g H (L2.start N vs) (startE fn.slots ds) m := by
      refine ⟨M, zin, ?_, fun i d e => ?_, fun i d e => ?_, fun i j d e a _ e1 => ?_, fun a o e _ => e, ⟨[], (List.append_nil _).symm, fun a ha => by cases ha⟩, fun a z => z, zin⟩
      · unfold L2.start startE
        rw [List.length_append, List.length_map, List.length_replicate, List.length_append, List.length_map, List.length_replicate, rs.length, hN]
      · obtain ⟨_, e⟩ := startE_get e
        obtain ⟨v, e1, r⟩ := rs.get e
        refine ⟨v, ?_, r⟩
        rw [start_get (List.getElem?_eq_some_iff.mp e1).1, e1]
        rfl
      · exact absurd (startE_get e).1 (by decide)
      · exact absurd (startE_get e1).1 (by decide)
    refine ⟨g, _, m, S, ?_⟩
    show (evB (run fs n) fn.body (startE fn.slots ds) m).post _ _
    cases hr : evB (run fs n) fn.body (startE fn.slots ds) m with
    | no => rw [hr] at q; exact q.elim
    | err k a m' =>
      rw [hr] at q
      intro g' H' cv od ex F x
      obtain ⟨a1, M1⟩ := F.out ex.h0 ex.c0 ex.z0 M.len M.cz
      exact q H' cv od a1 M1 x
    | ok q1 m' =>
      rw [hr] at q
      rcases q1 with ⟨fl, r'⟩
      cases fl with
      | next =>
        intro g' σ' H' ex S'
        obtain ⟨a1, M1⟩ := S'.fr.out ex.h0 ex.c0 ex.z0 M.len M.cz
        exact q .non H' a1 M1 rfl
      | brk => exact q.elim
      | cnt => exact q.elim
      | ret d =>
        intro g' H' v ex F rp
        obtain ⟨a1, M1⟩ := F.out ex.h0 ex.c0 ex.z0 M.len M.cz
        have q : (if (m'.length = m.length || scalar d) = true then R.ok d (m'.take m.length) else .no).post (fun d m' => ∀ v H', Adv cs H H' → MemOk K cs Z H' m' → Rep K cs Z H' d v → Q v H') (fun k a m' => ∀ H' cv od, Adv cs H H' → MemOk K cs Z H' m' → Xr k a H' cv od → E cv od H') := q
        by_cases hc : (m'.length = m.length || scalar d) = true
        · rw [if_pos hc] at q
          refine q v H' a1 M1 ?_
          simp only [Bool.or_eq_true, decide_eq_true_eq] at hc
          rcases hc with hc | hc
          · obtain ⟨more, e, _⟩ := F.pre
            have l1 := F.mem.len
            have l2 := M.len
            have e0 : g'.cs0 = cs := ex.c0
            have hm : more = [] := by
              rw [e, e0, List.length_append] at l1
              exact List.eq_nil_of_length_eq_zero (by omega)
            rw [hm, List.append_nil, e0] at e
            rw [e, show g'.Z0 = Z from ex.z0] at rp
            exact rp
          · exact rp.scalar hc
        · rw [if_neg hc] at q
          exact q.elim
  · rw [if_neg hl] at q
    exact q.elim
/-- at depth 0 nothing is promised -/
theorem sp_zero {K : PySem.W.Frag} {fs : List Fn} {f : Nat} {Xr : Nat → D → Hp → Value → Option Addr → Prop} {Er : XK} {vs : List V} {H : Hp} {Q : VK} {E : XK} (h : spC ⟨K, run fs 0, Xr, Er⟩ f vs H Q E) : False := by
  obtain ⟨cs, Z, ds, m, M, zin, rs, q⟩ := h
  exact q
/-- a def keeps its promise one deeper than its callees -/
theorem fn_step {P : Program} {w : World} {K : PySem.W.Frag} {mg : Str → Option Value} {base : Heap} {CX : CXT} {x qual : Str} {params : Arguments} {body : List Stmt} {scope : Scope} {fa : Addr} {fd : FuncData} {fs : List Fn} {n f : Nat} {fn : Fn} {N ps : List Str} {Xr : Nat → D → Hp → Value → Option Addr → Prop} {Er : XK}
    (F : FunD K x qual params body scope [] [] fa fd) (S : FnScope N ps scope) (hf : fs[f]? = some fn) (hN : N.length = fn.slots) (hp : ps.length = fn.pars)
    (hbody : ∀ (cdv : Value) (A : Around) (outer : List PySem.Env) (s : Shared) (H : Hp) (E : XK), Room n (A.deeper (PyProof.Rows.envOfC qual scope s.heap.objs.size fa cdv)) → PSs (cxOf CX P w K mg base N qual scope fa cdv A outer s H E) body (tSB ⟨K, run fs n, Xr, E⟩ fn.body)) :
    FnOk P w K mg base CX (n + 1) fa fd ps (spC ⟨K, run fs (n + 1), Xr, Er⟩ f) :=
  F.ok S (fun vs H Q E h => by rw [(sp_body hf hN h).1, hp]) fun cdv A outer s H vs Q E hr h => ⟨_, hbody cdv A outer s H E hr, (sp_body hf hN h).2⟩
theorem fn_zero {P : Program} {w : World} {K : PySem.W.Frag} {mg : Str → Option Value} {base : Heap} {CX : CXT} {k : Nat} {fa : Addr} {fd : FuncData} {fs : List Fn} {f : Nat} {ps : List Str} {Xr : Nat → D → Hp → Value → Option Addr → Prop} {Er : XK} :
    FnOk P w K mg base CX k fa fd ps (spC ⟨K, run fs 0, Xr, Er⟩ f) := ⟨fun vs H Q E h => (sp_zero h).elim, fun A outer s H args us vs Q E hr he hb hv h => (sp_zero h).elim⟩
end Mp

/-! Mp13: a set of nested tuples of numbers, made from a list. -/
namespace Mp
open PySem PySem.Spec L2 PyProof.Rows
mutual
def nkOk : NestedKey → Bool
  | .none => true
  | .num _ => true
  | .text _ => false
  | .tup ks => nkOks ks
def nkOks : List NestedKey → Bool
  | [] => true
  | k :: ks => nkOk k && nkOks ks
end
/-- the tuple at a is the key k -/
structure KeyAt (h : Heap) (k : NestedKey) (a : Addr) : Prop where
  is : NestedIs h k (.ref a)
  dep : k.depth ≤ 8
  ok : nkOk k = true
section
variable {P : Program} {w : World} {A : Around} {E : Value → Shared → Prop} {s : Shared}
/-- a question over a tuple's items that none stops -/
theorem each_item {items : Array Value} {body : Value → Option Bool × Unit → Sem (ForInStep (Option Bool × Unit))} (one : ∀ v ∈ items.toList, ∀ Q : ForInStep (Option Bool × Unit) → Shared → Prop, Q (.yield (none, ())) s → wpAny (model P w) A (body v (none, ())) Q E s)
    {Q : Option Bool × Unit → Shared → Prop} (h : Q (none, ()) s) : wpAny (model P w) A (forIn items ((none, ()) : Option Bool × Unit) body) Q E s := by
  rw [← Array.forIn_toList]
  have key : ∀ l : List Value, (∀ v ∈ l, v ∈ items.toList) → wpAny (model P w) A (forIn l ((none, ()) : Option Bool × Unit) body) Q E s := fun l => by
    induction l with
    | nil => intro _; exact wpAny_pure h
    | cons v l ih =>
      intro hl
      rw [List.forIn_cons]
      exact wpAny_bind (one v (hl v List.mem_cons_self) _ (ih fun u hu => hl u (List.mem_cons_of_mem _ hu)))
  exact key _ fun _ h => h
mutual
theorem ofA_key : ∀ (k : NestedKey) (v : Value) (n : Nat) (Q : Bool → Shared → Prop), NestedIs s.heap k v → k.depth ≤ n → Q false s → wpAny (model P w) A (ofAClassStatement n v) Q E s
  | .none, _, n, Q, x, _, h => by cases x; cases n <;> exact wpAny_pure h
  | .num i, _, n, Q, x, _, h => by cases x <;> cases n <;> exact wpAny_pure h
  | .text y, _, n, Q, x, _, h => by cases x; cases n <;> exact wpAny_pure h
  | .tup ks, _, n, Q, x, hn, h => by
    cases x with
    | @tup a o vs m _ ho hc hd hk =>
      simp only [NestedKey.depth] at hn
      cases n with
      | zero => omega
      | succ n =>
        unfold ofAClassStatement
        refine wpAny_bind (wpAny_typeOf ⟨o, ho, hc⟩ ?_)
        dsimp only
        refine wpAny_bind ?_
        have e : (("tuple" : String) == "tuple") = true := by decide
        refine wpAny_pure ?_
        simp only [e, if_true, Bool.not_true, Bool.false_eq_true, if_false]
        try refine wpAny_bind (wpAny_pure ?_)
        refine wpAny_bind (wpAny_seqItems ho hd ?_)
        dsimp only
        refine wpAny_bind ?_
        refine each_item (fun v hv Q' q => ?_) (wpAny_pure h)
        refine wpAny_bind (ofA_keys ks _ n hk (by omega) v hv _ ?_)
        simp only [Bool.false_eq_true, if_false]
        exact wpAny_pure q
theorem ofA_keys : ∀ (ks : List NestedKey) (vs : List Value) (n : Nat), NestedAll s.heap ks vs → NestedKey.depthAll ks ≤ n → ∀ v ∈ vs, ∀ Q : Bool → Shared → Prop, Q false s → wpAny (model P w) A (ofAClassStatement n v) Q E s
  | [], _, n, x, _, v, hv, Q, h => by cases x; cases hv
  | k :: ks, _, n, x, hn, v, hv, Q, h => by
    cases x with
    | cons x1 x2 =>
      simp only [NestedKey.depthAll] at hn
      rcases List.mem_cons.mp hv with e | hv
      · rw [e]; exact ofA_key k _ n Q x1 (by omega) h
      · exact ofA_keys ks _ n x2 (by omega) v hv Q h
end
mutual
theorem hashBy_key : ∀ (k : NestedKey) (v : Value) (n : Nat) (Q : Bool → Shared → Prop), NestedIs s.heap k v → k.depth ≤ n → nkOk k = true → Q true s → wpAny (model P w) A (hashByValue n v) Q E s
  | .none, _, n, Q, x, _, _, h => by cases x; cases n <;> exact wpAny_pure h
  | .num i, _, n, Q, x, _, _, h => by cases x <;> cases n <;> exact wpAny_pure h
  | .text y, _, n, Q, x, _, ok, h => by cases ok
  | .tup ks, _, n, Q, x, hn, ok, h => by
    cases x with
    | @tup a o vs m _ ho hc hd hk =>
      simp only [NestedKey.depth] at hn
      cases n with
      | zero => omega
      | succ n =>
        unfold hashByValue
        refine wpAny_bind (wpAny_specialOf ⟨o, ho, hc⟩ PySem.F.slot_tuple_hash.lookup ?_)
        show wpAny _ _ (seqItems? (.ref a) >>= _) _ _ s
        refine wpAny_bind (wpAny_seqItems ho hd ?_)
        refine wpAny_bind ?_
        refine each_item (items := vs) (fun v hv Q' q => ?_) (wpAny_pure h)
        refine wpAny_bind (hashBy_keys ks _ n hk (by omega) (by simpa [nkOk] using ok) v hv _ ?_)
        simp only [Bool.not_true, Bool.false_eq_true, if_false]
        exact wpAny_pure q
theorem hashBy_keys : ∀ (ks : List NestedKey) (vs : List Value) (n : Nat), NestedAll s.heap ks vs → NestedKey.depthAll ks ≤ n → nkOks ks = true → ∀ v ∈ vs, ∀ Q : Bool → Shared → Prop, Q true s → wpAny (model P w) A (hashByValue n v) Q E s
  | [], _, n, x, _, _, v, hv, Q, h => by cases x; cases hv
  | k :: ks, _, n, x, hn, ok, v, hv, Q, h => by
    cases x with
    | cons x1 x2 =>
      simp only [NestedKey.depthAll] at hn
      simp only [nkOks, Bool.and_eq_true] at ok
      rcases List.mem_cons.mp hv with e | hv
      · rw [e]; exact hashBy_key k _ n Q x1 (by omega) ok.1 h
      · exact hashBy_keys ks _ n x2 (by omega) ok.2 v hv Q h
end
/-- a search among such keys shows nothing -/
theorem unseen {k : NestedKey} {b : Addr} {Q : Bool → Shared → Prop} (hk : KeyAt s.heap k b) {ys : List Value} (hy : ∀ y ∈ ys, ∃ k' c, y = Value.ref c ∧ KeyAt s.heap k' c) (h : Q false s) : wpAny (model P w) A (searchCouldBeSeen (.ref b) ys) Q E s := by
  unfold searchCouldBeSeen
  refine wpAny_bind ?_
  have key : ∀ l : List Value, (∀ y ∈ l, y ∈ ys) → ∀ {body : Value → Option Bool × Unit → Sem (ForInStep (Option Bool × Unit))} {Q' : Option Bool × Unit → Shared → Prop}, (∀ y ∈ ys, ∀ Q : ForInStep (Option Bool × Unit) → Shared → Prop, Q (.yield (none, ())) s → wpAny (model P w) A (body y (none, ())) Q E s) → Q' (none, ()) s →
      wpAny (model P w) A (forIn l ((none, ()) : Option Bool × Unit) body) Q' E s := fun l => by
    induction l with
    | nil => intro _ body Q' _ q; exact wpAny_pure q
    | cons v l ih =>
      intro hl body Q' one q
      rw [List.forIn_cons]
      exact wpAny_bind (one v (hl v List.mem_cons_self) _ (ih (fun u hu => hl u (List.mem_cons_of_mem _ hu)) one q))
  refine key ys (fun _ h => h) (fun y hyy Q' q => ?_) (wpAny_pure h)
  obtain ⟨k', c, rfl, hc⟩ := hy y hyy
  dsimp only
  by_cases hv : (b == c || (carriedByValue (.ref b) && carriedByValue (.ref c))) = true
  · refine wp_if_pos hv ?_
    exact wpAny_pure q
  · refine wp_if_neg hv ?_
    refine wpAny_bind ((nestedKind P w).quiet ⟨hk.is, hk.dep⟩ ?_)
    simp only [Bool.not_true, Bool.false_eq_true, if_false]
    refine wpAny_bind ((nestedKind P w).quiet ⟨hc.is, hc.dep⟩ ?_)
    simp only [Bool.not_true, Bool.false_eq_true, if_false]
    refine wpAny_bind (ofA_key _ _ 8 _ hk.is hk.dep ?_)
    simp only [Bool.false_eq_true, if_false]
    refine wpAny_bind (ofA_key _ _ 8 _ hc.is hc.dep ?_)
    simp only [Bool.false_eq_true, if_false]
    exact wpAny_pure q
end

/-! ### the set -/
abbrev Row : Type := Addr × NestedKey
def rowE (w : World) (p : Row) : Int × Value := (p.2.hash w, .ref p.1)
/-- the set at a holds the rows L, in its table's order -/
structure SetN (P : Program) (w : World) (h : Heap) (a : Addr) (L : List Row) (es : Array (Int × Value)) (ep : Nat) (t : SetTable) : Prop where
  ob : ∃ o, h.get? a = some o ∧ o.ExactSet ∧ o.data = .set es ep t
  rows : es.toList = L.map (rowE w)
  tab : TabOk t (L.map fun p => p.2.hash w)
  nd : (L.map (·.2)).Nodup
  key : ∀ p ∈ L, KeyAt h p.2 p.1
  plain : t.plain = true
  led : w.params.followText "set-order" = true ∨ t.led = true
  room : L.length * 5 < t.mask * 3
  few : L.length < 64
section
variable {P : Program} {w : World} {A : Around} {E : Value → Shared → Prop} {s : Shared} {a : Addr} {L : List Row} {es : Array (Int × Value)} {ep : Nat} {t : SetTable}
theorem rows_size (h : es.toList = L.map (rowE w)) : es.size = L.length := by
  rw [← Array.length_toList, h, List.length_map]
theorem rows_get (h : es.toList = L.map (rowE w)) {i : Nat} {p : Row} (hp : L[i]? = some p) : es[i]? = some (p.2.hash w, .ref p.1) := by
  rw [← Array.getElem?_toList, h, List.getElem?_map, hp]
  rfl
theorem fits_of {n : Nat} (h1 : t.place.size = n) (h2 : t.dummies = #[]) (h3 : n ≤ t.mask) : t.fits n = true := by
  unfold SetTable.fits SetTable.fill
  rw [h2, Bool.and_eq_true, beq_iff_eq, decide_eq_true_eq]
  exact ⟨h1, by show t.place.size + 0 ≤ t.mask; omega⟩
theorem SetN.fits (R : SetN P w s.heap a L es ep t) : t.fits es.size = true := by
  have h1 := R.tab.sz
  rw [List.length_map] at h1
  have h3 := R.room
  rw [rows_size R.rows]
  exact fits_of h1 R.tab.dm (by omega)
/-- the way of a hash from the c-th probe on -/
abbrev wayP (m : Nat) (h : Int) (c : Nat) : SetTable.Probe := nth m (runAt m (SetTable.bits h % (m + 1)) (SetTable.bits h)) c
theorem wayP_add (m : Nat) (h : Int) (c q : Nat) : nth m (wayP m h c) q = wayP m h (c + q) := (nth_add m c _ q).symm
theorem wayP_dummy (m : Nat) (h : Int) (c : Nat) : (wayP m h c).dummy = none := by
  have go : ∀ (n : Nat) (p : SetTable.Probe), p.dummy = none → (nth m p n).dummy = none := fun n => by
    induction n with
    | zero => exact fun p z => z
    | succ n ih => exact fun p z => ih (adv m p) (by unfold adv; split <;> exact z)
  exact go c _ rfl
/-- where the search ends: K, the first empty place of the way -/
structure Gap (t : SetTable) (h : Int) (K : Nat) : Prop where
  few : K < 10 * SetTable.turns t.mask
  out : way t.mask h K ∉ t.place.toList
  ahead : ∀ c, c < K → way t.mask h c ∈ t.place.toList
theorem search_go (R : SetN P w s.heap a L es ep t) {x : Addr} {k : NestedKey} (hx : KeyAt s.heap k x) (hu : A.units + 8 < cLine) {K : Nat} (G : Gap t (k.hash w) K) {Q : SetFound → Shared → Prop} (yes : k ∈ L.map (·.2) → Q (.there none) s) (no : k ∉ L.map (·.2) → Q (.free (way t.mask (k.hash w) K) false) s) :
    ∀ (f c : Nat) (stand : Option SetTable.Probe), stand.getD (t.probeStart (k.hash w)) = wayP t.mask (k.hash w) c → c ≤ K → K - c < f → (∀ (i : Nat) (p : Row), L[i]? = some p → p.2 = k → ∃ c', c ≤ c' ∧ c' < K ∧ t.place.toList[i]? = some (way t.mask (k.hash w) c')) →
      wpAny (model P w) A (setSearchFrom a (.ref x) (k.hash w) true f stand) Q E s := by
  obtain ⟨o, ho, hex, hd⟩ := R.ob
  have gw : ¬ t.gaveWay = true := by
    unfold SetTable.gaveWay
    rw [mask_odd R.tab.mok]
    decide
  have hlen : t.place.toList.length = L.length := by rw [Array.length_toList, R.tab.sz, List.length_map]
  intro f
  induction f with
  | zero => intro c stand _ _ hf _; exact absurd hf (Nat.not_lt_zero _)
  | succ f ih =>
    intro c stand hst hc hf ahead
    rw [setSearchFrom_succ]
    refine wpAny_bind (wpAny_setState_of ho hd R.fits ?_)
    dsimp only
    refine wp_if_neg gw ?_
    try refine wpAny_bind (wpAny_pure ?_)
    have at_ : ∀ q, (nth t.mask (wayP t.mask (k.hash w) c) q).j = way t.mask (k.hash w) (c + q) := fun q => congrArg SetTable.Probe.j (wayP_add _ _ _ q)
    have hAt : ∀ (i : Nat) (p : Row), L[i]? = some p → ((es[i]?.map (·.1)).getD 0) = p.2.hash w := fun i p hp => by rw [rows_get R.rows hp]; rfl
    have hK : c + (K - c) = K := by omega
    have spec := go_spec t R.tab.ris R.tab.dm (fun i => (es[i]?.map (·.1)).getD 0) (k.hash w) (10 * SetTable.turns t.mask) (K - c) (wayP t.mask (k.hash w) c) (wayP_dummy _ _ _) (by have := G.few; omega)
      (fun q hq => by rw [at_]; exact G.ahead (c + q) (by omega)) (by rw [at_, hK]; exact G.out)
    rcases spec with ⟨q, i, hq, hi, hh, hno, hpr⟩ | ⟨hno, hpr⟩
    · have met : t.probe (fun i => (es[i]?.map (·.1)).getD 0) (k.hash w) (stand.getD (t.probeStart (k.hash w))) = some (.candidate (way t.mask (k.hash w) (c + q)) i (wayP t.mask (k.hash w) (c + (q + 1)))) := by
        rw [hst, ← at_, ← wayP_add]
        exact hpr
      rw [met]
      dsimp only
      rw [at_] at hi
      have hil : i < L.length := by rw [← hlen]; exact (List.getElem?_eq_some_iff.mp hi).1
      obtain ⟨p, hp⟩ : ∃ p, L[i]? = some p := ⟨_, List.getElem?_eq_getElem hil⟩
      have hmem : p ∈ L := List.mem_of_getElem? hp
      have hpk := R.key p hmem
      have onward : wpAny (model P w) A (searchRest a (.ref x) (k.hash w) true f es t (way t.mask (k.hash w) (c + q)) i (wayP t.mask (k.hash w) (c + (q + 1)))) Q E s := by
        unfold searchRest
        rw [rows_get R.rows hp]
        dsimp only
        refine wpAny_bind (wpAny_holding ((nestedKind P w).eqBool hu ⟨hpk.is, hpk.dep⟩ ⟨hx.is, hx.dep⟩ ?_))
        refine wpAny_bind (wpAny_setState_of ho hd R.fits ?_)
        dsimp only
        by_cases same : p.2 = k
        · refine wp_if_pos (by simp [same]) ?_
          exact wpAny_pure (yes (List.mem_map.mpr ⟨p, hmem, same⟩))
        · refine wp_if_neg (by simp [same]) ?_
          try refine wpAny_bind (wpAny_pure ?_)
          rw [sameMem]
          dsimp only
          have hsl : t.slot (way t.mask (k.hash w) (c + q)) = .live i := slot_live R.tab.ris hi
          simp only [if_true, hsl, rows_get R.rows hp]
          refine wpAny_bind (wpAny_isSame_ref_self (wpAny_bind (wpAny_pure ?_)))
          simp only [if_true]
          refine wp_if_neg (by simp [same]) ?_
          refine ih (c + (q + 1)) _ rfl (by omega) (by omega) fun i0 p0 h0 hk0 => ?_
          obtain ⟨c', a1, a2, a3⟩ := ahead i0 p0 h0 hk0
          refine ⟨c', ?_, a2, a3⟩
          rcases Nat.lt_trichotomy c' (c + q) with z | z | z
          · refine absurd ((hAt i0 p0 h0).trans (by rw [hk0])) (hno (c' - c) i0 (by omega) ?_)
            rw [at_, show c + (c' - c) = c' by omega]
            exact a3
          · rw [z] at a3
            have s0 := slot_live R.tab.ris a3
            rw [hsl] at s0
            injection s0 with s0
            rw [← s0, hp] at h0
            cases h0
            exact absurd hk0 same
          · omega
      by_cases hl : t.led = true
      · refine wp_if_neg (by simp [hl]) ?_
        try refine wpAny_bind (wpAny_pure ?_)
        exact onward
      · refine wp_if_pos (by simp [hl]) ?_
        refine wpAny_bind (unseen hx (fun y hy => ?_) ?_)
        · obtain ⟨e, he, ee⟩ := List.mem_map.mp hy
          have he1 : e ∈ es ∧ e.1 = k.hash w := by simpa using he
          have he2 : e ∈ es.toList := by simpa using he1.1
          rw [R.rows] at he2
          obtain ⟨p2, hp2, e2⟩ := List.mem_map.mp he2
          exact ⟨p2.2, p2.1, by rw [← ee, ← e2]; rfl, R.key p2 hp2⟩
        · refine wp_if_neg (by decide) ?_
          try refine wpAny_bind (wpAny_pure ?_)
          exact onward
    · have met : t.probe (fun i => (es[i]?.map (·.1)).getD 0) (k.hash w) (stand.getD (t.probeStart (k.hash w))) = some (.empty (way t.mask (k.hash w) K) none) := by
        rw [hst, show way t.mask (k.hash w) K = (nth t.mask (wayP t.mask (k.hash w) c) (K - c)).j by rw [at_, hK]]
        exact hpr
      rw [met]
      dsimp only
      refine wpAny_pure (no fun hm => ?_)
      obtain ⟨p0, h0, hk0⟩ := List.mem_map.mp hm
      obtain ⟨i0, hi0, e0⟩ := List.getElem_of_mem h0
      have h00 : L[i0]? = some p0 := by rw [List.getElem?_eq_getElem hi0, e0]
      obtain ⟨c', a1, a2, a3⟩ := ahead i0 p0 h00 hk0
      refine hno (c' - c) i0 (by omega) ?_ ((hAt i0 p0 h00).trans (by rw [hk0]))
      rw [at_, show c + (c' - c) = c' by omega]
      exact a3
theorem search_N (R : SetN P w s.heap a L es ep t) {x : Addr} {k : NestedKey} (hx : KeyAt s.heap k x) (hu : A.units + 8 < cLine) {Q : SetFound → Shared → Prop} (yes : k ∈ L.map (·.2) → Q (.there none) s)
    (no : ∀ K, k ∉ L.map (·.2) → Gap t (k.hash w) K → Q (.free (way t.mask (k.hash w) K) false) s) : wpAny (model P w) A (setSearch a (.ref x) (k.hash w) true) Q E s := by
  have hroom := R.room
  obtain ⟨K, k1, k2, k3⟩ := R.tab.first (by rw [List.length_map]; omega) (k.hash w)
  have hbig : K < 100000 := by
    have : 10 * SetTable.turns t.mask ≤ 1420 := by
      unfold SetTable.turns
      rcases R.tab.mok with e | e | e <;> omega
    omega
  unfold setSearch
  refine search_go R hx hu ⟨k1, k2, k3⟩ yes (fun z => no K z ⟨k1, k2, k3⟩) 100000 0 none rfl (Nat.zero_le _) (by omega) fun i p hp hk => ?_
  have hi : (L.map fun p => p.2.hash w)[i]? = some (k.hash w) := by rw [List.getElem?_map, hp, ← hk]; rfl
  have hil : i < t.place.toList.length := by
    rw [Array.length_toList, R.tab.sz, List.length_map]
    exact (List.getElem?_eq_some_iff.mp hp).1
  have hj := List.getElem?_eq_getElem hil
  obtain ⟨c, hc, e⟩ := R.tab.before k2 hi hj
  exact ⟨c, Nat.zero_le _, hc, by rw [hj, e]⟩
/-- a key's tuples are not the set's object -/
theorem KeyAt.but {h h' : Heap} {k : NestedKey} {b : Addr} {o : Obj} (x : KeyAt h k b) (ho : h.get? a = some o) (hd : o.data = .set es ep t) (hs : Heap.SameBut a h h') : KeyAt h' k b :=
  ⟨NestedIs.at (fun b ob vs n hb hc => (hs.2 b fun e => by subst e; rw [ho] at hb; cases hb; rw [hd] at hc; cases hc).trans hb) _ _ x.is, x.dep, x.ok⟩
theorem KeyAt.keep {h h' : Heap} {k : NestedKey} {b : Addr} (x : KeyAt h k b) (hk : ∀ c o, h.get? c = some o → h'.get? c = some o) : KeyAt h' k b := ⟨NestedIs.at (fun b ob vs n hb _ => hk b ob hb) _ _ x.is, x.dep, x.ok⟩
/-- a table's order of the rows -/
theorem ordered (order : Array Nat) (hr : es.toList = L.map (rowE w)) (hp : order.toList.Perm (List.range L.length)) :
    ∃ L2 : List Row, (order.filterMap (es[·]?)).toList = L2.map (rowE w) ∧ L2.Perm L ∧ (L2.map fun p => p.2.hash w) = order.toList.map fun i => (es.map (·.1)).getD i 0 := by
  have hsz := rows_size hr
  have one : ∀ l : List Nat, (∀ i ∈ l, i < L.length) → l.filterMap (fun i => es[i]?) = (l.filterMap fun i => L[i]?).map (rowE w) ∧ ((l.filterMap fun i => L[i]?).map fun p => p.2.hash w) = l.map fun i => (es.map (·.1)).getD i 0 := fun l => by
    induction l with
    | nil => intro _; exact ⟨rfl, rfl⟩
    | cons i l ih =>
      intro hl
      have hi := hl i List.mem_cons_self
      obtain ⟨e1, e2⟩ := ih fun j hj => hl j (List.mem_cons_of_mem _ hj)
      have hL : L[i]? = some L[i] := List.getElem?_eq_getElem hi
      have he := rows_get hr hL
      rw [List.filterMap_cons_some he, List.filterMap_cons_some hL, e1, List.map_cons, List.map_cons, e2, List.map_cons]
      refine ⟨rfl, ?_⟩
      congr 1
      have : (es.map (·.1))[i]? = some (L[i].2.hash w) := by rw [Array.getElem?_map, he]; rfl
      simp [Array.getD_eq_getD_getElem?, this]
  obtain ⟨e1, e2⟩ := one order.toList fun i hi => List.mem_range.mp (hp.mem_iff.mp hi)
  refine ⟨_, by rw [Array.toList_filterMap]; exact e1, ?_, e2⟩
  have all : ∀ n, n ≤ L.length → (List.range n).filterMap (fun i => L[i]?) = L.take n := fun n => by
    induction n with
    | zero => intro _; rfl
    | succ n ih =>
      intro hn
      rw [List.range_succ, List.filterMap_append, ih (Nat.le_of_lt hn), List.take_succ, List.getElem?_eq_getElem hn, List.filterMap_cons_some (List.getElem?_eq_getElem hn)]
      rfl
  have := hp.filterMap fun i => L[i]?
  rw [all L.length (Nat.le_refl _), List.take_length] at this
  exact this
/-- the table grows -/
theorem relay_N {o : Obj} (ho : s.heap.get? a = some o) (hex : o.ExactSet) (hd : o.data = .set es ep t) (hr : es.toList = L.map (rowE w)) (hsz : t.place.size = es.size) (hdm : t.dummies = #[]) (hfl : es.size ≤ t.mask) (nd : (L.map (·.2)).Nodup) (key : ∀ p ∈ L, KeyAt s.heap p.2 p.1) (pl : t.plain = true)
    (ld : w.params.followText "set-order" = true ∨ t.led = true) (few : L.length < 64) {wanted M : Nat} (hw : SetTable.sizeAbove wanted - 1 = M) (hM : MaskOk M) (hw2 : SetTable.sizeAbove wanted ≤ 128) (hn : L.length * 5 < M * 3) {Q : Unit → Shared → Prop}
    (hQ : ∀ h' L' es' ep' t', Heap.SameBut a s.heap h' → SetN P w h' a L' es' ep' t' → L'.Perm L → Q () { s with heap := h' }) : wpAny (model P w) A (setRelay a wanted) Q E s := by
  have hsl := rows_size hr
  obtain ⟨t', order, e, hp, T, em, el, ep', ed⟩ := relaid_ok t (hs := es.map (·.1)) (wanted := wanted) hw hM (by rw [Array.size_map, hsl]; omega)
  rw [Array.size_map, hsl] at hp
  obtain ⟨L2, r1, r2, r3⟩ := ordered order hr hp
  rw [← r3] at T
  have hs2 : (order.filterMap (es[·]?)).size = es.size := by rw [rows_size r1, r2.length_eq, hsl]
  rw [setRelay_eq]
  refine wpAny_bind (wpAny_setState_of ho hd (fits_of hsz hdm hfl) ?_)
  dsimp only
  refine wp_if_neg (by rw [sizeLine_eq]; omega) ?_
  try refine wpAny_bind (wpAny_pure ?_)
  rw [e]
  dsimp only
  refine wpAny_bind ?_
  refine wp_if_neg (by rw [hs2]; simp) ?_
  try refine wpAny_bind (wpAny_pure ?_)
  refine wpAny_pure ?_
  dsimp only
  refine wpAny_storeSet_of ho hd ?_ (by rw [hs2, hsl, sizeLine_eq]; omega)
  have sb : Heap.SameBut a s.heap (s.heap.update a (Obj.putSet (order.filterMap (es[·]?)) t')) := Heap.SameBut.update ..
  exact hQ _ L2 _ (ep + 1) t' sb ⟨⟨_, store_at ho hd, ⟨hex.1, hex.2.1, hex.2.2⟩, rfl⟩, r1, T, (r2.map (·.2)).nodup_iff.mpr nd, fun p hpm => (key p (r2.mem_iff.mp hpm)).but ho hd sb, by rw [ep']; exact pl, by rw [el]; exact ld, by rw [r2.length_eq, em]; exact hn, by rw [r2.length_eq]; exact few⟩ r2
/-- an item is added -/
theorem add_N (R : SetN P w s.heap a L es ep t) {x : Addr} {k : NestedKey} (hx : KeyAt s.heap k x) (hu : A.units + 8 < cLine) (hfew : L.length + 1 < 64) {Q : Bool → Shared → Prop}
    (hQ : ∀ b h' L' es' ep' t', Heap.SameBut a s.heap h' → SetN P w h' a L' es' ep' t' → (k ∈ L.map (·.2) → L' = L) → (k ∉ L.map (·.2) → L'.Perm ((x, k) :: L)) → Q b { s with heap := h' }) :
    wpAny (model P w) A (setAddHashed a (.ref x) (k.hash w)) Q E s := by
  obtain ⟨o, ho, hex, hd⟩ := R.ob
  have hsl := rows_size R.rows
  have hroom := R.room
  unfold setAddHashed
  refine wpAny_holding ?_
  rw [show (100000 : Nat) = 99999 + 1 from rfl, setAddHashedIn_succ]
  refine wpAny_bind (wpAny_setState_of ho hd R.fits ?_)
  dsimp only
  refine wp_if_neg (by simp [byScan, Value.scannable]) ?_
  try refine wpAny_bind (wpAny_pure ?_)
  refine wpAny_bind (search_N R hx hu (fun hm => ?_) fun K hm G => ?_)
  · dsimp only
    exact wpAny_pure (hQ false s.heap L es ep t (Heap.SameBut.refl a s.heap) R (fun _ => rfl) fun z => absurd hm z)
  · dsimp only
    refine wpAny_bind (wpAny_setState_of ho hd R.fits ?_)
    dsimp only
    obtain ⟨q1, q2, q3, q4, q5, q6, q7, q8, q9⟩ := R.tab.put G.out G.ahead
    have hp1 : (t.put (way t.mask (k.hash w) K)).1.plain = true := by rw [q6]; exact R.plain
    generalize hpt : t.put (way t.mask (k.hash w) K) = pt at q1 q3 q4 q5 q6 q7 q8 q9 hp1 ⊢
    obtain ⟨t1, p⟩ := pt
    dsimp only at q1 q3 q4 q5 q6 q7 q8 q9 hp1 ⊢
    subst q1
    first
      | (refine wpAny_bind ?_; refine wp_if_pos hp1 ?_; refine hashBy_key _ _ 8 _ hx.is hx.dep hx.ok ?_)
      | refine wp_if_pos hp1 (wpAny_bind (hashBy_key _ _ 8 _ hx.is hx.dep hx.ok ?_))
    simp only [if_true]
    have hin : (SetTable.insertAt es (SetTable.below t.place (way t.mask (k.hash w) K)) (k.hash w, Value.ref x)).toList = (L.take (SetTable.below t.place (way t.mask (k.hash w) K)) ++ (x, k) :: L.drop (SetTable.below t.place (way t.mask (k.hash w) K))).map (rowE w) := by
      rw [SetTable.toList_insertAt, R.rows, List.map_append, List.map_cons, List.map_take, List.map_drop]
      rfl
    generalize SetTable.below t.place (way t.mask (k.hash w) K) = p at q2 q3 hin ⊢
    have pm := put_perm L p (x, k)
    have hlen : (L.take p ++ (x, k) :: L.drop p).length = L.length + 1 := pm.length_eq
    have hhs : (L.take p ++ (x, k) :: L.drop p).map (fun p => p.2.hash w) = (L.map fun p => p.2.hash w).take p ++ k.hash w :: (L.map fun p => p.2.hash w).drop p := by
      rw [List.map_append, List.map_cons, List.map_take, List.map_drop]
    rw [← hhs] at q3
    have nd1 : ((L.take p ++ (x, k) :: L.drop p).map (·.2)).Nodup := by
      refine (pm.map (·.2)).nodup_iff.mpr ?_
      rw [List.map_cons]
      exact List.nodup_cons.mpr ⟨hm, R.nd⟩
    have hes : (SetTable.insertAt es p (k.hash w, Value.ref x)).size = L.length + 1 := by rw [rows_size hin, hlen]
    generalize SetTable.insertAt es p (k.hash w, Value.ref x) = es1 at hin hes ⊢
    generalize L.take p ++ (x, k) :: L.drop p = L1 at pm hlen q3 nd1 hin
    refine wpAny_bind (wpAny_storeSet_of ho hd ?_ (by rw [hes, sizeLine_eq]; omega))
    have sb : Heap.SameBut a s.heap (s.heap.update a (Obj.putSet es1 t1)) := Heap.SameBut.update ..
    have ho1 := store_at (es' := es1) (t' := t1) ho hd
    generalize s.heap.update a (Obj.putSet es1 t1) = h1 at sb ho1 ⊢
    have key1 : ∀ p ∈ L1, KeyAt h1 p.2 p.1 := fun p hp => by
      rcases List.mem_cons.mp (pm.mem_iff.mp hp) with e | hp
      · rw [e]; exact hx.but ho hd sb
      · exact (R.key p hp).but ho hd sb
    have ld1 : w.params.followText "set-order" = true ∨ t1.led = true := by rw [q5]; exact R.led
    by_cases hf : t1.tooFull = true
    · first
        | (refine wpAny_bind ?_; refine wp_if_pos (by simp [hf]) ?_)
        | (refine wp_if_pos (by simp [hf]) ?_; refine wpAny_bind ?_)
      have hfull : (L.length + 1) * 5 ≥ t1.mask * 3 := by
        have h := hf
        unfold SetTable.tooFull at h
        rw [decide_eq_true_eq, q9, List.length_map] at h
        exact h
      rw [hsl]
      have hsz1 : t1.place.size = es1.size := by rw [q3.sz, List.length_map, hlen, hes]
      have two : (t.mask = 7 ∧ L.length = 4) ∨ (t.mask = 31 ∧ L.length = 18) := by
        rw [q4] at hfull
        rcases R.tab.mok with e | e | e <;> rw [e] at hfull hroom
        · exact .inl ⟨e, by omega⟩
        · exact .inr ⟨e, by omega⟩
        · omega
      have go : ∀ M, SetTable.sizeAbove (SetTable.grown (L.length + 1)) - 1 = M → MaskOk M → SetTable.sizeAbove (SetTable.grown (L.length + 1)) ≤ 128 → (L.length + 1) * 5 < M * 3 →
          wpAny (model P w) A (setRelay a (SetTable.grown (L.length + 1))) (fun _ s' => wpAny (model P w) A (pure true) Q E s') E { s with heap := h1 } := fun M h1' h2' h3' h4' =>
        relay_N (s := { s with heap := h1 }) ho1 ⟨hex.1, hex.2.1, hex.2.2⟩ rfl hin hsz1 q3.dm (by rw [hes, q4]; rcases two with ⟨e, e2⟩ | ⟨e, e2⟩ <;> omega) nd1 key1 hp1 ld1 (by rw [hlen]; exact hfew) h1' h2' h3' (by rw [hlen]; exact h4')
          fun h2 L2 es2 ep2 t2 sb2 R2 pm2 => wpAny_pure (hQ true h2 L2 es2 ep2 t2 (sb.trans sb2) R2 (fun z => absurd z hm) fun _ => pm2.trans pm)
      rcases two with ⟨_, e2⟩ | ⟨_, e2⟩
      · exact go 31 (by rw [e2, size_20]) (.inr (.inl rfl)) (by rw [e2, size_20]; decide) (by omega)
      · exact go 127 (by rw [e2, size_76]) (.inr (.inr rfl)) (by rw [e2, size_76]; decide) (by omega)
    · first
        | refine wp_if_neg (by simp [hf]) ?_
        | (refine wpAny_bind ?_; refine wp_if_neg (by simp [hf]) ?_; refine wpAny_pure ?_)
      refine wpAny_pure (hQ true h1 L1 es1 (ep + 1) t1 sb ⟨⟨_, ho1, ⟨hex.1, hex.2.1, hex.2.2⟩, rfl⟩, hin, q3, nd1, key1, hp1, ld1, ?_, by rw [hlen]; exact hfew⟩ (fun z => absurd z hm) fun _ => pm)
      have h := hf
      unfold SetTable.tooFull at h
      rw [decide_eq_true_eq, q9, List.length_map] at h
      rw [hlen]
      omega
end
end Mp

set_option maxHeartbeats 8000000
/-! Mp14: set(list) of nested keys; sorted of it. -/
namespace Mp
open PySem PySem.Spec L2 PyProof.Rows
/-- what the set has of the first i items -/
structure GotN (ks : List Row) (i : Nat) (L : List Row) : Prop where
  sub : ∀ p ∈ L, p ∈ ks
  all : ∀ p ∈ ks.take i, p.2 ∈ L.map (·.2)
  len : L.length ≤ i
theorem GotN.next {ks L L' : List Row} {i : Nat} {x : Row} (g : GotN ks i L) (h : ks[i]? = some x) (c1 : x.2 ∈ L.map (·.2) → L' = L) (c2 : x.2 ∉ L.map (·.2) → L'.Perm (x :: L)) : GotN ks (i + 1) L' := by
  have ht : ks.take (i + 1) = ks.take i ++ [x] := by rw [List.take_succ, h]; rfl
  by_cases hm : x.2 ∈ L.map (·.2)
  · rw [c1 hm]
    refine ⟨g.sub, fun p hp => ?_, Nat.le_succ_of_le g.len⟩
    rw [ht] at hp
    rcases List.mem_append.mp hp with z | z
    · exact g.all p z
    · rw [List.mem_singleton.mp z]; exact hm
  · have pm := c2 hm
    refine ⟨fun p hp => ?_, fun p hp => ?_, by rw [pm.length_eq, List.length_cons]; exact Nat.succ_le_succ g.len⟩
    · rcases List.mem_cons.mp (pm.mem_iff.mp hp) with e | z
      · rw [e]; exact List.mem_of_getElem? h
      · exact g.sub p z
    · rw [(pm.map (·.2)).mem_iff, List.map_cons]
      rw [ht] at hp
      rcases List.mem_append.mp hp with z | z
      · exact List.mem_cons_of_mem _ (g.all p z)
      · rw [List.mem_singleton.mp z]; exact List.mem_cons_self
section
variable {P : Program} {w : World} {A : Around} {E : Value → Shared → Prop} {s : Shared}
theorem SetN.keep {h h' : Heap} {a : Addr} {L : List Row} {es : Array (Int × Value)} {ep : Nat} {t : SetTable} (R : SetN P w h a L es ep t) (ha : ∀ o, h.get? a = some o → h'.get? a = some o) (ht : ∀ p ∈ L, KeyAt h' p.2 p.1) : SetN P w h' a L es ep t := by
  obtain ⟨o, ho, r⟩ := R.ob
  exact ⟨⟨o, ha o ho, r⟩, R.rows, R.tab, R.nd, ht, R.plain, R.led, R.room, R.few⟩
/-- the object of a new set -/
abbrev newSet (w : World) : Obj := { cls := .type "set", dict := none, data := .set #[] 0 (.fresh 0 0 (!w.params.followText "set-order")) }
theorem setN_new {h : Heap} {a : Addr} (ho : h.get? a = some (newSet w)) : SetN P w h a [] #[] 0 (.fresh 0 0 (!w.params.followText "set-order")) where
  ob := ⟨_, ho, ⟨rfl, rfl, rfl⟩, rfl⟩
  rows := rfl
  tab := ⟨List.Pairwise.nil, rfl, rfl, .inl rfl, fun x hx => (nomatch hx), fun i h j hi => (nomatch hi)⟩
  nd := List.nodup_nil
  key := fun p hp => nomatch hp
  plain := rfl
  led := by
    cases q : w.params.followText "set-order"
    · exact .inr rfl
    · exact .inl rfl
  room := by show 0 * 5 < 7 * 3; decide
  few := by show 0 < 64; decide
/-- the loop of set.update -/
theorem upd_N {I : Addr} {fp wr : List Addr} {G : Array GenState → Array GenState → Prop} {Pv : Nat → Value → Prop} {St : Nat → Shared → Prop} {R : Result → Shared → Prop} {ks : List Row}
    (W : WalksS P w A.in1 I fp wr G ks.length Pv St) (S : Addr) (hSf : S ∉ fp) (hfew : ks.length < 64) (hval : ∀ i v, Pv i v → ∃ p, ks[i]? = some p ∧ v = .ref p.1)
    (h0 : Heap) (hk : ∀ p ∈ ks, KeyAt h0 p.2 p.1) (hS0 : h0.get? S = none) (hw0 : ∀ b ∈ wr, h0.get? b = none) (hu : A.in1.units + 8 < cLine) :
    ∀ (k i : Nat) (s : Shared), i + k = ks.length → St i s → (∀ b o, h0.get? b = some o → s.heap.get? b = some o) → (∃ L es ep t, SetN P w s.heap S L es ep t ∧ GotN ks i L) →
      (∀ s' L es ep t, Moved (S :: wr) G s s' → SetN P w s'.heap S L es ep t → GotN ks ks.length L → (∀ b o, h0.get? b = some o → s'.heap.get? b = some o) → R (.ok (.ret .none)) s') →
      codeAny (model P w) A (.builtin "set.update.loop" ⟨[.ref S, .ref I], []⟩) R s := by
  have hSw : S ∉ wr := fun h => hSf (W.sub _ h)
  have more : ∀ b ∈ wr, b ∈ S :: wr := fun b hb => List.mem_cons_of_mem _ hb
  have old : ∀ {s s' : Shared}, Moved wr G s s' → (∀ b o, h0.get? b = some o → s.heap.get? b = some o) → ∀ b o, h0.get? b = some o → s'.heap.get? b = some o := fun hm hkp b o e =>
    hm.heap b o (fun hb => by rw [hw0 b hb] at e; cases e) (hkp b o e)
  intro k
  induction k with
  | zero =>
    intro i s hi hst hkp ⟨L, es, ep, t, hS, g⟩ hR
    have hi : i = ks.length := hi
    subst hi
    refine codeAny_builtin F.entry_set_update_loop ?_
    rw [Around.under_plainId F.plain_set_update_loop _]
    show wpAny _ A.in1 (pyNext (.ref I) >>= _) _ _ s
    refine wpAny_bind (W.done s _ _ hst fun s' hm => ?_)
    have hkp' := old hm hkp
    show wpAny _ A.in1 (ret Value.none) _ _ s'
    exact wpAny_pure (hR s' L es ep t (hm.mono more) (hS.keep (fun o e => hm.heap S o hSw e) fun p hp => (hk p (g.sub p hp)).keep hkp') g hkp')
  | succ k ih =>
    intro i s hi hst hkp ⟨L, es, ep, t, hS, g⟩ hR
    refine codeAny_builtin F.entry_set_update_loop ?_
    rw [Around.under_plainId F.plain_set_update_loop _]
    show wpAny _ A.in1 (pyNext (.ref I) >>= _) _ _ s
    refine wpAny_bind (W.item i s _ _ (by omega) hst fun v s' hP hst' hm => ?_)
    obtain ⟨p, hp, rfl⟩ := hval i v hP
    have hkp' := old hm hkp
    have hS' : SetN P w s'.heap S L es ep t := hS.keep (fun o e => hm.heap S o hSw e) fun q hq => (hk q (g.sub q hq)).keep hkp'
    have hx : KeyAt s'.heap p.2 p.1 := (hk p (List.mem_of_getElem? hp)).keep hkp'
    show wpAny _ A.in1 (holding [Value.ref p.1] (setAdd S (.ref p.1)) >>= _) _ _ s'
    refine wpAny_bind (wpAny_holding ?_)
    unfold setAdd
    refine wpAny_holding ?_
    refine wpAny_bind ((nestedKind P w).pyHash hu ⟨hx.is, hx.dep⟩ ?_)
    refine add_N (s := { s' with toks := s'.toks + p.2.draws }) hS' hx hu (by have := g.len; omega) fun b h' L' es' ep' t' hsb hS2 c1 c2 => ?_
    have hkp2 : ∀ b o, h0.get? b = some o → h'.get? b = some o := fun b o e => (hsb.2 b (fun z => by rw [z, hS0] at e; cases e)).trans (hkp' b o e)
    refine wpAny_pure ⟨plainId_quiet F.plain_set_update_loop _, ih (i + 1) _ (by omega) (W.frame _ s' _ _ hst' (Nat.le_add_right _ _) fun b hb o e => ?_) hkp2 ⟨L', es', ep', t', hS2, g.next hp c1 c2⟩ fun s'' L2 es2 ep2 t2 hm'' hS'' g'' hkp'' => ?_⟩
    · rw [hsb.2 b (fun h : b = S => hSf (by rw [← h]; exact hb))]; exact e
    · refine hR s'' L2 es2 ep2 t2 (Moved.trans W.gtrans ((hm.mono more).then_heap (Nat.le_add_right _ _) fun b o hb e => ?_) hm'') hS'' g'' hkp''
      rw [hsb.2 b (fun h : b = S => hb (by rw [h]; exact List.mem_cons_self))]; exact e
/-- set(xs) -/
theorem call_set_N {l : Addr} {items : Array Value} (ks : List Row) {Q : Value → Shared → Prop} (hh : A.handled = none) (hl : s.heap.IsList l items) (hit : items.toList = ks.map fun p => Value.ref p.1) (hk : ∀ p ∈ ks, KeyAt s.heap p.2 p.1) (hfew : ks.length < 64) (hu : A.units + 11 < cLine)
    (h : ∀ (h' : Heap) (tk : Nat) L es ep t, SetN P w h' s.heap.objs.size L es ep t → GotN ks ks.length L → (∀ b o, s.heap.get? b = some o → h'.get? b = some o) → Q (.ref s.heap.objs.size) { s with heap := h', toks := tk }) :
    wpAny (model P w) A (call (.type "set") [.ref l]) Q E s := by
  have hisz : items.size = ks.length := by
    have q := congrArg List.length hit
    rw [Array.length_toList, List.length_map] at q
    exact q
  obtain ⟨c, tl, hmro⟩ := F.called_set.mro
  have hmade := F.called_set.made
  have hsub := F.called_set.sub
  refine wpAny_call (codeAny_of_tree ?_)
  show wpAny _ _ (callAny (.type "set") _) _ _ _
  refine wpAny_pure ⟨Code.quiet_builtin _ (by decide +kernel), codeAny_builtin F.entry_type_call ?_⟩
  rw [Around.under_plain (weight_type_call_type "set" [.ref l] []) rfl]
  have h1 := F.called_set.notType
  have h2 := F.called_set.canCreate
  have hct := F.typeCall_set_1 (.ref l)
  repeat (any_goals (first | assumption | wp_step))
  refine codeAny_mono (code_set_led1 (.ref l) (E := E) (Q₁ := fun obj s₁ => obj = .ref s.heap.objs.size ∧ s₁ = { s with heap := s.heap.push (newSet w) }) ⟨rfl, rfl⟩) fun r s₁ hr => ?_
  cases r with
  | error e => exact hr
  | ok fl =>
    cases fl with
    | ret obj =>
      obtain ⟨rfl, rfl⟩ := hr
      have hS : (s.heap.push (newSet w)).get? s.heap.objs.size = some (newSet w) := Heap.get?_push_size _ rfl
      have hT : Shared.TypeIs { s with heap := s.heap.push (newSet w) } (.ref s.heap.objs.size) "set" := ⟨_, hS, rfl⟩
      have hli := F.called_set.init.lookup
      have hbi := F.called_set.init.bind (.ref s.heap.objs.size)
      repeat (any_goals (first | assumption | wp_step))
      refine codeAny_mono (codeAny_call_builtin (R := wants (fun r s₂ => r = .none ∧ ∃ h' tk L es ep t, s₂ = { s with heap := h', toks := tk } ∧ SetN P w h' s.heap.objs.size L es ep t ∧ GotN ks ks.length L ∧ (∀ b o, s.heap.get? b = some o → h'.get? b = some o)) E) F.called_set.init.plain F.entry_set_init (check_set_init_1 hT ?_)) fun r₂ s₂ hr₂ => ?_
      · obtain ⟨⟨ocls, odict, odata, oslots⟩, hol, hcl, nl, hdl⟩ := hl
        simp only at hcl hdl
        subst hcl; subst hdl
        have hol' : (s.heap.push (newSet w)).get? l = some { cls := .type "list", dict := odict, data := .seq items nl, slots := oslots } := Heap.get?_push_of_some _ hol
        have hsls := F.sub_list_set
        have hslf := F.sub_list_frozenset
        have hne : (Value.type "list" == Value.type "dict") = false := by decide
        have hl1 : (s.heap.push (newSet w)).IsList l items := ⟨_, hol', rfl, nl, rfl⟩
        unfold Builtin.«set.__init__» noKeywords Builtin.Frozenset.updateFrom
        generalize hPI : pyIter = PI
        wp_walk
        subst hPI
        refine wpAny_pyIter_list hl1 ?_
        refine wpAny_bind (wpAny_runValue ?_)
        have hlS : l < s.heap.objs.size := Heap.lt_size hol
        have hh3 : A.in1.in1.in1.handled = none := by simp [hh]
        have hz1 : (s.heap.push (newSet w)).objs.size = s.heap.objs.size + 1 := Heap.size_push ..
        have hneI : l ≠ (s.heap.push (newSet w)).objs.size := by rw [hz1]; exact Nat.ne_of_lt (Nat.lt_succ_of_lt hlS)
        have hSf : s.heap.objs.size ∉ [(s.heap.push (newSet w)).objs.size, l] := by
          rw [hz1]
          simp only [List.mem_cons, List.not_mem_nil, or_false, not_or]
          exact ⟨Nat.ne_of_lt (Nat.lt_succ_self _), Nat.ne_of_gt hlS⟩
        have hval : ∀ (i : Nat) (v : Value), items[i]? = some v → ∃ p, ks[i]? = some p ∧ v = .ref p.1 := fun i v hv => by
          have q : items.toList[i]? = some v := by rw [Array.getElem?_toList]; exact hv
          rw [hit, List.getElem?_map] at q
          cases hq : ks[i]? with
          | none => rw [hq] at q; cases q
          | some p =>
            rw [hq] at q
            exact ⟨p, rfl, (Option.some.inj q).symm⟩
        have none_of : ∀ b, s.heap.objs.size ≤ b → s.heap.get? b = none := fun b hb => by
          cases q : s.heap.get? b with
          | none => rfl
          | some o => exact absurd (Nat.lt_of_lt_of_le (Heap.lt_size q) hb) (Nat.lt_irrefl _)
        have W := (Walks.list (prog := P) (w := w) (A := A.in1.in1.in1) hh3 (s.heap.push (newSet w)).objs.size l hneI items).toS
        rw [hisz] at W
        refine upd_N (ks := ks) W s.heap.objs.size hSf hfew hval s.heap hk (none_of _ (Nat.le_refl _)) (fun b hb => none_of b (by rw [List.mem_singleton.mp hb, hz1]; exact Nat.le_succ _))
          (by simp only [Around.in1_units]; omega) ks.length 0 _ (Nat.zero_add _) ⟨⟨_, Heap.get?_push_size _ rfl, rfl, rfl⟩, (hl1.push _)⟩ (fun b o e => Heap.get?_push_of_some _ (Heap.get?_push_of_some _ e)) ?hS0 ?hR
        case hS0 => exact ⟨[], #[], 0, _, setN_new (Heap.get?_push_of_some _ hS), ⟨fun p hp => (nomatch hp), fun p hp => (nomatch hp), Nat.le_refl _⟩⟩
        case hR =>
          intro s' L es ep t hm hS' g' hkp
          obtain ⟨h', g2, d', tk', os'⟩ := s'
          have eg : g2 = s.gens := hm.gens
          have ed : d' = s.drawn := hm.drawn
          have eo : os' = s.os := hm.os
          subst eg; subst ed; subst eo
          refine wpAny_pure ?_
          show wpAny _ _ (ret Value.none) _ _ _
          exact wpAny_pure ⟨rfl, h', tk', L, es, ep, t, rfl, hS', g', hkp⟩
      · cases r₂ with
        | error e => exact hr₂
        | ok fl₂ =>
          cases fl₂ with
          | ret r =>
            obtain ⟨rfl, h', tk, L, es, ep, t, rfl, hS', g', hk'⟩ := hr₂
            repeat (any_goals (first | assumption | wp_step))
            exact h _ _ _ _ _ _ hS' g' hk'
          | _ => exact hr₂.elim
    | _ => exact hr.elim
end
end Mp

set_option maxHeartbeats 4000000
/-! Mp15: the order; sorted; sorted(set(..)). -/
namespace Mp
open PySem PySem.Spec L2 PyProof.Rows
/-! ### stable insertion -/
section
variable {A : Type} {le : A → A → Bool}
theorem ins_perm (x : A) : ∀ l : List A, (ins le x l).Perm (x :: l)
  | [] => .refl _
  | y :: ys => by
    unfold ins
    by_cases h : le x y = true
    · rw [if_pos h]
    · rw [if_neg h]
      exact ((ins_perm x ys).cons y).trans (.swap x y ys)
theorem isort_perm : ∀ l : List A, (isort le l).Perm l
  | [] => .refl _
  | x :: xs => (ins_perm x _).trans ((isort_perm xs).cons x)
theorem ins_sorted (h : PySem.W.TotalLe le) (x : A) : ∀ l : List A, l.Pairwise (fun a b => le a b = true) → (ins le x l).Pairwise (fun a b => le a b = true)
  | [], _ => List.pairwise_singleton _ _
  | y :: ys, hs => by
    unfold ins
    have hs' := List.pairwise_cons.mp hs
    by_cases c : le x y = true
    · rw [if_pos c]
      refine List.pairwise_cons.mpr ⟨fun z hz => ?_, hs⟩
      rcases List.mem_cons.mp hz with e | hz
      · rw [e]; exact c
      · exact h.trans _ _ _ c (hs'.1 z hz)
    · rw [if_neg c]
      refine List.pairwise_cons.mpr ⟨fun z hz => ?_, ins_sorted h x ys hs'.2⟩
      rcases List.mem_cons.mp ((ins_perm x ys).mem_iff.mp hz) with e | hz
      · rw [e]
        exact (h.total x y).resolve_left c
      · exact hs'.1 z hz
theorem isort_sorted (h : PySem.W.TotalLe le) : ∀ l : List A, (isort le l).Pairwise (fun a b => le a b = true)
  | [] => .nil
  | x :: xs => ins_sorted h x _ (isort_sorted h xs)
theorem ins_filter (h : PySem.W.TotalLe le) (c x : A) : ∀ l : List A, l.Pairwise (fun a b => le a b = true) → (ins le x l).filter (PySem.W.sameRank le c) = (x :: l).filter (PySem.W.sameRank le c)
  | [], _ => rfl
  | y :: ys, hs => by
    unfold ins
    by_cases k : le x y = true
    · rw [if_pos k]
    · rw [if_neg k, List.filter_cons, ins_filter h c x ys (List.pairwise_cons.mp hs).2, List.filter_cons, List.filter_cons, List.filter_cons]
      cases hx : PySem.W.sameRank le c x with
      | false => simp
      | true =>
        have hy : PySem.W.sameRank le c y = false := by
          cases q : PySem.W.sameRank le c y with
          | false => rfl
          | true =>
            unfold PySem.W.sameRank at hx q
            rw [Bool.and_eq_true] at hx q
            exact absurd (h.trans _ _ _ hx.2 q.1) k
        simp [hy]
theorem isort_filter (h : PySem.W.TotalLe le) (c : A) : ∀ l : List A, (isort le l).filter (PySem.W.sameRank le c) = l.filter (PySem.W.sameRank le c)
  | [] => rfl
  | x :: xs => by
    rw [isort, ins_filter h c x _ (isort_sorted h xs), List.filter_cons, List.filter_cons, isort_filter h c xs]
/-- the kit's sort is insertion -/
theorem isort_eq (h : PySem.W.TotalLe le) (l : List A) : isort le l = l.mergeSort le := PySem.W.sort_unique h (isort_sorted h l) fun c => isort_filter h c l
theorem ins_congr {le' : A → A → Bool} (x : A) : ∀ l : List A, (∀ y ∈ l, le x y = le' x y) → ins le x l = ins le' x l
  | [], _ => rfl
  | y :: ys, h => by
    unfold ins
    rw [h y List.mem_cons_self, ins_congr x ys fun z hz => h z (List.mem_cons_of_mem _ hz)]
theorem isort_congr {le' : A → A → Bool} : ∀ l : List A, (∀ x ∈ l, ∀ y ∈ l, le x y = le' x y) → isort le l = isort le' l
  | [], _ => rfl
  | x :: xs, h => by
    rw [isort, isort, isort_congr xs fun a ha b hb => h a (List.mem_cons_of_mem _ ha) b (List.mem_cons_of_mem _ hb)]
    exact ins_congr x _ fun y hy => h x List.mem_cons_self y (List.mem_cons_of_mem _ ((isort_perm xs).mem_iff.mp hy))
end
/-! ### the order of data -/
mutual
theorem alike_py : ∀ a b : D, D.alike a b = true → PySem.W.alike a.py b.py = true
  | .non, .non, _ => by simp [D.py, PySem.W.alike]
  | .bl _, .bl _, _ => by simp [D.py, PySem.W.alike]
  | .int _, .int _, _ => by simp [D.py, PySem.W.alike]
  | .tup xs, .tup ys, h => by
    rw [D.py, D.py, PySem.W.alike]
    exact alike_pyL xs ys (by simpa [D.alike] using h)
  | .lst xs, .lst ys, h => by
    rw [D.py, D.py, PySem.W.alike]
    exact alike_pyL xs ys (by simpa [D.alike] using h)
theorem alike_pyL : ∀ xs ys : List D, D.alikeL xs ys = true → PySem.W.alikeAll (D.pyL xs) (D.pyL ys) = true
  | [], _, _ => by simp [D.pyL, PySem.W.alikeAll]
  | _ :: _, [], _ => by simp [D.pyL, PySem.W.alikeAll]
  | x :: xs, y :: ys, h => by
    rw [D.alikeL, Bool.and_eq_true] at h
    rw [D.pyL, D.pyL, PySem.W.alikeAll, alike_py x y h.1, alike_pyL xs ys h.2]
    rfl
end
mutual
theorem lt_py : ∀ a b : D, a.pure = true → b.pure = true → D.alike a b = true → D.lt a b = PySem.W.dataLt a.py b.py
  | .non, .non, _, _, _ => by decide +kernel
  | .bl a, .bl b, _, _, _ => by cases a <;> cases b <;> decide +kernel
  | .int i, .int j, _, _, _ => by
    show decide (i < j) = (decide (i < j) || (!decide (j < i) && false))
    rw [Bool.and_false, Bool.or_false]
  | .tup xs, .tup ys, ha, hb, h => by
    rw [D.lt, D.py, D.py]
    exact lt_pyL xs ys (by simpa [D.pure] using ha) (by simpa [D.pure] using hb) (by simpa [D.alike] using h)
  | .lst xs, .lst ys, ha, hb, h => by
    rw [D.lt, D.py, D.py]
    exact lt_pyL xs ys (by simpa [D.pure] using ha) (by simpa [D.pure] using hb) (by simpa [D.alike] using h)
theorem lt_pyL : ∀ xs ys : List D, D.pureL xs = true → D.pureL ys = true → D.alikeL xs ys = true → D.ltL xs ys = PyProof.Rows.lexLt PyProof.Rows.itemOrd (PySem.W.keyToksAll (D.pyL xs)) (PySem.W.keyToksAll (D.pyL ys))
  | [], [], _, _, _ => by decide +kernel
  | [], y :: ys, _, _, _ => by
    rw [D.ltL, D.pyL, D.pyL, PySem.W.keyToksAll, PySem.W.keyToksAll]
    rfl
  | x :: xs, [], _, _, _ => by
    rw [D.ltL, D.pyL, D.pyL, PySem.W.keyToksAll, PySem.W.keyToksAll]
    rfl
  | x :: xs, y :: ys, ha, hb, h => by
    rw [D.alikeL, Bool.and_eq_true] at h
    rw [D.pureL, Bool.and_eq_true] at ha hb
    rw [D.ltL, D.pyL, D.pyL, PySem.W.dataLt_cons (alike_py x y h.1), eqv_py x y ha.1 hb.1, lt_py x y ha.1 hb.1 h.1, lt_pyL xs ys ha.2 hb.2 h.2]
end

theorem allAlike_mem : ∀ {xs : List D}, allAlike xs = true → ∀ x ∈ xs, ∀ y ∈ xs, D.alike x y = true
  | a :: xs, h, x, hx, y, hy => by
    simp only [allAlike, Bool.and_eq_true, List.all_eq_true] at h
    obtain ⟨⟨h1, h2⟩, h3⟩ := h
    rcases List.mem_cons.mp hx with e | hx <;> rcases List.mem_cons.mp hy with e' | hy
    · rw [e, e']; exact h1
    · rw [e]; exact (h2 y hy).1
    · rw [e']; exact (h2 x hx).2
    · exact allAlike_mem h3 x hx y hy
theorem pureL_mem : ∀ {xs : List D}, D.pureL xs = true → ∀ x ∈ xs, D.pure x = true
  | a :: xs, h, x, hx => by
    rw [D.pureL, Bool.and_eq_true] at h
    rcases List.mem_cons.mp hx with e | hx
    · rw [e]; exact h.1
    · exact pureL_mem h.2 x hx
theorem depthL_mem : ∀ {xs : List D}, ∀ x ∈ xs, D.depth x ≤ D.depthL xs
  | a :: xs, x, hx => by
    rw [D.depthL]
    rcases List.mem_cons.mp hx with e | hx
    · rw [e]; exact Nat.le_max_left _ _
    · exact Nat.le_trans (depthL_mem x hx) (Nat.le_max_right _ _)
theorem le_dataLe {xs : List D} (h : ∀ x ∈ xs, ∀ y ∈ xs, D.alike x y = true) (hp : ∀ x ∈ xs, D.pure x = true) : ∀ x ∈ xs, ∀ y ∈ xs, D.le x y = PySem.W.dataLe false D.py x y := fun x hx y hy => by
  rw [PySem.W.dataLe_eq]
  show (!D.lt y x) = !PySem.W.dataLt y.py x.py
  rw [lt_py y x (hp y hy) (hp x hx) (h y hy x hx)]
theorem isort_data {xs : List D} (h : ∀ x ∈ xs, ∀ y ∈ xs, D.alike x y = true) (hp : ∀ x ∈ xs, D.pure x = true) : isort D.le xs = xs.mergeSort (PySem.W.dataLe false D.py) := by
  rw [isort_congr xs (le_dataLe h hp)]
  exact isort_eq (show PySem.W.TotalLe (PySem.W.dataLe false D.py) from PySem.W.sortLe_total _ _ _) xs
theorem sortable_of {xs : List D} (h : (xs.all (fun d => match d with | .tup (_ :: _) => true | _ => false) || xs.all (fun d => match d with | .tup _ => false | .non => false | _ => true)) = true) (hp : ∀ x ∈ xs, D.pure x = true) : PySem.W.Sortable (xs.map D.py) := by
  rw [Bool.or_eq_true, List.all_eq_true, List.all_eq_true] at h
  rcases h with h | h
  · refine .inl fun d hd => ?_
    obtain ⟨x, hx, rfl⟩ := List.mem_map.mp hd
    have := h x hx
    cases x with
    | tup ys =>
      cases ys with
      | nil => cases this
      | cons y ys => exact ⟨y.py, D.pyL ys, by rw [D.py, D.pyL]⟩
    | _ => cases this
  · refine .inr fun d hd => ?_
    obtain ⟨x, hx, rfl⟩ := List.mem_map.mp hd
    have q := h x hx
    have p := hp x hx
    cases x <;> first | (simp [D.pure] at p; done) | (cases q; done) | exact ⟨by rw [D.py]; exact PyData.noConfusion, fun xs e => by rw [D.py] at e; cases e⟩
/-- values that may be sorted -/
theorem sorts_at {prog : Program} {w : World} {A : Around} {s : Shared} {vs : List Value} {xs : List D} (e : PySem.W.EachIs (fun v d => ∃ as, Reads s.heap v d as) vs (xs.map D.py)) (h : ∀ x ∈ xs, ∀ y ∈ xs, D.alike x y = true) (hp : ∀ x ∈ xs, D.pure x = true) (hs : sortOk xs = true) (hd : ∀ x ∈ xs, D.depth x ≤ 30) (hu : A.units + 31 < cLine) :
    PySem.W.SortsAt prog w A s (PySem.W.dataKind s.heap (xs.map D.py)) vs := by
  have hal : PySem.W.AllAlike (xs.map D.py) := fun d hd d' hd' => by
    obtain ⟨x, hx, rfl⟩ := List.mem_map.mp hd
    obtain ⟨y, hy, rfl⟩ := List.mem_map.mp hd'
    exact alike_py x y (h x hx y hy)
  have room : ∀ d, d ∈ xs.map D.py → A.units + d.depth < cLine := fun d hdd => by
    obtain ⟨x, hx, rfl⟩ := List.mem_map.mp hdd
    rw [depth_py x (hp x hx)]
    have := hd x hx
    omega
  unfold sortOk at hs
  rw [Bool.or_assoc, Bool.or_eq_true] at hs
  rcases hs with hs | hs
  · rw [Bool.and_eq_true, decide_eq_true_eq, List.all_eq_true] at hs
    refine ⟨fun v hv => ?_, general', ?_, fun h2 => ?_⟩
    · obtain ⟨d, hd, as, r⟩ := e.left v hv
      exact ⟨_, PySem.W.dataKind_some hal hd r⟩
    · intro E x y a b Q ha hb hq
      obtain ⟨d, as, hd, ra, rfl⟩ := PySem.W.dataKind_inv ha
      obtain ⟨d', as', hd', rb, rfl⟩ := PySem.W.dataKind_inv hb
      have hn : d ≠ .none := by
        obtain ⟨x, hx, rfl⟩ := List.mem_map.mp hd
        have q := hs.2 x hx
        have p := hp x hx
        cases x <;> first | (simp [D.pure] at p; done) | (cases q; done) | (rw [D.py]; exact PyData.noConfusion)
      exact PySem.W.oneLt_alike (f := false) (fun z => absurd z Bool.false_ne_true) ra rb (hal d hd d' hd') hn (Nat.lt_of_le_of_lt (Nat.add_le_add_left (Nat.min_le_left _ _) _) (room d hd)) hq
    · have := e.length
      rw [List.length_map] at this
      omega
  · exact PySem.W.SortsAt.data e hal (sortable_of hs hp) room
section
variable {X : Cx} {pins : List (Addr × Obj)} {σ : L2.St} {H : Hp} {s : Shared} {cs : List Addr} {Z : Addr → Prop}
/-- values that stand for items -/
def Stands (K : PySem.W.Frag) (cs : List Addr) (Z : Addr → Prop) (H : Hp) (u : Value) (d : D) : Prop := ∃ v, RelV v u ∧ Rep K cs Z H d v
theorem stands_of : ∀ {xs : List D} {vs : List V} {its : List Value}, RepL X.K cs Z H xs vs → Vals vs its → PySem.W.EachIs (Stands X.K cs Z H) its xs
  | [], vs, its, h, r => by
    rw [show vs = [] from h] at r
    cases r
    exact .nil
  | x :: xs, vs, its, h, r => by
    obtain ⟨v, vr, rfl, h1, h2⟩ := h
    cases r with
    | cons r1 r2 => exact .cons ⟨v, r1, h1⟩ (stands_of h2 r2)
theorem of_stands : ∀ {xs : List D} {its : List Value}, PySem.W.EachIs (Stands X.K cs Z H) its xs → ∃ vs, RepL X.K cs Z H xs vs ∧ Vals vs its
  | _, _, .nil => ⟨[], rfl, .nil⟩
  | _, _, .cons ⟨v, r1, h1⟩ t => by
    obtain ⟨vs, h2, r2⟩ := of_stands t
    exact ⟨v :: vs, ⟨v, vs, rfl, h1, h2⟩, .cons r1 r2⟩
theorem stands_reads (I : Inv X pins σ H s) {u : Value} {d : D} (h : Stands X.K cs Z H u d) (hp : d.pure = true) : ∃ as, Reads s.heap u d.py as := by
  obtain ⟨v, r, rp⟩ := h
  exact Dp.reads I d.py v u (Rep.dp (cs := cs) (Z := Z) d v rp hp) r
end
section
variable {X : Cx}
theorem fSorted (hu : X.A.units + 64 < cLine) : CallR X (.builtin "sorted") (rDn X.K (biV .sorted)) := by
  intro pins s σ H xs us Q I r h
  obtain ⟨cs, Z, mem, as, d, zn, rs, e, q⟩ := h
  match as, e with
  | [.lst ys], e =>
    have e : (if (allAlike ys && (D.lst ys).ok && sortOk ys) = true then some (D.lst (isort D.le ys)) else none) = some d := e
    by_cases hc : (allAlike ys && (D.lst ys).ok && sortOk ys) = true
    · rw [if_pos hc] at e
      cases e
      simp only [Bool.and_eq_true] at hc
      obtain ⟨⟨hal, hok⟩, hso⟩ := hc
      obtain ⟨x, rfl, rx⟩ := rs.one
      obtain ⟨a, vs, rfl, l, hz, rl⟩ := rx.lst
      obtain ⟨its, rv, pl, _⟩ := I.list l.sq
      rw [Vals.ref1 r]
      have hp : ∀ x ∈ ys, D.pure x = true := pureL_mem (by have := ok_pure hok; simpa [D.pure] using this)
      have hdp : ∀ x ∈ ys, D.depth x ≤ 30 := fun x hx => by
        have h1 := ok_depth hok
        rw [D.depth] at h1
        have := depthL_mem x hx
        omega
      have halm := allAlike_mem hal
      have est : PySem.W.EachIs (Stands X.K cs Z H) its ys := stands_of rl rv
      have er : PySem.W.EachIs (fun v b => ∃ as, Reads s.heap v (D.py b) as) its ys := (PySem.W.each_mem est).mono fun u d ⟨h1, h2⟩ => stands_reads I h1 (hp d h2)
      have er' : PySem.W.EachIs (fun v b => ∃ as, Reads (PySem.W.sortingHeap (PySem.W.copyHeap s.heap its) (s.heap.objs.size + 1) its) v (D.py b) as) its ys := er.mono fun _ _ ⟨as, r⟩ => ⟨as, PyProof.Rows.Reads.keeps (fun _ _ => PySem.W.sorting_copy_old) r⟩
      have halA : PySem.W.AllAlike (ys.map D.py) := fun d hd d' hd' => by
        obtain ⟨x, hx, rfl⟩ := List.mem_map.mp hd
        obtain ⟨y, hy, rfl⟩ := List.mem_map.mp hd'
        exact alike_py x y (halm x hx y hy)
      refine PySem.W.sorted_vals pl.isList (sorts_at (s := { s with heap := PySem.W.sortingHeap (PySem.W.copyHeap s.heap its) (s.heap.objs.size + 1) its }) (PySem.W.each_map (R := fun v d => ∃ as, Reads (PySem.W.sortingHeap (PySem.W.copyHeap s.heap its) (s.heap.objs.size + 1) its) v d as) D.py er') halm hp hso hdp (by simp only [Around.in1_units]; omega)) (by rw [← rv.length]; exact hz) ?_
      have out := PySem.W.sortVals_data false est er' halA
      rw [← isort_data halm hp] at out
      generalize PySem.W.sortVals (PySem.W.dataKind (PySem.W.sortingHeap (PySem.W.copyHeap s.heap its) (s.heap.objs.size + 1) its) (ys.map D.py)) false its its = ov at out
      obtain ⟨ws, w1, w2⟩ := of_stands out
      obtain ⟨ep, he⟩ := PyProof.Rows.sortedAll_at s.heap its ov.toArray
      have hwl : ws.length ≤ sizeLine := by rw [w1.length, (isort_perm ys).length_eq, ← rl.length]; exact hz
      have hn : H (s.heap.objs.size + 1) = none := I.hok.fresh (Nat.le_succ _)
      exact ⟨.ref _, upd H (s.heap.objs.size + 1) (.lst ws), I.laid (t' := s.toks) (fun _ _ => PyProof.Rows.sortedAll_old) (Nat.le_succ _) ⟨hwl, ov, ep, w2, by simpa using he⟩, rfl, q _ _ (NewR.lst hn hwl w1)⟩
    · rw [if_neg hc] at e
      cases e
end
end Mp

/-! Mp16: sorted(set(list of keys)). -/
namespace Mp
open PySem PySem.Spec L2 PyProof.Rows
mutual
def D.nk : D → NestedKey
  | .int i => .num i
  | .tup xs => .tup (D.nkL xs)
  | _ => .none
def D.nkL : List D → List NestedKey
  | [] => []
  | x :: xs => D.nk x :: D.nkL xs
end
mutual
theorem nis_reads {h : Heap} : ∀ (d : D) (u : Value) (as : List Addr), d.hk = true → Reads h u d.py as → NestedIs h d.nk u
  | .int i, u, as, _, r => by
    rw [D.py] at r
    cases r
    exact .int _ _
  | .tup xs, u, as, hk, r => by
    rw [D.py] at r
    cases r with
    | tuple h1 h2 h3 h4 => exact .tup h1 h2 h3 (nis_readsL xs _ _ (by simpa [D.hk] using hk) h4)
theorem nis_readsL {h : Heap} : ∀ (ds : List D) (us : List Value) (as : List Addr), D.hkL ds = true → ReadsAll h us (D.pyL ds) as → NestedAll h (D.nkL ds) us
  | [], us, as, _, r => by
    rw [D.pyL] at r
    cases r
    exact .nil
  | d :: ds, us, as, hk, r => by
    rw [D.hkL, Bool.and_eq_true] at hk
    rw [D.pyL] at r
    cases r with
    | cons r1 r2 => exact .cons (nis_reads d _ _ hk.1 r1) (nis_readsL ds _ _ hk.2 r2)
end
mutual
theorem nk_inj : ∀ d e : D, d.hk = true → e.hk = true → d.nk = e.nk → d = e
  | .int i, e, _, he, h => by
    cases e <;> first | (cases he; done) | (simp [D.nk] at h; try rw [h])
  | .tup xs, e, hd, he, h => by
    cases e with
    | tup ys =>
      rw [D.nk, D.nk] at h
      rw [nkL_inj xs ys (by simpa [D.hk] using hd) (by simpa [D.hk] using he) (NestedKey.tup.inj h)]
    | _ => first | (cases he; done) | (simp [D.nk] at h)
theorem nkL_inj : ∀ ds es : List D, D.hkL ds = true → D.hkL es = true → D.nkL ds = D.nkL es → ds = es
  | [], [], _, _, _ => rfl
  | [], _ :: _, _, _, h => by simp [D.nkL] at h
  | _ :: _, [], _, _, h => by simp [D.nkL] at h
  | d :: ds, e :: es, hd, he, h => by
    rw [D.hkL, Bool.and_eq_true] at hd he
    rw [D.nkL, D.nkL] at h
    obtain ⟨h1, h2⟩ := List.cons.inj h
    rw [nk_inj d e hd.1 he.1 h1, nkL_inj ds es hd.2 he.2 h2]
end
mutual
theorem nk_depth : ∀ d : D, d.hk = true → d.nk.depth = d.depth ∧ nkOk d.nk = true
  | .int i, _ => by simp [D.nk, NestedKey.depth, D.depth, nkOk]
  | .tup xs, h => by
    obtain ⟨h1, h2⟩ := nkL_depth xs (by simpa [D.hk] using h)
    rw [D.nk, NestedKey.depth, D.depth, nkOk]
    exact ⟨by rw [h1], h2⟩
theorem nkL_depth : ∀ ds : List D, D.hkL ds = true → NestedKey.depthAll (D.nkL ds) = D.depthL ds ∧ nkOks (D.nkL ds) = true
  | [], _ => by simp [D.nkL, NestedKey.depthAll, D.depthL, nkOks]
  | d :: ds, h => by
    rw [D.hkL, Bool.and_eq_true] at h
    obtain ⟨h1, h2⟩ := nk_depth d h.1
    obtain ⟨h3, h4⟩ := nkL_depth ds h.2
    rw [D.nkL, NestedKey.depthAll, D.depthL, nkOks, h1, h2, h3, h4]
    exact ⟨rfl, rfl⟩
end
mutual
theorem hk_pure : ∀ d : D, d.hk = true → d.pure = true
  | .int i, _ => by simp [D.pure]
  | .tup xs, h => by
    rw [D.pure]
    exact hkL_pure xs (by simpa [D.hk] using h)
theorem hkL_pure : ∀ ds : List D, D.hkL ds = true → D.pureL ds = true
  | [], _ => by simp [D.pureL]
  | d :: ds, h => by
    rw [D.hkL, Bool.and_eq_true] at h
    rw [D.pureL, hk_pure d h.1, hkL_pure ds h.2]
    rfl
end
mutual
theorem eqv_hk : ∀ d e : D, d.hk = true → e.hk = true → (D.eqv d e = true ↔ d = e)
  | .int i, e, _, he => by
    cases e <;> first | (cases he; done) | simp [D.eqv]
  | .tup xs, e, hd, he => by
    cases e with
    | tup ys =>
      rw [D.eqv, eqvL_hk xs ys (by simpa [D.hk] using hd) (by simpa [D.hk] using he)]
      constructor
      · rintro rfl; rfl
      · intro h; cases h; rfl
    | _ => first | (cases he; done) | simp [D.eqv]
theorem eqvL_hk : ∀ ds es : List D, D.hkL ds = true → D.hkL es = true → (D.eqvL ds es = true ↔ ds = es)
  | [], [], _, _ => by simp [D.eqvL]
  | [], _ :: _, _, _ => by simp [D.eqvL]
  | _ :: _, [], _, _ => by simp [D.eqvL]
  | d :: ds, e :: es, hd, he => by
    rw [D.hkL, Bool.and_eq_true] at hd he
    rw [D.eqvL, Bool.and_eq_true, eqv_hk d e hd.1 he.1, eqvL_hk ds es hd.2 he.2]
    constructor
    · rintro ⟨rfl, rfl⟩; rfl
    · intro h; cases h; exact ⟨rfl, rfl⟩
end
mutual
theorem lt_tri : ∀ d e : D, d.hk = true → e.hk = true → D.alike d e = true → D.lt d e = false → D.lt e d = false → d = e
  | .int i, .int j, _, _, _, h1, h2 => by
    simp only [D.lt, decide_eq_false_iff_not] at h1 h2
    rw [show i = j by omega]
  | .tup xs, .tup ys, hd, he, ha, h1, h2 => by
    rw [D.lt] at h1 h2
    rw [ltL_tri xs ys (by simpa [D.hk] using hd) (by simpa [D.hk] using he) (by simpa [D.alike] using ha) h1 h2]
theorem ltL_tri : ∀ ds es : List D, D.hkL ds = true → D.hkL es = true → D.alikeL ds es = true → D.ltL ds es = false → D.ltL es ds = false → ds = es
  | [], [], _, _, _, _, _ => rfl
  | [], _ :: _, _, _, _, h, _ => by simp [D.ltL] at h
  | _ :: _, [], _, _, _, _, h => by simp [D.ltL] at h
  | d :: ds, e :: es, hd, he, ha, h1, h2 => by
    rw [D.hkL, Bool.and_eq_true] at hd he
    rw [D.alikeL, Bool.and_eq_true] at ha
    rw [D.ltL] at h1 h2
    by_cases q : d = e
    · subst q
      have e1 : D.eqv d d = true := (eqv_hk d d hd.1 hd.1).mpr rfl
      rw [if_pos e1] at h1 h2
      rw [ltL_tri ds es hd.2 he.2 ha.2 h1 h2]
    · rw [if_neg (fun z => q ((eqv_hk d e hd.1 he.1).mp z))] at h1
      rw [if_neg (fun z => q ((eqv_hk e d he.1 hd.1).mp z).symm)] at h2
      exact absurd (lt_tri d e hd.1 he.1 ha.1 h1 h2) q
end
theorem hkL_mem : ∀ {xs : List D}, D.hkL xs = true → ∀ x ∈ xs, D.hk x = true
  | a :: xs, h, x, hx => by
    rw [D.hkL, Bool.and_eq_true] at h
    rcases List.mem_cons.mp hx with e | hx
    · rw [e]; exact h.1
    · exact hkL_mem h.2 x hx
theorem dedup_mem : ∀ {xs : List D}, (∀ x ∈ xs, D.hk x = true) → ∀ x, x ∈ dedup xs ↔ x ∈ xs
  | [], _, x => Iff.rfl
  | a :: xs, h, x => by
    have hx := fun y (hy : y ∈ xs) => h y (List.mem_cons_of_mem _ hy)
    rw [dedup, List.mem_cons, List.mem_cons, List.mem_filter, dedup_mem hx x]
    constructor
    · rintro (e | ⟨e, _⟩)
      · exact .inl e
      · exact .inr e
    · rintro (e | e)
      · exact .inl e
      · by_cases q : a = x
        · exact .inl q.symm
        · refine .inr ⟨e, ?_⟩
          rw [Bool.not_eq_true']
          cases z : D.eqv a x with
          | false => rfl
          | true => exact absurd ((eqv_hk a x (h a List.mem_cons_self) (hx x e)).mp z) q
theorem dedup_nodup : ∀ {xs : List D}, (∀ x ∈ xs, D.hk x = true) → (dedup xs).Nodup
  | [], _ => .nil
  | a :: xs, h => by
    have hx := fun y (hy : y ∈ xs) => h y (List.mem_cons_of_mem _ hy)
    rw [dedup, List.nodup_cons]
    refine ⟨fun z => ?_, (dedup_nodup hx).filter _⟩
    have q := (List.mem_filter.mp z).2
    rw [(eqv_hk a a (h a List.mem_cons_self) (h a List.mem_cons_self)).mpr rfl] at q
    cases q
theorem each_right {α β : Type} {R : α → β → Prop} : ∀ {as : List α} {bs : List β}, PySem.W.EachIs R as bs → ∀ b ∈ bs, ∃ a, a ∈ as ∧ R a b
  | _, _, .nil, _, hb => nomatch hb
  | _, _, .cons (a := a) h t, b, hb => by
    rcases List.mem_cons.mp hb with e | hb
    · rw [e]; exact ⟨a, List.mem_cons_self, h⟩
    · obtain ⟨a', h1, h2⟩ := each_right t b hb
      exact ⟨a', List.mem_cons_of_mem _ h1, h2⟩
theorem nodup_of_key {α β : Type} {f : α → β} : ∀ {l : List α}, (l.map f).Nodup → ∀ {p q : α}, p ∈ l → q ∈ l → f p = f q → p = q
  | a :: l, h, p, q, hp, hq, e => by
    rw [List.map_cons, List.nodup_cons] at h
    rcases List.mem_cons.mp hp with e1 | hp <;> rcases List.mem_cons.mp hq with e2 | hq
    · rw [e1, e2]
    · rw [e1] at e
      exact absurd (List.mem_map.mpr ⟨q, hq, e.symm⟩) h.1
    · rw [e2] at e
      exact absurd (List.mem_map.mpr ⟨p, hp, e⟩) h.1
    · exact nodup_of_key h.2 hp hq e
/-! ### the calls -/
/-- the set at a, without the keys' own objects -/
structure SetN0 (P : Program) (w : World) (h : Heap) (a : Addr) (L : List Row) : Prop where
  ex : ∃ (es : Array (Int × Value)) (ep : Nat) (t : SetTable), (∃ o, h.get? a = some o ∧ o.ExactSet ∧ o.data = .set es ep t) ∧ es.toList = L.map (rowE w) ∧ TabOk t (L.map fun p => p.2.hash w) ∧ (L.map (·.2)).Nodup ∧ t.plain = true ∧ (w.params.followText "set-order" = true ∨ t.led = true) ∧ L.length * 5 < t.mask * 3 ∧ L.length < 64
def SetNO (P : Program) (w : World) (a : Addr) (L : List Row) : HO := .ext fun h => SetN0 P w h a L
theorem setNO_new {P : Program} {w : World} {H : Hp} {h : Heap} {a : Addr} {L : List Row} {es : Array (Int × Value)} {ep : Nat} {t : SetTable} (R : SetN P w h a L es ep t) : ObjOk P w H h a (SetNO P w a L) := by
  obtain ⟨o, ho, r⟩ := R.ob
  refine ⟨⟨⟨es, ep, t, ⟨o, ho, r⟩, R.rows, R.tab, R.nd, R.plain, R.led, R.room, R.few⟩⟩, ⟨o, ho⟩, fun h1 h2 p k => ?_⟩
  obtain ⟨es', ep', t', ⟨o', ho', r'⟩, q'⟩ := SetN0.ex p
  exact ⟨es', ep', t', ⟨o', k o' ho', r'⟩, q'⟩
/-- the rows are the items -/
structure LRel (K : PySem.W.Frag) (cs : List Addr) (Z : Addr → Prop) (H : Hp) (ys : List D) (L : List Row) : Prop where
  nd : (L.map (·.2)).Nodup
  sub : ∀ p ∈ L, ∃ d ∈ ys, p.2 = d.nk ∧ Rep K cs Z H d (.ref p.1)
  all : ∀ d ∈ ys, d.nk ∈ L.map (·.2)
def setOk (ys : List D) : Prop := D.hkL ys = true ∧ ys.all isTup = true ∧ D.depthL ys ≤ 8 ∧ ys.length < 64
section
variable {X : Cx} {pins : List (Addr × Obj)} {σ : L2.St} {H : Hp} {s : Shared} {cs : List Addr} {Z : Addr → Prop}
theorem key_at (I : Inv X pins σ H s) {d : D} {a : Addr} (hk : d.hk = true) (hd : d.depth ≤ 8) (rp : Rep X.K cs Z H d (.ref a)) : KeyAt s.heap d.nk a := by
  obtain ⟨as, r⟩ := stands_reads I (⟨.ref a, rfl, rp⟩ : Stands X.K cs Z H (.ref a) d) (hk_pure d hk)
  obtain ⟨h1, h2⟩ := nk_depth d hk
  exact ⟨nis_reads d _ _ hk r, by rw [h1]; exact hd, h2⟩
theorem rows_of : ∀ {ys : List D} {vs : List V} {its : List Value}, RepL X.K cs Z H ys vs → Vals vs its → ys.all isTup = true → ∃ ks : List Row, its = ks.map (fun p => Value.ref p.1) ∧ ks.length = ys.length ∧ (∀ p ∈ ks, ∃ d ∈ ys, p.2 = d.nk ∧ Rep X.K cs Z H d (.ref p.1)) ∧ ∀ d ∈ ys, d.nk ∈ ks.map (·.2)
  | [], vs, its, h, r, _ => by
    rw [show vs = [] from h] at r
    cases r
    exact ⟨[], rfl, rfl, fun p hp => (nomatch hp), fun p hp => (nomatch hp)⟩
  | y :: ys, vs, its, h, r, ht => by
    obtain ⟨v, vr, rfl, h1, h2⟩ := h
    rw [List.all_cons, Bool.and_eq_true] at ht
    cases r with
    | cons r1 r2 =>
      obtain ⟨ks, e, l, k1, k2⟩ := rows_of h2 r2 ht.2
      cases y with
      | tup xs =>
        obtain ⟨a, us, rfl, h3⟩ := h1
        cases r1
        refine ⟨(a, (D.tup xs).nk) :: ks, by rw [List.map_cons, e], by rw [List.length_cons, List.length_cons, l], fun p hp => ?_, fun d hd => ?_⟩
        · rcases List.mem_cons.mp hp with q | hp
          · rw [q]; exact ⟨_, List.mem_cons_self, rfl, a, us, rfl, h3⟩
          · obtain ⟨d, hd, q⟩ := k1 p hp
            exact ⟨d, List.mem_cons_of_mem _ hd, q⟩
        · rw [List.map_cons]
          rcases List.mem_cons.mp hd with q | hd
          · rw [q]; exact List.mem_cons_self
          · exact List.mem_cons_of_mem _ (k2 d hd)
      | _ => cases ht.1
end
def rSet (K : PySem.W.Frag) (P : Program) (w : World) : List V → Hp → VK → Prop := fun xs H Q => ∃ (cs : List Addr) (Z : Addr → Prop) (mem : Mem) (ys : List D) (x : V), Zone cs Z H mem K ∧ xs = [x] ∧ RepB K cs Z H (.lst ys) x ∧ setOk ys ∧ ∀ a L, H a = none → LRel K cs Z H ys L → Q (.ref a) (upd H a (SetNO P w a L))
def rSrt (K : PySem.W.Frag) (P : Program) (w : World) : List V → Hp → VK → Prop := fun xs H Q => ∃ (a : Addr) (L : List Row) (cs : List Addr) (Z : Addr → Prop) (ys : List D), xs = [.ref a] ∧ H a = some (SetNO P w a L) ∧ LRel K cs Z H ys L ∧ setOk ys ∧ allAlike ys = true ∧ sortOk (dedup ys) = true ∧
  ∀ p vs, H p = none → vs.length ≤ sizeLine → RepL K cs Z H (isort D.le (dedup ys)) vs → Q (.ref p) (upd H p (.lst vs))
section
variable {X : Cx}
theorem cSet (hc : X.calm = true) (hu : X.A.units + 64 < cLine) : CallR X (.type "set") (rSet X.K X.prog X.w) := by
  intro pins s σ H xs us Q I r h
  obtain ⟨cs, Z, mem, ys, x, zn, rfl, rx, ⟨ok1, ok2, ok3, ok4⟩, q⟩ := h
  obtain ⟨a, vs, rfl, l, hz, rl⟩ := rx.lst
  obtain ⟨its, rv, pl, _⟩ := I.list l.sq
  rw [Vals.ref1 r]
  obtain ⟨ks, e, hl, k1, k2⟩ := rows_of rl rv ok2
  have hhk := hkL_mem ok1
  refine call_set_N (P := X.prog) (w := X.w) ks (I.ok.hd hc) pl.isList (by simpa using e) (fun p hp => ?_) (by rw [hl]; exact ok4) (by omega) fun h' tk L es ep t R g k => ?_
  · obtain ⟨d, hd, e2, rp⟩ := k1 p hp
    rw [e2]
    exact key_at I (hhk d hd) (Nat.le_trans (depthL_mem d hd) ok3) rp
  · have hn : H s.heap.objs.size = none := I.hok.fresh (Nat.le_refl _)
    refine ⟨.ref s.heap.objs.size, upd H s.heap.objs.size (SetNO X.prog X.w s.heap.objs.size L), I.laid (t' := tk) k (Nat.le_refl _) (setNO_new R), rfl, q _ L hn ⟨R.nd, fun p hp => k1 p (g.sub p hp), fun d hd => ?_⟩⟩
    obtain ⟨p, hp, e2⟩ := List.mem_map.mp (k2 d hd)
    rw [← e2]
    exact g.all p (by rw [List.take_length]; exact hp)
theorem cSrt (hc : X.calm = true) (hu : X.A.units + 64 < cLine) : CallR X (.builtin "sorted") (rSrt X.K X.prog X.w) := by
  intro pins s σ H xs us Q I r h
  obtain ⟨a, L, cs, Z, ys, rfl, ha, rel, ⟨ok1, ok2, ok3, ok4⟩, hal, hso, q⟩ := h
  obtain ⟨es, ep, t, ⟨o, ho, hex⟩, hr, tab, nd, pl, led, room, few⟩ := (show SetN0 X.prog X.w s.heap a L from (I.hok a _ ha).1).ex
  have hhk := hkL_mem ok1
  have hp : ∀ x ∈ dedup ys, D.pure x = true := fun x hx => hk_pure x (hhk x ((dedup_mem hhk x).mp hx))
  have halm : ∀ x ∈ dedup ys, ∀ y ∈ dedup ys, D.alike x y = true := fun x hx y hy => allAlike_mem hal x ((dedup_mem hhk x).mp hx) y ((dedup_mem hhk y).mp hy)
  have hdp : ∀ x ∈ dedup ys, D.depth x ≤ 30 := fun x hx => by
    have := depthL_mem x ((dedup_mem hhk x).mp hx)
    omega
  rw [Vals.ref1 r]
  refine Calls.call_function_entry kind_sorted plain_sorted entry_sorted (args_sorted1 _) ?_
  unfold Builtin.«sorted»
  refine wpAny_bind (m := checkCount "sorted" 1 1 _) (wpAny_pure ?_)
  have hsz := rows_size hr
  have hfit : t.fits es.size = true := by
    have h1 := tab.sz
    rw [List.length_map] at h1
    rw [hsz]
    exact fits_of h1 tab.dm (by omega)
  refine wpAny_bind (collect_set (A := X.A.in1) (I.ok.hd hc) ⟨o, ho, hex.1.1, hex.2⟩ hfit (by rw [hsz]; unfold scanBound; omega) tab.ris led fun s1 vs k1 hz g1 o1 pm => ?_)
  have hes : es.toList.map (·.2) = L.map fun q => Value.ref q.1 := by
    rw [hr, List.map_map]
    rfl
  rw [hes] at pm
  -- the items that the values stand for
  have pick : ∀ us : List Value, (∀ u ∈ us, ∃ p ∈ L, u = Value.ref p.1) → ∃ bs : List D, PySem.W.EachIs (fun u d => d ∈ ys ∧ Stands X.K cs Z H u d ∧ ∃ p ∈ L, u = Value.ref p.1 ∧ p.2 = d.nk) us bs := fun us => by
    induction us with
    | nil => intro _; exact ⟨[], .nil⟩
    | cons u us ih =>
      intro h
      obtain ⟨bs, e⟩ := ih fun v hv => h v (List.mem_cons_of_mem _ hv)
      obtain ⟨p, hp, rfl⟩ := h u List.mem_cons_self
      obtain ⟨d, hd, e2, rp⟩ := rel.sub p hp
      exact ⟨d :: bs, .cons ⟨hd, ⟨.ref p.1, rfl, rp⟩, p, hp, rfl, e2⟩ e⟩
  obtain ⟨bs, eb⟩ := pick vs fun u hu => by
    obtain ⟨p, hp, e⟩ := List.mem_map.mp (pm.mem_iff.mp hu)
    exact ⟨p, hp, e.symm⟩
  have keyL : ∀ p ∈ L, KeyAt s.heap p.2 p.1 := fun p hp => by
    obtain ⟨d, hd, e2, rp⟩ := rel.sub p hp
    rw [e2]
    exact key_at I (hhk d hd) (Nat.le_trans (depthL_mem d hd) ok3) rp
  have one : ∀ p ∈ L, ∀ q ∈ L, p.1 = q.1 → p = q := fun p hp q hq e => by
    have a1 := keyL p hp
    have a2 := keyL q hq
    rw [e] at a1
    exact Prod.ext e (NestedIs.inj _ _ _ a1.is a2.is)
  have nref : (L.map fun q => Value.ref q.1).Nodup := by
    refine List.pairwise_map.mpr (List.Pairwise.imp_of_mem (fun {p q} hp hq hne e => ?_) (List.pairwise_map.mp nd))
    injection e with e
    exact hne (by rw [one p hp q hq e])
  have nvs : vs.Nodup := pm.nodup_iff.mpr nref
  have bmem : ∀ d, d ∈ bs ↔ d ∈ ys := fun d => by
    constructor
    · intro h
      obtain ⟨u, hu, h1, _⟩ := each_right eb d h
      exact h1
    · intro h
      obtain ⟨p, hp, e2⟩ := List.mem_map.mp (rel.all d h)
      have hu : Value.ref p.1 ∈ vs := pm.mem_iff.mpr (List.mem_map.mpr ⟨p, hp, rfl⟩)
      obtain ⟨b, hb, h1, _, p', hp', e3, e4⟩ := eb.left _ hu
      injection e3 with e3
      rw [← one p hp p' hp' e3, e2] at e4
      rw [nk_inj d b (hhk d h) (hhk b h1) e4]
      exact hb
  have bnd : bs.Nodup := by
    have go : ∀ {us : List Value} {bs : List D}, PySem.W.EachIs (fun u d => d ∈ ys ∧ Stands X.K cs Z H u d ∧ ∃ p ∈ L, u = Value.ref p.1 ∧ p.2 = d.nk) us bs → us.Nodup → bs.Nodup := fun {us bs} e => by
      induction e with
      | nil => intro _; exact .nil
      | @cons u d us bs h1 t ih =>
        intro hn
        rw [List.nodup_cons] at hn ⊢
        refine ⟨fun hd => ?_, ih hn.2⟩
        obtain ⟨u', hu', h2⟩ := each_right t d hd
        obtain ⟨_, _, p, hp, e1, e2⟩ := h1
        obtain ⟨_, _, p', hp', e3, e4⟩ := h2
        have : p = p' := by
          exact nodup_of_key (f := fun p : Row => p.2) nd hp hp' (e2.trans e4.symm)
        rw [e3, ← this, ← e1] at hu'
        exact hn.1 hu'
    exact go eb nvs
  have pbs : bs.Perm (dedup ys) := (List.perm_ext_iff_of_nodup bnd (dedup_nodup hhk)).mpr fun d => by rw [bmem, dedup_mem hhk]
  have hvl : vs.length = L.length := by rw [pm.length_eq, List.length_map]
  refine wpAny_bind (wpAny_newList ?_ (by rw [hvl, sizeLine_eq]; omega))
  have hoL : (s1.heap.push (seqObj "list" vs.toArray 0)).get? s1.heap.objs.size = some (seqObj "list" vs.toArray 0) := Heap.get?_push_size _ rfl
  have k2 : ∀ b o, s.heap.get? b = some o → (PySem.W.sortingHeap (s1.heap.push (seqObj "list" vs.toArray 0)) s1.heap.objs.size vs).get? b = some o := fun b o e => by
    have q := k1 b o e
    exact PySem.W.sortingHeap_old (Nat.ne_of_lt (Heap.lt_size q)) (Heap.get?_push_of_some _ q)
  have hpb : ∀ x ∈ bs, D.pure x = true := fun x hx => hp x (pbs.mem_iff.mp hx)
  have halb : ∀ x ∈ bs, ∀ y ∈ bs, D.alike x y = true := fun x hx y hy => halm x (pbs.mem_iff.mp hx) y (pbs.mem_iff.mp hy)
  have hsb : sortOk bs = true := by
    have all : ∀ f : D → Bool, bs.all f = (dedup ys).all f := fun f => by
      rw [Bool.eq_iff_iff, List.all_eq_true, List.all_eq_true]
      exact ⟨fun h x hx => h x (pbs.mem_iff.mpr hx), fun h x hx => h x (pbs.mem_iff.mp hx)⟩
    unfold sortOk at hso ⊢
    rw [all, all, all, pbs.length_eq]
    exact hso
  have est : PySem.W.EachIs (Stands X.K cs Z H) vs bs := eb.mono fun u d h => h.2.1
  have er : PySem.W.EachIs (fun v b => ∃ as, Reads (PySem.W.sortingHeap (s1.heap.push (seqObj "list" vs.toArray 0)) s1.heap.objs.size vs) v (D.py b) as) vs bs := (PySem.W.each_mem est).mono fun u d ⟨h1, h2⟩ => by
    obtain ⟨as, r⟩ := stands_reads I h1 (hpb d h2)
    exact ⟨as, PyProof.Rows.Reads.keeps k2 r⟩
  have halA : PySem.W.AllAlike (bs.map D.py) := fun d hd d' hd' => by
    obtain ⟨x, hx, rfl⟩ := List.mem_map.mp hd
    obtain ⟨y, hy, rfl⟩ := List.mem_map.mp hd'
    exact alike_py x y (halb x hx y hy)
  refine wpAny_bind (wpAny_holding (wpAny_call_entry slot_list_sort ⟨_, hoL, rfl⟩ entry_list_sort (PySem.W.list_sort_vals (s := { s1 with heap := s1.heap.push (seqObj "list" vs.toArray 0) }) hoL (sorts_at (s := { s1 with heap := PySem.W.sortingHeap (s1.heap.push (seqObj "list" vs.toArray 0)) s1.heap.objs.size vs }) (PySem.W.each_map (R := fun v d => ∃ as, Reads (PySem.W.sortingHeap (s1.heap.push (seqObj "list" vs.toArray 0)) s1.heap.objs.size vs) v d as) D.py er) halb hpb hsb (fun x hx => hdp x (pbs.mem_iff.mp hx)) (by simp only [Around.in1_units]; omega)) (by rw [hvl, sizeLine_eq]; omega) ⟨.none, rfl, ?_⟩) (args_list_sort _)))
  have out := PySem.W.sortVals_data false est er halA
  have eqs : bs.mergeSort (PySem.W.dataLe false D.py) = isort D.le (dedup ys) := by
    rw [isort_data halm hp]
    refine List.Perm.eq_of_pairwise (le := fun a b => PySem.W.dataLe false D.py a b = true) (fun a b ha hb h1 h2 => ?_) (PySem.W.sort_pairwise (show PySem.W.TotalLe (PySem.W.dataLe false D.py) from PySem.W.sortLe_total _ _ _) _) (PySem.W.sort_pairwise (show PySem.W.TotalLe (PySem.W.dataLe false D.py) from PySem.W.sortLe_total _ _ _) _) ((List.mergeSort_perm _ _).trans (pbs.trans (List.mergeSort_perm _ _).symm))
    have ha' : a ∈ dedup ys := pbs.mem_iff.mp ((List.mergeSort_perm _ _).mem_iff.mp ha)
    have hb' : b ∈ dedup ys := (List.mergeSort_perm _ _).mem_iff.mp hb
    rw [← le_dataLe halm hp a ha' b hb'] at h1
    rw [← le_dataLe halm hp b hb' a ha'] at h2
    unfold D.le at h1 h2
    rw [Bool.not_eq_true'] at h1 h2
    exact lt_tri a b (hhk a ((dedup_mem hhk a).mp ha')) (hhk b ((dedup_mem hhk b).mp hb')) (halm a ha' b hb') h2 h1
  rw [eqs] at out
  generalize PySem.W.sortVals (PySem.W.dataKind (PySem.W.sortingHeap (s1.heap.push (seqObj "list" vs.toArray 0)) s1.heap.objs.size vs) (bs.map D.py)) false vs vs = ov at out
  obtain ⟨ws, w1, w2⟩ := of_stands out
  obtain ⟨ep', he⟩ := PyProof.Rows.sortedHeap_at (vs := vs) (out := ov.toArray) hoL
  have hwl : ws.length ≤ sizeLine := by rw [w1.length, (isort_perm _).length_eq, ← pbs.length_eq, ← eb.length, hvl, sizeLine_eq]; omega
  have hn : H s1.heap.objs.size = none := I.hok.fresh hz
  have keep : ∀ b o, s.heap.get? b = some o → (PyProof.Rows.sortedHeap (s1.heap.push (seqObj "list" vs.toArray 0)) s1.heap.objs.size vs ov.toArray).get? b = some o := fun b o e => by
    have q := k1 b o e
    have hlt := Heap.lt_size q
    rw [PyProof.Rows.sortedHeap_old (Nat.ne_of_lt hlt) (by rw [PyProof.Rows.size_push']; exact Nat.lt_succ_of_lt hlt)]
    exact Heap.get?_push_of_some _ q
  have J : Inv X pins σ (upd H s1.heap.objs.size (.lst ws)) { s with heap := PyProof.Rows.sortedHeap (s1.heap.push (seqObj "list" vs.toArray 0)) s1.heap.objs.size vs ov.toArray, gens := s1.gens, drawn := s1.drawn, toks := s1.toks } :=
    I.call (ch := []) (Un.laid keep hz hn) (I.hok.laid keep hz ⟨hwl, ov, ep', w2, by simpa using he⟩) (by rw [g1]; exact I.bare) (fun _ z => nomatch z)
  have e1 : ({ s1 with heap := PyProof.Rows.sortedHeap (s1.heap.push (seqObj "list" vs.toArray 0)) s1.heap.objs.size vs ov.toArray } : Shared) = { s with heap := PyProof.Rows.sortedHeap (s1.heap.push (seqObj "list" vs.toArray 0)) s1.heap.objs.size vs ov.toArray, gens := s1.gens, drawn := s1.drawn, toks := s1.toks } := by
    cases s1
    cases s
    cases o1
    rfl
  rw [← e1] at J
  exact wpAny_pure ⟨_, rfl, .ref s1.heap.objs.size, _, J, rfl, q _ ws hn hwl w1⟩
end
end Mp

/-! Mp17: the readings with their side conditions as truth values. -/
namespace L2
open PySem
theorem Room.units65 {k : Nat} {A : Around} (r : Room k A) : A.units + 65 < cLine := by have := r.un; omega
end L2
namespace Mp
open PySem PySem.Spec L2
def visB (sc : Scope) (x : Str) : Bool := match sc.names.lookup x with
  | some .local => true | some .cell => true | some .free => true
  | _ => false
theorem vis_by {sc : Scope} {x : Str} (h : visB sc x = true) : Vis sc x := by
  unfold visB at h
  split at h
  · exact .inl (by assumption)
  · exact .inr (.inl (by assumption))
  · exact .inr (.inr (by assumption))
  · cases h
/-- a name read from its slot -/
def vOk (X : Cx) (i : Nat) (x : Str) : Bool := decide (X.N[i]? = some x) && visB X.env.scope x && !(x == ("__debug__" : Str)) && !(x == ("__classdict__" : Str))
theorem vOk_by {X : Cx} {i : Nat} {x : Str} (h : vOk X i x = true) : X.N[i]? = some x ∧ Vis X.env.scope x ∧ (x == ("__debug__" : Str)) = false ∧ (x == ("__classdict__" : Str)) = false := by
  unfold vOk at h
  simp only [Bool.and_eq_true, decide_eq_true_eq, Bool.not_eq_true'] at h
  exact ⟨h.1.1.1, vis_by h.1.1.2, h.1.2, h.2⟩
/-- a name stored to its slot -/
def lOk (X : Cx) (i : Nat) (x : Str) : Bool := decide (X.N[i]? = some x) && (match X.env.scope.names.lookup x with
  | some .local => true | some .cell => X.fn x
  | _ => false)
theorem lOk_by {X : Cx} {i : Nat} {x : Str} (h : lOk X i x = true) : X.N[i]? = some x ∧ Loc X.env.scope x ∧ (X.fn x = true ∨ X.env.scope.names.lookup x = some .local) := by
  unfold lOk at h
  simp only [Bool.and_eq_true, decide_eq_true_eq] at h
  refine ⟨h.1, ?_⟩
  have h2 := h.2
  split at h2
  · rename_i e; exact ⟨.inl e, .inr e⟩
  · rename_i e; exact ⟨.inr e, .inl h2⟩
  · cases h2
def locB (X : Cx) (i : Nat) (x : Str) : Bool := decide (X.N[i]? = some x) && decide (X.env.scope.names.lookup x = some .local)
theorem locB_by {X : Cx} {i : Nat} {x : Str} (h : locB X i x = true) : X.N[i]? = some x ∧ X.env.scope.names.lookup x = some .local := by
  unfold locB at h
  simpa only [Bool.and_eq_true, decide_eq_true_eq] using h
/-- a global name -/
def gOk (X : Cx) (x : Str) : Bool := decide (X.env.kindOf x = some .globalImplicit) && !(x == ("__debug__" : Str)) && !(x == ("__name__" : Str))
theorem gOk_by {X : Cx} {x : Str} (h : gOk X x = true) : Gl X x ∧ (x == ("__debug__" : Str)) = false ∧ x ≠ "__name__" := by
  unfold gOk at h
  simp only [Bool.and_eq_true, decide_eq_true_eq, Bool.not_eq_true'] at h
  exact ⟨h.1.1, h.1.2, fun e => by rw [e] at h; simp at h⟩
theorem passZ {X : Cx} {E : XK} : Passes CX0 X E := fun _ _ _ _ _ _ _ h => h.elim
section
variable {X : Cx} {call : Nat → List D → Mem → R D} {Xr : Nat → D → Hp → Value → Option Addr → Prop} {Er : XK} {pos : Pos} {tg e e1 e2 ek iter : Expr} {es : List Expr} {m1 m2 : E} {ms : List E} {i j : Nat} {x y : Str} {p pos' : Pos}
theorem wv (h : vOk X i x = true) : PE X (.Name x pos) (tE (cc X call Xr Er) (.var i)) := let ⟨a, b, c, d⟩ := vOk_by h; be_var a b c d
theorem wb (h : vOk X i x = true) : PE X (.Name x pos) (tB (cc X call Xr Er) (.bor i)) := let ⟨a, b, c, d⟩ := vOk_by h; bb_bor a b c d
theorem wglob {k : Int} (hm : ∃ t, X.mg x = some (.int k t)) (h : gOk X x = true) : PE X (.Name x pos) (tE (cc X call Xr Er) (.lit (.int k))) := let ⟨a, b, _⟩ := gOk_by h; let ⟨_, t⟩ := hm; be_glob a t b
/-- a call of a def -/
theorem wcall {f : Addr} {fd : FuncData} {ps : List Str} {k fi : Nat} {CX : CXT} (F : FnOk X.prog X.w X.K X.mg X.base CX k f fd ps (spC (cc X call Xr Er) fi)) (hr : Room k X.A) (hm : X.mg x = some (.ref f)) (hk : PySem.W.keepIn X.K (.ref f) = true) (hb : Binds X.K fd ps []) (hx : Passes CX X Er) (h : gOk X x = true)
    (ha : PA X (e :: es) (tLE (cc X call Xr Er) ms)) (he : starEach (e :: es) X.env = (false, eval e X.env) :: starEach es X.env) (hpl : (backTo pos (starEach es X.env)).any (·.1) = false) : PE X (.Call (.Name x p) (e :: es) [] pos) (tE (cc X call Xr Er) (.call fi ms)) :=
  let ⟨a, b, _⟩ := gOk_by h
  be_call F hr a hm hk hb hx ha b he hpl
theorem wbi {b : BI} {id : String} (hc : CallR X (.builtin id) (rDn X.K (biV b))) (hv : bootBuiltins x = some (.builtin id)) (hm : X.mg x = none) (h : gOk X x = true) (ha : PA X (e :: es) (tLB (cc X call Xr Er) ms)) (he : starEach (e :: es) X.env = (false, eval e X.env) :: starEach es X.env)
    (hpl : (backTo pos (starEach es X.env)).any (·.1) = false) : PE X (.Call (.Name x p) (e :: es) [] pos) (tF (cc X call Xr Er) (.bi b ms)) :=
  let ⟨a, d, n⟩ := gOk_by h
  bf_biB hc a hm hv ha n d he hpl
theorem wbt {b : BI} {id : String} (hc : CallR X (.type id) (rDn X.K (biV b))) (hv : bootBuiltins x = some (.type id)) (hm : X.mg x = none) (h : gOk X x = true) (ha : PA X (e :: es) (tLB (cc X call Xr Er) ms)) (he : starEach (e :: es) X.env = (false, eval e X.env) :: starEach es X.env)
    (hpl : (backTo pos (starEach es X.env)).any (·.1) = false) : PE X (.Call (.Name x p) (e :: es) [] pos) (tF (cc X call Xr Er) (.bi b ms)) :=
  let ⟨a, d, n⟩ := gOk_by h
  bf_biT hc a hm hv ha n d he hpl
theorem wbf {b : BI} {id : String} (hc : CallR X (.builtin id) (rDn X.K (biV b))) (hm : X.mg x = some (.builtin id)) (h : gOk X x = true) (ha : PA X (e :: es) (tLB (cc X call Xr Er) ms)) (he : starEach (e :: es) X.env = (false, eval e X.env) :: starEach es X.env)
    (hpl : (backTo pos (starEach es X.env)).any (·.1) = false) : PE X (.Call (.Name x p) (e :: es) [] pos) (tF (cc X call Xr Er) (.bi b ms)) :=
  let ⟨a, d, _⟩ := gOk_by h
  bf_biF hc a hm ha d he hpl
/-- isinstance -/
theorem wisi {q : Pos} {t : Ty} (hm : X.mg "isinstance" = none) (hmT : X.mg (Str.ofString (tyN t)) = none) (h : (gOk X "isinstance" && gOk X (Str.ofString (tyN t))) = true) (ha : PE X e (tB (cc X call Xr Er) m1)) (he : starEach [e, .Name (Str.ofString (tyN t)) q] X.env = (false, eval e X.env) :: starEach [.Name (Str.ofString (tyN t)) q] X.env) :
    PE X (.Call (.Name "isinstance" p) [e, .Name (Str.ofString (tyN t)) q] [] pos) (tE (cc X call Xr Er) (.isi m1 [t])) :=
  let h := Bool.and_eq_true_iff.mp h
  be_isi (gOk_by h.1).1 hm rfl rfl (gOk_by h.2).1 hmT ha he
theorem wtys {q : Pos} {t : Ty} {ts : List Ty} (hm : X.mg (Str.ofString (tyN t)) = none) (h : gOk X (Str.ofString (tyN t)) = true) (r : TysAre X es ts) : TysAre X (.Name (Str.ofString (tyN t)) q :: es) (t :: ts) := .cons rfl (gOk_by h).1 hm r
theorem wisiT {q : Pos} {ts : List Ty} {k : Nat} (hm : X.mg "isinstance" = none) (h : gOk X "isinstance" = true) (ht : TysAre X es ts) (hl : ts.length ≤ 100) (ha : PE X e (tB (cc X call Xr Er) m1)) (he : starEach [e, .Tuple es k q] X.env = (false, eval e X.env) :: starEach [.Tuple es k q] X.env) :
    PE X (.Call (.Name "isinstance" p) [e, .Tuple es k q] [] pos) (tE (cc X call Xr Er) (.isi m1 ts)) := be_isiT (gOk_by h).1 hm rfl ht hl ha he
/-- sorted(set(e)) -/
theorem wsortset {p2 pos2 : Pos} (hc : X.calm = true) (hu : X.A.units + 64 < cLine) (hm : X.mg "sorted" = none) (hm2 : X.mg "set" = none) (h : (gOk X "sorted" && gOk X "set") = true) (ha : PE X e (tB (cc X call Xr Er) m1)) (he : starEach [e] X.env = (false, eval e X.env) :: starEach [] X.env) :
    PE X (.Call (.Name "sorted" p) [.Call (.Name "set" p2) [e] [] pos2] [] pos) (tF (cc X call Xr Er) (.bi .sortset [m1])) := by
  have h := Bool.and_eq_true_iff.mp h
  have h1 := gOk_by h.1
  have h2 := gOk_by h.2
  refine pe_imp (pe_callB (cSrt hc hu) h1.1 hm PyProof.Rows.boot_sorted (pa_cons (pe_callTy (cSet hc hu) h2.1 hm2 PyProof.Rows.boot_set (pa_cons ha pa_nil he) h2.2.2 h2.2.1 he rfl) pa_nil rfl) h1.2.2 h1.2.1 rfl rfl) fun σ H Q ⟨g, r, m, S, q⟩ => ?_
  refine ⟨g, r, m, S, post_mono (post_bind.mp (post_bind.mp q)) (fun d m' q1 vx H1 ⟨a, M, rp⟩ => ?_) fun _ _ _ z => z⟩
  obtain ⟨d', e, q2⟩ := lift_post q1
  cases d with
  | lst ys =>
    have e : (if (allAlike ys && D.hkL ys && ys.all isTup && decide (D.depthL ys ≤ 8) && decide (ys.length < 64) && sortOk (dedup ys)) = true then some (D.lst (isort D.le (dedup ys))) else none) = some d' := e
    by_cases hc : (allAlike ys && D.hkL ys && ys.all isTup && decide (D.depthL ys ≤ 8) && decide (ys.length < 64) && sortOk (dedup ys)) = true
    · rw [if_pos hc] at e
      cases e
      simp only [Bool.and_eq_true, decide_eq_true_eq] at hc
      obtain ⟨⟨⟨⟨⟨c1, c2⟩, c3⟩, c4⟩, c5⟩, c6⟩ := hc
      have S1 := S.adv a M
      refine ⟨g.cs, g.Z, m', ys, vx, S1.zone, rfl, rp, ⟨c2, c3, c4, c5⟩, fun s L hs rel => ?_⟩
      have a2 : Adv g.cs H1 (upd H1 s (SetNO X.prog X.w s L)) := .new hs
      have M2 := M.new (o := SetNO X.prog X.w s L) hs
      have st := M.stp a2
      refine ⟨s, L, g.cs, g.Z, ys, rfl, upd_same, ⟨rel.nd, fun p hp => ?_, rel.all⟩, ⟨c2, c3, c4, c5⟩, c1, c6, fun p vs hp hl rs => q2 _ _ ⟨_, p, vs, a.trans a2, M2, hp, rfl, rfl, hl, rs⟩⟩
      obtain ⟨d, hd, e2, rp⟩ := rel.sub p hp
      exact ⟨d, hd, e2, Rep.step st d _ rp⟩
    · rw [if_neg hc] at e
      cases e
  | _ => cases e
/-- sources -/
theorem wrng (hm : X.mg "range" = none) (h : gOk X "range" = true) {Mv : Moves} (ha : PE X e (tE (cc X call Xr Er) m1)) (hs : starEach [e] X.env = [(false, eval e X.env)]) : PI X tg (.Call (.Name "range" p) [e] [] pos) (tI Mv (cc X call Xr Er) (.rng m1)) := bi_rng (gOk_by h).1 hm ha hs
theorem wrng2 (hm : X.mg "range" = none) (h : gOk X "range" = true) {Mv : Moves} (ha : PE X e1 (tE (cc X call Xr Er) m1)) (hb : PE X e2 (tE (cc X call Xr Er) m2)) (hs : starEach [e1, e2] X.env = [(false, eval e1 X.env), (false, eval e2 X.env)]) (hs2 : starEach [e2] X.env = [(false, eval e2 X.env)]) :
    PI X tg (.Call (.Name "range" p) [e1, e2] [] pos) (tI Mv (cc X call Xr Er) (.rng2 m1 m2)) := bi_rng2 (gOk_by h).1 hm ha hb hs hs2
theorem wenmF {tpos : Pos} {elts : List Expr} {kk : Nat} (hm : X.mg "enumerate" = none) (h : gOk X "enumerate" = true) (ha : PE X e (tE (cc X call Xr Er) m1)) (hs : starEach [e] X.env = [(false, eval e X.env)]) : PI X (.Tuple elts kk tpos) (.Call (.Name "enumerate" p) [e] [] pos) (tI MvF (cc X call Xr Er) (.enm m1)) :=
  pi_imp (pi_enumA (gOk_by h).1 hm (pa_cons ha pa_nil hs) hs) fun σ H R ⟨g, r, m, S, q⟩ => ⟨g, r, m, S, post_mono (post_bind.mp (post_bind.mp q)) (fun d m' q1 v H1 ⟨a, M, rp⟩ => by
    obtain ⟨d', e, q2⟩ := lift_post q1
    cases hd : seqOf d with
    | none => rw [hd] at e; cases e
    | some ds =>
      rw [hd] at e
      cases e
      obtain ⟨tl, p, xs, e1, z, st⟩ := std_f rp hd
      exact ⟨tl, p, xs, by rw [e1], st.sq.1, q2 H1 _ a M (src_enum st z)⟩) fun _ _ _ z => z⟩
theorem wenmB {tpos : Pos} {elts : List Expr} {kk : Nat} (hm : X.mg "enumerate" = none) (h : gOk X "enumerate" = true) (ha : PE X e (tB (cc X call Xr Er) m1)) (hs : starEach [e] X.env = [(false, eval e X.env)]) : PI X (.Tuple elts kk tpos) (.Call (.Name "enumerate" p) [e] [] pos) (tI MvB (cc X call Xr Er) (.enm m1)) :=
  pi_imp (pi_enumA (gOk_by h).1 hm (pa_cons ha pa_nil hs) hs) fun σ H R ⟨g, r, m, S, q⟩ => ⟨g, r, m, S, post_mono (post_bind.mp (post_bind.mp q)) (fun d m' q1 v H1 ⟨a, M, rp⟩ => by
    obtain ⟨d', e, q2⟩ := lift_post q1
    cases hd : seqOf d with
    | none => rw [hd] at e; cases e
    | some ds =>
      rw [hd] at e
      cases e
      obtain ⟨tl, p, xs, e1, z, st⟩ := std_b rp hd
      exact ⟨tl, p, xs, by rw [e1], st.sq.1, q2 H1 _ a M (src_enum st z)⟩) fun _ _ _ z => z⟩
/-- targets -/
theorem wg1 (hN : X.N.Nodup) (h : lOk X i x = true) : PG X (.Name x pos) (gD X.K [i] true) := let ⟨a, b, c⟩ := lOk_by h; pg_name hN a b c
theorem wgs {is : List Nat} (hN : X.N.Nodup) (h : lOk X i x = true) (r : PGs X es (gNames is)) (hs : (assignEach (.Name x pos :: es) X.env).map (·.2) = assign (.Name x pos) X.env :: (assignEach es X.env).map (·.2)) : PGs X (.Name x pos :: es) (gNames (i :: is)) := let ⟨a, b, c⟩ := lOk_by h; pgs_cons (pg_name hN a b c) r hs
theorem wgT {is : List Nat} {k : Nat} (hc : X.calm = true) (h : PGs X es (gNames is)) (hn : (assignEach es X.env).length = is.length) (hst : (assignEach es X.env).findIdx? (·.1) = none) : PG X (.Tuple es k pos) (gD X.K is false) := by
  have := pg_tup (pos := pos) (k := k) hc h hn hst
  cases is <;> exact this
/-- statements -/
theorem wset (hN : X.N.Nodup) (h : lOk X i x = true) (he : PE X e (tE (cc X call Xr Er) m1)) (hs : swapsWith e (some (.Name x pos')) pos.line X.env = pure false) : PS X (.Assign [.Name x pos'] e pos) (tS (cc X call Xr Er) (.set i m1)) := let ⟨a, b, c⟩ := lOk_by h; bs_set hN a b c he hs
theorem wown (hN : X.N.Nodup) (h : lOk X i x = true) (he : PE X e (tF (cc X call Xr Er) m1)) (hs : swapsWith e (some (.Name x pos')) pos.line X.env = pure false) : PS X (.Assign [.Name x pos'] e pos) (tS (cc X call Xr Er) (.own i m1)) := let ⟨a, b, c⟩ := lOk_by h; bs_own hN a b c he hs
theorem wcel (hN : X.N.Nodup) (h : lOk X i x = true) (he : PE X e (tF (cc X call Xr Er) m1)) (hs : swapsWith e (some (.Name x pos')) pos.line X.env = pure false) : PS X (.Assign [.Name x pos'] e pos) (tS (cc X call Xr Er) (.cel i m1)) := let ⟨a, b, c⟩ := lOk_by h; bs_cel hN a b c he hs
theorem waug (hN : X.N.Nodup) (h : lOk X i x = true) (he : PE X e (tE (cc X call Xr Er) m1)) : PS X (.AugAssign (.Name x pos') .Add e pos) (tS (cc X call Xr Er) (.aug i .add m1)) := let ⟨a, b, c⟩ := lOk_by h; bs_aug hN a b c he
theorem wretO (h : vOk X i x = true) : PS X (.Return (some (.Name x pos')) pos) (tS (cc X call Xr Er) (.retO i)) := let ⟨a, b, c, d⟩ := vOk_by h; bs_retO a b c d
theorem wpar {px py pt : Pos} {kt k2 pt2} (hc : X.calm = true) (hN : X.N.Nodup) (h : (locB X i x && locB X j y && decide (i ≠ j)) = true) (ha : PE X e1 (tE (cc X call Xr Er) m1)) (hb : PE X e2 (tE (cc X call Xr Er) m2)) (he : starEach [e1, e2] X.env = (false, eval e1 X.env) :: starEach [e2] X.env) (he2 : starEach [e2] X.env = (false, eval e2 X.env) :: starEach [] X.env)
    (hw : swappedStores [.Tuple [.Name x px, .Name y py] kt pt] (.Tuple [e1, e2] k2 pt2) X.env = pure (some [x, y])) (hs : swapsWithSole [.Tuple [.Name x px, .Name y py] kt pt] (.Tuple [e1, e2] k2 pt2) pos.line X.env = pure false) :
    PS X (.Assign [.Tuple [.Name x px, .Name y py] kt pt] (.Tuple [e1, e2] k2 pt2) pos) (tS (cc X call Xr Er) (.par i j false false m1 m2)) := by
  simp only [Bool.and_eq_true, decide_eq_true_eq] at h
  exact bs_par hc hN (locB_by h.1.1).1 (locB_by h.1.2).1 h.2 (locB_by h.1.1).2 (locB_by h.1.2).2 ha hb he he2 hw hs
theorem wparO {px py pt : Pos} {kt k2 pt2} (hc : X.calm = true) (hN : X.N.Nodup) (h : (locB X i x && locB X j y && decide (i ≠ j)) = true) (ha : PE X e1 (tE (cc X call Xr Er) m1)) (hb : PE X e2 (tF (cc X call Xr Er) m2)) (he : starEach [e1, e2] X.env = (false, eval e1 X.env) :: starEach [e2] X.env) (he2 : starEach [e2] X.env = (false, eval e2 X.env) :: starEach [] X.env)
    (hw : swappedStores [.Tuple [.Name x px, .Name y py] kt pt] (.Tuple [e1, e2] k2 pt2) X.env = pure (some [x, y])) (hs : swapsWithSole [.Tuple [.Name x px, .Name y py] kt pt] (.Tuple [e1, e2] k2 pt2) pos.line X.env = pure false) :
    PS X (.Assign [.Tuple [.Name x px, .Name y py] kt pt] (.Tuple [e1, e2] k2 pt2) pos) (tS (cc X call Xr Er) (.par i j false true m1 m2)) := by
  simp only [Bool.and_eq_true, decide_eq_true_eq] at h
  exact bs_parO hc hN (locB_by h.1.1).1 (locB_by h.1.2).1 h.2 (locB_by h.1.1).2 (locB_by h.1.2).2 ha hb he he2 hw hs
theorem wapp {apos cpos epos : Pos} (h : vOk X i x = true) (he : PE X e (tE (cc X call Xr Er) m1))
    (hbase : attributeBase (.Name x pos') "append" X.env (eval (.Name x pos') X.env) = eval (.Name x pos') X.env)
    (hfew : ((backTo cpos (starEach [e] X.env)).all (fun x => !x.1) && (backToKw cpos (keywordEach [] X.env)).all (fun x => x.1.isSome) && decide ([e].length + ([] : List Keyword).length + (if ([] : List Keyword).isEmpty then 0 else 1) < 30)) = true)
    (hline : (apos.endLine == cpos.line) = true) (hst : starEach [e] X.env = (false, eval e X.env) :: starEach [] X.env) (hplain : (backTo cpos (starEach [] X.env)).any (·.1) = false)
    (hs : swapsWith (.Call (.Attribute (.Name x pos') "append" apos) [e] [] cpos) none epos.line X.env = pure false) :
    PS X (.Expr (.Call (.Attribute (.Name x pos') "append" apos) [e] [] cpos) epos) (tS (cc X call Xr Er) (.app i m1)) := let ⟨a, b, c, d⟩ := vOk_by h; bs_app a b c d he hbase hfew hline hst hplain hs
theorem wstc {spos : Pos} (h : vOk X i x = true) (he : PE X e (tE (cc X call Xr Er) m1)) (hk : PE X ek (tE (cc X call Xr Er) m2))
    (ha : ∀ v, assign (.Subscript (.Name x pos') ek spos) X.env v = (do
      let ov ← holding [v] (eval (.Name x pos') X.env)
      let iv ← holding [v, ov] (eval ek X.env)
      standAt spos
      holding [v, ov, iv] (setItem ov iv v)
      release [v, ov, iv] []))
    (hs : swapsWithSole [.Subscript (.Name x pos') ek spos] e pos.line X.env = pure false) (hw : swappedStores [.Subscript (.Name x pos') ek spos] e X.env = pure none) (h1 : (assignEach [.Subscript (.Name x pos') ek spos] X.env).map (·.2) = [assign (.Subscript (.Name x pos') ek spos) X.env]) :
    PS X (.Assign [.Subscript (.Name x pos') ek spos] e pos) (tS (cc X call Xr Er) (.stc i m2 m1)) := let ⟨a, b, c, d⟩ := vOk_by h; bs_stc a b c d he hk ha hs hw h1
theorem wsti {spos : Pos} (h : vOk X i x = true) (he : PE X e (tE (cc X call Xr Er) m1)) (hk : PE X ek (tE (cc X call Xr Er) m2))
    (ha : ∀ v, assign (.Subscript (.Name x pos') ek spos) X.env v = (do
      let ov ← holding [v] (eval (.Name x pos') X.env)
      let iv ← holding [v, ov] (eval ek X.env)
      standAt spos
      holding [v, ov, iv] (setItem ov iv v)
      release [v, ov, iv] []))
    (hs : swapsWithSole [.Subscript (.Name x pos') ek spos] e pos.line X.env = pure false) (hw : swappedStores [.Subscript (.Name x pos') ek spos] e X.env = pure none) (h1 : (assignEach [.Subscript (.Name x pos') ek spos] X.env).map (·.2) = [assign (.Subscript (.Name x pos') ek spos) X.env]) :
    PS X (.Assign [.Subscript (.Name x pos') ek spos] e pos) (tS (cc X call Xr Er) (.sti i m2 m1)) := let ⟨a, b, c, d⟩ := vOk_by h; bs_sti a b c d he hk ha hs hw h1
theorem tE_tF {c : Cc} {σ : St} {H : Hp} {Q : VK} (h : tE c m1 σ H Q) : tF c m1 σ H Q := tX_mono (P := PFx) (P' := PEx) (fun g H d v H' m' hz y => y.e hz) h
/-- a comprehension stored on its own line -/
theorem wsetLc {elt : Expr} {ifs : List Expr} {scope : Scope} {own : List (Str × Nat)} {ts : List Nat} {one : Bool} {src cnd me : E} {py spos : Pos} (hc : X.calm = true) (hN : X.N.Nodup) (h : locB X i y = true) (hsw : swapsWith (.ListComp elt [⟨tg, iter, ifs, 0⟩] scope pos) (some (.Name y py)) spos.line X.env = pure true)
    (hi : PI X tg iter (tI MvB (cc X call Xr Er) src)) (ok : blkC X.N X.env.scope scope own = true) (hts : ∀ t ∈ ts, t ∈ own.map (·.2))
    (hg : ∀ (s : Shared) (H : Hp) (C : Addr) (cl : List (Str × Addr)) (fp : List Addr), PG (X.blk s H scope (compEnvC scope cl C X.env) fp) tg (gD X.K ts one))
    (ht : ∀ (s : Shared) (H : Hp) (C : Addr) (cl : List (Str × Addr)) (fp : List Addr), PTs (X.blk s H scope (compEnvC scope cl C X.env) fp) ifs (tT (calmC (cc X call Xr Er)) cnd))
    (he : ∀ (s : Shared) (H : Hp) (C : Addr) (cl : List (Str × Addr)) (fp : List Addr), PE (X.blk s H scope (compEnvC scope cl C X.env) fp) elt (tE (calmC (cc X call Xr Er)) me)) (hs : ∀ x, foldedSetIterable iter X.env x = pure x) :
    PS X (.Assign [.Name y py] (.ListComp elt [⟨tg, iter, ifs, 0⟩] scope pos) spos) (tS (cc X call Xr Er) (.set i (.comp me ts one src cnd (own.map (·.2))))) :=
  let ⟨a, b⟩ := locB_by h
  ps_imp (ps_setLc hc hN a b hsw hi (blkOk_by ok) hg ht he hs) fun D σ H z => lc_imp hts σ H _ (tE_tF (asg_set D σ H z))
theorem wownLc {elt : Expr} {ifs : List Expr} {scope : Scope} {own : List (Str × Nat)} {ts : List Nat} {one : Bool} {src cnd me : E} {py spos : Pos} (hc : X.calm = true) (hN : X.N.Nodup) (h : locB X i y = true) (hsw : swapsWith (.ListComp elt [⟨tg, iter, ifs, 0⟩] scope pos) (some (.Name y py)) spos.line X.env = pure true)
    (hi : PI X tg iter (tI MvB (cc X call Xr Er) src)) (ok : blkC X.N X.env.scope scope own = true) (hts : ∀ t ∈ ts, t ∈ own.map (·.2))
    (hg : ∀ (s : Shared) (H : Hp) (C : Addr) (cl : List (Str × Addr)) (fp : List Addr), PG (X.blk s H scope (compEnvC scope cl C X.env) fp) tg (gD X.K ts one))
    (ht : ∀ (s : Shared) (H : Hp) (C : Addr) (cl : List (Str × Addr)) (fp : List Addr), PTs (X.blk s H scope (compEnvC scope cl C X.env) fp) ifs (tT (calmC (cc X call Xr Er)) cnd))
    (he : ∀ (s : Shared) (H : Hp) (C : Addr) (cl : List (Str × Addr)) (fp : List Addr), PE (X.blk s H scope (compEnvC scope cl C X.env) fp) elt (tE (calmC (cc X call Xr Er)) me)) (hs : ∀ x, foldedSetIterable iter X.env x = pure x) :
    PS X (.Assign [.Name y py] (.ListComp elt [⟨tg, iter, ifs, 0⟩] scope pos) spos) (tS (cc X call Xr Er) (.own i (.comp me ts one src cnd (own.map (·.2))))) :=
  let ⟨a, b⟩ := locB_by h
  ps_imp (ps_setLc hc hN a b hsw hi (blkOk_by ok) hg ht he hs) fun D σ H z => lc_imp hts σ H _ (asg_own D σ H z)
theorem wcomp {elt : Expr} {ifs : List Expr} {scope : Scope} {own : List (Str × Nat)} {ts : List Nat} {one : Bool} {src cnd me : E} (hc : X.calm = true) (hN : X.N.Nodup) (hi : PI X tg iter (tI MvB (cc X call Xr Er) src)) (ok : blkC X.N X.env.scope scope own = true) (hts : ∀ t ∈ ts, t ∈ own.map (·.2))
    (hg : ∀ (s : Shared) (H : Hp) (C : Addr) (cl : List (Str × Addr)) (fp : List Addr), PG (X.blk s H scope (compEnvC scope cl C X.env) fp) tg (gD X.K ts one))
    (ht : ∀ (s : Shared) (H : Hp) (C : Addr) (cl : List (Str × Addr)) (fp : List Addr), PTs (X.blk s H scope (compEnvC scope cl C X.env) fp) ifs (tT (calmC (cc X call Xr Er)) cnd))
    (he : ∀ (s : Shared) (H : Hp) (C : Addr) (cl : List (Str × Addr)) (fp : List Addr), PE (X.blk s H scope (compEnvC scope cl C X.env) fp) elt (tE (calmC (cc X call Xr Er)) me)) (hs : ∀ x, foldedSetIterable iter X.env x = pure x) :
    PE X (.ListComp elt [⟨tg, iter, ifs, 0⟩] scope pos) (tF (cc X call Xr Er) (.comp me ts one src cnd (own.map (·.2)))) := bf_comp hc hN hi (blkOk_by ok) hts hg ht he hs
end
end Mp

/-! Mp18: what the head tells; a law's end. -/
namespace Mp
open PySem PySem.Spec L2
/-- further values among the globals -/
def exB (ex : List (Str × Value)) (K : PySem.W.Frag) : Bool := ex.all fun p => He.eqO (PySem.W.nsIn K mainGlobals p.1) (some (some p.2))
def obE (n : Nat) (fa : List He.Fa) (fn : List He.DefD) (ex : List (Str × Value)) (g : Addr → Option Obj) : He.AlD × Bool := (He.obsD fa fn (He.frG g (He.asD g n)), exB ex (He.frG g (He.asD g n)))
def hookE (n : Nat) (fa : List He.Fa) (fn : List He.DefD) (ex : List (Str × Value)) : PySem.W.Hook where
  α := He.AlD × Bool
  obs := fun s => obE n fa fn ex s.heap.get?
  val := fun _ => (He.valD fn, true)
  says := fun _ h => ∃ K : PySem.W.Frag, K.In h ∧ He.SaysD fa fn K ∧ exB ex K = true
  of := fun _ _ e => ⟨_, He.frG_in, congrArg Prod.fst e, congrArg Prod.snd e⟩
  keeps := fun _ _ _ ⟨K, hK, c⟩ k => ⟨K, PySem.W.Frag.In.keeps hK k, c⟩
theorem obE_eq {n : Nat} {fa : List He.Fa} {fn : List He.DefD} {ex : List (Str × Value)} {g : Addr → Option Obj} {s : Shared} (h : ∀ a, g a = s.heap.get? a) : obE n fa fn ex g = (hookE n fa fn ex).obs s := by
  rw [show g = s.heap.get? from funext h]
  rfl
theorem ex_ok {ex : List (Str × Value)} {K : PySem.W.Frag} {h : Heap} {mg : Str → Option Value} (X : K.In h) (G : h.Ns mainGlobals mg) (c : exB ex K = true) (i : Nat) {p : Str × Value} (e : ex[i]? = some p) : mg p.1 = some p.2 :=
  PySem.W.mg_of X G (He.eqO_ok (List.all_eq_true.mp c p (List.mem_of_getElem? e)))
theorem repL_int {K : PySem.W.Frag} {cs : List Addr} {Z : Addr → Prop} {H : Hp} : ∀ ns : List Int, RepL K cs Z H (ns.map D.int) (ns.map V.int)
  | [] => rfl
  | n :: ns => ⟨_, _, rfl, rfl, repL_int ns⟩
/-- the law's own call -/
theorem law_sp {K : PySem.W.Frag} {fs : List Fn} {n f : Nat} {Xr : Nat → D → Hp → Value → Option Addr → Prop} {Er E : XK} {H : Hp} {a : Addr} {ns : List Int} (hl : ns.length ≤ 63) (hS : SqL K H a (ns.map V.int)) (h : run fs n f [.lst (ns.map D.int)] [] = .ok (.bl true) []) :
    spC ⟨K, run fs n, Xr, Er⟩ f [.ref a] H (fun v _ => v = .bl true) E := by
  refine ⟨[], fun _ => False, [.lst (ns.map D.int)], [], ⟨rfl, .nil, fun a h => (nomatch h), fun d h => (nomatch h), fun n a d h => (nomatch h)⟩, fun _ z => z.elim, ⟨.ref a, [], rfl, ⟨a, ns.map V.int, rfl, ?_, by rw [List.length_map, sizeLine_eq]; omega, repL_int ns⟩, rfl⟩, ?_⟩
  · rcases hS with (hS | hS) | hS
    · exact .inl ⟨hS, fun z => z⟩
    · exact .inr (.inl hS)
    · exact .inr (.inr (.inr hS))
  · show (run fs n f [.lst (ns.map D.int)] []).post _ _
    rw [h]
    exact fun v H' _ _ rp => rp
end Mp

/-! MpT: the law's own draw. -/
namespace Mp
open PySem L2
def takenFn : Fn := ⟨2, 4, [.ite (.cmp .gt (.idx (.var 0) (.lit (.int 3))) (.lit (.int 0))) [.set 2 (.bin .mod (.bi .toint [(.idx (.var 0) (.lit (.int 3)))]) (.var 1)), .stc 0 (.lit (.int 3)) (.bin .fdiv (.idx (.var 0) (.lit (.int 3))) (.var 1)), .ret (.var 2)] [], .stc 0 (.lit (.int 1)) (.bin .add (.idx (.var 0) (.lit (.int 1))) (.lit (.int 1))), .ite (.cmp .gt (.idx (.var 0) (.lit (.int 1))) (.bi .len [(.idx (.var 0) (.lit (.int 0)))])) [.stc 0 (.lit (.int 2)) (.bin .mod (.bi .toint [(.bin .add (.bin .mul (.idx (.var 0) (.lit (.int 2))) (.lit (.int 48271))) (.lit (.int 11)))]) (.lit (.int 2147483647))), .ret (.bin .mod (.bi .toint [(.bin .fdiv (.idx (.var 0) (.lit (.int 2))) (.lit (.int 7)))]) (.var 1))] [], .set 3 (.idx (.idx (.var 0) (.lit (.int 0))) (.bin .sub (.idx (.var 0) (.lit (.int 1))) (.lit (.int 1)))), .stc 0 (.lit (.int 2)) (.bin .mod (.bi .toint [(.bin .add (.bin .add (.bin .mul (.idx (.var 0) (.lit (.int 2))) (.lit (.int 48271))) (.var 3)) (.lit (.int 11)))]) (.lit (.int 2147483647))), .ite (.cmp .ge (.var 3) (.bin .pow (.lit (.int 10)) (.lit (.int 18)))) [.stc 0 (.lit (.int 3)) (.bin .fdiv (.var 3) (.var 1))] [], .ret (.bin .mod (.bi .toint [(.var 3)]) (.var 1))]⟩
/-- the row of draws -/
def rowM (ns : List Int) (p s l : Int) : Mem := [.lst [.lst (ns.map D.int), .int p, .int s, .int l]]
theorem ixN4 (i : Nat) (h : i < 4) : ixN 4 (i : Int) = some i := by
  match i, h with
  | 0, _ => rfl
  | 1, _ => rfl
  | 2, _ => rfl
  | 3, _ => rfl
theorem ix41 : ixN 4 1 = some 1 := rfl
theorem ix42 : ixN 4 2 = some 2 := rfl
theorem ix43 : ixN 4 3 = some 3 := rfl
theorem at40 (a b c d : D) : atI [a, b, c, d] 0 = some a := rfl
theorem at41 (a b c d : D) : atI [a, b, c, d] 1 = some b := rfl
theorem at42 (a b c d : D) : atI [a, b, c, d] 2 = some c := rfl
theorem at43 (a b c d : D) : atI [a, b, c, d] 3 = some d := rfl
theorem getInt (ns : List Int) (i : Nat) (x : Int) (h : ns[i]? = some x) : (ns.map D.int)[i]? = some (D.int x) := by rw [List.getElem?_map, h]; rfl
section
variable {ns : List Int} {p s l many : Int} {call : Nat → List D → Mem → R D}
/-- the draw from what is left -/
theorem t1 (h : 0 < l) (hm : 0 < many) (hm2 : many < 1073741824) : (evB call takenFn.body (startE 4 [.cell 0, .int many]) (rowM ns p s l)) = .ok (.ret (.int (l % many)), [some (false, .cell 0), some (false, .int many), some (false, .int (l % many)), none]) (rowM ns p s (l / many)) := by
  have h1 : decide (0 < l) = true := decide_eq_true h
  simp [takenFn, startE, rowM, evB, evS, evE, evL, R.bind, lift, getv, idxV, atI, ixN, cmpV, h1, h, binV, hm, hm2, biV, D.flat]
/-- the script is at its end -/
theorem t2 (h : ¬ 0 < l) (hp : (ns.length : Int) < p + 1) (hm : 0 < many) (hs : 0 ≤ s ∧ s < 2147483647) : (evB call takenFn.body (startE 4 [.cell 0, .int many]) (rowM ns p s l)) =
    .ok (.ret (.int ((s * 48271 + 11) % 2147483647 / 7 % many)), [some (false, .cell 0), some (false, .int many), none, none]) (rowM ns (p + 1) ((s * 48271 + 11) % 2147483647) l) := by
  have hsm : small s = true := by
    unfold small
    rw [Bool.and_eq_true, decide_eq_true_eq, decide_eq_true_eq]
    omega
  simp [takenFn, startE, rowM, evB, evS, evE, evL, R.bind, lift, getv, idxV, atI, ixN, cmpV, h, hp, binV, hm, hsm, biV, D.flat, seqOf]
/-- the script's next number -/
theorem t3 {x : Int} (h : ¬ 0 < l) (hp0 : 0 ≤ p) (hp : ¬ (ns.length : Int) < p + 1) (hx : ns[p.toNat]? = some x) (hm : 0 < many) (hm2 : many < 1073741824) (hs : 0 ≤ s ∧ s < 2147483647) : ∃ l' e, (l' = l ∨ l' = x / many ∧ 0 ≤ x) ∧ (evB call takenFn.body (startE 4 [.cell 0, .int many]) (rowM ns p s l)) =
    .ok (.ret (.int (x % many)), e) (rowM ns (p + 1) ((s * 48271 + x + 11) % 2147483647) l') := by
  have hsm : small s = true := by
    unfold small
    rw [Bool.and_eq_true, decide_eq_true_eq, decide_eq_true_eq]
    omega
  have hat : atI (ns.map D.int) (p + 1 - 1) = some (.int x) := by
    unfold atI ixN
    rw [List.length_map, if_pos (by omega), if_pos (by omega), show p + 1 - 1 = p by omega]
    exact getInt ns p.toNat x hx
  have hat' : atI (ns.map D.int) p = some (.int x) := by rw [show p + 1 - 1 = p by omega] at hat; exact hat
  by_cases hb : (1000000000000000000 : Int) ≤ x
  · refine ⟨x / many, [some (false, .cell 0), some (false, .int many), none, some (false, .int x)], .inr ⟨rfl, by omega⟩, ?_⟩
    simp [takenFn, startE, rowM, evB, evS, evE, evL, R.bind, lift, getv, idxV, ix41, ix42, ix43, at40, at41, at42, at43, cmpV, h, hp, binV, hm, hm2, hsm, biV, D.flat, seqOf, hat, hat', hb]
  · refine ⟨l, [some (false, .cell 0), some (false, .int many), none, some (false, .int x)], .inl rfl, ?_⟩
    simp [takenFn, startE, rowM, evB, evS, evE, evL, R.bind, lift, getv, idxV, ix41, ix42, ix43, at40, at41, at42, at43, cmpV, h, hp, binV, hm, hm2, hsm, biV, D.flat, seqOf, hat, hat', hb]
end
/-- the row of draws, in order -/
def Good (ns : List Int) (m : Mem) : Prop := ∃ p s l, m = rowM ns p s l ∧ 0 ≤ p ∧ 0 ≤ s ∧ s < 2147483647 ∧ 0 ≤ l
theorem taken_ok {fs : List Fn} {i : Nat} (hf : fs[i]? = some takenFn) (n : Nat) {ns : List Int} {m : Mem} (g : Good ns m) {many : Int} (hm : 0 < many) (hm2 : many < 1073741824) : ∃ x m', run fs (n + 1) i [.cell 0, .int many] m = .ok (.int x) m' ∧ 0 ≤ x ∧ x < many ∧ Good ns m' := by
  obtain ⟨p, s, l, rfl, h1, h2, h3, h4⟩ := g
  have fin : ∀ (y : Int) (e : Env) (p' s' l' : Int), evB (run fs n) takenFn.body (startE 4 [.cell 0, .int many]) (rowM ns p s l) = .ok (.ret (.int y), e) (rowM ns p' s' l') → run fs (n + 1) i [.cell 0, .int many] (rowM ns p s l) = .ok (.int y) (rowM ns p' s' l') := fun y e p' s' l' h => by
    rw [run, hf]
    simp only
    rw [if_pos (show [D.cell 0, D.int many].length = takenFn.pars from rfl), show takenFn.slots = 4 from rfl, h]
    rfl
  by_cases hl : 0 < l
  · exact ⟨_, _, fin _ _ _ _ _ (t1 hl hm hm2), Int.emod_nonneg _ (by omega), Int.emod_lt_of_pos _ hm, p, s, l / many, rfl, h1, h2, h3, Int.ediv_nonneg h4 (by omega)⟩
  · by_cases hp : (ns.length : Int) < p + 1
    · exact ⟨_, _, fin _ _ _ _ _ (t2 hl hp hm ⟨h2, h3⟩), Int.emod_nonneg _ (by omega), Int.emod_lt_of_pos _ hm, p + 1, _, l, rfl, by omega, Int.emod_nonneg _ (by omega), Int.emod_lt_of_pos _ (by omega), h4⟩
    · obtain ⟨x, hx⟩ : ∃ x, ns[p.toNat]? = some x := ⟨_, List.getElem?_eq_getElem (show p.toNat < ns.length by omega)⟩
      obtain ⟨l', e, hl', q⟩ := t3 (call := run fs n) hl h1 hp hx hm hm2 ⟨h2, h3⟩
      refine ⟨_, _, fin _ _ _ _ _ q, Int.emod_nonneg _ (by omega), Int.emod_lt_of_pos _ hm, p + 1, _, l', rfl, by omega, Int.emod_nonneg _ (by omega), Int.emod_lt_of_pos _ (by omega), ?_⟩
      rcases hl' with e1 | ⟨e1, e2⟩
      · rw [e1]; exact h4
      · rw [e1]; exact Int.ediv_nonneg e2 (by omega)
end Mp

namespace K57
open Mp PySem L2
-- 0: is_int  [value]
def f_is_int : Fn := ⟨1, 1, [.ret (.and (.isi (.var 0) [.int]) (.not (.isi (.var 0) [.bool])))]⟩
-- 1: is_in  [value, least, most]
def f_is_in : Fn := ⟨3, 3, [.ret (.and (.call 0 [(.var 0)]) (.chn .le .le (.var 1) (.var 0) (.var 2)))]⟩
-- 2: expansion_of  [number, degree, found, top]
def f_expansion_of : Fn := ⟨2, 4, [.own 2 (.lst []), .whl (.cmp .gt (.var 0) (.lit (.int 0))) [.set 3 (.ite (.cmp .gt (.var 1) (.lit (.int 1))) (.var 1) (.var 0)), .whl (.cmp .le (.bi .comb [(.bin .add (.var 3) (.lit (.int 1))), (.var 1)]) (.var 0)) [.aug 3 .add (.lit (.int 1))], .app 2 (.var 3), .par 0 1 false false (.bin .sub (.var 0) (.bi .comb [(.var 3), (.var 1)])) (.bin .sub (.var 1) (.lit (.int 1)))], .retO 2]⟩
-- 3: grown_of  [number, degree, at, top]
def f_grown_of : Fn := ⟨2, 4, [.ret (.bi .sum [(.comp (.bi .comb [(.bin .add (.var 3) (.lit (.int 1))), (.bin .sub (.bin .add (.var 1) (.lit (.int 1))) (.var 2))]) [2, 3] false (.enm (.call 2 [(.var 0), (.var 1)])) (.lit (.bl true)) [2, 3])])]⟩
-- 4: need_values  [many, values, value]
def f_need_values : Fn := ⟨2, 3, [.ite (.not (.call 1 [(.var 0), (.lit (.int 1)), (.lit (.int 6))])) [.stop] [], .ite (.or (.not (.isi (.var 1) [.tuple])) (.not (.chn .le .le (.lit (.int 1)) (.bi .len [(.var 1)]) (.bin .add (.lit (.int 12)) (.lit (.int 1)))))) [.stop] [], .ite (.not (.bi .all [(.comp (.call 1 [(.var 2), (.lit (.int 0)), (.lit (.int 1000000))]) [2] true (.var 1) (.lit (.bl true)) [2])])) [.stop] []]⟩
-- 5: gap_of  [many, values, most, index, value]
def f_gap_of : Fn := ⟨2, 5, [.set 2 (.lit (.int 1)), .forS [3, 4] false (.enm (.var 1)) [.ite (.cmp .gt (.var 4) (.var 2)) [.ret (.var 3)] [], .set 2 (.ite (.cmp .eq (.var 3) (.lit (.int 0))) (.bin .mul (.var 0) (.var 4)) (.call 3 [(.var 4), (.var 3)]))], .ret (.lit .non)]⟩
-- 6: growth_gap  [many, values]
def f_growth_gap : Fn := ⟨2, 2, [.exp (.call 4 [(.var 0), (.var 1)]), .ret (.call 5 [(.var 0), (.var 1)])]⟩
-- 7: _law_taken  [row, many, found, cell]
def f_law_taken : Fn := ⟨2, 4, [.ite (.cmp .gt (.idx (.var 0) (.lit (.int 3))) (.lit (.int 0))) [.set 2 (.bin .mod (.bi .toint [(.idx (.var 0) (.lit (.int 3)))]) (.var 1)), .stc 0 (.lit (.int 3)) (.bin .fdiv (.idx (.var 0) (.lit (.int 3))) (.var 1)), .ret (.var 2)] [], .stc 0 (.lit (.int 1)) (.bin .add (.idx (.var 0) (.lit (.int 1))) (.lit (.int 1))), .ite (.cmp .gt (.idx (.var 0) (.lit (.int 1))) (.bi .len [(.idx (.var 0) (.lit (.int 0)))])) [.stc 0 (.lit (.int 2)) (.bin .mod (.bi .toint [(.bin .add (.bin .mul (.idx (.var 0) (.lit (.int 2))) (.lit (.int 48271))) (.lit (.int 11)))]) (.lit (.int 2147483647))), .ret (.bin .mod (.bi .toint [(.bin .fdiv (.idx (.var 0) (.lit (.int 2))) (.lit (.int 7)))]) (.var 1))] [], .set 3 (.idx (.idx (.var 0) (.lit (.int 0))) (.bin .sub (.idx (.var 0) (.lit (.int 1))) (.lit (.int 1)))), .stc 0 (.lit (.int 2)) (.bin .mod (.bi .toint [(.bin .add (.bin .add (.bin .mul (.idx (.var 0) (.lit (.int 2))) (.lit (.int 48271))) (.var 3)) (.lit (.int 11)))]) (.lit (.int 2147483647))), .ite (.cmp .ge (.var 3) (.bin .pow (.lit (.int 10)) (.lit (.int 18)))) [.stc 0 (.lit (.int 3)) (.bin .fdiv (.var 3) (.var 1))] [], .ret (.bin .mod (.bi .toint [(.var 3)]) (.var 1))]⟩
-- 8: _law_monos  [many, size, found, at, longer, mono, e]
def f_law_monos : Fn := ⟨2, 7, [.set 2 (.lst [(.tup [])]), .forS [3] true (.rng (.bin .sub (.var 0) (.lit (.int 1)))) [.set 4 (.lst []), .forS [5] true (.var 2) [.set 4 (.bin .add (.var 4) (.comp (.bin .add (.var 5) (.tup [(.var 6)])) [6] true (.rng (.bin .sub (.bin .add (.var 1) (.lit (.int 1))) (.bi .sum [(.var 5)]))) (.lit (.bl true)) [6]))], .set 2 (.var 4)], .ret (.comp (.bin .add (.var 5) (.tup [(.bin .sub (.var 1) (.bi .sum [(.var 5)]))])) [5] true (.var 2) (.lit (.bl true)) [5])]⟩
-- 9: _law_next  [many, layer, size, found, mono, parts, k, at, part]
def f_law_next : Fn := ⟨3, 9, [.own 3 (.lst []), .forS [4] true (.call 8 [(.var 0), (.bin .add (.var 2) (.lit (.int 1)))]) [.set 5 (.comp (.bi .totup [(.comp (.bin .sub (.idx (.var 4) (.var 6)) (.bi .toint [(.cmp .eq (.var 6) (.var 7))])) [6] true (.rng (.var 0)) (.lit (.bl true)) [6])]) [7] true (.rng (.var 0)) (.cmp .gt (.idx (.var 4) (.var 7)) (.lit (.int 0))) [7]), .ite (.cmp .eq (.comp (.var 8) [8] true (.var 5) (.cmp .notin (.var 8) (.var 1)) [8]) (.lst [])) [.app 3 (.var 4)] []], .retO 3]⟩
-- 10: _law_most  [many, values, some, size, later, layer, chosen, mono, told]
def f_law_most : Fn := ⟨2, 9, [.set 2 (.lst [(.tup [(.bin .mul (.tup [(.lit (.int 0))]) (.var 0))])]), .forS [3] true (.rng (.bin .sub (.bi .len [(.var 1)]) (.lit (.int 1)))) [.set 4 (.lst []), .forS [5] true (.var 2) [.set 6 (.lst [(.tup [])]), .forS [7] true (.call 9 [(.var 0), (.var 5), (.var 3)]) [.set 6 (.bin .add (.var 6) (.comp (.bin .add (.var 8) (.tup [(.var 7)])) [8] true (.var 6) (.lit (.bl true)) [8]))], .set 4 (.bin .add (.var 4) (.comp (.var 8) [8] true (.var 6) (.cmp .eq (.bi .len [(.var 8)]) (.idx (.var 1) (.bin .add (.var 3) (.lit (.int 1))))) [8]))], .set 2 (.bi .sortset [(.var 4)])], .ret (.bi .maxl [(.bin .add (.comp (.bi .len [(.call 9 [(.var 0), (.var 5), (.bin .sub (.bi .len [(.var 1)]) (.lit (.int 1)))])]) [5] true (.var 2) (.lit (.bl true)) [5]) (.lst [(.bin .sub (.lit (.int 0)) (.lit (.int 1)))]))])]⟩
-- 11: _law_alike  [found, due, k]
def f_law_alike : Fn := ⟨2, 3, [.ite (.isi (.var 1) [.tuple, .list]) [.ite (.or (.not (.isi (.var 0) [.tuple, .list])) (.cmp .ne (.isi (.var 0) [.list]) (.isi (.var 1) [.list]))) [.ret (.lit (.bl false))] [], .ite (.cmp .ne (.bi .len [(.var 0)]) (.bi .len [(.var 1)])) [.ret (.lit (.bl false))] [], .ret (.cmp .eq (.comp (.var 2) [2] true (.rng (.bi .len [(.var 1)])) (.not (.call 11 [(.idx (.var 0) (.var 2)), (.idx (.var 1) (.var 2))])) [2]) (.lst []))] [], .ite (.or (.cmp .isN (.var 1) (.lit .non)) (.isi (.var 1) [.str])) [.ret (.and (.cmp .eq (.var 0) (.var 1)) (.cmp .eq (.isi (.var 0) [.str]) (.isi (.var 1) [.str])))] [], .ret (.and (.isi (.var 0) [.int]) (.and (.cmp .eq (.isi (.var 0) [.bool]) (.isi (.var 1) [.bool])) (.cmp .eq (.var 0) (.var 1))))]⟩
-- 12: law  [script, row, many, values, size, most, more, at, told]
def f_law : Fn := ⟨1, 9, [.cel 1 (.lst [(.var 0), (.lit (.int 0)), (.lit (.int 4157)), (.lit (.int 0))]), .set 2 (.bin .add (.lit (.int 1)) (.call 7 [(.var 1), (.lit (.int 3))])), .set 3 (.tup [(.lit (.int 1))]), .forS [4] true (.rng (.call 7 [(.var 1), (.idx (.lst [(.lit (.int 6)), (.lit (.int 5)), (.lit (.int 3))]) (.bin .sub (.var 2) (.lit (.int 1))))])) [.set 5 (.call 10 [(.var 2), (.var 3)]), .ite (.cmp .notN (.call 6 [(.var 2), (.bin .add (.var 3) (.tup [(.var 5)]))]) (.lit .non)) [.ret (.lit (.bl false))] [], .ite (.not (.call 11 [(.call 6 [(.var 2), (.bin .add (.var 3) (.tup [(.bin .add (.var 5) (.lit (.int 1)))]))]), (.bi .len [(.var 3)])])) [.ret (.lit (.bl false))] [], .set 3 (.bin .add (.var 3) (.tup [(.call 7 [(.var 1), (.bin .add (.var 5) (.lit (.int 1)))])])), .ite (.cmp .notN (.call 6 [(.var 2), (.var 3)]) (.lit .non)) [.ret (.lit (.bl false))] [], .set 6 (.bin .add (.var 3) (.bi .totup [(.comp (.call 7 [(.var 1), (.lit (.int 3))]) [7] true (.rng (.lit (.int 2))) (.lit (.bl true)) [7])])), .set 8 (.call 6 [(.var 2), (.var 6)]), .ite (.and (.cmp .notN (.var 8) (.lit .non)) (.cmp .lt (.var 8) (.bi .len [(.var 3)]))) [.ret (.lit (.bl false))] []], .ret (.and (.cmp .eq (.call 6 [(.var 2), (.tup [(.lit (.int 2)), (.lit (.int 0))])]) (.lit (.int 0))) (.and (.cmp .eq (.call 6 [(.var 2), (.tup [(.lit (.int 0)), (.lit (.int 1))])]) (.lit (.int 1))) (.cmp .isN (.call 6 [(.var 2), (.tup [(.lit (.int 0)), (.lit (.int 0))])]) (.lit .non))))]⟩
def prog : List Fn := [f_is_int, f_is_in, f_expansion_of, f_grown_of, f_need_values, f_gap_of, f_growth_gap, f_law_taken, f_law_monos, f_law_next, f_law_most, f_law_alike, f_law]
end K57

set_option maxHeartbeats 8000000
namespace K57
open Mp PySem PySem.Spec L2
def top (i : Nat) : Stmt := PySem.Challenge.pw_idealcore_k57_whole_values_of_ideals.main.body.getD i (.Pass ⟨0, 0, 0, 0⟩)
/-- the names from outside -/
structure Gx (mg : Str → Option Value) : Prop where
  all : mg "all" = none
  bool : mg "bool" = none
  enumerate : mg "enumerate" = none
  int : mg "int" = none
  isinstance : mg "isinstance" = none
  len : mg "len" = none
  list : mg "list" = none
  max : mg "max" = none
  range : mg "range" = none
  set : mg "set" = none
  sorted : mg "sorted" = none
  str : mg "str" = none
  sum : mg "sum" = none
  tuple : mg "tuple" = none
  comb : mg "comb" = some (.builtin "math.comb")
  i_MOST_VARIABLES : ∃ t, mg "MOST_VARIABLES" = some (.int 6 t)
  i_MOST_DEGREE : ∃ t, mg "MOST_DEGREE" = some (.int 12 t)
  i_MOST_NUMBER : ∃ t, mg "MOST_NUMBER" = some (.int 1000000 t)
/-- a def of the top -/
structure DefOk (K : PySem.W.Frag) (mg : Str → Option Value) (st : Stmt) (x : Str) (ps : List Str) (f : Addr) (fd : FuncData) : Prop where
  F : FunD K x x (defArgs st) (defBody st) (defScope st) [] [] f fd
  g : mg x = some (.ref f)
  b : Binds K fd ps []
abbrev Xr0 : Nat → D → Hp → Value → Option Addr → Prop := fun _ _ _ _ _ => False
/-- the addresses and records of the defs -/
structure Ad where
  f0 : Addr
  fd0 : FuncData
  f1 : Addr
  fd1 : FuncData
  f2 : Addr
  fd2 : FuncData
  f3 : Addr
  fd3 : FuncData
  f4 : Addr
  fd4 : FuncData
  f5 : Addr
  fd5 : FuncData
  f6 : Addr
  fd6 : FuncData
  f7 : Addr
  fd7 : FuncData
  f8 : Addr
  fd8 : FuncData
  f9 : Addr
  fd9 : FuncData
  f10 : Addr
  fd10 : FuncData
  f11 : Addr
  fd11 : FuncData
  f12 : Addr
  fd12 : FuncData
/-- the defs stand -/
structure Ds (K : PySem.W.Frag) (mg : Str → Option Value) (a : Ad) : Prop where
  d0 : DefOk K mg (top 6) "is_int" ["value"] a.f0 a.fd0
  d1 : DefOk K mg (top 7) "is_in" ["value", "least", "most"] a.f1 a.fd1
  d2 : DefOk K mg (top 12) "expansion_of" ["number", "degree"] a.f2 a.fd2
  d3 : DefOk K mg (top 13) "grown_of" ["number", "degree"] a.f3 a.fd3
  d4 : DefOk K mg (top 14) "need_values" ["many", "values"] a.f4 a.fd4
  d5 : DefOk K mg (top 15) "gap_of" ["many", "values"] a.f5 a.fd5
  d6 : DefOk K mg (top 16) "growth_gap" ["many", "values"] a.f6 a.fd6
  d7 : DefOk K mg (top 18) "_law_taken" ["row", "many"] a.f7 a.fd7
  d8 : DefOk K mg (top 19) "_law_monos" ["many", "size"] a.f8 a.fd8
  d9 : DefOk K mg (top 20) "_law_next" ["many", "layer", "size"] a.f9 a.fd9
  d10 : DefOk K mg (top 21) "_law_most" ["many", "values"] a.f10 a.fd10
  d11 : DefOk K mg (top 22) "_law_alike" ["found", "due"] a.f11 a.fd11
  d12 : DefOk K mg (top 23) "law" ["script"] a.f12 a.fd12
/-- .. and their promises hold n deep -/
structure Hs (P : Program) (w : World) (K : PySem.W.Frag) (mg : Str → Option Value) (base : Heap) (a : Ad) (n : Nat) : Prop where
  D : Ds K mg a
  h0 : ∀ Er : XK, FnOk P w K mg base CX0 n a.f0 a.fd0 ["value"] (spC ⟨K, run prog n, Xr0, Er⟩ 0)
  h1 : ∀ Er : XK, FnOk P w K mg base CX0 n a.f1 a.fd1 ["value", "least", "most"] (spC ⟨K, run prog n, Xr0, Er⟩ 1)
  h2 : ∀ Er : XK, FnOk P w K mg base CX0 n a.f2 a.fd2 ["number", "degree"] (spC ⟨K, run prog n, Xr0, Er⟩ 2)
  h3 : ∀ Er : XK, FnOk P w K mg base CX0 n a.f3 a.fd3 ["number", "degree"] (spC ⟨K, run prog n, Xr0, Er⟩ 3)
  h4 : ∀ Er : XK, FnOk P w K mg base CX0 n a.f4 a.fd4 ["many", "values"] (spC ⟨K, run prog n, Xr0, Er⟩ 4)
  h5 : ∀ Er : XK, FnOk P w K mg base CX0 n a.f5 a.fd5 ["many", "values"] (spC ⟨K, run prog n, Xr0, Er⟩ 5)
  h6 : ∀ Er : XK, FnOk P w K mg base CX0 n a.f6 a.fd6 ["many", "values"] (spC ⟨K, run prog n, Xr0, Er⟩ 6)
  h7 : ∀ Er : XK, FnOk P w K mg base CX0 n a.f7 a.fd7 ["row", "many"] (spC ⟨K, run prog n, Xr0, Er⟩ 7)
  h8 : ∀ Er : XK, FnOk P w K mg base CX0 n a.f8 a.fd8 ["many", "size"] (spC ⟨K, run prog n, Xr0, Er⟩ 8)
  h9 : ∀ Er : XK, FnOk P w K mg base CX0 n a.f9 a.fd9 ["many", "layer", "size"] (spC ⟨K, run prog n, Xr0, Er⟩ 9)
  h10 : ∀ Er : XK, FnOk P w K mg base CX0 n a.f10 a.fd10 ["many", "values"] (spC ⟨K, run prog n, Xr0, Er⟩ 10)
  h11 : ∀ Er : XK, FnOk P w K mg base CX0 n a.f11 a.fd11 ["found", "due"] (spC ⟨K, run prog n, Xr0, Er⟩ 11)
  h12 : ∀ Er : XK, FnOk P w K mg base CX0 n a.f12 a.fd12 ["script"] (spC ⟨K, run prog n, Xr0, Er⟩ 12)
section
variable {P : Program} {w : World} {K : PySem.W.Frag} {mg : Str → Option Value} {base : Heap} {a : Ad} {n : Nat}
theorem sc0 : FnScope ["value"] ["value"] (defScope (top 6)) := ⟨rfl, rfl, rfl, by decide +kernel, rfl, by decide +kernel, by decide +kernel⟩
theorem ok0 (G : Gx mg) (H : Hs P w K mg base a n) (Er : XK) : FnOk P w K mg base CX0 (n + 1) a.f0 a.fd0 ["value"] (spC ⟨K, run prog (n + 1), Xr0, Er⟩ 0) :=
  fn_step H.D.d0.F sc0 (fn := f_is_int) rfl rfl rfl fun cdv A outer s Hh E hr =>
    have nd := sc0.nd
    (bb_cons (bs_ret (be_and (wisi (t := .int) G.isinstance G.int (by kernel_rfl) (BE.bb (wv (by kernel_rfl))) rfl) (be_one (be_not (wisi (t := .bool) G.isinstance G.bool (by kernel_rfl) (BE.bb (wv (by kernel_rfl))) rfl)))))
      bb_nil)
theorem sc1 : FnScope ["value", "least", "most"] ["value", "least", "most"] (defScope (top 7)) := ⟨rfl, rfl, rfl, by decide +kernel, rfl, by decide +kernel, by decide +kernel⟩
theorem ok1 (G : Gx mg) (H : Hs P w K mg base a n) (Er : XK) : FnOk P w K mg base CX0 (n + 1) a.f1 a.fd1 ["value", "least", "most"] (spC ⟨K, run prog (n + 1), Xr0, Er⟩ 1) :=
  fn_step H.D.d1.F sc1 (fn := f_is_in) rfl rfl rfl fun cdv A outer s Hh E hr =>
    have nd := sc1.nd
    (bb_cons (bs_ret (be_and (wcall (H.h0 _) hr H.D.d0.g H.D.d0.F.kp H.D.d0.b passZ (by kernel_rfl) (bl_cons (wv (by kernel_rfl)) bl_nil rfl) rfl rfl) (be_one (be_chn cLe cLe (BE.bb (wv (by kernel_rfl))) (BE.bb (wv (by kernel_rfl))) (BE.bb (wv (by kernel_rfl))) rfl))))
      bb_nil)
theorem sc2 : FnScope ["number", "degree", "found", "top"] ["number", "degree"] (defScope (top 12)) := ⟨rfl, rfl, rfl, by decide +kernel, rfl, by decide +kernel, by decide +kernel⟩
theorem ok2 (G : Gx mg) (H : Hs P w K mg base a n) (Er : XK) : FnOk P w K mg base CX0 (n + 1) a.f2 a.fd2 ["number", "degree"] (spC ⟨K, run prog (n + 1), Xr0, Er⟩ 2) :=
  fn_step H.D.d2.F sc2 (fn := f_expansion_of) rfl rfl rfl fun cdv A outer s Hh E hr =>
    have nd := sc2.nd
    (bb_cons (wown nd (by kernel_rfl) (bf_lst bl_nil (by decide)) rfl)
      (bb_cons (bs_whl PassesOwn.leaving (bt_cmp cGt (BE.bb (wv (by kernel_rfl))) (BE.bb be_int) rfl)
      (bb_cons (wset nd (by kernel_rfl) (bx_ite backE (bt_cmp cGt (BE.bb (wv (by kernel_rfl))) (BE.bb be_int) rfl) (wv (by kernel_rfl)) (wv (by kernel_rfl))) rfl)
      (bb_cons (bs_whl PassesOwn.leaving (bt_cmp cLe (BE.bb (BF.be (wbf fComb G.comb (by kernel_rfl) (bn_cons (BE.bb (BF.be (bf_bin opAdd (BE.bb (wv (by kernel_rfl))) (BE.bb be_int)))) (bn_cons (BE.bb (wv (by kernel_rfl))) bn_nil rfl) rfl) rfl rfl))) (BE.bb (wv (by kernel_rfl))) rfl)
      (bb_cons (waug nd (by kernel_rfl) be_int)
      bb_nil))
      (bb_cons (wapp (by kernel_rfl) (wv (by kernel_rfl)) rfl rfl rfl rfl rfl rfl)
      (bb_cons (wpar rfl nd (by kernel_rfl) (BF.be (bf_bin opSub (BE.bb (wv (by kernel_rfl))) (BE.bb (BF.be (wbf fComb G.comb (by kernel_rfl) (bn_cons (BE.bb (wv (by kernel_rfl))) (bn_cons (BE.bb (wv (by kernel_rfl))) bn_nil rfl) rfl) rfl rfl))))) (BF.be (bf_bin opSub (BE.bb (wv (by kernel_rfl))) (BE.bb be_int))) rfl rfl rfl rfl)
      bb_nil)))))
      (bb_cons (wretO (by kernel_rfl))
      bb_nil)))
theorem sc3 : FnScope ["number", "degree", "at", "top"] ["number", "degree"] (defScope (top 13)) := ⟨rfl, rfl, rfl, by decide +kernel, rfl, by decide +kernel, by decide +kernel⟩
theorem ok3 (G : Gx mg) (H : Hs P w K mg base a n) (Er : XK) : FnOk P w K mg base CX0 (n + 1) a.f3 a.fd3 ["number", "degree"] (spC ⟨K, run prog (n + 1), Xr0, Er⟩ 3) :=
  fn_step H.D.d3.F sc3 (fn := f_grown_of) rfl rfl rfl fun cdv A outer s Hh E hr =>
    have nd := sc3.nd
    (bb_cons (bs_ret (BF.be (wbi (fSum rfl) PyProof.Rows.boot_sum G.sum (by kernel_rfl) (bn_cons (BE.bb (BF.be (wcomp (own := [("at", 2), ("top", 3)]) rfl nd (wenmB G.enumerate (by kernel_rfl) (BE.bb (wcall (H.h2 _) hr H.D.d2.g H.D.d2.F.kp H.D.d2.b passZ (by kernel_rfl) (bl_cons (wv (by kernel_rfl)) (bl_cons (wv (by kernel_rfl)) bl_nil rfl) rfl) rfl rfl)) rfl) (by kernel_rfl) (by decide) (fun _ _ _ _ _ => (wgT rfl (wgs nd (by kernel_rfl) (wgs nd (by kernel_rfl) pgs_nil rfl) rfl) rfl rfl)) (fun _ _ _ _ _ => bs_nil) (fun _ _ _ _ _ => (BF.be (wbf fComb G.comb (by kernel_rfl) (bn_cons (BE.bb (BF.be (bf_bin opAdd (BE.bb (wv (by kernel_rfl))) (BE.bb be_int)))) (bn_cons (BE.bb (BF.be (bf_bin opSub (BE.bb (BF.be (bf_bin opAdd (BE.bb (wv (by kernel_rfl))) (BE.bb be_int)))) (BE.bb (wv (by kernel_rfl)))))) bn_nil rfl) rfl) rfl rfl))) (fun _ => rfl)))) bn_nil rfl) rfl rfl)))
      bb_nil)
theorem sc4 : FnScope ["many", "values", "value"] ["many", "values"] (defScope (top 14)) := ⟨rfl, rfl, rfl, by decide +kernel, rfl, by decide +kernel, by decide +kernel⟩
theorem ok4 (G : Gx mg) (H : Hs P w K mg base a n) (Er : XK) : FnOk P w K mg base CX0 (n + 1) a.f4 a.fd4 ["many", "values"] (spC ⟨K, run prog (n + 1), Xr0, Er⟩ 4) :=
  fn_step H.D.d4.F sc4 (fn := f_need_values) rfl rfl rfl fun cdv A outer s Hh E hr =>
    have nd := sc4.nd
    (bb_cons (bs_ite (bt_not (bt_val (wcall (H.h1 _) hr H.D.d1.g H.D.d1.F.kp H.D.d1.b passZ (by kernel_rfl) (bl_cons (wv (by kernel_rfl)) (bl_cons be_int (bl_cons (wglob G.i_MOST_VARIABLES (by kernel_rfl)) bl_nil rfl) rfl) rfl) rfl rfl) (fun _ => rfl)))
      (bb_cons bs_stop
      bb_nil)
      bb_nil)
      (bb_cons (bs_ite ((bw_or (bt_not (bt_val (wisi (t := .tuple) G.isinstance G.tuple (by kernel_rfl) (BE.bb (wv (by kernel_rfl))) rfl) (fun _ => rfl))) (bw_one2 (bt_not (bt_chn cLe cLe (BE.bb be_int) (BE.bb (BF.be (wbi fLen PySem.boot_len G.len (by kernel_rfl) (bn_cons (BE.bb (wv (by kernel_rfl))) bn_nil rfl) rfl rfl))) (BE.bb (BF.be (bf_bin opAdd (BE.bb (wglob G.i_MOST_DEGREE (by kernel_rfl))) (BE.bb be_int)))) rfl))))).pt
      (bb_cons bs_stop
      bb_nil)
      bb_nil)
      (bb_cons (bs_ite (bt_not (bt_val (BF.be (wbi (fAll rfl) PyProof.Rows.boot_all G.all (by kernel_rfl) (bn_cons (BE.bb (BF.be (wcomp (own := [("value", 2)]) rfl nd (bi_anyB (BE.bb (wv (by kernel_rfl)))) (by kernel_rfl) (by decide) (fun _ _ _ _ _ => (wg1 nd (by kernel_rfl))) (fun _ _ _ _ _ => bs_nil) (fun _ _ _ _ _ => (wcall (H.h1 _) hr H.D.d1.g H.D.d1.F.kp H.D.d1.b passZ (by kernel_rfl) (bl_cons (wv (by kernel_rfl)) (bl_cons be_int (bl_cons (wglob G.i_MOST_NUMBER (by kernel_rfl)) bl_nil rfl) rfl) rfl) rfl rfl)) (fun _ => rfl)))) bn_nil rfl) rfl rfl)) (fun _ => rfl)))
      (bb_cons bs_stop
      bb_nil)
      bb_nil)
      bb_nil)))
theorem sc5 : FnScope ["many", "values", "most", "index", "value"] ["many", "values"] (defScope (top 15)) := ⟨rfl, rfl, rfl, by decide +kernel, rfl, by decide +kernel, by decide +kernel⟩
theorem ok5 (G : Gx mg) (H : Hs P w K mg base a n) (Er : XK) : FnOk P w K mg base CX0 (n + 1) a.f5 a.fd5 ["many", "values"] (spC ⟨K, run prog (n + 1), Xr0, Er⟩ 5) :=
  fn_step H.D.d5.F sc5 (fn := f_gap_of) rfl rfl rfl fun cdv A outer s Hh E hr =>
    have nd := sc5.nd
    (bb_cons (wset nd (by kernel_rfl) be_int rfl)
      (bb_cons (bs_for PassesOwn.leaving rfl (wenmF G.enumerate (by kernel_rfl) (wv (by kernel_rfl)) rfl) (wgT rfl (wgs nd (by kernel_rfl) (wgs nd (by kernel_rfl) pgs_nil rfl) rfl) rfl rfl)
      (bb_cons (bs_ite (bt_cmp cGt (BE.bb (wv (by kernel_rfl))) (BE.bb (wv (by kernel_rfl))) rfl)
      (bb_cons (bs_ret (wv (by kernel_rfl)))
      bb_nil)
      bb_nil)
      (bb_cons (wset nd (by kernel_rfl) (bx_ite backE (bt_cmp (cEq hr.units) (BE.bb (wv (by kernel_rfl))) (BE.bb be_int) rfl) (BF.be (bf_bin opMul (BE.bb (wv (by kernel_rfl))) (BE.bb (wv (by kernel_rfl))))) (wcall (H.h3 _) hr H.D.d3.g H.D.d3.F.kp H.D.d3.b passZ (by kernel_rfl) (bl_cons (wv (by kernel_rfl)) (bl_cons (wv (by kernel_rfl)) bl_nil rfl) rfl) rfl rfl)) rfl)
      bb_nil)) (fun _ => rfl))
      (bb_cons (bs_ret be_non)
      bb_nil)))
theorem sc6 : FnScope ["many", "values"] ["many", "values"] (defScope (top 16)) := ⟨rfl, rfl, rfl, by decide +kernel, rfl, by decide +kernel, by decide +kernel⟩
theorem ok6 (G : Gx mg) (H : Hs P w K mg base a n) (Er : XK) : FnOk P w K mg base CX0 (n + 1) a.f6 a.fd6 ["many", "values"] (spC ⟨K, run prog (n + 1), Xr0, Er⟩ 6) :=
  fn_step H.D.d6.F sc6 (fn := f_growth_gap) rfl rfl rfl fun cdv A outer s Hh E hr =>
    have nd := sc6.nd
    (bb_cons (bs_exp (wcall (H.h4 _) hr H.D.d4.g H.D.d4.F.kp H.D.d4.b passZ (by kernel_rfl) (bl_cons (wv (by kernel_rfl)) (bl_cons (wv (by kernel_rfl)) bl_nil rfl) rfl) rfl rfl) rfl)
      (bb_cons (bs_ret (wcall (H.h5 _) hr H.D.d5.g H.D.d5.F.kp H.D.d5.b passZ (by kernel_rfl) (bl_cons (wv (by kernel_rfl)) (bl_cons (wv (by kernel_rfl)) bl_nil rfl) rfl) rfl rfl))
      bb_nil))
theorem sc7 : FnScope ["row", "many", "found", "cell"] ["row", "many"] (defScope (top 18)) := ⟨rfl, rfl, rfl, by decide +kernel, rfl, by decide +kernel, by decide +kernel⟩
theorem ok7 (G : Gx mg) (H : Hs P w K mg base a n) (Er : XK) : FnOk P w K mg base CX0 (n + 1) a.f7 a.fd7 ["row", "many"] (spC ⟨K, run prog (n + 1), Xr0, Er⟩ 7) :=
  fn_step H.D.d7.F sc7 (fn := f_law_taken) rfl rfl rfl fun cdv A outer s Hh E hr =>
    have nd := sc7.nd
    (bb_cons (bs_ite (bt_cmp cGt (BE.bb (be_idx (BE.bb (wv (by kernel_rfl))) (BE.bb be_int) (fun _ _ => rfl))) (BE.bb be_int) rfl)
      (bb_cons (wset nd (by kernel_rfl) (BF.be (bf_bin opMod (BE.bb (BF.be (wbt fInt PyProof.Rows.boot_int G.int (by kernel_rfl) (bn_cons (BE.bb (be_idx (BE.bb (wv (by kernel_rfl))) (BE.bb be_int) (fun _ _ => rfl))) bn_nil rfl) rfl rfl))) (BE.bb (wv (by kernel_rfl))))) rfl)
      (bb_cons (wstc (by kernel_rfl) (BF.be (bf_bin opDiv (BE.bb (be_idx (BE.bb (wv (by kernel_rfl))) (BE.bb be_int) (fun _ _ => rfl))) (BE.bb (wv (by kernel_rfl))))) be_int (fun _ => rfl) rfl rfl rfl)
      (bb_cons (bs_ret (wv (by kernel_rfl)))
      bb_nil)))
      bb_nil)
      (bb_cons (wstc (by kernel_rfl) (BF.be (bf_bin opAdd (BE.bb (be_idx (BE.bb (wv (by kernel_rfl))) (BE.bb be_int) (fun _ _ => rfl))) (BE.bb be_int))) be_int (fun _ => rfl) rfl rfl rfl)
      (bb_cons (bs_ite (bt_cmp cGt (BE.bb (be_idx (BE.bb (wv (by kernel_rfl))) (BE.bb be_int) (fun _ _ => rfl))) (BE.bb (BF.be (wbi fLen PySem.boot_len G.len (by kernel_rfl) (bn_cons (BE.bb (be_idx (BE.bb (wv (by kernel_rfl))) (BE.bb be_int) (fun _ _ => rfl))) bn_nil rfl) rfl rfl))) rfl)
      (bb_cons (wstc (by kernel_rfl) (BF.be (bf_bin opMod (BE.bb (BF.be (wbt fInt PyProof.Rows.boot_int G.int (by kernel_rfl) (bn_cons (BE.bb (BF.be (bf_bin opAdd (BE.bb (BF.be (bf_bin opMul (BE.bb (be_idx (BE.bb (wv (by kernel_rfl))) (BE.bb be_int) (fun _ _ => rfl))) (BE.bb be_int)))) (BE.bb be_int)))) bn_nil rfl) rfl rfl))) (BE.bb be_int))) be_int (fun _ => rfl) rfl rfl rfl)
      (bb_cons (bs_ret (BF.be (bf_bin opMod (BE.bb (BF.be (wbt fInt PyProof.Rows.boot_int G.int (by kernel_rfl) (bn_cons (BE.bb (BF.be (bf_bin opDiv (BE.bb (be_idx (BE.bb (wv (by kernel_rfl))) (BE.bb be_int) (fun _ _ => rfl))) (BE.bb be_int)))) bn_nil rfl) rfl rfl))) (BE.bb (wv (by kernel_rfl))))))
      bb_nil))
      bb_nil)
      (bb_cons (wset nd (by kernel_rfl) (be_idx (BE.bb (be_idx (BE.bb (wv (by kernel_rfl))) (BE.bb be_int) (fun _ _ => rfl))) (BE.bb (BF.be (bf_bin opSub (BE.bb (be_idx (BE.bb (wv (by kernel_rfl))) (BE.bb be_int) (fun _ _ => rfl))) (BE.bb be_int)))) (fun _ _ => rfl)) rfl)
      (bb_cons (wstc (by kernel_rfl) (BF.be (bf_bin opMod (BE.bb (BF.be (wbt fInt PyProof.Rows.boot_int G.int (by kernel_rfl) (bn_cons (BE.bb (BF.be (bf_bin opAdd (BE.bb (BF.be (bf_bin opAdd (BE.bb (BF.be (bf_bin opMul (BE.bb (be_idx (BE.bb (wv (by kernel_rfl))) (BE.bb be_int) (fun _ _ => rfl))) (BE.bb be_int)))) (BE.bb (wv (by kernel_rfl)))))) (BE.bb be_int)))) bn_nil rfl) rfl rfl))) (BE.bb be_int))) be_int (fun _ => rfl) rfl rfl rfl)
      (bb_cons (bs_ite (bt_cmp cGe (BE.bb (wv (by kernel_rfl))) (BE.bb (BF.be (bf_bin opPow (BE.bb be_int) (BE.bb be_int)))) rfl)
      (bb_cons (wstc (by kernel_rfl) (BF.be (bf_bin opDiv (BE.bb (wv (by kernel_rfl))) (BE.bb (wv (by kernel_rfl))))) be_int (fun _ => rfl) rfl rfl rfl)
      bb_nil)
      bb_nil)
      (bb_cons (bs_ret (BF.be (bf_bin opMod (BE.bb (BF.be (wbt fInt PyProof.Rows.boot_int G.int (by kernel_rfl) (bn_cons (BE.bb (wv (by kernel_rfl))) bn_nil rfl) rfl rfl))) (BE.bb (wv (by kernel_rfl))))))
      bb_nil)))))))
theorem sc8 : FnScope ["many", "size", "found", "at", "longer", "mono", "e"] ["many", "size"] (defScope (top 19)) := ⟨rfl, rfl, rfl, by decide +kernel, rfl, by decide +kernel, by decide +kernel⟩
theorem ok8 (G : Gx mg) (H : Hs P w K mg base a n) (Er : XK) : FnOk P w K mg base CX0 (n + 1) a.f8 a.fd8 ["many", "size"] (spC ⟨K, run prog (n + 1), Xr0, Er⟩ 8) :=
  fn_step H.D.d8.F sc8 (fn := f_law_monos) rfl rfl rfl fun cdv A outer s Hh E hr =>
    have nd := sc8.nd
    (bb_cons (wset nd (by kernel_rfl) (BF.be (bf_lst (bl_cons (be_tup bl_nil (by decide)) bl_nil rfl) (by decide))) rfl)
      (bb_cons (bs_for PassesOwn.leaving rfl (wrng G.range (by kernel_rfl) (BF.be (bf_bin opSub (BE.bb (wv (by kernel_rfl))) (BE.bb be_int))) rfl) (wg1 nd (by kernel_rfl))
      (bb_cons (wset nd (by kernel_rfl) (BF.be (bf_lst bl_nil (by decide))) rfl)
      (bb_cons (bs_for PassesOwn.leaving rfl (bi_any (wv (by kernel_rfl))) (wg1 nd (by kernel_rfl))
      (bb_cons (wset nd (by kernel_rfl) (BF.be (bf_bin opAdd (BE.bb (wv (by kernel_rfl))) (BE.bb (BF.be (wcomp (own := [("e", 6)]) rfl nd (wrng G.range (by kernel_rfl) (BF.be (bf_bin opSub (BE.bb (BF.be (bf_bin opAdd (BE.bb (wv (by kernel_rfl))) (BE.bb be_int)))) (BE.bb (BF.be (wbi (fSum rfl) PyProof.Rows.boot_sum G.sum (by kernel_rfl) (bn_cons (BE.bb (wv (by kernel_rfl))) bn_nil rfl) rfl rfl))))) rfl) (by kernel_rfl) (by decide) (fun _ _ _ _ _ => (wg1 nd (by kernel_rfl))) (fun _ _ _ _ _ => bs_nil) (fun _ _ _ _ _ => (BF.be (bf_bin opAdd (BE.bb (wv (by kernel_rfl))) (BE.bb (be_tup (bl_cons (wv (by kernel_rfl)) bl_nil rfl) (by decide)))))) (fun _ => rfl)))))) rfl)
      bb_nil) (fun _ => rfl))
      (bb_cons (wset nd (by kernel_rfl) (wv (by kernel_rfl)) rfl)
      bb_nil))) (fun _ => rfl))
      (bb_cons (bs_ret (BF.be (wcomp (own := [("mono", 5)]) rfl nd (bi_anyB (BE.bb (wv (by kernel_rfl)))) (by kernel_rfl) (by decide) (fun _ _ _ _ _ => (wg1 nd (by kernel_rfl))) (fun _ _ _ _ _ => bs_nil) (fun _ _ _ _ _ => (BF.be (bf_bin opAdd (BE.bb (wv (by kernel_rfl))) (BE.bb (be_tup (bl_cons (BF.be (bf_bin opSub (BE.bb (wv (by kernel_rfl))) (BE.bb (BF.be (wbi (fSum rfl) PyProof.Rows.boot_sum G.sum (by kernel_rfl) (bn_cons (BE.bb (wv (by kernel_rfl))) bn_nil rfl) rfl rfl))))) bl_nil rfl) (by decide)))))) (fun _ => rfl))))
      bb_nil)))
theorem sc9 : FnScope ["many", "layer", "size", "found", "mono", "parts", "k", "at", "part"] ["many", "layer", "size"] (defScope (top 20)) := ⟨rfl, rfl, rfl, by decide +kernel, rfl, by decide +kernel, by decide +kernel⟩
theorem ok9 (G : Gx mg) (H : Hs P w K mg base a n) (Er : XK) : FnOk P w K mg base CX0 (n + 1) a.f9 a.fd9 ["many", "layer", "size"] (spC ⟨K, run prog (n + 1), Xr0, Er⟩ 9) :=
  fn_step H.D.d9.F sc9 (fn := f_law_next) rfl rfl rfl fun cdv A outer s Hh E hr =>
    have nd := sc9.nd
    (bb_cons (wown nd (by kernel_rfl) (bf_lst bl_nil (by decide)) rfl)
      (bb_cons (bs_for PassesOwn.leaving rfl (bi_any (wcall (H.h8 _) hr H.D.d8.g H.D.d8.F.kp H.D.d8.b passZ (by kernel_rfl) (bl_cons (wv (by kernel_rfl)) (bl_cons (BF.be (bf_bin opAdd (BE.bb (wv (by kernel_rfl))) (BE.bb be_int))) bl_nil rfl) rfl) rfl rfl)) (wg1 nd (by kernel_rfl))
      (bb_cons (wsetLc (own := [("at", 7)]) rfl nd (by kernel_rfl) rfl (wrng G.range (by kernel_rfl) (wv (by kernel_rfl)) rfl) (by kernel_rfl) (by decide) (fun _ _ _ _ _ => (wg1 nd (by kernel_rfl))) (fun _ _ _ _ _ => (bs_one (bt_cmp cGt (BE.bb (be_idx (BE.bb (wv (by kernel_rfl))) (BE.bb (wv (by kernel_rfl))) (fun _ _ => rfl))) (BE.bb be_int) rfl))) (fun _ _ _ _ _ => (BF.be (wbt fTup PyProof.Rows.boot_tuple G.tuple (by kernel_rfl) (bn_cons (BE.bb (BF.be (wcomp (own := [("k", 6)]) rfl nd (wrng G.range (by kernel_rfl) (wv (by kernel_rfl)) rfl) (by kernel_rfl) (by decide) (fun _ _ _ _ _ => (wg1 nd (by kernel_rfl))) (fun _ _ _ _ _ => bs_nil) (fun _ _ _ _ _ => (BF.be (bf_bin opSub (BE.bb (be_idx (BE.bb (wv (by kernel_rfl))) (BE.bb (wv (by kernel_rfl))) (fun _ _ => rfl))) (BE.bb (BF.be (wbt fInt PyProof.Rows.boot_int G.int (by kernel_rfl) (bn_cons (BE.bb (be_cmp (cEq hr.units) (BE.bb (wv (by kernel_rfl))) (BE.bb (wv (by kernel_rfl))) rfl)) bn_nil rfl) rfl rfl)))))) (fun _ => rfl)))) bn_nil rfl) rfl rfl))) (fun _ => rfl))
      (bb_cons (bs_ite (bt_cmp (cEq hr.units) (BE.bb (BF.be (wcomp (own := [("part", 8)]) rfl nd (bi_anyB (BE.bb (wv (by kernel_rfl)))) (by kernel_rfl) (by decide) (fun _ _ _ _ _ => (wg1 nd (by kernel_rfl))) (fun _ _ _ _ _ => (bs_one (bt_cmp (cNotIn hr.units65) (BE.bb (wv (by kernel_rfl))) (BE.bb (wv (by kernel_rfl))) rfl))) (fun _ _ _ _ _ => (wv (by kernel_rfl))) (fun _ => rfl)))) (BE.bb (BF.be (bf_lst bl_nil (by decide)))) rfl)
      (bb_cons (wapp (by kernel_rfl) (wv (by kernel_rfl)) rfl rfl rfl rfl rfl rfl)
      bb_nil)
      bb_nil)
      bb_nil)) (fun _ => rfl))
      (bb_cons (wretO (by kernel_rfl))
      bb_nil)))
theorem sc10 : FnScope ["many", "values", "some", "size", "later", "layer", "chosen", "mono", "told"] ["many", "values"] (defScope (top 21)) := ⟨rfl, rfl, rfl, by decide +kernel, rfl, by decide +kernel, by decide +kernel⟩
theorem ok10 (G : Gx mg) (H : Hs P w K mg base a n) (Er : XK) : FnOk P w K mg base CX0 (n + 1) a.f10 a.fd10 ["many", "values"] (spC ⟨K, run prog (n + 1), Xr0, Er⟩ 10) :=
  fn_step H.D.d10.F sc10 (fn := f_law_most) rfl rfl rfl fun cdv A outer s Hh E hr =>
    have nd := sc10.nd
    (bb_cons (wset nd (by kernel_rfl) (BF.be (bf_lst (bl_cons (be_tup (bl_cons (BF.be (bf_bin opMul (BE.bb (be_tup (bl_cons be_int bl_nil rfl) (by decide))) (BE.bb (wv (by kernel_rfl))))) bl_nil rfl) (by decide)) bl_nil rfl) (by decide))) rfl)
      (bb_cons (bs_for PassesOwn.leaving rfl (wrng G.range (by kernel_rfl) (BF.be (bf_bin opSub (BE.bb (BF.be (wbi fLen PySem.boot_len G.len (by kernel_rfl) (bn_cons (BE.bb (wv (by kernel_rfl))) bn_nil rfl) rfl rfl))) (BE.bb be_int))) rfl) (wg1 nd (by kernel_rfl))
      (bb_cons (wset nd (by kernel_rfl) (BF.be (bf_lst bl_nil (by decide))) rfl)
      (bb_cons (bs_for PassesOwn.leaving rfl (bi_any (wv (by kernel_rfl))) (wg1 nd (by kernel_rfl))
      (bb_cons (wset nd (by kernel_rfl) (BF.be (bf_lst (bl_cons (be_tup bl_nil (by decide)) bl_nil rfl) (by decide))) rfl)
      (bb_cons (bs_for PassesOwn.leaving rfl (bi_any (wcall (H.h9 _) hr H.D.d9.g H.D.d9.F.kp H.D.d9.b passZ (by kernel_rfl) (bl_cons (wv (by kernel_rfl)) (bl_cons (wv (by kernel_rfl)) (bl_cons (wv (by kernel_rfl)) bl_nil rfl) rfl) rfl) rfl rfl)) (wg1 nd (by kernel_rfl))
      (bb_cons (wset nd (by kernel_rfl) (BF.be (bf_bin opAdd (BE.bb (wv (by kernel_rfl))) (BE.bb (BF.be (wcomp (own := [("told", 8)]) rfl nd (bi_anyB (BE.bb (wv (by kernel_rfl)))) (by kernel_rfl) (by decide) (fun _ _ _ _ _ => (wg1 nd (by kernel_rfl))) (fun _ _ _ _ _ => bs_nil) (fun _ _ _ _ _ => (BF.be (bf_bin opAdd (BE.bb (wv (by kernel_rfl))) (BE.bb (be_tup (bl_cons (wv (by kernel_rfl)) bl_nil rfl) (by decide)))))) (fun _ => rfl)))))) rfl)
      bb_nil) (fun _ => rfl))
      (bb_cons (wset nd (by kernel_rfl) (BF.be (bf_bin opAdd (BE.bb (wv (by kernel_rfl))) (BE.bb (BF.be (wcomp (own := [("told", 8)]) rfl nd (bi_anyB (BE.bb (wv (by kernel_rfl)))) (by kernel_rfl) (by decide) (fun _ _ _ _ _ => (wg1 nd (by kernel_rfl))) (fun _ _ _ _ _ => (bs_one (bt_cmp (cEq hr.units) (BE.bb (BF.be (wbi fLen PySem.boot_len G.len (by kernel_rfl) (bn_cons (BE.bb (wv (by kernel_rfl))) bn_nil rfl) rfl rfl))) (BE.bb (be_idx (BE.bb (wv (by kernel_rfl))) (BE.bb (BF.be (bf_bin opAdd (BE.bb (wv (by kernel_rfl))) (BE.bb be_int)))) (fun _ _ => rfl))) rfl))) (fun _ _ _ _ _ => (wv (by kernel_rfl))) (fun _ => rfl)))))) rfl)
      bb_nil))) (fun _ => rfl))
      (bb_cons (wset nd (by kernel_rfl) (BF.be (wsortset rfl hr.units G.sorted G.set (by kernel_rfl) (BE.bb (wv (by kernel_rfl))) rfl)) rfl)
      bb_nil))) (fun _ => rfl))
      (bb_cons (bs_ret (BF.be (wbi (fMaxl rfl) PyProof.Rows.boot_max G.max (by kernel_rfl) (bn_cons (BE.bb (BF.be (bf_bin opAdd (BE.bb (BF.be (wcomp (own := [("layer", 5)]) rfl nd (bi_anyB (BE.bb (wv (by kernel_rfl)))) (by kernel_rfl) (by decide) (fun _ _ _ _ _ => (wg1 nd (by kernel_rfl))) (fun _ _ _ _ _ => bs_nil) (fun _ _ _ _ _ => (BF.be (wbi fLen PySem.boot_len G.len (by kernel_rfl) (bn_cons (BE.bb (wcall (H.h9 _) hr H.D.d9.g H.D.d9.F.kp H.D.d9.b passZ (by kernel_rfl) (bl_cons (wv (by kernel_rfl)) (bl_cons (wv (by kernel_rfl)) (bl_cons (BF.be (bf_bin opSub (BE.bb (BF.be (wbi fLen PySem.boot_len G.len (by kernel_rfl) (bn_cons (BE.bb (wv (by kernel_rfl))) bn_nil rfl) rfl rfl))) (BE.bb be_int))) bl_nil rfl) rfl) rfl) rfl rfl)) bn_nil rfl) rfl rfl))) (fun _ => rfl)))) (BE.bb (BF.be (bf_lst (bl_cons (BF.be (bf_bin opSub (BE.bb be_int) (BE.bb be_int))) bl_nil rfl) (by decide))))))) bn_nil rfl) rfl rfl)))
      bb_nil)))
theorem sc11 : FnScope ["found", "due", "k"] ["found", "due"] (defScope (top 22)) := ⟨rfl, rfl, rfl, by decide +kernel, rfl, by decide +kernel, by decide +kernel⟩
theorem ok11 (G : Gx mg) (H : Hs P w K mg base a n) (Er : XK) : FnOk P w K mg base CX0 (n + 1) a.f11 a.fd11 ["found", "due"] (spC ⟨K, run prog (n + 1), Xr0, Er⟩ 11) :=
  fn_step H.D.d11.F sc11 (fn := f_law_alike) rfl rfl rfl fun cdv A outer s Hh E hr =>
    have nd := sc11.nd
    (bb_cons (bs_ite (bt_val (wisiT G.isinstance (by kernel_rfl) (wtys (t := .tuple) G.tuple (by kernel_rfl) (wtys (t := .list) G.list (by kernel_rfl) .nil)) (by decide) (BE.bb (wv (by kernel_rfl))) rfl) (fun _ => rfl))
      (bb_cons (bs_ite ((bw_or (bt_not (bt_val (wisiT G.isinstance (by kernel_rfl) (wtys (t := .tuple) G.tuple (by kernel_rfl) (wtys (t := .list) G.list (by kernel_rfl) .nil)) (by decide) (BE.bb (wv (by kernel_rfl))) rfl) (fun _ => rfl))) (bw_one2 (bt_cmp (cNe hr.units) (BE.bb (wisi (t := .list) G.isinstance G.list (by kernel_rfl) (BE.bb (wv (by kernel_rfl))) rfl)) (BE.bb (wisi (t := .list) G.isinstance G.list (by kernel_rfl) (BE.bb (wv (by kernel_rfl))) rfl)) rfl)))).pt
      (bb_cons (bs_ret be_bl)
      bb_nil)
      bb_nil)
      (bb_cons (bs_ite (bt_cmp (cNe hr.units) (BE.bb (BF.be (wbi fLen PySem.boot_len G.len (by kernel_rfl) (bn_cons (BE.bb (wv (by kernel_rfl))) bn_nil rfl) rfl rfl))) (BE.bb (BF.be (wbi fLen PySem.boot_len G.len (by kernel_rfl) (bn_cons (BE.bb (wv (by kernel_rfl))) bn_nil rfl) rfl rfl))) rfl)
      (bb_cons (bs_ret be_bl)
      bb_nil)
      bb_nil)
      (bb_cons (bs_ret (be_cmp (cEq hr.units) (BE.bb (BF.be (wcomp (own := [("k", 2)]) rfl nd (wrng G.range (by kernel_rfl) (BF.be (wbi fLen PySem.boot_len G.len (by kernel_rfl) (bn_cons (BE.bb (wv (by kernel_rfl))) bn_nil rfl) rfl rfl)) rfl) (by kernel_rfl) (by decide) (fun _ _ _ _ _ => (wg1 nd (by kernel_rfl))) (fun _ _ _ _ _ => (bs_one (bt_not (bt_val (wcall (H.h11 _) hr H.D.d11.g H.D.d11.F.kp H.D.d11.b passZ (by kernel_rfl) (bl_cons (be_idx (BE.bb (wv (by kernel_rfl))) (BE.bb (wv (by kernel_rfl))) (fun _ _ => rfl)) (bl_cons (be_idx (BE.bb (wv (by kernel_rfl))) (BE.bb (wv (by kernel_rfl))) (fun _ _ => rfl)) bl_nil rfl) rfl) rfl rfl) (fun _ => rfl))))) (fun _ _ _ _ _ => (wv (by kernel_rfl))) (fun _ => rfl)))) (BE.bb (BF.be (bf_lst bl_nil (by decide)))) rfl))
      bb_nil)))
      bb_nil)
      (bb_cons (bs_ite ((bw_or (bt_cmp cIsN (BE.bb (wv (by kernel_rfl))) (BE.bb be_non) rfl) (bw_one2 (bt_val (wisi (t := .str) G.isinstance G.str (by kernel_rfl) (BE.bb (wv (by kernel_rfl))) rfl) (fun _ => rfl))))).pt
      (bb_cons (bs_ret (be_and (be_cmp (cEq hr.units) (BE.bb (wv (by kernel_rfl))) (BE.bb (wv (by kernel_rfl))) rfl) (be_one (be_cmp (cEq hr.units) (BE.bb (wisi (t := .str) G.isinstance G.str (by kernel_rfl) (BE.bb (wv (by kernel_rfl))) rfl)) (BE.bb (wisi (t := .str) G.isinstance G.str (by kernel_rfl) (BE.bb (wv (by kernel_rfl))) rfl)) rfl))))
      bb_nil)
      bb_nil)
      (bb_cons (bs_ret (be_and (wisi (t := .int) G.isinstance G.int (by kernel_rfl) (BE.bb (wv (by kernel_rfl))) rfl) (be_and (be_cmp (cEq hr.units) (BE.bb (wisi (t := .bool) G.isinstance G.bool (by kernel_rfl) (BE.bb (wv (by kernel_rfl))) rfl)) (BE.bb (wisi (t := .bool) G.isinstance G.bool (by kernel_rfl) (BE.bb (wv (by kernel_rfl))) rfl)) rfl) (be_one (be_cmp (cEq hr.units) (BE.bb (wv (by kernel_rfl))) (BE.bb (wv (by kernel_rfl))) rfl)))))
      bb_nil)))
theorem sc12 : FnScope ["script", "row", "many", "values", "size", "most", "more", "at", "told"] ["script"] (defScope (top 23)) := ⟨rfl, rfl, rfl, by decide +kernel, rfl, by decide +kernel, by decide +kernel⟩
theorem ok12 (G : Gx mg) (H : Hs P w K mg base a n) (Er : XK) : FnOk P w K mg base CX0 (n + 1) a.f12 a.fd12 ["script"] (spC ⟨K, run prog (n + 1), Xr0, Er⟩ 12) :=
  fn_step H.D.d12.F sc12 (fn := f_law) rfl rfl rfl fun cdv A outer s Hh E hr =>
    have nd := sc12.nd
    (bb_cons (wcel nd (by kernel_rfl) (bf_lst (bl_cons (wv (by kernel_rfl)) (bl_cons be_int (bl_cons be_int (bl_cons be_int bl_nil rfl) rfl) rfl) rfl) (by decide)) rfl)
      (bb_cons (wset nd (by kernel_rfl) (BF.be (bf_bin opAdd (BE.bb be_int) (BE.bb (wcall (H.h7 _) hr H.D.d7.g H.D.d7.F.kp H.D.d7.b passZ (by kernel_rfl) (bl_cons (wv (by kernel_rfl)) (bl_cons be_int bl_nil rfl) rfl) rfl rfl)))) rfl)
      (bb_cons (wset nd (by kernel_rfl) (be_tup (bl_cons be_int bl_nil rfl) (by decide)) rfl)
      (bb_cons (bs_for PassesOwn.leaving rfl (wrng G.range (by kernel_rfl) (wcall (H.h7 _) hr H.D.d7.g H.D.d7.F.kp H.D.d7.b passZ (by kernel_rfl) (bl_cons (wv (by kernel_rfl)) (bl_cons (be_idx (BE.bb (BF.be (bf_lst (bl_cons be_int (bl_cons be_int (bl_cons be_int bl_nil rfl) rfl) rfl) (by decide)))) (BE.bb (BF.be (bf_bin opSub (BE.bb (wv (by kernel_rfl))) (BE.bb be_int)))) (fun _ _ => rfl)) bl_nil rfl) rfl) rfl rfl) rfl) (wg1 nd (by kernel_rfl))
      (bb_cons (wset nd (by kernel_rfl) (wcall (H.h10 _) hr H.D.d10.g H.D.d10.F.kp H.D.d10.b passZ (by kernel_rfl) (bl_cons (wv (by kernel_rfl)) (bl_cons (wv (by kernel_rfl)) bl_nil rfl) rfl) rfl rfl) rfl)
      (bb_cons (bs_ite (bt_cmp cNotN (BE.bb (wcall (H.h6 _) hr H.D.d6.g H.D.d6.F.kp H.D.d6.b passZ (by kernel_rfl) (bl_cons (wv (by kernel_rfl)) (bl_cons (BF.be (bf_bin opAdd (BE.bb (wv (by kernel_rfl))) (BE.bb (be_tup (bl_cons (wv (by kernel_rfl)) bl_nil rfl) (by decide))))) bl_nil rfl) rfl) rfl rfl)) (BE.bb be_non) rfl)
      (bb_cons (bs_ret be_bl)
      bb_nil)
      bb_nil)
      (bb_cons (bs_ite (bt_not (bt_val (wcall (H.h11 _) hr H.D.d11.g H.D.d11.F.kp H.D.d11.b passZ (by kernel_rfl) (bl_cons (wcall (H.h6 _) hr H.D.d6.g H.D.d6.F.kp H.D.d6.b passZ (by kernel_rfl) (bl_cons (wv (by kernel_rfl)) (bl_cons (BF.be (bf_bin opAdd (BE.bb (wv (by kernel_rfl))) (BE.bb (be_tup (bl_cons (BF.be (bf_bin opAdd (BE.bb (wv (by kernel_rfl))) (BE.bb be_int))) bl_nil rfl) (by decide))))) bl_nil rfl) rfl) rfl rfl) (bl_cons (BF.be (wbi fLen PySem.boot_len G.len (by kernel_rfl) (bn_cons (BE.bb (wv (by kernel_rfl))) bn_nil rfl) rfl rfl)) bl_nil rfl) rfl) rfl rfl) (fun _ => rfl)))
      (bb_cons (bs_ret be_bl)
      bb_nil)
      bb_nil)
      (bb_cons (wset nd (by kernel_rfl) (BF.be (bf_bin opAdd (BE.bb (wv (by kernel_rfl))) (BE.bb (be_tup (bl_cons (wcall (H.h7 _) hr H.D.d7.g H.D.d7.F.kp H.D.d7.b passZ (by kernel_rfl) (bl_cons (wv (by kernel_rfl)) (bl_cons (BF.be (bf_bin opAdd (BE.bb (wv (by kernel_rfl))) (BE.bb be_int))) bl_nil rfl) rfl) rfl rfl) bl_nil rfl) (by decide))))) rfl)
      (bb_cons (bs_ite (bt_cmp cNotN (BE.bb (wcall (H.h6 _) hr H.D.d6.g H.D.d6.F.kp H.D.d6.b passZ (by kernel_rfl) (bl_cons (wv (by kernel_rfl)) (bl_cons (wv (by kernel_rfl)) bl_nil rfl) rfl) rfl rfl)) (BE.bb be_non) rfl)
      (bb_cons (bs_ret be_bl)
      bb_nil)
      bb_nil)
      (bb_cons (wset nd (by kernel_rfl) (BF.be (bf_bin opAdd (BE.bb (wv (by kernel_rfl))) (BE.bb (BF.be (wbt fTup PyProof.Rows.boot_tuple G.tuple (by kernel_rfl) (bn_cons (BE.bb (BF.be (wcomp (own := [("at", 7)]) rfl nd (wrng G.range (by kernel_rfl) be_int rfl) (by kernel_rfl) (by decide) (fun _ _ _ _ _ => (wg1 nd (by kernel_rfl))) (fun _ _ _ _ _ => bs_nil) (fun _ _ _ _ _ => (wcall (H.h7 _) hr H.D.d7.g H.D.d7.F.kp H.D.d7.b passZ (by kernel_rfl) (bl_cons (wv (by kernel_rfl)) (bl_cons be_int bl_nil rfl) rfl) rfl rfl)) (fun _ => rfl)))) bn_nil rfl) rfl rfl))))) rfl)
      (bb_cons (wset nd (by kernel_rfl) (wcall (H.h6 _) hr H.D.d6.g H.D.d6.F.kp H.D.d6.b passZ (by kernel_rfl) (bl_cons (wv (by kernel_rfl)) (bl_cons (wv (by kernel_rfl)) bl_nil rfl) rfl) rfl rfl) rfl)
      (bb_cons (bs_ite ((bw_and (bt_cmp cNotN (BE.bb (wv (by kernel_rfl))) (BE.bb be_non) rfl) (bw_one1 (bt_cmp cLt (BE.bb (wv (by kernel_rfl))) (BE.bb (BF.be (wbi fLen PySem.boot_len G.len (by kernel_rfl) (bn_cons (BE.bb (wv (by kernel_rfl))) bn_nil rfl) rfl rfl))) rfl)))).pt
      (bb_cons (bs_ret be_bl)
      bb_nil)
      bb_nil)
      bb_nil)))))))) (fun _ => rfl))
      (bb_cons (bs_ret (be_and (be_cmp (cEq hr.units) (BE.bb (wcall (H.h6 _) hr H.D.d6.g H.D.d6.F.kp H.D.d6.b passZ (by kernel_rfl) (bl_cons (wv (by kernel_rfl)) (bl_cons (be_tup (bl_cons be_int (bl_cons be_int bl_nil rfl) rfl) (by decide)) bl_nil rfl) rfl) rfl rfl)) (BE.bb be_int) rfl) (be_and (be_cmp (cEq hr.units) (BE.bb (wcall (H.h6 _) hr H.D.d6.g H.D.d6.F.kp H.D.d6.b passZ (by kernel_rfl) (bl_cons (wv (by kernel_rfl)) (bl_cons (be_tup (bl_cons be_int (bl_cons be_int bl_nil rfl) rfl) (by decide)) bl_nil rfl) rfl) rfl rfl)) (BE.bb be_int) rfl) (be_one (be_cmp cIsN (BE.bb (wcall (H.h6 _) hr H.D.d6.g H.D.d6.F.kp H.D.d6.b passZ (by kernel_rfl) (bl_cons (wv (by kernel_rfl)) (bl_cons (be_tup (bl_cons be_int (bl_cons be_int bl_nil rfl) rfl) (by decide)) bl_nil rfl) rfl) rfl rfl)) (BE.bb be_non) rfl)))))
      bb_nil)))))
theorem hs_all (G : Gx mg) (D : Ds K mg a) : ∀ n, Hs P w K mg base a n
  | 0 => ⟨D, fun Er => fn_zero, fun Er => fn_zero, fun Er => fn_zero, fun Er => fn_zero, fun Er => fn_zero, fun Er => fn_zero, fun Er => fn_zero, fun Er => fn_zero, fun Er => fn_zero, fun Er => fn_zero, fun Er => fn_zero, fun Er => fn_zero, fun Er => fn_zero⟩
  | n + 1 => have H := hs_all G D n; ⟨D, ok0 G H, ok1 G H, ok2 G H, ok3 G H, ok4 G H, ok5 G H, ok6 G H, ok7 G H, ok8 G H, ok9 G H, ok10 G H, ok11 G H, ok12 G H⟩
end
/-! ### the head -/
def dd0 : He.DefD := ⟨("is_int", none), "is_int", "is_int", defArgs (top 6), defBody (top 6), defScope (top 6), [], []⟩
def dd1 : He.DefD := ⟨("is_in", none), "is_in", "is_in", defArgs (top 7), defBody (top 7), defScope (top 7), [], []⟩
def dd2 : He.DefD := ⟨("expansion_of", none), "expansion_of", "expansion_of", defArgs (top 12), defBody (top 12), defScope (top 12), [], []⟩
def dd3 : He.DefD := ⟨("grown_of", none), "grown_of", "grown_of", defArgs (top 13), defBody (top 13), defScope (top 13), [], []⟩
def dd4 : He.DefD := ⟨("need_values", none), "need_values", "need_values", defArgs (top 14), defBody (top 14), defScope (top 14), [], []⟩
def dd5 : He.DefD := ⟨("gap_of", none), "gap_of", "gap_of", defArgs (top 15), defBody (top 15), defScope (top 15), [], []⟩
def dd6 : He.DefD := ⟨("growth_gap", none), "growth_gap", "growth_gap", defArgs (top 16), defBody (top 16), defScope (top 16), [], []⟩
def dd7 : He.DefD := ⟨("_law_taken", none), "_law_taken", "_law_taken", defArgs (top 18), defBody (top 18), defScope (top 18), [], []⟩
def dd8 : He.DefD := ⟨("_law_monos", none), "_law_monos", "_law_monos", defArgs (top 19), defBody (top 19), defScope (top 19), [], []⟩
def dd9 : He.DefD := ⟨("_law_next", none), "_law_next", "_law_next", defArgs (top 20), defBody (top 20), defScope (top 20), [], []⟩
def dd10 : He.DefD := ⟨("_law_most", none), "_law_most", "_law_most", defArgs (top 21), defBody (top 21), defScope (top 21), [], []⟩
def dd11 : He.DefD := ⟨("_law_alike", none), "_law_alike", "_law_alike", defArgs (top 22), defBody (top 22), defScope (top 22), [], []⟩
def dd12 : He.DefD := ⟨("law", none), "law", "law", defArgs (top 23), defBody (top 23), defScope (top 23), [], []⟩
def fn : List He.DefD := [dd0, dd1, dd2, dd3, dd4, dd5, dd6, dd7, dd8, dd9, dd10, dd11, dd12]
def fa : List He.Fa := [.glo "is_int", .glo "is_in", .glo "expansion_of", .glo "grown_of", .glo "need_values", .glo "gap_of", .glo "growth_gap", .glo "_law_taken", .glo "_law_monos", .glo "_law_next", .glo "_law_most", .glo "_law_alike", .glo "law", .free "all", .free "bool", .free "enumerate", .free "int", .free "isinstance", .free "len", .free "list", .free "max", .free "range", .free "set", .free "sorted", .free "str", .free "sum", .free "tuple", .int "MOST_VARIABLES" 6, .int "MOST_DEGREE" 12, .int "MOST_NUMBER" 1000000]
def ex : List (Str × Value) := [("comb", .builtin "math.comb")]
abbrev Rr : PySem.W.OpenRow := PySem.W.OpenLaw.row PySem.Challenge.rw_idealcore_k57_whole_values_of_ideals
abbrev hk : PySem.W.Hook := hookE 4 fa fn ex
def ob (s : PySem.W.SharedT) : He.AlD × Bool := obE 4 fa fn ex (HandSHeadRun.getT s)
theorem ob_eq (s : PySem.W.SharedT) : ob s = hk.obs s.abs := obE_eq (HandSHeadRun.getT_eq s)
def loose0 : List Str := ["IdealError", "BadInteger", "BadValues", "is_int", "is_in", "MOST_NUMBER", "MOST_DEGREE", "MOST_VARIABLES", "expansion_of", "grown_of", "need_values", "gap_of", "growth_gap", "_law_taken", "_law_monos", "_law_next", "_law_most", "_law_alike"]
def loose : List Str := loose0
theorem run_top (w : World) : HandSHeadRun.RunEqI Rr (PySem.W.view Rr.prog [0, 23]) hk ob 20000 loose w := by
  unfold HandSHeadRun.RunEqI
  kernel_rfl
theorem facts {K : PySem.W.Frag} {h : Heap} {mg : Str → Option Value} (X : K.In h) (G : h.Ns mainGlobals mg) (c : He.SaysD fa fn K) (cx : exB ex K = true) : ∃ a : Ad, a.f12 = He.fAd K ("law", none) ∧ Gx mg ∧ Ds K mg a := by
  obtain ⟨fd0, F0⟩ := c.def_ 0 (d := dd0) rfl
  obtain ⟨fd1, F1⟩ := c.def_ 1 (d := dd1) rfl
  obtain ⟨fd2, F2⟩ := c.def_ 2 (d := dd2) rfl
  obtain ⟨fd3, F3⟩ := c.def_ 3 (d := dd3) rfl
  obtain ⟨fd4, F4⟩ := c.def_ 4 (d := dd4) rfl
  obtain ⟨fd5, F5⟩ := c.def_ 5 (d := dd5) rfl
  obtain ⟨fd6, F6⟩ := c.def_ 6 (d := dd6) rfl
  obtain ⟨fd7, F7⟩ := c.def_ 7 (d := dd7) rfl
  obtain ⟨fd8, F8⟩ := c.def_ 8 (d := dd8) rfl
  obtain ⟨fd9, F9⟩ := c.def_ 9 (d := dd9) rfl
  obtain ⟨fd10, F10⟩ := c.def_ 10 (d := dd10) rfl
  obtain ⟨fd11, F11⟩ := c.def_ 11 (d := dd11) rfl
  obtain ⟨fd12, F12⟩ := c.def_ 12 (d := dd12) rfl
  exact ⟨⟨_, fd0, _, fd1, _, fd2, _, fd3, _, fd4, _, fd5, _, fd6, _, fd7, _, fd8, _, fd9, _, fd10, _, fd11, _, fd12⟩, rfl, ⟨He.free_ok X G (c.fact 13 (f := .free "all") rfl),
    He.free_ok X G (c.fact 14 (f := .free "bool") rfl),
    He.free_ok X G (c.fact 15 (f := .free "enumerate") rfl),
    He.free_ok X G (c.fact 16 (f := .free "int") rfl),
    He.free_ok X G (c.fact 17 (f := .free "isinstance") rfl),
    He.free_ok X G (c.fact 18 (f := .free "len") rfl),
    He.free_ok X G (c.fact 19 (f := .free "list") rfl),
    He.free_ok X G (c.fact 20 (f := .free "max") rfl),
    He.free_ok X G (c.fact 21 (f := .free "range") rfl),
    He.free_ok X G (c.fact 22 (f := .free "set") rfl),
    He.free_ok X G (c.fact 23 (f := .free "sorted") rfl),
    He.free_ok X G (c.fact 24 (f := .free "str") rfl),
    He.free_ok X G (c.fact 25 (f := .free "sum") rfl),
    He.free_ok X G (c.fact 26 (f := .free "tuple") rfl),
    ex_ok X G cx 0 (p := ("comb", .builtin "math.comb")) rfl,
    He.int_ok X G (c.fact 27 (f := .int "MOST_VARIABLES" 6) rfl),
    He.int_ok X G (c.fact 28 (f := .int "MOST_DEGREE" 12) rfl),
    He.int_ok X G (c.fact 29 (f := .int "MOST_NUMBER" 1000000) rfl)⟩, ⟨⟨F0, He.glo_ok X G (c.fact 0 (f := .glo "is_int") rfl), F0.bindsN fun _ _ _ _ _ _ us hl => match us, hl with | [_], _ => rfl⟩,
    ⟨F1, He.glo_ok X G (c.fact 1 (f := .glo "is_in") rfl), F1.bindsN fun _ _ _ _ _ _ us hl => match us, hl with | [_, _, _], _ => rfl⟩,
    ⟨F2, He.glo_ok X G (c.fact 2 (f := .glo "expansion_of") rfl), F2.bindsN fun _ _ _ _ _ _ us hl => match us, hl with | [_, _], _ => rfl⟩,
    ⟨F3, He.glo_ok X G (c.fact 3 (f := .glo "grown_of") rfl), F3.bindsN fun _ _ _ _ _ _ us hl => match us, hl with | [_, _], _ => rfl⟩,
    ⟨F4, He.glo_ok X G (c.fact 4 (f := .glo "need_values") rfl), F4.bindsN fun _ _ _ _ _ _ us hl => match us, hl with | [_, _], _ => rfl⟩,
    ⟨F5, He.glo_ok X G (c.fact 5 (f := .glo "gap_of") rfl), F5.bindsN fun _ _ _ _ _ _ us hl => match us, hl with | [_, _], _ => rfl⟩,
    ⟨F6, He.glo_ok X G (c.fact 6 (f := .glo "growth_gap") rfl), F6.bindsN fun _ _ _ _ _ _ us hl => match us, hl with | [_, _], _ => rfl⟩,
    ⟨F7, He.glo_ok X G (c.fact 7 (f := .glo "_law_taken") rfl), F7.bindsN fun _ _ _ _ _ _ us hl => match us, hl with | [_, _], _ => rfl⟩,
    ⟨F8, He.glo_ok X G (c.fact 8 (f := .glo "_law_monos") rfl), F8.bindsN fun _ _ _ _ _ _ us hl => match us, hl with | [_, _], _ => rfl⟩,
    ⟨F9, He.glo_ok X G (c.fact 9 (f := .glo "_law_next") rfl), F9.bindsN fun _ _ _ _ _ _ us hl => match us, hl with | [_, _, _], _ => rfl⟩,
    ⟨F10, He.glo_ok X G (c.fact 10 (f := .glo "_law_most") rfl), F10.bindsN fun _ _ _ _ _ _ us hl => match us, hl with | [_, _], _ => rfl⟩,
    ⟨F11, He.glo_ok X G (c.fact 11 (f := .glo "_law_alike") rfl), F11.bindsN fun _ _ _ _ _ _ us hl => match us, hl with | [_, _], _ => rfl⟩,
    ⟨F12, He.glo_ok X G (c.fact 12 (f := .glo "law") rfl), F12.bindsN fun _ _ _ _ _ _ us hl => match us, hl with | [_], _ => rfl⟩⟩⟩
end K57

namespace K57
open Mp PySem L2
abbrev cl : Nat → List D → Mem → R D := run prog 9
def okV (r : R D) : Option D := match r with
  | .ok d [] => some d
  | _ => none
def isN : D → Bool
  | .non => true
  | _ => false
def isI (i : Int) : D → Bool
  | .int j => decide (j = i)
  | _ => false
def isT : D → Bool
  | .bl true => true
  | _ => false
def late (n : Int) : D → Bool
  | .non => true
  | .int j => decide (n ≤ j)
  | _ => false
/-- all that a round asks, and the rounds behind it -/
def node : Nat → Int → List D → Bool
  | 0, _, _ => true
  | k + 1, many, V => match okV (cl 10 [.int many, .tup V] []) with
    | some (.int most) => decide (0 ≤ most) && decide (most < 100) &&
      (okV (cl 6 [.int many, .tup (V ++ [.int most])] [])).any isN &&
      (okV (cl 6 [.int many, .tup (V ++ [.int (most + 1)])] [])).any (isI V.length) &&
      (okV (cl 11 [.int V.length, .int V.length] [])).any isT &&
      (List.range (most.toNat + 1)).all fun (x : Nat) =>
        (okV (cl 6 [.int many, .tup (V ++ [.int x])] [])).any isN &&
        ((List.range 3).all fun a => (List.range 3).all fun b => (okV (cl 6 [.int many, .tup (V ++ [.int x] ++ [.int a, .int b])] [])).any (late (V.length + 1))) &&
        node k many (V ++ [.int x])
    | _ => false
/-- the law's last words -/
def ends (many : Int) : Bool := (okV (cl 6 [.int many, .tup [.int 2, .int 0]] [])).any (isI 0) && (okV (cl 6 [.int many, .tup [.int 0, .int 1]] [])).any (isI 1) && (okV (cl 6 [.int many, .tup [.int 0, .int 0]] [])).any isN
theorem n1 : node 5 1 [.int 1] = true := by decide +kernel
theorem n3 : node 2 3 [.int 1] = true := by decide +kernel
theorem n2 : node 4 2 [.int 1] = true := by decide +kernel
theorem e1 : ends 1 = true := by decide +kernel
theorem e2 : ends 2 = true := by decide +kernel
theorem e3 : ends 3 = true := by decide +kernel
end K57

namespace K57
open Mp PySem L2
def loopB : List S := [.set 5 (.call 10 [(.var 2), (.var 3)]), .ite (.cmp .notN (.call 6 [(.var 2), (.bin .add (.var 3) (.tup [(.var 5)]))]) (.lit .non)) [.ret (.lit (.bl false))] [], .ite (.not (.call 11 [(.call 6 [(.var 2), (.bin .add (.var 3) (.tup [(.bin .add (.var 5) (.lit (.int 1)))]))]), (.bi .len [(.var 3)])])) [.ret (.lit (.bl false))] [], .set 3 (.bin .add (.var 3) (.tup [(.call 7 [(.var 1), (.bin .add (.var 5) (.lit (.int 1)))])])), .ite (.cmp .notN (.call 6 [(.var 2), (.var 3)]) (.lit .non)) [.ret (.lit (.bl false))] [], .set 6 (.bin .add (.var 3) (.bi .totup [(.comp (.call 7 [(.var 1), (.lit (.int 3))]) [7] true (.rng (.lit (.int 2))) (.lit (.bl true)) [7])])), .set 8 (.call 6 [(.var 2), (.var 6)]), .ite (.and (.cmp .notN (.var 8) (.lit .non)) (.cmp .lt (.var 8) (.bi .len [(.var 3)]))) [.ret (.lit (.bl false))] []]
theorem okV_any {r : R D} {p : D → Bool} (h : (okV r).any p = true) : ∃ d, r = .ok d [] ∧ p d = true := by
  unfold okV at h
  split at h
  · exact ⟨_, rfl, h⟩
  · cases h
theorem isN_eq {d : D} (h : isN d = true) : d = .non := by cases d <;> first | rfl | cases h
theorem isI_eq {d : D} {i : Int} (h : isI i d = true) : d = .int i := by
  cases d with
  | int j =>
    have e : j = i := of_decide_eq_true h
    rw [e]
  | _ => cases h
theorem isT_eq {d : D} (h : isT d = true) : d = .bl true := by
  cases d with
  | bl b => cases b with
    | true => rfl
    | false => cases h
  | _ => cases h
/-- the frame within the loop -/
def Env9 (ns : List Int) (many : Int) (V : List D) (r : Mp.Env) : Prop := ∃ a b c d e, r = [some (false, .lst (ns.map D.int)), some (false, .cell 0), some (false, .int many), some (false, .tup V), a, b, c, d, e]
theorem flatL_app : ∀ (xs ys : List D), D.flatL (xs ++ ys) = (D.flatL xs && D.flatL ys)
  | [], ys => rfl
  | x :: xs, ys => by rw [List.cons_append, D.flatL, D.flatL, flatL_app xs ys, Bool.and_assoc]
theorem range_mem {n x : Nat} (h : x < n) {p : Nat → Bool} (ha : (List.range n).all p = true) : p x = true := List.all_eq_true.mp ha x (List.mem_range.mpr h)
theorem turn {ns : List Int} {many : Int} {V : List D} {k : Nat} {r : Mp.Env} {m : Mem} (hn : node (k + 1) many V = true) (hr : Env9 ns many V r) (hg : Good ns m) (hf : D.flatL V = true) (hl : V.length ≤ 1000) (x : D) :
    ∃ r' m' z, evB cl loopB (r.set 4 (some (false, x))) m = .ok (.next, r') m' ∧ Env9 ns many (V ++ [.int z]) r' ∧ Good ns m' ∧ node k many (V ++ [.int z]) = true := by
  obtain ⟨a0, b0, c0, d0, e0, rfl⟩ := hr
  rw [node] at hn
  cases h10 : okV (cl 10 [.int many, .tup V] []) with
  | none => rw [h10] at hn; cases hn
  | some dm =>
    rw [h10] at hn
    cases dm with
    | int most =>
      simp only [Bool.and_eq_true, decide_eq_true_eq] at hn
      obtain ⟨⟨⟨⟨⟨p0, p1⟩, p2⟩, p3⟩, p4⟩, p5⟩ := hn
      have q10 : cl 10 [.int many, .tup V] [] = .ok (.int most) [] := by
        unfold okV at h10
        split at h10
        · cases h10; assumption
        · cases h10
      obtain ⟨dd, q2, z2⟩ := okV_any p2
      rw [isN_eq z2] at q2
      obtain ⟨dd, q3, z3⟩ := okV_any p3
      rw [isI_eq z3] at q3
      obtain ⟨dd, q4, z4⟩ := okV_any p4
      rw [isT_eq z4] at q4
      obtain ⟨y, m1, t1, y0, y1, g1⟩ := taken_ok (fs := prog) (i := 7) rfl 8 hg (many := most + 1) (by omega) (by omega)
      obtain ⟨a, m2, t2, a0', a1', g2⟩ := taken_ok (fs := prog) (i := 7) rfl 8 g1 (many := 3) (by omega) (by omega)
      obtain ⟨b, m3, t3, b0', b1', g3⟩ := taken_ok (fs := prog) (i := 7) rfl 8 g2 (many := 3) (by omega) (by omega)
      have p6 := range_mem (x := y.toNat) (by omega) p5
      simp only [Bool.and_eq_true] at p6
      obtain ⟨⟨r1, r2⟩, r3⟩ := p6
      rw [show ((y.toNat : Nat) : Int) = y by omega] at r1 r2 r3
      have r4 := range_mem (x := b.toNat) (by omega) (range_mem (x := a.toNat) (by omega) r2)
      rw [show ((a.toNat : Nat) : Int) = a by omega, show ((b.toNat : Nat) : Int) = b by omega] at r4
      obtain ⟨dd, q5, z5⟩ := okV_any r1
      rw [isN_eq z5] at q5
      obtain ⟨t, q6, z6⟩ := okV_any r4
      have t1' : cl 7 [.cell 0, .int (most + 1)] m = .ok (.int y) m1 := t1
      have t2' : cl 7 [.cell 0, .int 3] m1 = .ok (.int a) m2 := t2
      have t3' : cl 7 [.cell 0, .int 3] m2 = .ok (.int b) m3 := t3
      have hL : V.length ≤ 16777215 := by omega
      have hL2 : V.length + 1 + 2 ≤ 16777216 := by omega
      have q6' : cl 6 [.int many, .tup (V ++ [.int y, .int a, .int b])] [] = .ok t [] := by
        rw [List.append_assoc] at q6
        exact q6
      generalize hcl : cl = call at q10 q2 q3 q4 q5 q6 q6' t1' t2' t3' ⊢
      have tt : t = .non ∨ ∃ j, t = .int j ∧ ¬ j < (V.length : Int) + 1 := by
        cases t with
        | non => exact .inl rfl
        | int j =>
          have : (V.length : Int) + 1 ≤ j := of_decide_eq_true z6
          exact .inr ⟨j, rfl, by omega⟩
        | _ => cases z6
      refine ⟨[some (false, .lst (ns.map D.int)), some (false, .cell 0), some (false, .int many), some (false, .tup (V ++ [.int y])), some (false, x), some (false, .int most), some (false, .tup (V ++ [.int y, .int a, .int b])), d0, some (false, t)], m3, y, ?_, ⟨_, _, _, _, _, rfl⟩, g3, r3⟩
      rcases tt with rfl | ⟨j, rfl, hj⟩
      · simp [loopB, evB, evS, evE, evL, R.bind, R.calm, lift, getv, binV, cmpV, biV, seqOf, Mp.isNon, D.flat, D.flatL, flatL_app, hf, hL, hL2, q10, q2, q3, q4, q5, q6', t1', t2', t3', mapL, bindT, wipeE, rangeFrom, LINE]
      · simp [loopB, evB, evS, evE, evL, R.bind, R.calm, lift, getv, binV, cmpV, biV, seqOf, Mp.isNon, D.flat, D.flatL, flatL_app, hf, hL, hL2, q10, q2, q3, q4, q5, q6', t1', t2', t3', mapL, bindT, wipeE, rangeFrom, LINE, hj]
    | _ => cases hn

theorem law_body : f_law.body = [.cel 1 (.lst [(.var 0), (.lit (.int 0)), (.lit (.int 4157)), (.lit (.int 0))]), .set 2 (.bin .add (.lit (.int 1)) (.call 7 [(.var 1), (.lit (.int 3))])), .set 3 (.tup [(.lit (.int 1))]), .forS [4] true (.rng (.call 7 [(.var 1), (.idx (.lst [(.lit (.int 6)), (.lit (.int 5)), (.lit (.int 3))]) (.bin .sub (.var 2) (.lit (.int 1))))])) loopB, .ret (.and (.cmp .eq (.call 6 [(.var 2), (.tup [(.lit (.int 2)), (.lit (.int 0))])]) (.lit (.int 0))) (.and (.cmp .eq (.call 6 [(.var 2), (.tup [(.lit (.int 0)), (.lit (.int 1))])]) (.lit (.int 1))) (.cmp .isN (.call 6 [(.var 2), (.tup [(.lit (.int 0)), (.lit (.int 0))])]) (.lit .non))))] := rfl
abbrev turnF : D → Mp.Env → Mem → R (Fl × Mp.Env) := fun x r m => match bindT [4] true x r with
  | some r' => evB cl loopB r' m
  | none => .no
theorem rounds {ns : List Int} {many : Int} : ∀ (xs : List D) (k : Nat) (V : List D) (r : Mp.Env) (m : Mem), xs.length ≤ k → node k many V = true → Env9 ns many V r → Good ns m → D.flatL V = true → V.length + xs.length ≤ 1000 →
    ∃ r' m' V', forL turnF xs r m = .ok (.next, r') m' ∧ Env9 ns many V' r' ∧ Good ns m'
  | [], k, V, r, m, _, _, hr, hg, _, _ => ⟨r, m, V, rfl, hr, hg⟩
  | x :: xs, 0, V, r, m, hk, _, _, _, _, _ => by simp at hk
  | x :: xs, k + 1, V, r, m, hk, hn, hr, hg, hf, hl => by
    rw [List.length_cons] at hk hl
    obtain ⟨r1, m1, z, e1, hr1, hg1, hn1⟩ := turn hn hr hg hf (by omega) x
    obtain ⟨r2, m2, V2, e2, h3, h4⟩ := rounds xs k (V ++ [.int z]) r1 m1 (by omega) hn1 hr1 hg1 (by rw [flatL_app, hf]; rfl) (by rw [List.length_append, List.length_singleton]; omega)
    refine ⟨r2, m2, V2, ?_, h3, h4⟩
    have e1' : turnF x r m = .ok (.next, r1) m1 := e1
    show ((turnF x r m).bind fun q m => match q.1 with | .next => forL turnF xs q.2 m | .cnt => forL turnF xs q.2 m | .brk => .ok (.next, q.2) m | .ret d => .ok (.ret d, q.2) m) = _
    rw [e1']
    exact e2
theorem flat_ints : ∀ ns : List Int, D.flatL (ns.map D.int) = true
  | [] => rfl
  | n :: ns => by rw [List.map_cons, D.flatL, flat_ints ns]; rfl
theorem rng_length (lo : Int) : ∀ n, (rangeFrom lo n).length = n := fun n => by
  induction n generalizing lo with
  | zero => rfl
  | succ n ih => rw [rangeFrom, List.length_cons, ih]
theorem ends_of {many : Int} (h : ends many = true) : cl 6 [.int many, .tup [.int 2, .int 0]] [] = .ok (.int 0) [] ∧ cl 6 [.int many, .tup [.int 0, .int 1]] [] = .ok (.int 1) [] ∧ cl 6 [.int many, .tup [.int 0, .int 0]] [] = .ok .non [] := by
  unfold ends at h
  simp only [Bool.and_eq_true] at h
  obtain ⟨⟨a, b⟩, c⟩ := h
  obtain ⟨d1, q1, z1⟩ := okV_any a
  obtain ⟨d2, q2, z2⟩ := okV_any b
  obtain ⟨d3, q3, z3⟩ := okV_any c
  rw [isI_eq z1] at q1
  rw [isI_eq z2] at q2
  rw [isN_eq z3] at q3
  exact ⟨q1, q2, q3⟩
theorem okI (i : Int) : D.ok (.int i) = true := by simp [D.ok, D.pure, D.depth]
/-- from the first draw on -/
theorem law_from {ns : List Int} {y : Int} {w : Int} {k : Nat} {m1 : Mem} (hy : cl 7 [.cell 0, .int 3] (rowM ns 0 4157 0) = .ok (.int y) m1) (g1 : Good ns m1) (hw : atI [D.int 6, .int 5, .int 3] (1 + y - 1) = some (.int w)) (hw0 : 0 < w) (hwk : w ≤ (k : Int) + 1) (hk : k ≤ 100) (hn : node k (1 + y) [.int 1] = true) (he : ends (1 + y) = true) :
    ∃ r m, evB cl f_law.body (startE 9 [.lst (ns.map D.int)]) [] = .ok (.ret (.bl true), r) m := by
  obtain ⟨z, m2, t2, z0, z1, g2⟩ := taken_ok (fs := prog) (i := 7) rfl 8 g1 (many := w) hw0 (by omega)
  have t2' : cl 7 [.cell 0, .int w] m1 = .ok (.int z) m2 := t2
  obtain ⟨r3, m3, V3, e3, ⟨a, b, c, d, e, rfl⟩, g3⟩ := rounds (ns := ns) (many := 1 + y) (rangeFrom 0 z.toNat) k [.int 1] [some (false, .lst (ns.map D.int)), some (false, .cell 0), some (false, .int (1 + y)), some (false, .tup [.int 1]), none, none, none, none, none] m2 (by rw [rng_length]; omega) hn ⟨_, _, _, _, _, rfl⟩ g2 rfl (by rw [rng_length]; simp only [List.length_singleton]; omega)
  obtain ⟨q1, q2, q3⟩ := ends_of he
  unfold turnF at e3
  unfold rowM at hy
  have hz1 : decide (-((16777216 : Nat) : Int) ≤ z) = true := decide_eq_true (by omega)
  have hz2 : decide (z ≤ ((16777216 : Nat) : Int)) = true := decide_eq_true (by omega)
  generalize cl = call at hy t2' e3 q1 q2 q3 ⊢
  refine ⟨[some (false, .lst (ns.map D.int)), some (false, .cell 0), some (false, .int (1 + y)), some (false, .tup V3), a, b, c, d, e], m3, ?_⟩
  simp only [law_body, startE, List.map_cons, List.map_nil, List.length_cons, List.length_nil, Nat.reduceAdd, Nat.reduceSub, List.replicate, List.cons_append, List.nil_append, evB, evS, evE, evL, evI, R.bind, lift, getv, D.flatL, D.flat, flat_ints, Bool.and_true, if_true, List.set_cons_succ, List.set_cons_zero, List.getElem?_cons_succ, List.getElem?_cons_zero, hy, binV, hw, idxV, t2', Bool.false_eq_true, if_false, LINE, hz1, hz2, seqOf, Bool.and_self, e3, q1, q2, q3, cmpV, okI, Option.map_some, Mp.isNon, D.eqv, beq_self_eq_true]
  all_goals (erw [e3]; simp only [List.getElem?_cons_succ, List.getElem?_cons_zero, D.flatL, D.flat, Bool.and_self, if_true, q1, q2, q3, okI, Option.map_some, D.eqv, beq_self_eq_true, Mp.isNon])
theorem row0 (ns : List Int) : Good ns (rowM ns 0 4157 0) := ⟨0, 4157, 0, rfl, by decide, by decide, by decide, by decide⟩
/-- THE LAW, told by the evaluator -/
theorem law_run (ns : List Int) : Mp.run prog 10 12 [.lst (ns.map D.int)] [] = .ok (.bl true) [] := by
  obtain ⟨y, m1, t1, y0, y1, g1⟩ := taken_ok (fs := prog) (i := 7) rfl 8 (row0 ns) (many := 3) (by decide) (by decide)
  have key : ∃ r m, evB cl f_law.body (startE 9 [.lst (ns.map D.int)]) [] = .ok (.ret (.bl true), r) m := by
    have yy : y = 0 ∨ y = 1 ∨ y = 2 := by omega
    rcases yy with rfl | rfl | rfl
    · exact law_from (w := 6) (k := 5) t1 g1 rfl (by decide) (by decide) (by decide) n1 e1
    · exact law_from (w := 5) (k := 4) t1 g1 rfl (by decide) (by decide) (by decide) n2 e2
    · exact law_from (w := 3) (k := 2) t1 g1 rfl (by decide) (by decide) (by decide) n3 e3
  obtain ⟨r, m, e⟩ := key
  rw [Mp.run]
  show (match prog[12]? with | none => R.no | some fn => _) = _
  rw [show prog[12]? = some f_law from rfl]
  simp only
  rw [if_pos (show [D.lst (ns.map D.int)].length = f_law.pars from rfl), show f_law.slots = 9 from rfl, show Mp.run prog 9 = cl from rfl, e]
  simp only
  rw [if_pos (by rw [show scalar (D.bl true) = true from rfl, Bool.or_true])]
  rfl
end K57

set_option maxHeartbeats 0
open PySem PySem.W PySem.Calls PyProof.Rows
theorem PySem.Challenge.cw_idealcore_k57_whole_values_of_ideals_holds : PySem.Challenge.rw_idealcore_k57_whole_values_of_ideals.Holds := by
  w_on; o_law
  refine HandSHeadRun.head_imp (r := OpenLaw.row PySem.Challenge.rw_idealcore_k57_whole_values_of_ideals) (q := view (OpenLaw.row PySem.Challenge.rw_idealcore_k57_whole_values_of_ideals).prog [0, 23]) (H := K57.hk) (ob := K57.ob) (M := 20000) (loose := K57.loose) (d := HandSHeadRun.topDef (OpenLaw.row PySem.Challenge.rw_idealcore_k57_whole_values_of_ideals).prog 23) (kwd := []) K57.ob_eq
    K57.run_top (by kernel_rfl) (by kernel_rfl) (by kernel_rfl) (by rfl) (by first | assumption | decide +kernel) (by decide +kernel) ⟨rfl, rfl, rfl, rfl, rfl, by decide +kernel⟩ ?hw ?hc
  case hw => w_witness2
  case hc =>
    refine L2.walk_ofE (l := PySem.Challenge.rw_idealcore_k57_whole_values_of_ideals) (n := 63) (k := 10) (x := "script") (CX := L2.CX0) rfl (by decide) (by kernel_rfl) ⟨rfl, by decide, by decide⟩ ?F (fun _ _ _ _ z => z)
    intro w mg fa h Y G hmg0
    obtain ⟨K, KX, c, cx⟩ := Y
    have hmg : mg ("law" : PySem.Str) = some (.ref fa) := by
      have e : (HandSHeadRun.topDef (OpenLaw.row PySem.Challenge.rw_idealcore_k57_whole_values_of_ideals).prog 23).name = ("law" : PySem.Str) := by kernel_rfl
      rw [← e]
      exact hmg0
    obtain ⟨a, ea, g, D⟩ := K57.facts KX G c cx
    have e := hmg.symm.trans D.d12.g
    injection e with e
    injection e with e
    subst e
    have b := L2.FunD.bindsA (ps := ["script"]) D.d12.F fun _ _ _ _ _ _ us hl => match us, hl with | [_], _ => rfl
    exact ⟨K, a.fd12, _, KX, fun s v => b s [v] rfl, fun H x ns hl _ hS => Mp.law_sp hl hS (K57.law_run ns), fun base _ _ => (K57.hs_all (P := PySem.Challenge.rw_idealcore_k57_whole_values_of_ideals.prog) (w := w) (base := base) g D 10).h12 L2.E0⟩
