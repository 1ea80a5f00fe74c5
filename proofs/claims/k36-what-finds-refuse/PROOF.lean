import PyProof.Rows.All
import PySem.Challenge.RW_headtrees_k36_what_finds_refuse
import PyProof.ReprReads
import PyProof.P3Statements
import KE.SortData
import PyProof.StrBlockL
import HandS.ForMost
import HandS.Lambda
import HandS.Flow
import HandS.Wide
import HandS.Conv
import HandS.IsInst
import HandS.Deep
import HandS.DictComp
import HandS.TupAny
import PyProof.StrBlock2
import PyProof.Rows.StrMul
import HandS.Style
import PyProof.Draws
import HandS.Small
import HandS.ListItems
import PyProof.ReprRoads
import HandS.EndBits
import PyProof.Rows.SortStr
import PyProof.Rows.StrMeet
import HandS.Exc
import PyProof.InstStoreFacts
import OpenK.KOwn
import KE.KTryMore
import HandS.ExcIs
import HandS.ExcField
import HandS.EndTab
import HandS.Iter
import PyProof.ExcBaseAll.ValueError
import PyProof.ExcBaseAll.LookupError
import Wide.All
import OpenK.AllK
import Wide.FinOn
section
set_option autoImplicit false
namespace PV
open PySem

abbrev D := PyData
/-- what a value leans on: nothing (top: what it holds is only read), the part that is only read, the slot i (bort: a slot whose thing holds what is only read) -/
inductive M where
  | own | top | shr | bor (i : Nat) | bort (i : Nat)
  deriving DecidableEq, Repr
/-- own: all of it; top: the thing itself, what it holds is only read; shr: only read; io: handed in to be changed; iot: the same of the thing itself alone -/
inductive CK where
  | own | top | shr | io | iot
  deriving DecidableEq, Repr
structure Cell where
  k : CK
  d : D
abbrev Env := List (Option Cell)
inductive R (α : Type) where
  | ok (a : α) (ρ : Env)
  | exc (c : Nat) (fs : List D) (ρ : Env)
  | bad
def R.bind {α β : Type} (r : R α) (f : α → Env → R β) : R β :=
  match r with
  | .ok a ρ => f a ρ
  | .exc c fs ρ => .exc c fs ρ
  | .bad => .bad
def R.of {α : Type} (o : Option (α × Env)) : R α :=
  match o with
  | some (a, ρ) => .ok a ρ
  | none => .bad

mutual
/-- nothing in it can be changed -/
def im : D → Bool
  | .none => true
  | .bool _ => true
  | .int _ => true
  | .str _ => true
  | .list _ => false
  | .tuple xs => imAll xs
  | .dict _ => false
def imAll : List D → Bool
  | [] => true
  | x :: xs => im x && imAll xs
end
def getc (ρ : Env) (i : Nat) : Option Cell := (ρ[i]?).join
def frz (ρ : Env) (i : Nat) : Option Env :=
  match getc ρ i with
  | some ⟨.own, d⟩ => some (ρ.set i (some ⟨.shr, d⟩))
  | some ⟨.top, d⟩ => some (ρ.set i (some ⟨.shr, d⟩))
  | some ⟨.shr, _⟩ => some ρ
  | _ => none
def nrm (m : M) (d : D) : M := if im d then .own else m
/-- the value is kept by another one: is it its own from then on -/
def use (m : M) (d : D) (ρ : Env) : Option (Bool × Env) :=
  match nrm m d with
  | .own => some (true, ρ)
  | .top => some (false, ρ)
  | .shr => some (false, ρ)
  | .bor i => (frz ρ i).map fun r => (false, r)
  | .bort i => (frz ρ i).map fun r => (false, r)
/-- the value is kept by a name -/
def keep (m : M) (d : D) (ρ : Env) : Option (CK × Env) :=
  match nrm m d with
  | .own => some (.own, ρ)
  | .top => some (.top, ρ)
  | .shr => some (.shr, ρ)
  | .bor i => (frz ρ i).map fun r => (.shr, r)
  | .bort i => (frz ρ i).map fun r => (.shr, r)
/-- what is read off a thing -/
def elt (m : M) : M :=
  match m with
  | .top => .shr
  | .bort _ => .shr
  | _ => m
def ld (ρ : Env) (i : Nat) : Option (M × D) :=
  match getc ρ i with
  | some ⟨.shr, d⟩ => some (nrm .shr d, d)
  | some ⟨.top, d⟩ => some (nrm (.bort i) d, d)
  | some ⟨.iot, d⟩ => some (nrm (.bort i) d, d)
  | some ⟨_, d⟩ => some (nrm (.bor i) d, d)
  | none => none
def lk : M → List Nat
  | .bor i => [i]
  | .bort i => [i]
  | _ => []
def ownM (b : Bool) : M := if b then .own else .top
def ownK (b : Bool) : CK := if b then .own else .shr
abbrev SZ : Nat := 16777216

/-! ### data -/
/-- the place that i tells among n -/
def nth (n : Nat) (i : Int) : Option Nat := if 0 ≤ i then (if i < n then some i.toNat else none) else if -(n : Int) ≤ i then some (i + n).toNat else none
def keyOk : D → Bool
  | .int _ => true
  | .str _ => true
  | _ => false
def look (kvs : List (D × D)) (k : D) : Option D :=
  match kvs with
  | [] => none
  | (a, v) :: r => if PyData.eqv a k then some v else look r k
def putKV (kvs : List (D × D)) (k v : D) : List (D × D) :=
  match kvs with
  | [] => [(k, v)]
  | (a, u) :: r => if PyData.eqv a k then (a, v) :: r else (a, u) :: putKV r k v
def atD (d i : D) : Option D :=
  match d, i with
  | .list xs, .int i => (nth xs.length i).bind fun n => xs[n]?
  | .tuple xs, .int i => (nth xs.length i).bind fun n => xs[n]?
  | .dict kvs, k => if keyOk k then look kvs k else none
  | .str x, .int i => if x.length ≤ SZ then (nth x.cps.toList.length i).bind fun n => (x.cps.toList[n]?).map fun c => .str ⟨#[c]⟩ else none
  | _, _ => none
def putD (d i v : D) : Option D :=
  match d, i with
  | .list xs, .int i => (nth xs.length i).map fun n => .list (xs.set n v)
  | .dict kvs, k => if keyOk k && decide (kvs.length < SZ) then some (.dict (putKV kvs k v)) else none
  | _, _ => none
/-- a part of a part was changed: what the whole is then -/
def setIn (d i v : D) : Option D :=
  match d, i with
  | .tuple xs, .int i => (nth xs.length i).map fun n => .tuple (xs.set n v)
  | .list xs, .int i => (nth xs.length i).map fun n => .list (xs.set n v)
  | .dict kvs, k => if keyOk k then some (.dict (putKV kvs k v)) else none
  | _, _ => none
def updD (d : D) (path : List D) (f : D → Option D) : Option D :=
  match path with
  | [] => f d
  | i :: r => (atD d i).bind fun x => (updD x r f).bind fun y => setIn d i y
def atP (d : D) (path : List D) : Option D :=
  match path with
  | [] => some d
  | i :: r => (atD d i).bind fun x => atP x r
def truth : D → Option Bool
  | .none => some false
  | .bool b => some b
  | .int i => some (decide (i ≠ 0))
  | .str x => if x.length ≤ SZ then some (decide (x.length ≠ 0)) else none
  | .list xs => some (!xs.isEmpty)
  | .tuple xs => some (!xs.isEmpty)
  | .dict _ => none
def isB : D → Option Bool
  | .bool b => some b
  | _ => none
def eqO (a b : D) : Option Bool :=
  match a, b with
  | .int i, .int j => some (decide (i = j))
  | .str i, .str j => some (decide (i = j))
  | a, b => if SeqAt.shaped a && SeqAt.shaped b then some (PyData.eqv a b) else none
def flat : D → Bool
  | .none => true
  | .bool _ => true
  | .int _ => true
  | .str _ => true
  | _ => false
def inO (x c : D) : Option Bool :=
  match c with
  | .list xs => if SeqAt.shaped x && SeqAt.shaped (.list xs) then some (xs.any fun y => PyData.eqv y x) else none
  | .tuple xs => if flat x && xs.all flat then some (xs.any fun y => PyData.eqv y x) else none
  | .dict kvs => if keyOk x then some (look kvs x).isSome else none
  | .str y => match x with
    | .str z => some (!(Builtin.Str.occurrences y z 0 y.length 1).isEmpty)
    | _ => none
  | _ => none
/-- in a table of the module's top -/
def inG (x c : D) : Option Bool :=
  match c with
  | .tuple xs => if flat x && xs.all flat then some (xs.any fun y => PyData.eqv y x) else none
  | .dict kvs => match x with
    | .str _ => some (look kvs x).isSome
    | .int _ => some (look kvs x).isSome
    | _ => none
  | _ => none
/-- a bound of a part of n things -/
def clip (n d : Nat) : Option Int → Nat
  | none => d
  | some v => if v < 0 then (v + (n : Int)).toNat else min v.toNat n
def cut {α : Type} (xs : List α) (lo hi : Option Int) : List α := (xs.drop (clip xs.length 0 lo)).take (clip xs.length xs.length hi - clip xs.length 0 lo)

inductive BO where
  | add | sub | mul | fdiv | mod | pow | shl
  deriving DecidableEq, Repr
inductive CO where
  | eq | ne | lt | le | gt | ge | isin | notin | isN | notN | is | isnot
  deriving DecidableEq, Repr
inductive BI where
  | len | int | bool | str | repr | list | tuple | dict | max | min | sum | abs | sorted | any | all
  | isInt | isBool | isList | isTuple | isStr | dictOf | set | reprl
  deriving DecidableEq, Repr
inductive ME where
  | get | index | join | bitlen | keys | values | items
  deriving DecidableEq, Repr

def small (i : Int) : Bool := decide (-(2 ^ 64) < i) && decide (i < 2 ^ 64)
def wide (i : Int) : Bool := decide (i.natAbs.log2 < 400000)
def mulOk (i j : Int) : Bool := small i || small j || (wide i && wide j)
def arith (o : BO) (i j : Int) : Option Int :=
  match o with
  | .add => some (i + j)
  | .sub => some (i - j)
  | .mul => if mulOk i j then some (i * j) else none
  | .fdiv => if 0 < j && wide i && decide (j.natAbs.log2 < 8000) then some (i / j) else none
  | .mod => if 0 < j then some (i % j) else none
  | .pow => if 0 ≤ j && decide ((Builtin.Int.intBits i : Int) * j ≤ 2 ^ 20) then some (i ^ j.toNat) else none
  | .shl => if 0 ≤ j && decide (j ≤ 1000) && small i then some (i * 2 ^ j.toNat) else none
/-- o= -/
def arithA (o : BO) (i j : Int) : Option Int :=
  match o with
  | .add => some (i + j)
  | .sub => some (i - j)
  | .mul => if small i || small j then some (i * j) else none
  | .fdiv => if 0 < j && decide (j < 1073741824) then some (i / j) else none
  | .mod => if 0 < j then some (i % j) else none
  | _ => none
/-- the items go into a new thing -/
def use1 (m : M) (xs : List D) (ρ : Env) : Option (Bool × Env) :=
  if imAll xs then some (true, ρ) else use (elt m) (.list xs) ρ
def use2 (ma mb : M) (xs ys : List D) (ρ : Env) : Option (Bool × Env) :=
  match use1 ma xs ρ with
  | none => none
  | some (a, ρ1) => match use1 mb ys ρ1 with
    | none => none
    | some (b, ρ2) => some (a && b, ρ2)
def toI : D → Option Int
  | .int i => some i
  | _ => none
def binop (o : BO) (ma : M) (a : D) (mb : M) (b : D) (ρ : Env) : Option ((M × D) × Env) :=
  match a, b with
  | .int i, .int j => (arith o i j).map fun k => ((.own, .int k), ρ)
  | .str x, .str y => match o with
    | .add => if x.length + y.length ≤ SZ then some ((.own, .str (x ++ y)), ρ) else none
    | _ => none
  | .list xs, .list ys => match o with
    | .add => if xs.length + ys.length ≤ SZ then (use2 ma mb xs ys ρ).map fun (w, ρ') => ((ownM w, .list (xs ++ ys)), ρ') else none
    | _ => none
  | .tuple xs, .tuple ys => match o with
    | .add => if xs.length + ys.length ≤ SZ then (use2 ma mb xs ys ρ).map fun (w, ρ') => ((ownM w, .tuple (xs ++ ys)), ρ') else none
    | _ => none
  | .list xs, .int n => match o with
    | .mul => if xs.length * n.toNat ≤ SZ && (decide (-(2 ^ 62) ≤ n) && decide (n < 2 ^ 62)) then (match ma with
        | .own => some ((ownM (imAll xs), .list (List.replicate n.toNat xs).flatten), ρ)
        | .top => some ((.top, .list (List.replicate n.toNat xs).flatten), ρ)
        | _ => none) else none
    | _ => none
  | .str x, .int n => match o with
    | .mul => if x.length ≤ 16 && (decide (0 ≤ n) && decide (n ≤ 1000)) then some ((.own, .str (Txt.mul x n)), ρ) else none
    | _ => none
  | _, _ => none
def ltD (a b : D) : Option Bool :=
  match a, b with
  | .int i, .int j => some (decide (i < j))
  | .str x, .str y => some (decide (x.cps.toList < y.cps.toList))
  | _, _ => if PySem.W.alike a b then some (PySem.W.dataLt a b) else none
def ltI (a b : D) : Option Bool :=
  match a, b with
  | .int i, .int j => some (decide (i < j))
  | _, _ => none
def cmpop (o : CO) (a b : D) : Option Bool :=
  match o with
  | .eq => eqO a b
  | .ne => (eqO a b).map (!·)
  | .lt => ltI a b
  | .gt => ltI b a
  | .le => (ltI b a).map (!·)
  | .ge => (ltI a b).map (!·)
  | .isin => inO a b
  | .notin => (inO a b).map (!·)
  | .isN => match b with
    | .none => some (match a with | .none => true | _ => false)
    | _ => none
  | .notN => match b with
    | .none => some (match a with | .none => false | _ => true)
    | _ => none
  | .is => match a, b with
    | .bool d, .bool c => some (decide (d = c))
    | _, _ => none
  | .isnot => match a, b with
    | .bool d, .bool c => some (!decide (d = c))
    | _, _ => none

mutual
def allAlike : List D → Bool
  | [] => true
  | x :: xs => xs.all (fun y => PySem.W.alike x y) && allAlike xs
end
def sortD (xs : List D) : List D := xs.mergeSort fun a b => !PySem.W.dataLt b a
def maxOf : List D → Option D
  | [] => none
  | x :: xs => xs.foldl (fun m y => m.bind fun m => (ltD m y).map fun c => if c then y else m) (some x)
def minOf : List D → Option D
  | [] => none
  | x :: xs => xs.foldl (fun m y => m.bind fun m => (ltD y m).map fun c => if c then y else m) (some x)
def sumI : List D → Option Int
  | [] => some 0
  | x :: xs => (match x with | .int i => some i | .bool b => some (if b then 1 else 0) | _ => none).bind fun i => (sumI xs).map fun j => i + j
def catL : List D → Option (List D)
  | [] => some []
  | .list x :: xs => (catL xs).map fun y => x ++ y
  | _ => none
def itemsOf : D → Option (List D)
  | .list xs => some xs
  | .tuple xs => some xs
  | .dict kvs => some (kvs.map (·.1))
  | .str x => some (x.cps.toList.map fun c => .str ⟨#[c]⟩)
  | _ => none
def strsOf : List D → Option (List Str)
  | [] => some []
  | .str x :: r => (strsOf r).map fun l => x :: l
  | _ => none
def leS (a b : Str) : Bool := !decide (b.cps.toList < a.cps.toList)
def insS (x : Str) : List Str → List Str
  | [] => [x]
  | y :: r => if leS x y then x :: y :: r else y :: insS x r
def sortS : List Str → List Str
  | [] => []
  | x :: r => insS x (sortS r)
def indexOf (xs : List D) (y : D) : Option Nat := xs.findIdx? fun x => PyData.eqv x y
def pairsOf : List D → Option (List (D × D))
  | [] => some []
  | .tuple [k, v] :: r => if keyOk k then (pairsOf r).map fun l => (k, v) :: l else none
  | _ => none
def firsts (seen : List D) : List D → List D
  | [] => seen
  | x :: r => if seen.any (PyData.eqv x) then firsts seen r else firsts (seen ++ [x]) r
def intsOf : List D → Option (List Int)
  | [] => some []
  | .int i :: r => (intsOf r).map fun l => i :: l
  | _ => none
def maxI : List Int → Option Int
  | [] => none
  | x :: xs => some (xs.foldl (fun m y => if m < y then y else m) x)
def minI : List Int → Option Int
  | [] => none
  | x :: xs => some (xs.foldl (fun m y => if y < m then y else m) x)
/-- repr of a list of these things: all without dicts, or all flat or {} -/
def rpE : D → Bool
  | .dict [] => true
  | d => flat d
def rpL (ds : List D) : Option Str := if (PyData.canLayAll0 ds || ds.all rpE) && (PyData.list ds).showable && decide ((PyData.list ds).shown.length ≤ SZ) && decide ((PyData.list ds).depth ≤ 60) && decide (ds.length ≤ SZ) then some (PyData.list ds).shown else none
def bi (b : BI) (vs : List (M × D)) (ρ : Env) : Option ((M × D) × Env) :=
  match b, vs with
  | .len, [(_, d)] => match d with
    | .str x => if x.length ≤ SZ then some ((.own, .int x.length), ρ) else none
    | .list xs => some ((.own, .int xs.length), ρ)
    | .tuple xs => some ((.own, .int xs.length), ρ)
    | _ => none
  | .int, [(_, d)] => match d with
    | .int i => some ((.own, .int i), ρ)
    | .bool c => some ((.own, .int (if c then 1 else 0)), ρ)
    | _ => none
  | .bool, [(_, d)] => (truth d).map fun b => ((.own, .bool b), ρ)
  | .repr, [(_, d)] => match d with
    | .int i => if decide (i.natAbs.log2 < 1920) then some ((.own, .str (toString i)), ρ) else none
    | .str x => if (reprText x).length ≤ SZ then some ((.own, .str (reprText x)), ρ) else none
    | .none => none
    | .bool _ => none
    | d => if d.canLay0 && d.showable && decide (d.shown.length ≤ SZ) && decide (d.depth ≤ 60) then some ((.own, .str d.shown), ρ) else none
  | .str, [(_, .int i)] => if (PyData.int i).showable then some ((.own, .str (PyData.int i).shown), ρ) else none
  | .list, [(m, d)] => match d with
    | .list xs => (use1 m xs ρ).map fun (w, ρ') => ((ownM w, .list xs), ρ')
    | .tuple xs => (use1 m xs ρ).map fun (w, ρ') => ((ownM w, .list xs), ρ')
    | .dict kvs => some ((.own, .list (kvs.map (·.1))), ρ)
    | _ => none
  | .tuple, [(m, d)] => match d with
    | .tuple xs => some ((m, .tuple xs), ρ)
    | .list xs => (use1 m xs ρ).map fun (w, ρ') => ((ownM w, .tuple xs), ρ')
    | _ => none
  | .dict, [(m, d)] => match d with
    | .dict kvs => (use1 m (kvs.map (·.2)) ρ).map fun (w, ρ') => ((ownM w, .dict kvs), ρ')
    | .list ps => (pairsOf ps).bind fun kvs => (use1 m (kvs.map (·.2)) ρ).map fun (w, ρ') => ((ownM w, .dict (kvs.foldl (fun a p => putKV a p.1 p.2) [])), ρ')
    | _ => none
  | .dict, [] => some ((.own, .dict []), ρ)
  | .max, [(_, .list xs)] => (intsOf xs).bind fun l => (maxI l).map fun k => ((.own, .int k), ρ)
  | .max, [(_, .int i), (_, .int j)] => some ((.own, .int (if j > i then j else i)), ρ)
  | .min, [(_, .list xs)] => (intsOf xs).bind fun l => (minI l).map fun k => ((.own, .int k), ρ)
  | .min, [(_, .int i), (_, .int j)] => some ((.own, .int (if j < i then j else i)), ρ)
  | .sum, [(_, .list xs)] => (intsOf xs).map fun l => ((.own, .int l.sum), ρ)
  | .abs, [(_, .int i)] => some ((.own, .int (if i < 0 then -i else i)), ρ)
  | .sorted, [(_, .list xs)] => (strsOf xs).bind fun ys => if ys.length < 64 then some ((.own, .list ((sortS ys).map .str)), ρ) else none
  | .any, [(_, .list xs)] => if xs.all (fun d => (isB d).isSome) then some ((.own, .bool (xs.any fun d => (isB d).getD false)), ρ) else none
  | .all, [(_, .list xs)] => if xs.all (fun d => (isB d).isSome) then some ((.own, .bool (xs.all fun d => (isB d).getD false)), ρ) else none
  | .isInt, [(_, d)] => some ((.own, .bool (match d with | .int _ => true | .bool _ => true | _ => false)), ρ)
  | .isBool, [(_, d)] => some ((.own, .bool (match d with | .bool _ => true | _ => false)), ρ)
  | .isList, [(_, d)] => some ((.own, .bool (match d with | .list _ => true | _ => false)), ρ)
  | .isTuple, [(_, d)] => some ((.own, .bool (match d with | .tuple _ => true | _ => false)), ρ)
  | .reprl, vs => (rpL (vs.map (·.2))).map fun x => ((.own, .str x), ρ)
  | .isStr, [(_, d)] => some ((.own, .bool (match d with | .str _ => true | _ => false)), ρ)
  | _, _ => none
def bitLen (i : Int) : Int := if i = 0 then 0 else (i.natAbs.log2 + 1 : Nat)
def me (o : ME) (m : M) (d : D) (vs : List (M × D)) (ρ : Env) : Option ((M × D) × Env) :=
  match o, d, vs with
  | .get, .dict kvs, [(_, k)] => if keyOk k then (match look kvs k with | some v => some ((nrm (elt m) v, v), ρ) | none => some ((.own, .none), ρ)) else none
  | .get, .dict kvs, [(_, k), (m2, e)] => if keyOk k then (match look kvs k with | some v => some ((nrm (elt m) v, v), ρ) | none => some ((nrm m2 e, e), ρ)) else none
  | .index, .list xs, [(_, y)] => if SeqAt.shaped (.list xs) && SeqAt.shaped y then (indexOf xs y).map fun (n : Nat) => ((.own, .int (n : Int)), ρ) else none
  | .join, .str sep, [(_, .list xs)] => (strsOf xs).bind fun ys => if (ys.map (·.length)).sum + ys.length * sep.length ≤ SZ then some ((.own, .str (Txt.join sep ys)), ρ) else none
  | .bitlen, .int i, [] => some ((.own, .int (bitLen i)), ρ)
  | .values, .dict kvs, [] => (use1 m (kvs.map (·.2)) ρ).map fun (w, ρ') => ((ownM w, .list (kvs.map (·.2))), ρ')
  | .keys, .dict kvs, [] => some ((.own, .list (kvs.map (·.1))), ρ)
  | .items, .dict kvs, [] => (use1 m (kvs.map (·.2)) ρ).map fun (w, ρ') => ((ownM w, .list (kvs.map fun p => .tuple [p.1, p.2])), ρ')
  | _, _, _ => none

/-! ### syntax -/
/-- what a def tells of an error: a text, or the repr of a tag and the error's one field -/
inductive Ans where
  | txt (x : Str)
  | rep (tag : Str)
/-- what a def tells of a call: of one that went well, of one that raised an error of the class c -/
structure Tel where
  non : Str
  tab : List (Nat × Ans)
def Tel.ans (t : Tel) (c : Nat) (fs : List D) : Option Str :=
  match t.tab.lookup c with
  | none => none
  | some (.txt x) => some x
  | some (.rep tag) => match fs with
    | [d] => rpL [.str tag, d]
    | _ => none
inductive Tg where
  | nm (i : Nat)
  | tp (ts : Tg)
  | nil
  | cons (a b : Tg)
  deriving Repr
inductive Ex where
  | con (d : D)
  | var (i : Nat)
  | mv (i : Nat)
  | glob (x : Nat)
  | inG (neg : Bool) (a : Ex) (x : Nat)
  | subG (x : Nat) (a : Ex)
  | bin (o : BO) (a b : Ex)
  | neg (a : Ex)
  | not (a : Ex)
  | cmp (o : CO) (a b : Ex)
  | chain (o p : CO) (a b c : Ex)
  | and (es : Ex)
  | or (es : Ex)
  | ite (c a b : Ex)
  | lst (es : Ex)
  | tup (es : Ex)
  | dct (kvs : Ex)
  | sub (a i : Ex)
  | slc (a lo hi : Ex)
  | rev (a : Ex)
  | call (f : Nat) (es : Ex)
  | callk (f : Nat) (es : Ex) (perm : List Nat)
  | bi (b : BI) (es : Ex)
  | bii (b : BI) (it : Ex)
  | lvals (a : Ex)
  | lrng (es : Ex)
  | tv (a : Ex)
  | itr (a : Ex)
  | me (o : ME) (a : Ex) (es : Ex)
  | pop (x : Nat) (path : Ex) (i : Ex)
  | lc (tg : Tg) (own : List Nat) (it : Ex) (ifs : Ex) (e : Ex)
  | lc2 (tg : Tg) (own : List Nat) (it : Ex) (ifs : Ex) (tg2 : Tg) (own2 : List Nat) (it2 : Ex) (ifs2 : Ex) (e : Ex)
  | dc (tg : Tg) (own : List Nat) (it : Ex) (ifs : Ex) (k v : Ex)
  | io (i : Nat)
  | iot (i : Nat)
  | rng (es : Ex)
  | enum (a : Ex)
  | zip (a b : Ex)
  | tld (t : Tel) (f : Nat) (es : Ex)
  | rng3 (a b c : Ex)
  | nil
  | cons (a b : Ex)
inductive St where
  | asg (tg : Tg) (e : Ex)
  | put (x : Nat) (path : Ex) (i : Ex) (e : Ex)
  | aug (x : Nat) (o : BO) (e : Ex)
  | augp (x : Nat) (i : Ex) (o : BO) (e : Ex)
  | app (x : Nat) (path : Ex) (e : Ex)
  | clr (x : Nat) (path : Ex)
  | exp (e : Ex)
  | ite (c : Ex) (a b : St)
  | whl (c : Ex) (a : St)
  | for_ (tg : Tg) (it : Ex) (a : St)
  | forown (tg : Tg) (e : Ex) (a : St)
  | forio (i : Nat) (x : Nat) (a : St)
  | ret (e : Ex)
  | retn
  | pass
  | brk
  | cnt
  | never
  | raise (c : Nat) (es : Ex)
  | callx (f : Nat) (es : Ex)
  | safe (a : St)
  | itx (c : Ex) (a b : St)
  | forx (tg : Tg) (it : Ex) (a : St)
  | nil
  | cons (a b : St)

structure Arg where
  k : CK
  d : D
  src : Option Nat
inductive CR where
  | ret (m : M) (d : D) (ios : List (Option D))
  | exc (c : Nat) (fs : List D)
  | bad
structure Ctx where
  call : Nat → List (CK × D) → CR
  glob : Nat → Option D
  w : Nat

def setv (L : List Nat) (ρ : Env) (i : Nat) (w : CK) (d : D) : Option Env :=
  if w = .io || w = .iot then none else
  if L.contains i then none else
  match getc ρ i with
  | some ⟨.io, _⟩ => none
  | some ⟨.iot, _⟩ => none
  | _ => if i < ρ.length then some (ρ.set i (some ⟨w, d⟩)) else none
mutual
def asgT (L : List Nat) : Tg → CK → D → Env → Option Env
  | .nm i, w, d, ρ => setv L ρ i w d
  | .tp ts, w, .tuple xs, ρ => asgTs L ts (if w = .top then .shr else w) xs ρ
  | _, _, _, _ => none
def asgTs (L : List Nat) : Tg → CK → List D → Env → Option Env
  | .nil, _, [], ρ => some ρ
  | .cons t ts, w, x :: xs, ρ => (asgT L t w x ρ).bind fun ρ' => asgTs L ts w xs ρ'
  | _, _, _, _ => none
end
def wipe (ρ : Env) (is : List Nat) : Env := is.foldl (fun r i => r.set i none) ρ
def back (ρ ρ' : Env) (is : List Nat) : Env := is.foldl (fun r i => r.set i (ρ[i]?).join) ρ'
/-- the argument by which the slot i was handed in to be changed -/
def ioAt (as : List Arg) (i : Nat) : Option Nat := as.findIdx? fun a => (match a.k with | .io => true | .iot => true | _ => false) && decide (a.src = some i)
/-- was a part of the slot i handed in to be read -/
def lentAt (as : List Arg) (i : Nat) : Bool := as.any fun a => (match a.k with | .shr => true | _ => false) && decide (a.src = some i)
/-- behind the call: what was handed in to be changed comes back, what was read may have been kept -/
def aftC (as : List Arg) (ios : List (Option D)) (fr : Bool) (i : Nat) (c : Option Cell) : Option Cell :=
  match ioAt as i with
  | some j => match c, (ios[j]?).join with
    | some c, some d => some ⟨(match c.k, (as[j]?).map Arg.k with | .own, some .iot => .top | k, _ => k), d⟩
    | _, _ => none
  | none => if fr && lentAt as i then (match c with
      | some ⟨.own, d⟩ => some ⟨.shr, d⟩
      | some ⟨.top, d⟩ => some ⟨.shr, d⟩
      | some ⟨.shr, d⟩ => some ⟨.shr, d⟩
      | _ => none) else c
def aft (as : List Arg) (ios : List (Option D)) (fr : Bool) (ρ : Env) : Env := ρ.zipIdx.map fun p => aftC as ios fr p.2 p.1
/-- behind a call that raised -/
def killIo (as : List Arg) (ρ : Env) : Env := ρ.zipIdx.map fun p => if (ioAt as p.2).isSome then none else p.1
def argsOk : List Arg → Bool
  | [] => true
  | a :: r => r.all (fun b => a.src.isNone || !decide (a.src = b.src) || (match a.k, b.k with | .shr, .shr => true | _, _ => false)) && argsOk r
/-- behind a call: may what was lent to it have been kept -/
def lent (m : M) (as : List Arg) : Bool := (match m with | .own => false | _ => true) || as.any fun a => (match a.k with | .iot => true | _ => false)
def doCall (C : Ctx) (f : Nat) (as : List Arg) (ρ : Env) : R (M × D) :=
  if argsOk as then
    match C.call f (as.map fun a => (a.k, a.d)) with
    | .ret m d ios => match m with
      | .bor _ => .bad
      | .bort _ => .bad
      | m => .ok (nrm m d, d) (aft as ios (lent m as) ρ)
    | .exc c fs => .exc c fs (killIo as ρ)
    | .bad => .bad
  else .bad
/-- is nothing handed in to be changed -/
def noIo (as : List Arg) : Bool := as.all fun a => match a.k with | .io => false | .iot => false | _ => true
/-- what a def tells of a call -/
def doTld (C : Ctx) (t : Tel) (f : Nat) (as : List Arg) (ρ : Env) : R (M × D) :=
  if argsOk as && noIo as then
    match C.call f (as.map fun a => (a.k, a.d)) with
    | .ret _ _ _ => .ok (.own, .str t.non) ρ
    | .exc c fs => match t.ans c fs with
      | some x => .ok (.own, .str x) ρ
      | none => .bad
    | .bad => .bad
  else .bad
/-- what raises nothing -/
def R.safe {α : Type} (r : R α) : R α :=
  match r with
  | .exc _ _ _ => .bad
  | r => r
/-- a loop that builds a list -/
def loopC (L : List Nat) (own : List Nat) (tg : Tg) (test : Env → R Bool) (elt : Env → R (Bool × List D)) : List (Bool × D) → Env → R (Bool × List D)
  | [], ρ => .ok (true, []) ρ
  | (w, x) :: r, ρ => match asgT L tg (ownK w) x (wipe ρ own) with
    | none => .bad
    | some ρ1 => (test ρ1).bind fun c ρ2 =>
      if c then (elt ρ2).bind fun (w1, ys) ρ3 => (loopC L own tg test elt r ρ3).bind fun (w2, zs) ρ4 => .ok (w1 && w2, ys ++ zs) ρ4
      else loopC L own tg test elt r ρ2
inductive Fl where
  | nx | brk | ct | ret (m : M) (d : D)
def loopF (L : List Nat) (tg : Tg) (body : Env → R Fl) : List (Bool × D) → Env → R Fl
  | [], ρ => .ok .nx ρ
  | (w, x) :: r, ρ => match asgT L tg (ownK w) x ρ with
    | none => .bad
    | some ρ1 => (body ρ1).bind fun f ρ2 => match f with
      | .nx => loopF L tg body r ρ2
      | .ct => loopF L tg body r ρ2
      | .brk => .ok .nx ρ2
      | .ret m d => .ok (.ret m d) ρ2
/-- over the items of the slot x, which the body may change; x is taken away meanwhile -/
def loopIO (i x : Nat) (k : CK) (body : Env → R Fl) : List D → List D → Env → R Fl
  | done, [], ρ => .ok .nx (ρ.set x (some ⟨k, .list done⟩))
  | done, d :: r, ρ => if ρ.length ≤ i then .bad else (body (ρ.set i (some ⟨.own, d⟩))).bind fun f ρ2 => match f with
    | .nx => match getc ρ2 i, getc ρ2 x with
      | some ⟨.own, d'⟩, none => loopIO i x k body (done ++ [d']) r (ρ2.set i none)
      | _, _ => .bad
    | .ret m d => .ok (.ret m d) ρ2
    | _ => .bad
def loopW (test : Env → R Bool) (body : Env → R Fl) : Nat → Env → R Fl
  | 0, _ => .bad
  | n + 1, ρ => (test ρ).bind fun c ρ1 => if c then (body ρ1).bind fun f ρ2 => match f with
      | .nx => loopW test body n ρ2
      | .ct => loopW test body n ρ2
      | .brk => .ok .nx ρ2
      | .ret m d => .ok (.ret m d) ρ2
    else .ok .nx ρ1
def isBox : D → Bool
  | .list _ => true
  | .dict _ => true
  | _ => false
def isDict : D → Bool
  | .dict _ => true
  | _ => false
def isOwn : CK → Bool
  | .own => true
  | .io => true
  | _ => false
/-- is there something, no text, at the path -/
def holdAt (d : D) (ps : List D) : Bool :=
  match atP d ps with
  | some (.str _) => false
  | some _ => true
  | none => false
def appD (y v : D) : Option D :=
  match y with
  | .list xs => if xs.length < SZ then some (.list (xs ++ [v])) else none
  | _ => none
def isNew : M → Bool
  | .own => true
  | .top => true
  | _ => false
def extD (y : D) (zs : List D) : Option D :=
  match y with
  | .list xs => if xs.length + zs.length ≤ SZ then some (.list (xs ++ zs)) else none
  | _ => none
def clrD (y : D) : Option D :=
  match y with
  | .list _ => some (.list [])
  | _ => none
/-- may a thing of the kind k be changed so that it holds a new part (w: its own one); at: the thing itself, not one that it holds -/
def stK (k : CK) (w : Bool) (at_ : Bool) : Option CK :=
  match k with
  | .own => if w then some .own else if at_ then some .top else none
  | .top => if at_ then some .top else none
  | .io => if w then some .io else none
  | .iot => if at_ then some .iot else none
  | .shr => none
def popD (n : Nat) (y : D) : Option D :=
  match y with
  | .list xs => some (.list (xs.eraseIdx n))
  | _ => none
/-- what is taken out: the place and the thing, a flat one -/
def popAt (i : Option Int) (d : D) (ps : List D) : Option (Nat × D) :=
  match atP d ps with
  | some (.list xs) => if SZ < xs.length then none else (nth xs.length (i.getD (-1))).bind fun n => (xs[n]?).bind fun y => if flat y then some (n, y) else none
  | _ => none
/-- is there a list that can be changed -/
def listAt (ρ : Env) (x : Nat) (ps : List D) : Bool :=
  match getc ρ x with
  | some ⟨k, d⟩ => (isOwn k || ps.isEmpty) && (match atP d ps with | some (.list _) => true | _ => false)
  | none => false
/-- the items of something, one after the other; what is read meanwhile -/
def walkO (m : M) (d : D) (xs : List D) (ρ : Env) : Option ((List (Bool × D) × List Nat) × Env) :=
  if imAll xs then some ((xs.map fun x => (true, x), lk m), ρ)
  else match m with
    | .bort i => some ((xs.map fun x => (false, x), [i]), ρ)
    | m => (use m d ρ).map fun (_, ρ') => ((xs.map fun x => (false, x), []), ρ')
/-- a list's or a tuple's -/
def seqOf : D → Option (List D)
  | .list xs => some xs
  | .tuple xs => some xs
  | _ => none
def rangeD (lo hi : Int) : List D := (List.range (hi - lo).toNat).map fun (k : Nat) => .int (lo + (k : Int))
def rngS (lo hi st : Int) : List D :=
  if st > 0 then (List.range ((hi - lo + st - 1) / st).toNat).map fun (k : Nat) => .int (lo + (k : Int) * st)
  else (List.range ((lo - hi + (-st) - 1) / (-st)).toNat).map fun (k : Nat) => .int (lo + (k : Int) * st)
def ints62 (vs : List D) : Option (List Int) :=
  match vs with
  | [] => some []
  | .int i :: r => if decide (-(2 ^ 62) ≤ i) && decide (i < 2 ^ 62) then (ints62 r).map fun l => i :: l else none
  | _ => none
def rngO (vs : List D) : Option (List D) :=
  match ints62 vs with
  | some [hi] => some (rangeD 0 hi)
  | some [lo, hi] => some (rangeD lo hi)
  | _ => none

/-- range(lo, hi, st) -/
def rngO3 (vs : List D) : Option (List D) :=
  match vs with
  | [.int lo, .int hi, .int st] => if decide (st ≠ 0) && decide (st.natAbs < 1073741824) && Builtin.Range.small lo hi st && decide (0 ≤ Builtin.Range.rangeSize lo hi st) then some ((List.range (Builtin.Range.rangeSize lo hi st).toNat).map fun (k : Nat) => .int (lo + (k : Int) * st)) else none
  | _ => none

mutual
def ev (C : Ctx) (L : List Nat) : Ex → Env → R (M × D)
  | .con d, ρ => .ok (.own, d) ρ
  | .var i, ρ => R.of ((ld ρ i).map fun v => (v, ρ))
  | .mv i, ρ => if L.contains i then .bad else match getc ρ i with
    | some ⟨.own, d⟩ => .ok (.own, d) (ρ.set i none)
    | some ⟨.top, d⟩ => .ok (.top, d) (ρ.set i none)
    | some ⟨.shr, d⟩ => .ok (nrm .shr d, d) ρ
    | _ => .bad
  | .glob x, ρ => match C.glob x with
    | some (.int i) => .ok (.own, .int i) ρ
    | some (.str z) => .ok (.own, .str z) ρ
    | _ => .bad
  | .inG neg a x, ρ => (ev C L a ρ).bind fun (_, da) ρ1 => match C.glob x with
    | some c => match inG da c with
      | some b => .ok (.own, .bool (if neg then !b else b)) ρ1
      | none => .bad
    | none => .bad
  | .subG x a, ρ => (ev C L a ρ).bind fun (_, da) ρ1 => match C.glob x with
    | some (.dict kvs) => match da with
      | .str z => match look kvs (.str z) with
        | some (.int i) => .ok (.own, .int i) ρ1
        | some (.str z) => .ok (.own, .str z) ρ1
        | _ => .bad
      | _ => .bad
    | _ => .bad
  | .bin o a b, ρ => (ev C L a ρ).bind fun (ma, da) ρ1 => (ev C (lk ma ++ L) b ρ1).bind fun (mb, db) ρ2 => R.of (binop o ma da mb db ρ2)
  | .neg a, ρ => (ev C L a ρ).bind fun (_, da) ρ1 => match da with
    | .int i => .ok (.own, .int (-i)) ρ1
    | _ => .bad
  | .not a, ρ => (evt C L a ρ).bind fun c ρ1 => .ok (.own, .bool (!c)) ρ1
  | .cmp o a b, ρ => (ev C L a ρ).bind fun (ma, da) ρ1 => (ev C (lk ma ++ L) b ρ1).bind fun (_, db) ρ2 => match cmpop o da db with
    | some c => .ok (.own, .bool c) ρ2
    | none => .bad
  | .chain o p a b c, ρ => (ev C L a ρ).bind fun (ma, da) ρ1 => (ev C (lk ma ++ L) b ρ1).bind fun (mb, db) ρ2 => match cmpop o da db with
    | some false => .ok (.own, .bool false) ρ2
    | some true => (ev C (lk mb ++ L) c ρ2).bind fun (_, dc) ρ3 => match cmpop p db dc with
      | some c => .ok (.own, .bool c) ρ3
      | none => .bad
    | none => .bad
  | .and es, ρ => evAnd C L es ρ
  | .or es, ρ => evOr C L es ρ
  | .ite c a b, ρ => (evt C L c ρ).bind fun t ρ1 => if t then ev C L a ρ1 else ev C L b ρ1
  | .lst es, ρ => (evd C L es ρ).bind fun (w, ds) ρ1 => if ds.length ≤ SZ then .ok (ownM w, .list ds) ρ1 else .bad
  | .tup es, ρ => (evd C L es ρ).bind fun (w, ds) ρ1 => if ds.length ≤ SZ then .ok (nrm (ownM w) (.tuple ds), .tuple ds) ρ1 else .bad
  | .dct kvs, ρ => (evkv C L kvs ρ).bind fun (w, ps) ρ1 => .ok (ownM w, .dict (ps.foldl (fun a p => putKV a p.1 p.2) [])) ρ1
  | .sub a i, ρ => (ev C L a ρ).bind fun (ma, da) ρ1 => (ev C (lk ma ++ L) i ρ1).bind fun (_, di) ρ2 => match atD da di with
    | some d => .ok (nrm (elt ma) d, d) ρ2
    | none => .bad
  | .slc a lo hi, ρ => (ev C L a ρ).bind fun (ma, da) ρ1 => (evo C (lk ma ++ L) lo ρ1).bind fun lo ρ2 => (evo C (lk ma ++ L) hi ρ2).bind fun hi ρ3 => match da with
    | .list xs => R.of ((use1 ma (cut xs lo hi) ρ3).map fun (w, ρ') => ((ownM w, .list (cut xs lo hi)), ρ'))
    | .tuple xs => R.of ((use1 ma (cut xs lo hi) ρ3).map fun (w, ρ') => ((nrm (ownM w) (.tuple (cut xs lo hi)), .tuple (cut xs lo hi)), ρ'))
    | .str x => if x.length ≤ SZ then .ok (.own, .str ⟨(cut x.cps.toList lo hi).toArray⟩) ρ3 else .bad
    | _ => .bad
  | .rev a, ρ => (ev C L a ρ).bind fun (ma, da) ρ1 => match da with
    | .list xs => R.of ((use1 ma xs ρ1).map fun (w, ρ') => ((ownM w, .list xs.reverse), ρ'))
    | _ => .bad
  | .call f es, ρ => (eva C L es ρ).bind fun as ρ1 => doCall C f as ρ1
  | .callk f es perm, ρ => (eva C L es ρ).bind fun as ρ1 => doCall C f (perm.filterMap fun j => as[j]?) ρ1
  | .tld t f es, ρ => (eva C L es ρ).bind fun as ρ1 => doTld C t f as ρ1
  | .bi b es, ρ => (evs C L es ρ).bind fun vs ρ1 => R.of (bi b vs ρ1)
  | .me o a es, ρ => (ev C L a ρ).bind fun (ma, da) ρ1 => (evs C (lk ma ++ L) es ρ1).bind fun vs ρ2 => R.of (me o ma da vs ρ2)
  | .pop x path i, ρ => (evp C (x :: L) x path ρ).bind fun ps ρ1 => if !listAt ρ1 x ps then .bad else (evo C (x :: L) i ρ1).bind fun i ρ2 =>
    if L.contains x then .bad else match getc ρ2 x with
    | none => .bad
    | some ⟨k, d⟩ => match stK k true ps.isEmpty with
      | none => .bad
      | some k' => match popAt i d ps with
        | none => .bad
        | some (n, y) => match updD d ps (popD n) with
          | some d' => .ok (.own, y) (ρ2.set x (some ⟨k', d'⟩))
          | none => .bad
  | .lc tg own it ifs e, ρ => (evi C L it ρ).bind fun (items, ls) ρ1 => if own.any (ls ++ L).contains then .bad else
    (loopC (ls ++ L) own tg (fun r => evts C (ls ++ L) ifs r) (fun r => (ev C (ls ++ L) e r).bind fun (m, d) r1 => R.of ((use m d r1).map fun (w, r2) => ((w, [d]), r2))) items ρ1).bind fun (w, ds) ρ2 =>
      if ds.length ≤ SZ then .ok (ownM w, .list ds) (back ρ1 ρ2 own) else .bad
  | .lc2 tg own it ifs tg2 own2 it2 ifs2 e, ρ => (evi C L it ρ).bind fun (items, ls) ρ1 => if own.any (ls ++ L).contains then .bad else
    (loopC (ls ++ L) own tg (fun r => evts C (ls ++ L) ifs r) (fun r => (evi C (ls ++ L) it2 r).bind fun (items2, ls2) r1 => if own2.any (ls2 ++ ls ++ L).contains then .bad else
      loopC (ls2 ++ ls ++ L) own2 tg2 (fun r => evts C (ls2 ++ ls ++ L) ifs2 r) (fun r => (ev C (ls2 ++ ls ++ L) e r).bind fun (m, d) r1 => R.of ((use m d r1).map fun (w, r2) => ((w, [d]), r2))) items2 r1) items ρ1).bind fun (w, ds) ρ2 =>
      if ds.length ≤ SZ then .ok (ownM w, .list ds) (back ρ1 ρ2 own) else .bad
  | .dc tg own it ifs k v, ρ => (evi C L it ρ).bind fun (items, ls) ρ1 => if own.any (ls ++ L).contains then .bad else
    (loopC (ls ++ L) own tg (fun r => evts C (ls ++ L) ifs r) (fun r => (ev C (ls ++ L) k r).bind fun (_, dk) r1 => if keyOk dk then (ev C (ls ++ L) v r1).bind fun (m, d) r2 => R.of ((use m d r2).map fun (w, r3) => ((w, [.tuple [dk, d]]), r3)) else .bad) items ρ1).bind fun (w, ds) ρ2 =>
      if ds.length ≤ SZ then (match pairsOf ds with
      | some ps => .ok (ownM w, .dict (ps.foldl (fun a p => putKV a p.1 p.2) [])) (back ρ1 ρ2 own)
      | none => .bad) else .bad
  | .io _, _ => .bad
  | .iot _, _ => .bad
  | .rng _, _ => .bad
  | .rng3 _ _ _, _ => .bad
  | .enum _, _ => .bad
  | .zip _ _, _ => .bad
  | .tv _, _ => .bad
  | .itr _, _ => .bad
  | .bii b it, ρ => (evi C L it ρ).bind fun (items, _) ρ1 => R.of (bi b [(ownM (items.all (·.1)), .list (items.map (·.2)))] ρ1)
  | .lvals a, ρ => (ev C L a ρ).bind fun (m, d) ρ1 => match d with
    | .dict kvs => R.of ((use1 m (kvs.map (·.2)) ρ1).map fun (w, ρ') => ((ownM w, .list (kvs.map (·.2))), ρ'))
    | _ => .bad
  | .lrng es, ρ => (evs C L es ρ).bind fun vs ρ1 => match rngO (vs.map (·.2)) with
    | some xs => if xs.length ≤ SZ then .ok (.own, .list xs) ρ1 else .bad
    | none => .bad
  | .nil, _ => .bad
  | .cons _ _, _ => .bad
/-- an operand that may be left out -/
def evo (C : Ctx) (L : List Nat) : Ex → Env → R (Option Int)
  | .nil, ρ => .ok none ρ
  | .cons a _, ρ => (ev C L a ρ).bind fun (_, d) ρ1 => match d with
    | .int i => .ok (some i) ρ1
    | _ => .bad
  | _, _ => .bad
def evs (C : Ctx) (L : List Nat) : Ex → Env → R (List (M × D))
  | .nil, ρ => .ok [] ρ
  | .cons a b, ρ => (ev C L a ρ).bind fun (m, d) ρ1 => (evs C (lk m ++ L) b ρ1).bind fun vs ρ2 => .ok ((m, d) :: vs) ρ2
  | _, _ => .bad
def evp (C : Ctx) (L : List Nat) (x : Nat) : Ex → Env → R (List D)
  | .nil, ρ => if (getc ρ x).isSome then .ok [] ρ else .bad
  | .cons a b, ρ => (evp C L x a ρ).bind fun ps ρ1 => (ev C L b ρ1).bind fun (_, key) ρ2 => match getc ρ2 x with
    | some ⟨k, d⟩ => if isOwn k && holdAt d (ps ++ [key]) then .ok (ps ++ [key]) ρ2 else .bad
    | none => .bad
  | _, _ => .bad
def evd (C : Ctx) (L : List Nat) : Ex → Env → R (Bool × List D)
  | .nil, ρ => .ok (true, []) ρ
  | .cons a b, ρ => (ev C L a ρ).bind fun (m, d) ρ1 => match use m d ρ1 with
    | none => .bad
    | some (w, ρ2) => (evd C L b ρ2).bind fun (w2, ds) ρ3 => .ok (w && w2, d :: ds) ρ3
  | _, _ => .bad
def evkv (C : Ctx) (L : List Nat) : Ex → Env → R (Bool × List (D × D))
  | .nil, ρ => .ok (true, []) ρ
  | .cons k (.cons a b), ρ => (ev C L k ρ).bind fun (_, dk) ρ0 => if keyOk dk then (ev C L a ρ0).bind fun (_, d) ρ1 => if flat d then (evkv C L b ρ1).bind fun (w2, ds) ρ3 => .ok (w2, (dk, d) :: ds) ρ3 else .bad
    else .bad
  | _, _ => .bad
def eva (C : Ctx) (L : List Nat) : Ex → Env → R (List Arg)
  | .nil, ρ => .ok [] ρ
  | .cons (.io i) b, ρ => if L.contains i || (getc ρ i).isNone then .bad else (eva C L b ρ).bind fun as ρ1 => match getc ρ1 i with
    | some ⟨.own, d⟩ => .ok (⟨.io, d, some i⟩ :: as) ρ1
    | some ⟨.io, d⟩ => .ok (⟨.io, d, some i⟩ :: as) ρ1
    | _ => .bad
  | .cons (.iot i) b, ρ => if L.contains i || (getc ρ i).isNone then .bad else (eva C L b ρ).bind fun as ρ1 => match getc ρ1 i with
    | some ⟨.own, d⟩ => if isBox d then .ok (⟨.iot, d, some i⟩ :: as) ρ1 else .bad
    | some ⟨.top, d⟩ => if isBox d then .ok (⟨.iot, d, some i⟩ :: as) ρ1 else .bad
    | some ⟨.iot, d⟩ => if isBox d then .ok (⟨.iot, d, some i⟩ :: as) ρ1 else .bad
    | _ => .bad
  | .cons a b, ρ => (ev C L a ρ).bind fun (m, d) ρ1 => (eva C (lk m ++ L) b ρ1).bind fun as ρ2 =>
    match m with
    | .own => .ok (⟨.own, d, none⟩ :: as) ρ2
    | .top => .ok (⟨.shr, d, none⟩ :: as) ρ2
    | .shr => .ok (⟨.shr, d, none⟩ :: as) ρ2
    | .bor i => .ok (⟨.shr, d, some i⟩ :: as) ρ2
    | .bort i => .ok (⟨.shr, d, some i⟩ :: as) ρ2
  | _, _ => .bad
/-- and, or: all but the last are bools or all are asked by truth -/
def evAnd (C : Ctx) (L : List Nat) : Ex → Env → R (M × D)
  | .cons a .nil, ρ => ev C L a ρ
  | .cons a b, ρ => (ev C L a ρ).bind fun (m, d) ρ1 => match truth d with
    | some true => evAnd C L b ρ1
    | some false => .ok (m, d) ρ1
    | none => .bad
  | _, _ => .bad
def evOr (C : Ctx) (L : List Nat) : Ex → Env → R (M × D)
  | .cons a .nil, ρ => ev C L a ρ
  | .cons a b, ρ => (ev C L a ρ).bind fun (m, d) ρ1 => match truth d with
    | some true => .ok (m, d) ρ1
    | some false => evOr C L b ρ1
    | none => .bad
  | _, _ => .bad
def evt (C : Ctx) (L : List Nat) : Ex → Env → R Bool
  | .not a, ρ => (evt C L a ρ).bind fun c ρ1 => .ok (!c) ρ1
  | .and es, ρ => evtAnd C L es ρ
  | .or es, ρ => evtOr C L es ρ
  | .tv a, ρ => (ev C L a ρ).bind fun (_, d) ρ1 => match truth d with
    | some b => .ok b ρ1
    | none => .bad
  | _, _ => .bad
def evtAnd (C : Ctx) (L : List Nat) : Ex → Env → R Bool
  | .cons a .nil, ρ => evt C L a ρ
  | .cons a b, ρ => (evt C L a ρ).bind fun c ρ1 => if c then evtAnd C L b ρ1 else .ok false ρ1
  | _, _ => .bad
def evtOr (C : Ctx) (L : List Nat) : Ex → Env → R Bool
  | .cons a .nil, ρ => evt C L a ρ
  | .cons a b, ρ => (evt C L a ρ).bind fun c ρ1 => if c then .ok true ρ1 else evtOr C L b ρ1
  | _, _ => .bad
/-- all of the tests of a comprehension -/
def evts (C : Ctx) (L : List Nat) : Ex → Env → R Bool
  | .nil, ρ => .ok true ρ
  | .cons a b, ρ => (evt C L a ρ).bind fun c ρ1 => if c then evts C L b ρ1 else .ok false ρ1
  | _, _ => .bad
def evi (C : Ctx) (L : List Nat) : Ex → Env → R (List (Bool × D) × List Nat)
  | .rng es, ρ => (evs C L es ρ).bind fun vs ρ1 => match rngO (vs.map (·.2)) with
    | some xs => .ok (xs.map fun x => (true, x), []) ρ1
    | none => .bad
  | .rng3 a b c, ρ => (ev C L a ρ).bind fun (ma, da) ρ1 => (ev C (lk ma ++ L) b ρ1).bind fun (mb, db) ρ2 => (ev C (lk mb ++ (lk ma ++ L)) c ρ2).bind fun (_, dc) ρ3 => match rngO3 [da, db, dc] with
    | some xs => .ok (xs.map fun x => (true, x), []) ρ3
    | none => .bad
  | .enum a, ρ => (ev C L a ρ).bind fun (m, d) ρ1 => match d with
    | .list xs => (R.of (walkO m d xs ρ1)).bind fun (its, ls) ρ2 => .ok ((its.zipIdx 0).map fun (p, i) => (p.1, .tuple [.int i, p.2]), ls) ρ2
    | .str x => .ok ((x.cps.toList.zipIdx 0).map fun (c, i) => (true, .tuple [.int (i : Nat), .str ⟨#[c]⟩]), []) ρ1
    | _ => .bad
  | .zip a b, ρ => (ev C L a ρ).bind fun (m, d) ρ1 => (ev C (lk m ++ L) b ρ1).bind fun (m2, d2) ρ2 => match d, d2 with
    | .list xs, .list ys => (R.of (walkO m d xs ρ2)).bind fun (its, ls) ρ3 => (R.of (walkO m2 d2 ys ρ3)).bind fun (its2, ls2) ρ4 =>
      .ok ((its.zip its2).map fun (p, q) => (p.1 && q.1, .tuple [p.2, q.2]), ls ++ ls2) ρ4
    | _, _ => .bad
  | .itr a, ρ => (ev C L a ρ).bind fun (m, d) ρ1 => match d with
    | .list xs => R.of (walkO m d xs ρ1)
    | .tuple xs => R.of (walkO m d xs ρ1)
    | .str x => .ok (x.cps.toList.map fun c => (true, .str ⟨#[c]⟩), []) ρ1
    | _ => .bad
  | _, _ => .bad
end

def tgT : Tg → List Nat
  | .nm i => [i]
  | .tp ts => tgT ts
  | .nil => []
  | .cons a b => tgT a ++ tgT b
/-- the names that a statement gives anew -/
def tgs : St → List Nat
  | .asg tg _ => tgT tg
  | .aug x _ _ => [x]
  | .ite _ a b => tgs a ++ tgs b
  | .whl _ a => tgs a
  | .for_ tg _ a => tgT tg ++ tgs a
  | .forown tg _ a => tgT tg ++ tgs a
  | .forio i _ a => i :: tgs a
  | .cons a b => tgs a ++ tgs b
  | .safe a => tgs a
  | .itx _ a b => tgs a ++ tgs b
  | .forx tg _ a => tgT tg ++ tgs a
  | _ => []
def exec (C : Ctx) (L : List Nat) : St → Env → R Fl
  | .asg tg e, ρ => (ev C L e ρ).bind fun (m, d) ρ1 => match keep m d ρ1 with
    | none => .bad
    | some (w, ρ2) => R.of ((asgT L tg w d ρ2).map fun ρ3 => (.nx, ρ3))
  | .put x path i e, ρ => (ev C L e ρ).bind fun (m, v) ρ1 => match use m v ρ1 with
    | none => .bad
    | some (w, ρ2) => (evp C (x :: L) x path ρ2).bind fun ps ρ3 => (ev C (x :: L) i ρ3).bind fun (_, di) ρ4 =>
      if L.contains x then .bad else match getc ρ4 x with
      | none => .bad
      | some ⟨k, d⟩ => match stK k w ps.isEmpty with
        | none => .bad
        | some k' => match updD d ps (fun y => putD y di v) with
          | some d' => .ok .nx (ρ4.set x (some ⟨k', d'⟩))
          | none => .bad
  | .aug x o e, ρ => if (getc ρ x).isNone then .bad else (ev C (x :: L) e ρ).bind fun (mb, b) ρ1 => match getc ρ1 x with
    | none => .bad
    | some ⟨_, a⟩ => match a, b with
      | .int i, .int j => match arithA o i j with
        | none => .bad
        | some c => R.of ((setv L ρ1 x .own (.int c)).map fun ρ2 => (.nx, ρ2))
      | .str y, .str z => if o = .add && decide (y.length + z.length ≤ SZ) then R.of ((setv L ρ1 x .own (.str (y ++ z))).map fun ρ2 => (.nx, ρ2)) else .bad
      | .list _, .list zs => if o = .add && !L.contains x && isNew mb then (match use1 mb zs ρ1 with
        | none => .bad
        | some (w, ρ2) => match getc ρ2 x with
          | some ⟨k, .list xs⟩ => match stK k w true with
            | some k' => if xs.length + zs.length ≤ SZ then .ok .nx (ρ2.set x (some ⟨k', .list (xs ++ zs)⟩)) else .bad
            | none => .bad
          | _ => .bad) else .bad
      | _, _ => .bad
  | .augp x i o e, ρ => if (getc ρ x).isNone then .bad else (ev C (x :: L) i ρ).bind fun (_, di) ρ1 => match getc ρ1 x with
    | none => .bad
    | some ⟨_, d⟩ => if !isDict d then .bad else match atD d di with
      | some (.int a) => (ev C (x :: L) e ρ1).bind fun (_, b) ρ2 => match b with
        | .int b => match arithA o a b with
          | none => .bad
          | some c => if L.contains x then .bad else match getc ρ2 x with
            | some ⟨k, d2⟩ => match (if isDict d2 then stK k true true else none) with
              | none => .bad
              | some k' => match putD d2 di (.int c) with
                | some d' => .ok .nx (ρ2.set x (some ⟨k', d'⟩))
                | none => .bad
            | none => .bad
        | _ => .bad
      | _ => .bad
  | .app x path e, ρ => (evp C (x :: L) x path ρ).bind fun ps ρ1 => if !listAt ρ1 x ps then .bad else (ev C (x :: L) e ρ1).bind fun (m, v) ρ2 => match use m v ρ2 with
    | none => .bad
    | some (w, ρ3) => if L.contains x then .bad else match getc ρ3 x with
      | none => .bad
      | some ⟨k, d⟩ => match stK k w ps.isEmpty with
        | none => .bad
        | some k' => match updD d ps (fun y => appD y v) with
          | some d' => .ok .nx (ρ3.set x (some ⟨k', d'⟩))
          | none => .bad
  | .clr x path, ρ => (evp C (x :: L) x path ρ).bind fun ps ρ1 => if !listAt ρ1 x ps then .bad else if L.contains x then .bad else match getc ρ1 x with
      | none => .bad
      | some ⟨k, d⟩ => match stK k true ps.isEmpty with
        | none => .bad
        | some k' => match updD d ps clrD with
          | some d' => .ok .nx (ρ1.set x (some ⟨k', d'⟩))
          | none => .bad
  | .exp e, ρ => (ev C L e ρ).bind fun _ ρ1 => .ok .nx ρ1
  | .ite c a b, ρ => (evt C L c ρ).bind fun t ρ1 => if t then exec C L a ρ1 else exec C L b ρ1
  | .whl c a, ρ => loopW (fun r => evt C L c r) (fun r => exec C L a r) C.w ρ
  | .for_ tg it a, ρ => (evi C L it ρ).bind fun (items, ls) ρ1 => loopF (ls ++ L) tg (fun r => exec C (ls ++ L) a r) items ρ1
  | .forown tg e a, ρ => (ev C L e ρ).bind fun (m, d) ρ1 => match m, d with
    | .own, .list xs => loopF L tg (fun r => exec C L a r) (xs.map fun x => (true, x)) ρ1
    | _, _ => .bad
  | .forio i x a, ρ => if L.contains x || L.contains i || decide (i = x) || (tgs a).contains i || (tgs a).contains x || !decide (i < ρ.length) then .bad else match getc ρ i with
    | some ⟨.io, _⟩ => .bad
    | some ⟨.iot, _⟩ => .bad
    | _ => match getc ρ x with
      | some ⟨k, .list xs⟩ => if isOwn k then loopIO i x k (fun r => exec C (x :: L) a r) [] xs ((ρ.set i none).set x none) else .bad
      | _ => .bad
  | .ret e, ρ => (ev C L e ρ).bind fun (m, d) ρ1 => .ok (.ret m d) ρ1
  | .retn, ρ => .ok (.ret .own .none) ρ
  | .pass, ρ => .ok .nx ρ
  | .brk, ρ => .ok .brk ρ
  | .cnt, ρ => .ok .ct ρ
  | .never, _ => .bad
  | .raise c es, ρ => (evs C L es ρ).safe.bind fun vs ρ1 => .exc c (vs.map (·.2)) ρ1
  | .callx f es, ρ => (eva C L es ρ).safe.bind fun as ρ1 => if noIo as then (doCall C f as ρ1).bind fun _ ρ2 => .ok .nx ρ2 else .bad
  | .safe a, ρ => (exec C L a ρ).safe
  | .itx c a b, ρ => (evt C L c ρ).safe.bind fun t ρ1 => if t then exec C L a ρ1 else exec C L b ρ1
  | .forx tg it a, ρ => (evi C L it ρ).safe.bind fun (items, ls) ρ1 => loopF (ls ++ L) tg (fun r => exec C (ls ++ L) a r) items ρ1
  | .nil, ρ => .ok .nx ρ
  | .cons a b, ρ => (exec C L a ρ).bind fun f ρ1 => match f with
    | .nx => exec C L b ρ1
    | .brk => .ok .brk ρ1
    | .ct => .ok .ct ρ1
    | .ret m d => .ok (.ret m d) ρ1

structure Def where
  np : Nat
  ns : Nat
  body : St
def iosOf (T : List Nat) : List (CK × D) → Nat → Env → Option (List (Option D))
  | [], _, _ => some []
  | (.io, _) :: r, j, ρ => match getc ρ j with
    | some ⟨.io, d⟩ => if T.contains j then none else (iosOf T r (j + 1) ρ).map fun l => some d :: l
    | _ => none
  | (.iot, _) :: r, j, ρ => match getc ρ j with
    | some ⟨.iot, d⟩ => if T.contains j then none else (iosOf T r (j + 1) ρ).map fun l => some d :: l
    | _ => none
  | _ :: r, j, ρ => (iosOf T r (j + 1) ρ).map fun l => none :: l
def finish (T : List Nat) (args : List (CK × D)) (m : M) (d : D) (ρ : Env) : CR :=
  match iosOf T args 0 ρ with
  | none => .bad
  | some ios => match nrm m d with
    | .own => .ret .own d ios
    | .top => .ret .top d ios
    | .shr => .ret .shr d ios
    | .bor i => match getc ρ i with
      | some ⟨.own, _⟩ => .ret .shr d ios
      | _ => .bad
    | .bort i => match getc ρ i with
      | some ⟨.top, _⟩ => .ret .shr d ios
      | _ => .bad
def callD (defs : List Def) (glob : List D) (w : Nat) : Nat → Nat → List (CK × D) → CR
  | 0, _, _ => .bad
  | n + 1, f, args => match defs[f]? with
    | none => .bad
    | some df => if args.length = df.np then
        match exec ⟨callD defs glob w n, fun x => glob[x]?, w⟩ [] df.body (args.map (fun a => some ⟨a.1, a.2⟩) ++ List.replicate (df.ns - df.np) none) with
        | .ok .nx ρ => finish (tgs df.body) args .own .none ρ
        | .ok (.ret m d) ρ => finish (tgs df.body) args m d ρ
        | .ok _ _ => .bad
        | .exc c fs _ => .exc c fs
        | .bad => .bad
      else .bad
end PV
end

section
set_option Elab.async false
set_option linter.all false
set_option autoImplicit false
set_option maxRecDepth 100000
/-! what the trees of PV stand for in the abstract heap -/
namespace PV
open PySem PySem.Spec PyProof.Rows L2

/-- the tables of code objects that the program's lambdas have, with the lambdas' names -/
class Tbs where
  T : List (Addr × Str)
/-- a thing that is neither a table nor a code object -/
structure nt (H : Hp) (a : Addr) : Prop where
  so : H a ≠ none
  tb : ∀ ps, H a ≠ some (.tbl ps)
  ex : ∀ φ, H a ≠ some (.ext φ)
instance {H : Hp} {a : Addr} : CoeFun (nt H a) (fun _ => H a = none → False) := ⟨fun n => n.so⟩
theorem nt.eq {H H' : Hp} {a : Addr} (n : nt H a) (e : H' a = H a) : nt H' a := ⟨by rw [e]; exact n.so, by rw [e]; exact n.tb, by rw [e]; exact n.ex⟩
theorem nt.lst {H : Hp} {a : Addr} {xs : List V} (e : H a = some (.lst xs)) : nt H a := ⟨(by rw [e]; intro z; cases z), fun ps => (by rw [e]; intro z; cases z), fun ps => (by rw [e]; intro z; cases z)⟩
theorem nt.tup {H : Hp} {a : Addr} {xs : List V} (e : H a = some (.tup xs)) : nt H a := ⟨(by rw [e]; intro z; cases z), fun ps => (by rw [e]; intro z; cases z), fun ps => (by rw [e]; intro z; cases z)⟩
theorem nt.dK {H : Hp} {a : Addr} {xs : List (Key × V)} (e : H a = some (.dK xs)) : nt H a := ⟨(by rw [e]; intro z; cases z), fun ps => (by rw [e]; intro z; cases z), fun ps => (by rw [e]; intro z; cases z)⟩
theorem nt.frz {H : Hp} {a : Addr} {o : Obj} {u : HO} (e : H a = some (.frz o u)) : nt H a := ⟨(by rw [e]; intro z; cases z), fun ps => (by rw [e]; intro z; cases z), fun ps => (by rw [e]; intro z; cases z)⟩
/-- neither a table nor a code object -/
structure Pl (o : HO) : Prop where
  tb : ∀ ps, o ≠ .tbl ps
  ex : ∀ φ, o ≠ .ext φ
theorem Pl.nt {H : Hp} {a : Addr} {o : HO} (p : Pl o) (e : H a = some o) : nt H a := ⟨fun z => (by rw [e] at z; cases z), fun ps z => p.tb ps (by rw [e] at z; cases z; rfl), fun ps z => p.ex ps (by rw [e] at z; cases z; rfl)⟩
theorem Tabs_upd {T : List (Addr × Str)} {H : Hp} {a : Addr} {o : HO} (t : LamX.Tabs T H) (n : H a = none ∨ nt H a) : LamX.Tabs T (upd H a o) := fun p hp => by
  obtain ⟨ps, h1, h2, h3⟩ := t p hp
  have na : ∀ {b : Addr} {u : HO}, H b = some u → ((∃ ps, u = .tbl ps) ∨ ∃ φ, u = .ext φ) → b ≠ a := fun {b u} e k z => by
    subst z
    rcases n with n | n
    · rw [n] at e; cases e
    · rcases k with ⟨ps, rfl⟩ | ⟨φ, rfl⟩
      · exact n.tb ps e
      · exact n.ex φ e
  refine ⟨ps, by rw [upd_ne (na h1 (.inl ⟨ps, rfl⟩))]; exact h1, h2, fun pos cv hc => ?_⟩
  obtain ⟨c, e1, e2⟩ := h3 pos cv hc
  exact ⟨c, e1, by rw [upd_ne (na e2 (.inr ⟨_, rfl⟩))]; exact e2⟩
variable [Tbs]
/-- a list of the written part -/
def KL (K : PySem.W.Frag) (a : Addr) (xs : List V) : Prop :=
  ∃ (o : Obj) (its : Array Value) (n : Nat), K.lookup a = some o ∧ o.cls = .type "list" ∧ o.dict = none ∧ o.data = .seq its n ∧ its.size ≤ sizeLine ∧ Vals xs its.toList
def LsA (K : PySem.W.Frag) (H : Hp) (R : Addr → Prop) (a : Addr) (xs : List V) : Prop := (R a ∧ Rd H a (.lst xs)) ∨ KL K a xs
def TuA (_ : PySem.W.Frag) (H : Hp) (a : Addr) (xs : List V) : Prop := H a = some (.tup xs)
theorem LsA.sq {K : PySem.W.Frag} {H : Hp} {R : Addr → Prop} {a : Addr} {xs : List V} (h : LsA K H R a xs) : SqL K H a xs := h.elim (fun x => .inl x.2) .inr
theorem TuA.sq {K : PySem.W.Frag} {H : Hp} {a : Addr} {xs : List V} (h : TuA K H a xs) : SqT K H a xs := .inl (.inl h)
/-- a key as a datum -/
def kD : Key → D
  | .inl i => .int i
  | .inr x => .str x
def ksD (k : List Key) : D := .tuple (k.map kD)
/-- at a, in what holds: a dict of these keys and values -/
def DcA (u : HO) (ks : List D) (vs : List V) : Prop := ∃ l : List (Key × V), u = .dK l ∧ l.map (fun p => kD p.1) = ks ∧ l.map (·.2) = vs ∧ (l.map (·.1)).Nodup

/-! ### what is only read: everything lies in R -/
mutual
def RpS (K : PySem.W.Frag) (H : Hp) (R : Addr → Prop) : D → V → Prop
  | .none, v => v = .non
  | .bool b, v => v = .bl b
  | .int i, v => v = .int i
  | .str x, v => v = .str x
  | .list ds, v => ∃ a vs, v = .ref a ∧ LsA K H R a vs ∧ RpSs K H R ds vs
  | .tuple ds, v => ∃ a vs, v = .ref a ∧ TuA K H a vs ∧ RpSs K H R ds vs
  | .dict kvs, v => ∃ a u vs, v = .ref a ∧ R a ∧ Rd H a u ∧ DcA u (kvs.map (·.1)) vs ∧ RpSk K H R kvs vs
def RpSs (K : PySem.W.Frag) (H : Hp) (R : Addr → Prop) : List D → List V → Prop
  | [], vs => vs = []
  | d :: ds, vs => ∃ v r, vs = v :: r ∧ RpS K H R d v ∧ RpSs K H R ds r
def RpSk (K : PySem.W.Frag) (H : Hp) (R : Addr → Prop) : List (D × D) → List V → Prop
  | [], vs => vs = []
  | (_, d) :: ds, vs => ∃ v r, vs = v :: r ∧ RpS K H R d v ∧ RpSk K H R ds r
end
/-! ### what is its own: the places in f, each once -/
mutual
def RpO (K : PySem.W.Frag) (H : Hp) : D → V → List Addr → Prop
  | .none, v, f => v = .non ∧ f = []
  | .bool b, v, f => v = .bl b ∧ f = []
  | .int i, v, f => v = .int i ∧ f = []
  | .str x, v, f => v = .str x ∧ f = []
  | .list ds, v, f => ∃ a vs g, v = .ref a ∧ H a = some (.lst vs) ∧ f = a :: g ∧ RpOs K H ds vs g
  | .tuple ds, v, f => ∃ a vs, v = .ref a ∧ TuA K H a vs ∧ RpOs K H ds vs f
  | .dict kvs, v, f => ∃ a u vs g, v = .ref a ∧ H a = some u ∧ DcA u (kvs.map (·.1)) vs ∧ f = a :: g ∧ RpOk K H kvs vs g
def RpOs (K : PySem.W.Frag) (H : Hp) : List D → List V → List Addr → Prop
  | [], vs, f => vs = [] ∧ f = []
  | d :: ds, vs, f => ∃ v r g h, vs = v :: r ∧ f = g ++ h ∧ RpO K H d v g ∧ RpOs K H ds r h
def RpOk (K : PySem.W.Frag) (H : Hp) : List (D × D) → List V → List Addr → Prop
  | [], vs, f => vs = [] ∧ f = []
  | (_, d) :: ds, vs, f => ∃ v r g h, vs = v :: r ∧ f = g ++ h ∧ RpO K H d v g ∧ RpOk K H ds r h
end
theorem RpSk_iff {K : PySem.W.Frag} {H : Hp} {R : Addr → Prop} : ∀ {kvs : List (D × D)} {vs : List V}, RpSk K H R kvs vs ↔ RpSs K H R (kvs.map (·.2)) vs
  | [], vs => by simp only [RpSk, RpSs, List.map_nil]
  | (k, d) :: r, vs => by
    simp only [RpSk, RpSs, List.map_cons]
    exact ⟨fun ⟨v, q, e, h1, h2⟩ => ⟨v, q, e, h1, RpSk_iff.mp h2⟩, fun ⟨v, q, e, h1, h2⟩ => ⟨v, q, e, h1, RpSk_iff.mpr h2⟩⟩
theorem RpOk_iff {K : PySem.W.Frag} {H : Hp} : ∀ {kvs : List (D × D)} {vs : List V} {f : List Addr}, RpOk K H kvs vs f ↔ RpOs K H (kvs.map (·.2)) vs f
  | [], vs, f => by simp only [RpOk, RpOs, List.map_nil]
  | (k, d) :: r, vs, f => by
    simp only [RpOk, RpOs, List.map_cons]
    exact ⟨fun ⟨v, q, g, h, e, e2, h1, h2⟩ => ⟨v, q, g, h, e, e2, h1, RpOk_iff.mp h2⟩, fun ⟨v, q, g, h, e, e2, h1, h2⟩ => ⟨v, q, g, h, e, e2, h1, RpOk_iff.mpr h2⟩⟩
/-- the thing itself is its own, what it holds is only read -/
def RpT (K : PySem.W.Frag) (H : Hp) (R : Addr → Prop) (d : D) (v : V) (f : List Addr) : Prop :=
  match d with
  | .list ds => ∃ a vs, v = .ref a ∧ H a = some (.lst vs) ∧ f = [a] ∧ RpSs K H R ds vs
  | .dict kvs => ∃ a u vs, v = .ref a ∧ H a = some u ∧ DcA u (kvs.map (·.1)) vs ∧ f = [a] ∧ RpSk K H R kvs vs
  | d => RpS K H R d v ∧ f = []

section
variable {K : PySem.W.Frag} {H H' : Hp} {R R' : Addr → Prop}
def TupS (H H' : Hp) : Prop := ∀ a xs, H a = some (.tup xs) → H' a = some (.tup xs)
theorem TupS.refl (H : Hp) : TupS H H := fun _ _ h => h
theorem TupS.trans {H1 H2 H3 : Hp} (a : TupS H1 H2) (b : TupS H2 H3) : TupS H1 H3 := fun c xs h => b c xs (a c xs h)
theorem TuA.stay {a : Addr} {xs : List V} (t : TupS H H') (h : TuA K H a xs) : TuA K H' a xs := t _ _ h
theorem Rd.stay {a : Addr} {u : HO} (e : H' a = H a) (h : Rd H a u) : Rd H' a u := by
  unfold Rd at h ⊢; rw [e]; exact h
mutual
theorem RpS.stay (t : TupS H H') (k : ∀ a, R a → H' a = H a) (m : ∀ a, R a → R' a) : ∀ {d : D} {v : V}, RpS K H R d v → RpS K H' R' d v
  | .none, _, h => h
  | .bool _, _, h => h
  | .int _, _, h => h
  | .str _, _, h => h
  | .list ds, v, h => by
    simp only [RpS] at h ⊢
    obtain ⟨a, vs, e, hl, hs⟩ := h
    exact ⟨a, vs, e, hl.elim (fun x => .inl ⟨m a x.1, Rd.stay (k a x.1) x.2⟩) .inr, RpSs.stay t k m hs⟩
  | .tuple ds, v, h => by
    simp only [RpS] at h ⊢
    obtain ⟨a, vs, e, hl, hs⟩ := h
    exact ⟨a, vs, e, hl.stay t, RpSs.stay t k m hs⟩
  | .dict kvs, v, h => by
    simp only [RpS] at h ⊢
    obtain ⟨a, u, vs, e, hr, hl, hd, hs⟩ := h
    exact ⟨a, u, vs, e, m a hr, Rd.stay (k a hr) hl, hd, RpSk.stay t k m hs⟩
theorem RpSs.stay (t : TupS H H') (k : ∀ a, R a → H' a = H a) (m : ∀ a, R a → R' a) : ∀ {ds : List D} {vs : List V}, RpSs K H R ds vs → RpSs K H' R' ds vs
  | [], _, h => h
  | d :: ds, vs, h => by
    simp only [RpSs] at h ⊢
    obtain ⟨v, r, e, h1, h2⟩ := h
    exact ⟨v, r, e, RpS.stay t k m h1, RpSs.stay t k m h2⟩
theorem RpSk.stay (t : TupS H H') (k : ∀ a, R a → H' a = H a) (m : ∀ a, R a → R' a) : ∀ {ds : List (D × D)} {vs : List V}, RpSk K H R ds vs → RpSk K H' R' ds vs
  | [], _, h => h
  | (_, d) :: ds, vs, h => by
    simp only [RpSk] at h ⊢
    obtain ⟨v, r, e, h1, h2⟩ := h
    exact ⟨v, r, e, RpS.stay t k m h1, RpSk.stay t k m h2⟩
end
mutual
theorem RpO.stay (t : TupS H H') : ∀ {d : D} {v : V} {f : List Addr}, (∀ a ∈ f, H' a = H a) → RpO K H d v f → RpO K H' d v f
  | .none, _, _, _, h => h
  | .bool _, _, _, _, h => h
  | .int _, _, _, _, h => h
  | .str _, _, _, _, h => h
  | .list ds, v, f, k, h => by
    simp only [RpO] at h ⊢
    obtain ⟨a, vs, g, e, hl, rfl, hs⟩ := h
    exact ⟨a, vs, g, e, (k a List.mem_cons_self).trans hl, rfl, RpOs.stay t (fun b hb => k b (List.mem_cons_of_mem _ hb)) hs⟩
  | .tuple ds, v, f, k, h => by
    simp only [RpO] at h ⊢
    obtain ⟨a, vs, e, hl, hs⟩ := h
    exact ⟨a, vs, e, hl.stay t, RpOs.stay t k hs⟩
  | .dict kvs, v, f, k, h => by
    simp only [RpO] at h ⊢
    obtain ⟨a, u, vs, g, e, hl, hd, rfl, hs⟩ := h
    exact ⟨a, u, vs, g, e, (k a List.mem_cons_self).trans hl, hd, rfl, RpOk.stay t (fun b hb => k b (List.mem_cons_of_mem _ hb)) hs⟩
theorem RpOs.stay (t : TupS H H') : ∀ {ds : List D} {vs : List V} {f : List Addr}, (∀ a ∈ f, H' a = H a) → RpOs K H ds vs f → RpOs K H' ds vs f
  | [], _, _, _, h => h
  | d :: ds, vs, f, k, h => by
    simp only [RpOs] at h ⊢
    obtain ⟨v, r, g, h', e, rfl, h1, h2⟩ := h
    exact ⟨v, r, g, h', e, rfl, RpO.stay t (fun b hb => k b (List.mem_append_left _ hb)) h1, RpOs.stay t (fun b hb => k b (List.mem_append_right _ hb)) h2⟩
theorem RpOk.stay (t : TupS H H') : ∀ {ds : List (D × D)} {vs : List V} {f : List Addr}, (∀ a ∈ f, H' a = H a) → RpOk K H ds vs f → RpOk K H' ds vs f
  | [], _, _, _, h => h
  | (_, d) :: ds, vs, f, k, h => by
    simp only [RpOk] at h ⊢
    obtain ⟨v, r, g, h', e, rfl, h1, h2⟩ := h
    exact ⟨v, r, g, h', e, rfl, RpO.stay t (fun b hb => k b (List.mem_append_left _ hb)) h1, RpOk.stay t (fun b hb => k b (List.mem_append_right _ hb)) h2⟩
end
mutual
/-- what is its own may be only read -/
theorem RpO.shr : ∀ {d : D} {v : V} {f : List Addr}, (∀ a ∈ f, R a) → RpO K H d v f → RpS K H R d v
  | .none, _, _, _, h => by simp only [RpO] at h; simp only [RpS]; exact h.1
  | .bool _, _, _, _, h => by simp only [RpO] at h; simp only [RpS]; exact h.1
  | .int _, _, _, _, h => by simp only [RpO] at h; simp only [RpS]; exact h.1
  | .str _, _, _, _, h => by simp only [RpO] at h; simp only [RpS]; exact h.1
  | .list ds, v, f, k, h => by
    simp only [RpO] at h; simp only [RpS]
    obtain ⟨a, vs, g, e, hl, rfl, hs⟩ := h
    exact ⟨a, vs, e, .inl ⟨k a List.mem_cons_self, .inl hl⟩, RpOs.shr (fun b hb => k b (List.mem_cons_of_mem _ hb)) hs⟩
  | .tuple ds, v, f, k, h => by
    simp only [RpO] at h; simp only [RpS]
    obtain ⟨a, vs, e, hl, hs⟩ := h
    exact ⟨a, vs, e, hl, RpOs.shr k hs⟩
  | .dict kvs, v, f, k, h => by
    simp only [RpO] at h; simp only [RpS]
    obtain ⟨a, u, vs, g, e, hl, hd, rfl, hs⟩ := h
    exact ⟨a, u, vs, e, k a List.mem_cons_self, .inl hl, hd, RpOk.shr (fun b hb => k b (List.mem_cons_of_mem _ hb)) hs⟩
theorem RpOs.shr : ∀ {ds : List D} {vs : List V} {f : List Addr}, (∀ a ∈ f, R a) → RpOs K H ds vs f → RpSs K H R ds vs
  | [], _, _, _, h => by simp only [RpOs] at h; simp only [RpSs]; exact h.1
  | d :: ds, vs, f, k, h => by
    simp only [RpOs] at h; simp only [RpSs]
    obtain ⟨v, r, g, h', e, rfl, h1, h2⟩ := h
    exact ⟨v, r, e, RpO.shr (fun b hb => k b (List.mem_append_left _ hb)) h1, RpOs.shr (fun b hb => k b (List.mem_append_right _ hb)) h2⟩
theorem RpOk.shr : ∀ {ds : List (D × D)} {vs : List V} {f : List Addr}, (∀ a ∈ f, R a) → RpOk K H ds vs f → RpSk K H R ds vs
  | [], _, _, _, h => by simp only [RpOk] at h; simp only [RpSk]; exact h.1
  | (_, d) :: ds, vs, f, k, h => by
    simp only [RpOk] at h; simp only [RpSk]
    obtain ⟨v, r, g, h', e, rfl, h1, h2⟩ := h
    exact ⟨v, r, e, RpO.shr (fun b hb => k b (List.mem_append_left _ hb)) h1, RpOk.shr (fun b hb => k b (List.mem_append_right _ hb)) h2⟩
end
mutual
/-- where nothing can be changed it's all one -/
theorem RpS.own : ∀ {d : D} {v : V}, im d = true → RpS K H R d v → RpO K H d v []
  | .none, _, _, h => by simp only [RpS] at h; simp only [RpO]; exact ⟨h, trivial⟩
  | .bool _, _, _, h => by simp only [RpS] at h; simp only [RpO]; exact ⟨h, trivial⟩
  | .int _, _, _, h => by simp only [RpS] at h; simp only [RpO]; exact ⟨h, trivial⟩
  | .str _, _, _, h => by simp only [RpS] at h; simp only [RpO]; exact ⟨h, trivial⟩
  | .list ds, v, i, h => by simp [im] at i
  | .tuple ds, v, i, h => by
    simp only [RpS] at h; simp only [RpO]
    obtain ⟨a, vs, e, hl, hs⟩ := h
    exact ⟨a, vs, e, hl, RpSs.own (by simpa [im] using i) hs⟩
  | .dict kvs, v, i, h => by simp [im] at i
theorem RpSs.own : ∀ {ds : List D} {vs : List V}, imAll ds = true → RpSs K H R ds vs → RpOs K H ds vs []
  | [], _, _, h => by simp only [RpSs] at h; simp only [RpOs]; exact ⟨h, trivial⟩
  | d :: ds, vs, i, h => by
    simp only [imAll, Bool.and_eq_true] at i
    simp only [RpSs] at h; simp only [RpOs]
    obtain ⟨v, r, e, h1, h2⟩ := h
    exact ⟨v, r, [], [], e, rfl, RpS.own i.1 h1, RpSs.own i.2 h2⟩
end
mutual
theorem RpO.im_nil : ∀ {d : D} {v : V} {f : List Addr}, im d = true → RpO K H d v f → f = []
  | .none, _, _, _, h => by simp only [RpO] at h; exact h.2
  | .bool _, _, _, _, h => by simp only [RpO] at h; exact h.2
  | .int _, _, _, _, h => by simp only [RpO] at h; exact h.2
  | .str _, _, _, _, h => by simp only [RpO] at h; exact h.2
  | .list ds, v, f, i, h => by simp [im] at i
  | .tuple ds, v, f, i, h => by
    simp only [RpO] at h
    obtain ⟨a, vs, e, hl, hs⟩ := h
    exact RpOs.im_nil (by simpa [im] using i) hs
  | .dict kvs, v, f, i, h => by simp [im] at i
theorem RpOs.im_nil : ∀ {ds : List D} {vs : List V} {f : List Addr}, imAll ds = true → RpOs K H ds vs f → f = []
  | [], _, _, _, h => by simp only [RpOs] at h; exact h.2
  | d :: ds, vs, f, i, h => by
    simp only [imAll, Bool.and_eq_true] at i
    simp only [RpOs] at h
    obtain ⟨v, r, g, h', e, rfl, h1, h2⟩ := h
    rw [RpO.im_nil i.1 h1, RpOs.im_nil i.2 h2]; rfl
end
theorem RpSs.length : ∀ {ds : List D} {vs : List V}, RpSs K H R ds vs → ds.length = vs.length
  | [], _, h => by simp only [RpSs] at h; rw [h]; rfl
  | d :: ds, vs, h => by
    simp only [RpSs] at h
    obtain ⟨v, r, rfl, _, h2⟩ := h
    simp only [List.length_cons, RpSs.length h2]
theorem RpOs.length : ∀ {ds : List D} {vs : List V} {f : List Addr}, RpOs K H ds vs f → ds.length = vs.length
  | [], _, _, h => by simp only [RpOs] at h; rw [h.1]; rfl
  | d :: ds, vs, f, h => by
    simp only [RpOs] at h
    obtain ⟨v, r, g, h', rfl, rfl, _, h2⟩ := h
    simp only [List.length_cons, RpOs.length h2]
end

/-! ### the state -/
def RpK (K : PySem.W.Frag) (H : Hp) (R : Addr → Prop) (k : CK) (d : D) (v : V) (f : List Addr) : Prop :=
  match k with
  | .own => RpO K H d v f
  | .io => RpO K H d v f
  | .top => RpT K H R d v f
  | .iot => RpT K H R d v f
  | .shr => RpS K H R d v ∧ f = []
/-- the slots hold what ρ tells, each its own places fp, the rest lies in R -/
structure Gd (K : PySem.W.Frag) (σ : L2.St) (H : Hp) (ρ : Env) (fp : Nat → List Addr) (R : Addr → Prop) : Prop where
  len : ρ.length = σ.length
  cell : ∀ i c, getc ρ i = some c → ∃ v, σ[i]? = some (some v) ∧ RpK K H R c.k c.d v (fp i)
  non : ∀ i, getc ρ i = none → fp i = []
  nd : ∀ i, (fp i).Nodup
  dj : ∀ i j a, a ∈ fp i → a ∈ fp j → i = j
  dR : ∀ i a, a ∈ fp i → ¬ R a
  tr : ∀ i a, a ∈ fp i → nt H a
  tR : ∀ a, R a → nt H a
  tb : LamX.Tabs Tbs.T H
/-- a step that changes no more than the places of the slots outside of L -/
structure Mv (L : List Nat) (H : Hp) (fp : Nat → List Addr) (R : Addr → Prop) (H' : Hp) (fp' : Nat → List Addr) (R' : Addr → Prop) : Prop where
  keep : ∀ a, nt H a → (∀ i, i ∉ L → a ∉ fp i) → H' a = H a
  tup : TupS H H'
  lock : ∀ i ∈ L, ∀ a ∈ fp i, a ∈ fp' i ∨ R' a
  reg : ∀ a, R a → R' a
  nf : ∀ i a, a ∈ fp' i → H a = none ∨ ∃ j, a ∈ fp j
  nR : ∀ a, R' a → R a ∨ H a = none ∨ ∃ j, a ∈ fp j
  som : ∀ a, H a ≠ none → H' a ≠ none
  sn : ∀ a, nt H a → nt H' a
/-- the thing itself can be changed, the rest lies in R or in f -/
def RpU (K : PySem.W.Frag) (H : Hp) (R : Addr → Prop) (d : D) (v : V) (f : List Addr) : Prop :=
  match d with
  | .list ds => ∃ a vs, v = .ref a ∧ H a = some (.lst vs) ∧ a ∈ f ∧ RpSs K H (fun x => R x ∨ (x ∈ f ∧ x ≠ a)) ds vs
  | .dict kvs => ∃ a u vs, v = .ref a ∧ H a = some u ∧ DcA u (kvs.map (·.1)) vs ∧ a ∈ f ∧ RpSk K H (fun x => R x ∨ (x ∈ f ∧ x ≠ a)) kvs vs
  | d => RpS K H (fun x => R x ∨ x ∈ f) d v
/-- the thing itself lies in S, what it holds in R -/
def RpW (K : PySem.W.Frag) (H : Hp) (S R : Addr → Prop) (d : D) (v : V) : Prop :=
  match d with
  | .list ds => ∃ a vs, v = .ref a ∧ LsA K H S a vs ∧ RpSs K H R ds vs
  | .dict kvs => ∃ a u vs, v = .ref a ∧ S a ∧ Rd H a u ∧ DcA u (kvs.map (·.1)) vs ∧ RpSk K H R kvs vs
  | d => RpS K H R d v
def RpM (K : PySem.W.Frag) (H : Hp) (fp : Nat → List Addr) (R : Addr → Prop) (m : M) (d : D) (v : V) (f : List Addr) : Prop :=
  match m with
  | .own => RpO K H d v f
  | .top => RpU K H R d v f
  | .shr => RpS K H (fun x => R x ∨ x ∈ f) d v
  | .bor i => RpS K H (fun a => R a ∨ a ∈ fp i) d v ∧ f = []
  | .bort i => RpW K H (fun a => R a ∨ a ∈ fp i) R d v ∧ f = []
/-- places that no slot has -/
structure Tmp (H : Hp) (fp : Nat → List Addr) (R : Addr → Prop) (f : List Addr) : Prop where
  nd : f.Nodup
  dj : ∀ i a, a ∈ f → a ∉ fp i
  dR : ∀ a, a ∈ f → ¬ R a
  tr : ∀ a, a ∈ f → nt H a
def New (L : List Nat) (H : Hp) (fp : Nat → List Addr) (f : List Addr) : Prop := ∀ a ∈ f, H a = none ∨ ∃ j, j ∉ L ∧ a ∈ fp j
section
variable {K : PySem.W.Frag} {σ : L2.St} {H H1 H2 : Hp} {ρ ρ1 ρ2 : Env} {fp fp1 fp2 : Nat → List Addr} {R R1 R2 : Addr → Prop} {L L' : List Nat} {f g : List Addr} {m : M} {d : D} {v : V}
theorem Mv.refl : Mv L H fp R H fp R := ⟨fun _ _ _ => rfl, .refl _, fun _ _ _ h => .inl h, fun _ h => h, fun i a h => .inr ⟨i, h⟩, fun _ h => .inl h, fun _ h => h, fun _ h => h⟩
theorem Mv.mono (h : Mv L' H fp R H1 fp1 R1) (s : ∀ i ∈ L, i ∈ L') : Mv L H fp R H1 fp1 R1 :=
  ⟨fun a ha hi => h.keep a ha fun i q => hi i fun z => q (s i z), h.tup, fun i hi => h.lock i (s i hi), h.reg, h.nf, h.nR, h.som, h.sn⟩
theorem Mv.out (h : Mv L H fp R H1 fp1 R1) {a : Addr} (ha : nt H a) (hi : ∀ i, a ∉ fp i) : H1 a = H a ∧ ∀ i, a ∉ fp1 i :=
  ⟨h.keep a ha fun i _ => hi i, fun i z => (h.nf i a z).elim (fun e => ha.so e) fun ⟨j, q⟩ => hi j q⟩
theorem Mv.trans (g1 : Gd K σ H1 ρ1 fp1 R1) (a : Mv L H fp R H1 fp1 R1) (b : Mv L H1 fp1 R1 H2 fp2 R2) : Mv L H fp R H2 fp2 R2 where
  keep := fun x hx hi => by
    have e1 := a.keep x hx hi
    refine (b.keep x (hx.eq e1) fun i hL z => ?_).trans e1
    rcases a.nf i x z with q | ⟨j, q⟩
    · exact hx.so q
    · by_cases hj : j ∈ L
      · rcases a.lock j hj x q with p | p
        · exact hL (g1.dj i j x z p ▸ hj)
        · exact g1.dR i x z p
      · exact hi j hj q
  tup := a.tup.trans b.tup
  lock := fun i hi x hx => (a.lock i hi x hx).elim (fun q => b.lock i hi x q) fun q => .inr (b.reg x q)
  reg := fun x q => b.reg x (a.reg x q)
  nf := fun i x z => (b.nf i x z).elim (fun e => .inl (Classical.byContradiction fun n => a.som x n e)) fun ⟨j, q⟩ => a.nf j x q
  nR := fun x z => (b.nR x z).elim (fun q => a.nR x q) fun q => q.elim (fun e => .inr (.inl (Classical.byContradiction fun n => a.som x n e))) fun ⟨j, q⟩ => .inr (a.nf j x q)
  som := fun x q => b.som x (a.som x q)
  sn := fun x q => b.sn x (a.sn x q)
theorem New.back (g1 : Gd K σ H1 ρ1 fp1 R1) (a : Mv L H fp R H1 fp1 R1) (h : New L H1 fp1 f) : New L H fp f := fun x hx => by
  rcases h x hx with e | ⟨j, hj, q⟩
  · exact .inl (Classical.byContradiction fun n => a.som x n e)
  · rcases a.nf j x q with e | ⟨i, p⟩
    · exact .inl e
    · by_cases hi : i ∈ L
      · rcases a.lock i hi x p with z | z
        · exact absurd (g1.dj j i x q z ▸ hi) hj
        · exact absurd z (g1.dR j x q)
      · exact .inr ⟨i, hi, p⟩
theorem New.mono (h : New L' H fp f) (s : ∀ i ∈ L, i ∈ L') : New L H fp f := fun a ha => (h a ha).elim .inl fun ⟨j, hj, q⟩ => .inr ⟨j, fun z => hj (s j z), q⟩
theorem New.nil : New L H fp [] := fun _ h => nomatch h
theorem New.app (a : New L H fp f) (b : New L H fp g) : New L H fp (f ++ g) := fun x hx => (List.mem_append.mp hx).elim (a x) (b x)
/-- a held value -/
structure Hold (K : PySem.W.Frag) (H : Hp) (fp : Nat → List Addr) (R : Addr → Prop) (m : M) (d : D) (v : V) (f : List Addr) : Prop where
  rp : RpM K H fp R m d v f
  tm : Tmp H fp R f
theorem Tmp.nil : Tmp H fp R [] := ⟨.nil, fun _ _ h => absurd h (by simp), fun _ h => absurd h (by simp), fun _ h => absurd h (by simp)⟩
theorem Tmp.step (t : Tmp H1 fp1 R1 f) (b : Mv L H1 fp1 R1 H2 fp2 R2) : Tmp H2 fp2 R2 f ∧ ∀ a ∈ f, H2 a = H1 a := by
  have k : ∀ a ∈ f, H2 a = H1 a := fun a ha => (b.out (t.tr a ha) fun i => t.dj i a ha).1
  refine ⟨⟨t.nd, fun i a ha => (b.out (t.tr a ha) fun i => t.dj i a ha).2 i, fun a ha z => ?_, fun a ha => (t.tr a ha).eq (k a ha)⟩, k⟩
  rcases b.nR a z with q | q | ⟨j, q⟩
  · exact t.dR a ha q
  · exact (t.tr a ha).so q
  · exact t.dj j a ha q
theorem Gd.R_same (g1 : Gd K σ H1 ρ1 fp1 R1) (b : Mv L H1 fp1 R1 H2 fp2 R2) {a : Addr} (h : R1 a) : H2 a = H1 a := (b.out (g1.tR a h) fun i z => g1.dR i a z h).1
theorem RpT.stay {H' : Hp} {R' : Addr → Prop} (t : TupS H H') (k : ∀ a, R a → H' a = H a) (m : ∀ a, R a → R' a) (kf : ∀ a ∈ f, H' a = H a) (h : RpT K H R d v f) : RpT K H' R' d v f := by
  cases d with
  | list ds =>
    obtain ⟨a, vs, e, hl, rfl, hs⟩ := h
    exact ⟨a, vs, e, (kf a List.mem_cons_self).trans hl, rfl, RpSs.stay t k m hs⟩
  | dict kvs =>
    obtain ⟨a, u, vs, e, hl, hd, rfl, hs⟩ := h
    exact ⟨a, u, vs, e, (kf a List.mem_cons_self).trans hl, hd, rfl, RpSk.stay t k m hs⟩
  | none => exact ⟨RpS.stay t k m h.1, h.2⟩
  | bool b => exact ⟨RpS.stay t k m h.1, h.2⟩
  | int i => exact ⟨RpS.stay t k m h.1, h.2⟩
  | str x => exact ⟨RpS.stay t k m h.1, h.2⟩
  | tuple ds => exact ⟨RpS.stay t k m h.1, h.2⟩
theorem RpU.stay {H' : Hp} {R' : Addr → Prop} (t : TupS H H') (k : ∀ a, R a → H' a = H a) (m : ∀ a, R a → R' a) (kf : ∀ a ∈ f, H' a = H a) (h : RpU K H R d v f) : RpU K H' R' d v f := by
  have k1 : ∀ {S : Addr → Prop}, (∀ x, S x → x ∈ f) → ∀ a, (R a ∨ S a) → H' a = H a := fun s a q => q.elim (k a) fun z => kf a (s a z)
  have m1 : ∀ {S : Addr → Prop}, ∀ a, (R a ∨ S a) → (R' a ∨ S a) := fun a q => q.elim (fun z => .inl (m a z)) .inr
  cases d with
  | list ds =>
    obtain ⟨a, vs, e, hl, ha, hs⟩ := h
    exact ⟨a, vs, e, (kf a ha).trans hl, ha, RpSs.stay t (k1 fun x z => z.1) m1 hs⟩
  | dict kvs =>
    obtain ⟨a, u, vs, e, hl, hd, ha, hs⟩ := h
    exact ⟨a, u, vs, e, (kf a ha).trans hl, hd, ha, RpSk.stay t (k1 fun x z => z.1) m1 hs⟩
  | none => exact RpS.stay t (k1 fun _ z => z) m1 h
  | bool b => exact RpS.stay t (k1 fun _ z => z) m1 h
  | int i => exact RpS.stay t (k1 fun _ z => z) m1 h
  | str x => exact RpS.stay t (k1 fun _ z => z) m1 h
  | tuple ds => exact RpS.stay t (k1 fun _ z => z) m1 h
theorem RpU.shr (h : RpU K H R d v f) : RpS K H (fun x => R x ∨ x ∈ f) d v := by
  cases d with
  | list ds =>
    obtain ⟨a, vs, e, hl, ha, hs⟩ := h
    simp only [RpS]
    exact ⟨a, vs, e, .inl ⟨.inr ha, .inl hl⟩, RpSs.stay (.refl _) (fun _ _ => rfl) (fun _ q => q.elim .inl fun z => .inr z.1) hs⟩
  | dict kvs =>
    obtain ⟨a, u, vs, e, hl, hd, ha, hs⟩ := h
    simp only [RpS]
    exact ⟨a, u, vs, e, .inr ha, .inl hl, hd, RpSk.stay (.refl _) (fun _ _ => rfl) (fun _ q => q.elim .inl fun z => .inr z.1) hs⟩
  | none => exact h
  | bool b => exact h
  | int i => exact h
  | str x => exact h
  | tuple ds => exact h
theorem RpW.stay {H' : Hp} {S S' R' : Addr → Prop} (t : TupS H H') (k : ∀ a, R a → H' a = H a) (m : ∀ a, R a → R' a) (k2 : ∀ a, S a → H' a = H a) (m2 : ∀ a, S a → S' a) (h : RpW K H S R d v) : RpW K H' S' R' d v := by
  cases d with
  | list ds =>
    obtain ⟨a, vs, e, hl, hs⟩ := h
    exact ⟨a, vs, e, hl.elim (fun x => .inl ⟨m2 a x.1, Rd.stay (k2 a x.1) x.2⟩) .inr, RpSs.stay t k m hs⟩
  | dict kvs =>
    obtain ⟨a, u, vs, e, ha, hl, hd, hs⟩ := h
    exact ⟨a, u, vs, e, m2 a ha, Rd.stay (k2 a ha) hl, hd, RpSk.stay t k m hs⟩
  | none => exact RpS.stay t k m h
  | bool b => exact RpS.stay t k m h
  | int i => exact RpS.stay t k m h
  | str x => exact RpS.stay t k m h
  | tuple ds => exact RpS.stay t k m h
theorem RpW.shr {S : Addr → Prop} (m : ∀ a, R a → S a) (h : RpW K H S R d v) : RpS K H S d v := by
  have up : ∀ {d v}, RpS K H R d v → RpS K H S d v := fun q => RpS.stay (.refl _) (fun _ _ => rfl) m q
  cases d with
  | list ds =>
    obtain ⟨a, vs, e, hl, hs⟩ := h
    simp only [RpS]
    exact ⟨a, vs, e, hl, RpSs.stay (.refl _) (fun _ _ => rfl) m hs⟩
  | dict kvs =>
    obtain ⟨a, u, vs, e, ha, hl, hd, hs⟩ := h
    simp only [RpS]
    exact ⟨a, u, vs, e, ha, hl, hd, RpSk.stay (.refl _) (fun _ _ => rfl) m hs⟩
  | none => exact up h
  | bool b => exact up h
  | int i => exact up h
  | str x => exact up h
  | tuple ds => exact up h
theorem Hold.step (g1 : Gd K σ H1 ρ1 fp1 R1) (b : Mv L H1 fp1 R1 H2 fp2 R2) (hl : ∀ i ∈ lk m, i ∈ L) (h : Hold K H1 fp1 R1 m d v f) : Hold K H2 fp2 R2 m d v f := by
  obtain ⟨t, kf⟩ := h.tm.step b
  refine ⟨?_, t⟩
  have kR : ∀ a, R1 a → H2 a = H1 a := fun a q => g1.R_same b q
  have rp := h.rp
  cases m with
  | own => exact RpO.stay b.tup kf rp
  | top => exact RpU.stay b.tup kR b.reg kf rp
  | shr => exact RpS.stay b.tup (fun a q => q.elim (kR a) (kf a)) (fun a q => q.elim (fun z => .inl (b.reg a z)) .inr) rp
  | bor i =>
    have hi : i ∈ L := hl i List.mem_cons_self
    refine ⟨RpS.stay b.tup (fun a q => ?_) (fun a q => ?_) rp.1, rp.2⟩
    · rcases q with q | q
      · exact kR a q
      · exact b.keep a (g1.tr i a q) fun j hj z => hj (g1.dj i j a q z ▸ hi)
    · rcases q with q | q
      · exact .inl (b.reg a q)
      · exact (b.lock i hi a q).elim .inr .inl
  | bort i =>
    have hi : i ∈ L := hl i List.mem_cons_self
    refine ⟨RpW.stay b.tup kR b.reg (fun a q => ?_) (fun a q => ?_) rp.1, rp.2⟩
    · rcases q with q | q
      · exact kR a q
      · exact b.keep a (g1.tr i a q) fun j hj z => hj (g1.dj i j a q z ▸ hi)
    · rcases q with q | q
      · exact .inl (b.reg a q)
      · exact (b.lock i hi a q).elim .inr .inl
/-- whatever it is, it can be read -/
theorem Hold.read (h : Hold K H fp R m d v f) : ∃ S : Addr → Prop, RpS K H S d v := by
  have rp := h.rp
  cases m with
  | own => exact ⟨fun a => a ∈ f, RpO.shr (fun a q => q) rp⟩
  | top => exact ⟨_, RpU.shr rp⟩
  | shr => exact ⟨_, rp⟩
  | bor i => exact ⟨_, rp.1⟩
  | bort i => exact ⟨_, RpW.shr (fun _ => .inl) rp.1⟩
/-! ### new objects -/
theorem tups_upd {p : Addr} {o : HO} (hp : H p = none) : TupS H (upd H p o) := fun a xs e => by rw [upd_ne (ne_of_none e hp)]; exact e
theorem upd_new {p a : Addr} {o : HO} (hp : H p = none) (ha : nt H a) : upd H p o a = H a := upd_ne fun e => ha.so (e ▸ hp)
theorem upd_old {p a : Addr} {o : HO} (hp : H p = none) (ha : H a ≠ none) : upd H p o a = H a := upd_ne fun e => ha (e ▸ hp)
theorem RpK.stay {k : CK} {H' : Hp} {R' : Addr → Prop} (t : TupS H H') (kR : ∀ a, R a → H' a = H a) (m : ∀ a, R a → R' a) (kf : ∀ a ∈ f, H' a = H a) (h : RpK K H R k d v f) : RpK K H' R' k d v f := by
  cases k with
  | own => exact RpO.stay t kf h
  | io => exact RpO.stay t kf h
  | top => exact RpT.stay t kR m kf h
  | iot => exact RpT.stay t kR m kf h
  | shr => exact ⟨RpS.stay t kR m h.1, h.2⟩
theorem Gd.stay {H' : Hp} (g : Gd K σ H ρ fp R) (t : TupS H H') (k : ∀ a, nt H a → H' a = H a) (kt : LamX.Tabs Tbs.T H') : Gd K σ H' ρ fp R where
  len := g.len
  cell := fun i c e => let ⟨v, h1, h2⟩ := g.cell i c e; ⟨v, h1, h2.stay t (fun a q => k a (g.tR a q)) (fun _ q => q) fun a q => k a (g.tr i a q)⟩
  non := g.non
  nd := g.nd
  dj := g.dj
  dR := g.dR
  tr := fun i a q => (g.tr i a q).eq (k a (g.tr i a q))
  tR := fun a q => (g.tR a q).eq (k a (g.tR a q))
  tb := kt
theorem Gd.laid {p : Addr} {o : HO} (g : Gd K σ H ρ fp R) (hp : H p = none) : Gd K σ (upd H p o) ρ fp R := g.stay (tups_upd hp) (fun a ha => upd_new hp ha) (Tabs_upd g.tb (.inl hp))
theorem Mv.laid {p : Addr} {o : HO} (hp : H p = none) : Mv L H fp R (upd H p o) fp R :=
  ⟨fun a ha _ => upd_new hp ha, tups_upd hp, fun _ _ _ h => .inl h, fun _ h => h, fun i a h => .inr ⟨i, h⟩, fun _ h => .inl h, fun a h => (by rw [upd_old hp h]; exact h), fun a h => h.eq (upd_new hp h)⟩
/-- some values in a row -/
def HoldL (K : PySem.W.Frag) (H : Hp) (fp : Nat → List Addr) (R : Addr → Prop) (w : Bool) (ds : List D) (vs : List V) (f : List Addr) : Prop :=
  Tmp H fp R f ∧ if w = true then RpOs K H ds vs f else RpSs K H (fun x => R x ∨ x ∈ f) ds vs
theorem HoldL.weak {w : Bool} {ds : List D} {vs : List V} (h : HoldL K H fp R w ds vs f) : RpSs K H (fun x => R x ∨ x ∈ f) ds vs := by
  cases w with
  | true => exact RpOs.shr (fun a q => .inr q) h.2
  | false => exact h.2
theorem HoldL.len {w : Bool} {ds : List D} {vs : List V} (h : HoldL K H fp R w ds vs f) : ds.length = vs.length := h.weak.length
theorem HoldL.step {w : Bool} {ds : List D} {vs : List V} (g1 : Gd K σ H1 ρ1 fp1 R1) (b : Mv L H1 fp1 R1 H2 fp2 R2) (h : HoldL K H1 fp1 R1 w ds vs f) : HoldL K H2 fp2 R2 w ds vs f := by
  obtain ⟨t, kf⟩ := h.1.step b
  refine ⟨t, ?_⟩
  cases w with
  | true => exact RpOs.stay b.tup kf h.2
  | false => exact RpSs.stay b.tup (fun a q => q.elim (fun z => g1.R_same b z) (kf a)) (fun a q => q.elim (fun z => .inl (b.reg a z)) .inr) h.2
theorem Tmp.cons {p : Addr} {o : HO} (hp : H p = none) (g : Gd K σ H ρ fp R) (t : Tmp H fp R f) (ho : Pl o := by exact ⟨fun _ z => (by cases z), fun _ z => (by cases z)⟩) : Tmp (upd H p o) fp R (p :: f) where
  nd := List.nodup_cons.mpr ⟨fun z => t.tr p z hp, t.nd⟩
  dj := fun i a ha z => by
    rcases List.mem_cons.mp ha with rfl | ha
    · exact g.tr i a z hp
    · exact t.dj i a ha z
  dR := fun a ha z => by
    rcases List.mem_cons.mp ha with rfl | ha
    · exact g.tR a z hp
    · exact t.dR a ha z
  tr := fun a ha => by
    rcases List.mem_cons.mp ha with rfl | ha
    · exact ho.nt upd_same
    · exact (t.tr a ha).eq (upd_new hp (t.tr a ha))
/-- a new list -/
theorem Hold.lst {w : Bool} {ds : List D} {vs : List V} {p : Addr} (g : Gd K σ H ρ fp R) (hp : H p = none) (h : HoldL K H fp R w ds vs f) : Hold K (upd H p (.lst vs)) fp R (ownM w) (.list ds) (.ref p) (p :: f) := by
  have pf : p ∉ f := fun z => h.1.tr p z hp
  refine ⟨?_, Tmp.cons hp g h.1⟩
  cases w with
  | true =>
    show RpO K _ (.list ds) _ _
    simp only [RpO]
    exact ⟨p, vs, f, rfl, upd_same, rfl, RpOs.stay (tups_upd hp) (fun a ha => upd_new hp (h.1.tr a ha)) h.2⟩
  | false =>
    refine ⟨p, vs, rfl, upd_same, List.mem_cons_self, RpSs.stay (tups_upd hp) (fun a q => ?_) (fun a q => ?_) h.2⟩
    · exact upd_new hp (q.elim (g.tR a) (h.1.tr a))
    · exact q.elim .inl fun z => .inr ⟨List.mem_cons_of_mem _ z, fun e => pf (e ▸ z)⟩
/-- a new tuple -/
theorem Hold.tup {w : Bool} {ds : List D} {vs : List V} {p : Addr} (g : Gd K σ H ρ fp R) (hp : H p = none) (h : HoldL K H fp R w ds vs f) : Hold K (upd H p (.tup vs)) fp R (if w then .own else .shr) (.tuple ds) (.ref p) f := by
  have t : Tmp (upd H p (.tup vs)) fp R f := ⟨h.1.nd, h.1.dj, h.1.dR, fun a ha => (h.1.tr a ha).eq (upd_new hp (h.1.tr a ha))⟩
  refine ⟨?_, t⟩
  cases w with
  | true =>
    show RpO K _ (.tuple ds) _ _
    simp only [RpO]
    exact ⟨p, vs, rfl, upd_same, RpOs.stay (tups_upd hp) (fun a ha => upd_new hp (h.1.tr a ha)) h.2⟩
  | false =>
    show RpS K _ _ (.tuple ds) _
    simp only [RpS]
    exact ⟨p, vs, rfl, upd_same, RpSs.stay (tups_upd hp) (fun a q => upd_new hp (q.elim (g.tR a) (h.1.tr a))) (fun _ q => q) h.2⟩
end
end PV
end

section
set_option Elab.async false
set_option linter.all false
set_option autoImplicit false
set_option maxRecDepth 100000
namespace PV
open PySem PySem.Spec PyProof.Rows L2
variable [Tbs]

/-! ### expressions -/
/-- behind an expression -/
def Got (K : PySem.W.Frag) (σ : L2.St) (L : List Nat) (H : Hp) (fp : Nat → List Addr) (R : Addr → Prop) (ρ' : Env) (m : M) (d : D) (Q : VK) : Prop :=
  ∀ v H' fp' R' f, Gd K σ H' ρ' fp' R' → Mv L H fp R H' fp' R' → Hold K H' fp' R' m d v f → New L H fp f → Q v H'
def tv (K : PySem.W.Frag) (C : Ctx) (L : List Nat) (x : Ex) : TE := fun σ H Q => ∃ ρ fp R, Gd K σ H ρ fp R ∧ ∃ m d ρ', ev C L x ρ = .ok (m, d) ρ' ∧ Got K σ L H fp R ρ' m d Q
def tvx (K : PySem.W.Frag) (C : Ctx) (x : Ex) : TE := fun σ H Q => ∃ L, tv K C L x σ H Q
/-- the expression e is evaluated as x tells -/
def PEv (X : Cx) (C : Ctx) (x : Ex) (e : Expr) : Prop := PE X e (tvx X.K C x)
def tt (K : PySem.W.Frag) (C : Ctx) (L : List Nat) (x : Ex) : TT := fun σ H Q => ∃ ρ fp R, Gd K σ H ρ fp R ∧ ∃ b ρ', evt C L x ρ = .ok b ρ' ∧
  ∀ H' fp' R', Gd K σ H' ρ' fp' R' → Mv L H fp R H' fp' R' → Q b H'
def PTv (X : Cx) (C : Ctx) (x : Ex) (e : Expr) : Prop := PT X e (fun σ H Q => ∃ L, tt X.K C L x σ H Q)
theorem peI {X : Cx} {e : Expr} {t t' : TE} (h : PE X e t) (w : ∀ σ H Q, t' σ H Q → t σ H Q) : PE X e t' := ⟨fun pins s σ H Q I q => h.run pins s σ H Q I (w σ H Q q)⟩
theorem ptI {X : Cx} {e : Expr} {t t' : TT} (h : PT X e t) (w : ∀ σ H Q, t' σ H Q → t σ H Q) : PT X e t' := ⟨fun pins s σ H Q I q => h.run pins s σ H Q I (w σ H Q q)⟩
theorem psI {X : Cx} {e : Stmt} {t t' : TS} (h : PS X e t) (w : ∀ D σ H, t' D σ H → t D σ H) : PS X e t' := ⟨fun pins s σ H D I q => h.run pins s σ H D I (w D σ H q)⟩
theorem paI {X : Cx} {es : List Expr} {t t' : TA} (h : PA X es t) (w : ∀ σ H Q, t' σ H Q → t σ H Q) : PA X es t' := ⟨fun pos pins s σ H Q I q => h.run pos pins s σ H Q I (w σ H Q q)⟩

theorem bind_ok {α β : Type} {r : R α} {f : α → Env → R β} {b : β} {ρ' : Env} (h : r.bind f = .ok b ρ') : ∃ a ρ1, r = .ok a ρ1 ∧ f a ρ1 = .ok b ρ' := by
  cases r with
  | ok a ρ1 => exact ⟨a, ρ1, rfl, h⟩
  | exc c fs ρ1 => cases h
  | bad => cases h
theorem of_ok {α : Type} {o : Option (α × Env)} {a : α} {ρ' : Env} (h : R.of o = .ok a ρ') : o = some (a, ρ') := by
  cases o with
  | none => cases h
  | some p => obtain ⟨x, y⟩ := p; cases h; rfl

section
variable {K : PySem.W.Frag} {σ : L2.St} {H H1 H2 : Hp} {ρ ρ1 ρ2 ρ' : Env} {fp fp1 fp2 : Nat → List Addr} {R R1 R2 : Addr → Prop} {L L' : List Nat} {f g : List Addr} {m : M} {d : D} {v : V} {Q : VK}
theorem RpK.im {k : CK} (hi : im d = true) (h : RpK K H R k d v f) : RpO K H d v [] ∧ f = [] := by
  have atom : ∀ {g}, RpT K H R d v g → RpO K H d v [] ∧ g = [] := fun {g} q => by
    cases d with
    | list ds => simp [PV.im] at hi
    | dict kvs => simp [PV.im] at hi
    | none => exact ⟨RpS.own hi q.1, q.2⟩
    | bool b => exact ⟨RpS.own hi q.1, q.2⟩
    | int i => exact ⟨RpS.own hi q.1, q.2⟩
    | str x => exact ⟨RpS.own hi q.1, q.2⟩
    | tuple ds => exact ⟨RpS.own hi q.1, q.2⟩
  cases k with
  | own => have e := RpO.im_nil hi h; subst e; exact ⟨h, rfl⟩
  | io => have e := RpO.im_nil hi h; subst e; exact ⟨h, rfl⟩
  | top => exact atom h
  | iot => exact atom h
  | shr => exact ⟨RpS.own hi h.1, h.2⟩
/-- a value that nothing can change is its own -/
theorem Hold.nrm (h : Hold K H fp R m d v f) : ∃ f', Hold K H fp R (nrm m d) d v f' ∧ ∀ a ∈ f', a ∈ f := by
  unfold PV.nrm
  by_cases hi : im d = true
  · rw [if_pos hi]
    have rp := h.rp
    cases m with
    | own => exact ⟨f, h, fun _ q => q⟩
    | top => exact ⟨[], ⟨RpS.own hi (RpU.shr rp), .nil⟩, fun _ q => absurd q (by simp)⟩
    | shr => exact ⟨[], ⟨RpS.own hi rp, .nil⟩, fun _ q => absurd q (by simp)⟩
    | bor i => exact ⟨[], ⟨RpS.own hi rp.1, .nil⟩, fun _ q => absurd q (by simp)⟩
    | bort i => exact ⟨[], ⟨RpS.own hi (RpW.shr (fun _ => .inl) rp.1), .nil⟩, fun _ q => absurd q (by simp)⟩
  · rw [if_neg hi]; exact ⟨f, h, fun _ q => q⟩
theorem New.sub (h : New L H fp f) (s : ∀ a ∈ g, a ∈ f) : New L H fp g := fun a ha => h a (s a ha)
/-- the value of a slot -/
theorem ld_hold (g : Gd K σ H ρ fp R) {i : Nat} (h : ld ρ i = some (m, d)) : ∃ v, σ[i]? = some (some v) ∧ Hold K H fp R m d v [] := by
  unfold ld at h
  cases hc : getc ρ i with
  | none => rw [hc] at h; cases h
  | some c =>
    obtain ⟨k, d'⟩ := c
    obtain ⟨v, e, rp⟩ := g.cell i _ hc
    rw [hc] at h
    have up : ∀ {S : Addr → Prop}, (∀ a, S a → R a ∨ a ∈ fp i) → ∀ {d v}, RpS K H S d v → RpS K H (fun a => R a ∨ a ∈ fp i) d v := fun {S} s {d v} q => RpS.stay (.refl _) (fun _ _ => rfl) s q
    have top : RpT K H R d' v (fp i) → Hold K H fp R (.bort i) d' v [] := fun q => by
      refine ⟨⟨?_, rfl⟩, .nil⟩
      generalize fp i = g at q
      cases d' with
      | list ds =>
        obtain ⟨a, vs, e, hl, rfl, hs⟩ := q
        exact ⟨a, vs, e, .inl ⟨.inr List.mem_cons_self, .inl hl⟩, hs⟩
      | dict kvs =>
        obtain ⟨a, u, vs, e, hl, hd, rfl, hs⟩ := q
        exact ⟨a, u, vs, e, .inr List.mem_cons_self, .inl hl, hd, hs⟩
      | none => exact q.1
      | bool b => exact q.1
      | int j => exact q.1
      | str x => exact q.1
      | tuple ds => exact q.1
    have fin : ∀ {m0 : M}, Hold K H fp R m0 d' v [] → (PV.nrm m0 d', d') = (m, d) → Hold K H fp R m d v [] := fun {m0} o e2 => by
      cases e2
      obtain ⟨f', o', s⟩ := o.nrm
      cases f' with
      | nil => exact o'
      | cons x l => exact absurd (s x List.mem_cons_self) (by simp)
    refine ⟨v, e, ?_⟩
    cases k with
    | shr => exact fin (m0 := .shr) ⟨RpS.stay (.refl _) (fun _ _ => rfl) (fun _ => .inl) rp.1, .nil⟩ (Option.some.inj h)
    | own => exact fin (m0 := .bor i) ⟨⟨RpO.shr (fun a q => .inr q) rp, rfl⟩, .nil⟩ (Option.some.inj h)
    | top => exact fin (top rp) (Option.some.inj h)
    | io => exact fin (m0 := .bor i) ⟨⟨RpO.shr (fun a q => .inr q) rp, rfl⟩, .nil⟩ (Option.some.inj h)
    | iot => exact fin (top rp) (Option.some.inj h)
end

section
variable {X : Cx} {C : Ctx} {a b c : Ex} {ea eb ec : Expr} {pos : Pos}
/-- two in a row: what the readings hand on -/
theorem two {K : PySem.W.Frag} {L : List Nat} {σ : L2.St} {H : Hp} {ρ : Env} {fp : Nat → List Addr} {R : Addr → Prop} {ma mb : M} {da db : D} {ρ1 ρ2 : Env} {Q : V → V → Hp → Prop} (g : Gd K σ H ρ fp R) (h1 : ev C L a ρ = .ok (ma, da) ρ1) (h2 : ev C (lk ma ++ L) b ρ1 = .ok (mb, db) ρ2)
    (q : ∀ x y H2 fp2 R2 f1 f2, Gd K σ H2 ρ2 fp2 R2 → Mv L H fp R H2 fp2 R2 → Hold K H2 fp2 R2 ma da x f1 → Hold K H2 fp2 R2 mb db y f2 → New L H fp f1 → New L H fp f2 → (∀ z ∈ f1, z ∉ f2) → Q x y H2) :
    tvx K C a σ H fun x H1 => tvx K C b σ H1 fun y H2 => Q x y H2 := by
  refine ⟨L, ρ, fp, R, g, ma, da, ρ1, h1, fun x H1 fp1 R1 f1 g1 v1 o1 n1 => ?_⟩
  refine ⟨lk ma ++ L, ρ1, fp1, R1, g1, mb, db, ρ2, h2, fun y H2 fp2 R2 f2 g2 v2 o2 n2 => ?_⟩
  have v2' : Mv L H1 fp1 R1 H2 fp2 R2 := v2.mono fun i hi => List.mem_append_right _ hi
  refine q x y H2 fp2 R2 f1 f2 g2 (v1.trans g1 v2') (o1.step g1 v2 fun i hi => List.mem_append_left _ hi) o2 n1 ((n2.mono fun i hi => List.mem_append_right _ hi).back g1 v1) fun z hz hz2 => ?_
  rcases n2 z hz2 with e | ⟨j, _, p⟩
  · exact o1.tm.tr z hz e
  · exact o1.tm.dj j z hz p
theorem RpS.int_inv {K : PySem.W.Frag} {H : Hp} {S : Addr → Prop} {i : Int} {v : V} (h : RpS K H S (.int i) v) : v = .int i := by simpa only [RpS] using h
theorem Hold.int {K : PySem.W.Frag} {H : Hp} {fp : Nat → List Addr} {R : Addr → Prop} {m : M} {i : Int} {v : V} {f : List Addr} (h : Hold K H fp R m (.int i) v f) : v = .int i := let ⟨_, q⟩ := h.read; q.int_inv
theorem Hold.str {K : PySem.W.Frag} {H : Hp} {fp : Nat → List Addr} {R : Addr → Prop} {m : M} {i : Str} {v : V} {f : List Addr} (h : Hold K H fp R m (.str i) v f) : v = .str i := by
  obtain ⟨_, q⟩ := h.read
  simpa only [RpS] using q
theorem Hold.bl {K : PySem.W.Frag} {H : Hp} {fp : Nat → List Addr} {R : Addr → Prop} {m : M} {i : Bool} {v : V} {f : List Addr} (h : Hold K H fp R m (.bool i) v f) : v = .bl i := by
  obtain ⟨_, q⟩ := h.read
  simpa only [RpS] using q
theorem Hold.non {K : PySem.W.Frag} {H : Hp} {fp : Nat → List Addr} {R : Addr → Prop} {m : M} {v : V} {f : List Addr} (h : Hold K H fp R m .none v f) : v = .non := by
  obtain ⟨_, q⟩ := h.read
  simpa only [RpS] using q
theorem Hold.ofI {K : PySem.W.Frag} {H : Hp} {fp : Nat → List Addr} {R : Addr → Prop} {i : Int} : Hold K H fp R .own (.int i) (.int i) [] := ⟨by simp [RpM, RpO], .nil⟩
theorem Hold.ofB {K : PySem.W.Frag} {H : Hp} {fp : Nat → List Addr} {R : Addr → Prop} {i : Bool} : Hold K H fp R .own (.bool i) (.bl i) [] := ⟨by simp [RpM, RpO], .nil⟩
theorem Hold.ofS {K : PySem.W.Frag} {H : Hp} {fp : Nat → List Addr} {R : Addr → Prop} {i : Str} : Hold K H fp R .own (.str i) (.str i) [] := ⟨by simp [RpM, RpO], .nil⟩
theorem Hold.ofN {K : PySem.W.Frag} {H : Hp} {fp : Nat → List Addr} {R : Addr → Prop} : Hold K H fp R .own .none .non [] := ⟨by simp [RpM, RpO], .nil⟩

/-! names and constants -/
theorem sv_var (i : Nat) {x : Str} (hN : X.N[i]? = some x := by rfl) (hv : Vis X.env.scope x := by first | exact Or.inl rfl | exact Or.inr (Or.inl rfl) | exact Or.inr (Or.inr rfl)) (hd : (x == ("__debug__" : Str)) = false := by decide)
    (hcd : (x == ("__classdict__" : Str)) = false := by decide) : PEv X C (.var i) (.Name x pos) := by
  refine peI (pe_var hN hv hd hcd) fun σ H Q ⟨L, ρ, fp, R, g, m, d, ρ', e, q⟩ => ?_
  have e := of_ok (show PV.R.of ((ld ρ i).map fun v => (v, ρ)) = _ from e)
  obtain ⟨p, hp, e2⟩ := Option.map_eq_some_iff.mp e
  obtain ⟨m', d'⟩ := p
  cases e2
  obtain ⟨v, hv, o⟩ := ld_hold g hp
  exact ⟨v, hv, q v H fp R [] g .refl o .nil⟩
theorem sv_int {i : Int} {j} : PEv X C (.con (.int i)) (.Constant (.int i) j pos) := peI pe_int fun σ H Q ⟨L, ρ, fp, R, g, m, d, ρ', e, q⟩ => by cases e; exact q _ H fp R [] g .refl .ofI .nil
theorem sv_bl {i : Bool} {j} : PEv X C (.con (.bool i)) (.Constant (.bool i) j pos) := peI pe_bl fun σ H Q ⟨L, ρ, fp, R, g, m, d, ρ', e, q⟩ => by cases e; exact q _ H fp R [] g .refl .ofB .nil
theorem sv_str {i : Str} {j} : PEv X C (.con (.str i)) (.Constant (.str i) j pos) := peI pe_str fun σ H Q ⟨L, ρ, fp, R, g, m, d, ρ', e, q⟩ => by cases e; exact q _ H fp R [] g .refl .ofS .nil
theorem sv_non {j} : PEv X C (.con .none) (.Constant .none j pos) := peI pe_non fun σ H Q ⟨L, ρ, fp, R, g, m, d, ρ', e, q⟩ => by cases e; exact q _ H fp R [] g .refl .ofN .nil
/-! arithmetic of ints -/
theorem sv_sub (ha : PEv X C a ea) (hb : PEv X C b eb) : PEv X C (.bin .sub a b) (.BinOp ea .Sub eb pos) := by
  refine peI (pe_op op_sub ha hb) fun σ H Q ⟨L, ρ, fp, R, g, m, d, ρ', e, q⟩ => ?_
  obtain ⟨⟨ma, da⟩, ρ1, h1, e⟩ := bind_ok e
  obtain ⟨⟨mb, db⟩, ρ2, h2, e⟩ := bind_ok e
  have e := of_ok e
  refine two g h1 h2 fun x y H2 fp2 R2 f1 f2 g2 v2 o1 o2 n1 n2 _ => ?_
  unfold binop at e
  split at e
  · obtain ⟨k, hk, e⟩ := Option.map_eq_some_iff.mp e
    cases hk; cases e
    exact ⟨_, _, o1.int, o2.int, q _ H2 fp2 R2 [] g2 v2 .ofI .nil⟩
  all_goals first | cases e | (dsimp only at e; cases e)
end
end PV
end

section
set_option Elab.async false
set_option linter.all false
set_option autoImplicit false
set_option maxRecDepth 100000
namespace PV
open PySem PySem.Spec PyProof.Rows L2
variable [Tbs]

section
variable {K : PySem.W.Frag} {σ : L2.St} {H H1 H2 : Hp} {ρ ρ1 ρ2 ρ' : Env} {fp fp1 fp2 : Nat → List Addr} {R R1 R2 : Addr → Prop} {L L' : List Nat} {f g : List Addr} {m : M} {d : D} {v : V} {Q : VK} {w : Bool}
def wM (w : Bool) : M := if w then .own else .shr
/-- places go from slots to what is only read -/
structure Sub (fp : Nat → List Addr) (R : Addr → Prop) (fp' : Nat → List Addr) (R' : Addr → Prop) : Prop where
  reg : ∀ a, R a → R' a
  nR : ∀ a, R' a → R a ∨ ∃ j, a ∈ fp j
  sub : ∀ i a, a ∈ fp' i → a ∈ fp i
  lock : ∀ i a, a ∈ fp i → a ∈ fp' i ∨ R' a
theorem Sub.refl : Sub fp R fp R := ⟨fun _ h => h, fun _ h => .inl h, fun _ _ h => h, fun _ _ h => .inl h⟩
theorem Sub.mv (s : Sub fp R fp1 R1) : Mv L H fp R H fp1 R1 :=
  ⟨fun _ _ _ => rfl, .refl _, fun i _ a h => s.lock i a h, s.reg, fun i a h => .inr ⟨i, s.sub i a h⟩, fun a h => (s.nR a h).imp id .inr, fun _ h => h, fun _ h => h⟩
theorem getc_set {i j : Nat} {c : Option Cell} (hi : i < ρ.length) : getc (ρ.set i c) j = if j = i then c else getc ρ j := by
  unfold getc
  by_cases h : j = i
  · subst h; rw [List.getElem?_set_self hi, if_pos rfl]; rfl
  · rw [List.getElem?_set_ne (Ne.symm h), if_neg h]
theorem getc_lt {i : Nat} {c : Cell} (h : getc ρ i = some c) : i < ρ.length := by
  unfold getc at h
  cases e : ρ[i]? with
  | none => rw [e] at h; cases h
  | some x => exact (List.getElem?_eq_some_iff.mp e).1
theorem RpT.shr (h : RpT K H R d v f) : RpS K H (fun x => R x ∨ x ∈ f) d v := by
  cases d with
  | list ds =>
    obtain ⟨a, vs, e, hl, rfl, hs⟩ := h
    simp only [RpS]
    exact ⟨a, vs, e, .inl ⟨.inr List.mem_cons_self, .inl hl⟩, RpSs.stay (.refl _) (fun _ _ => rfl) (fun _ => .inl) hs⟩
  | dict kvs =>
    obtain ⟨a, u, vs, e, hl, hd, rfl, hs⟩ := h
    simp only [RpS]
    exact ⟨a, u, vs, e, .inr List.mem_cons_self, .inl hl, hd, RpSk.stay (.refl _) (fun _ _ => rfl) (fun _ => .inl) hs⟩
  | none => exact RpS.stay (.refl _) (fun _ _ => rfl) (fun _ => .inl) h.1
  | bool b => exact RpS.stay (.refl _) (fun _ _ => rfl) (fun _ => .inl) h.1
  | int i => exact RpS.stay (.refl _) (fun _ _ => rfl) (fun _ => .inl) h.1
  | str x => exact RpS.stay (.refl _) (fun _ _ => rfl) (fun _ => .inl) h.1
  | tuple ds => exact RpS.stay (.refl _) (fun _ _ => rfl) (fun _ => .inl) h.1
theorem frz_ok {i : Nat} (g : Gd K σ H ρ fp R) (h : frz ρ i = some ρ') : ∃ fp' R', Gd K σ H ρ' fp' R' ∧ Sub fp R fp' R' ∧ ∀ a, a ∈ fp i → R' a := by
  have put : ∀ {k : CK} {d : D}, getc ρ i = some ⟨k, d⟩ → (∀ v f, RpK K H R k d v f → RpS K H (fun x => R x ∨ x ∈ f) d v) → ∃ fp' R', Gd K σ H (ρ.set i (some ⟨.shr, d⟩)) fp' R' ∧ Sub fp R fp' R' ∧ ∀ a, a ∈ fp i → R' a := fun {k d} e sh => by
    have hi := getc_lt e
    refine ⟨fun j => if j = i then [] else fp j, fun a => R a ∨ a ∈ fp i, ⟨by simpa using g.len, fun j c hc => ?_, fun j hc => ?_, fun j => ?_, fun j l a h1 h2 => ?_, fun j a h1 h2 => ?_, fun j a h1 => ?_, fun a h1 => h1.elim (g.tR a) (g.tr i a), g.tb⟩, ⟨fun a => .inl, fun a q => q.imp id fun z => ⟨i, z⟩, fun j a q => ?_, fun j a q => ?_⟩, fun a q => .inr q⟩
    · rw [getc_set hi] at hc
      by_cases hj : j = i
      · subst hj
        rw [if_pos rfl] at hc
        cases hc
        obtain ⟨v, e2, rp⟩ := g.cell j _ e
        exact ⟨v, e2, sh v _ rp, if_pos rfl⟩
      · rw [if_neg hj] at hc
        obtain ⟨v, e2, rp⟩ := g.cell j _ hc
        refine ⟨v, e2, ?_⟩
        show RpK K H _ c.k c.d v (if j = i then [] else fp j)
        rw [if_neg hj]
        exact rp.stay (.refl _) (fun _ _ => rfl) (fun _ => .inl) fun _ _ => rfl
    · rw [getc_set hi] at hc
      by_cases hj : j = i
      · subst hj; exact if_pos rfl
      · rw [if_neg hj] at hc
        show (if j = i then [] else fp j) = []
        rw [if_neg hj]; exact g.non j hc
    · show (if j = i then [] else fp j).Nodup
      split
      · exact List.nodup_nil
      · exact g.nd j
    · split at h1
      · cases h1
      · split at h2
        · cases h2
        · exact g.dj j l a h1 h2
    · split at h1
      · cases h1
      · rename_i hj
        exact h2.elim (g.dR j a h1) fun z => hj (g.dj j i a h1 z)
    · split at h1
      · cases h1
      · exact g.tr j a h1
    · split at q
      · cases q
      · exact q
    · show (a ∈ if j = i then [] else fp j) ∨ _
      by_cases hj : j = i
      · subst hj; exact .inr (.inr q)
      · rw [if_neg hj]; exact .inl q
  unfold frz at h
  cases e : getc ρ i with
  | none => rw [e] at h; cases h
  | some c =>
    obtain ⟨k, d⟩ := c
    rw [e] at h
    cases k with
    | own => cases h; exact put e fun v f rp => RpO.shr (fun a q => .inr q) rp
    | top => cases h; exact put e fun v f rp => RpT.shr rp
    | shr =>
      cases h
      refine ⟨fp, R, g, .refl, fun a q => ?_⟩
      obtain ⟨v, e2, rp⟩ := g.cell i _ e
      rw [rp.2] at q; cases q
    | io => cases h
    | iot => cases h
theorem use_ok (g : Gd K σ H ρ fp R) (o : Hold K H fp R m d v f) (h : use m d ρ = some (w, ρ')) : ∃ fp' R' f', Gd K σ H ρ' fp' R' ∧ Sub fp R fp' R' ∧ Hold K H fp' R' (wM w) d v f' ∧ ∀ a ∈ f', a ∈ f := by
  obtain ⟨f1, o1, s1⟩ := o.nrm
  unfold use at h
  generalize PV.nrm m d = m' at h o1
  cases m' with
  | own => cases h; exact ⟨fp, R, f1, g, .refl, o1, s1⟩
  | top => cases h; exact ⟨fp, R, f1, g, .refl, ⟨RpU.shr o1.rp, o1.tm⟩, s1⟩
  | shr => cases h; exact ⟨fp, R, f1, g, .refl, o1, s1⟩
  | bor i =>
    obtain ⟨r, hr, e⟩ := Option.map_eq_some_iff.mp h
    cases e
    obtain ⟨fp', R', g', s, t⟩ := frz_ok g hr
    refine ⟨fp', R', [], g', s, ⟨?_, .nil⟩, fun _ q => absurd q (by simp)⟩
    exact RpS.stay (.refl _) (fun _ _ => rfl) (fun a q => .inl (q.elim (s.reg a) (t a))) o1.rp.1
  | bort i =>
    obtain ⟨r, hr, e⟩ := Option.map_eq_some_iff.mp h
    cases e
    obtain ⟨fp', R', g', s, t⟩ := frz_ok g hr
    refine ⟨fp', R', [], g', s, ⟨?_, .nil⟩, fun _ q => absurd q (by simp)⟩
    exact RpS.stay (.refl _) (fun _ _ => rfl) (fun a q => .inl (q.elim (s.reg a) (t a))) (RpW.shr (fun _ => .inl) o1.rp.1)
theorem HoldL.nil : HoldL K H fp R true [] [] [] := ⟨.nil, by simp [RpOs]⟩
theorem Tmp.app (a : Tmp H fp R f) (b : Tmp H fp R g) (h : ∀ x ∈ f, x ∉ g) : Tmp H fp R (f ++ g) where
  nd := List.nodup_append.mpr ⟨a.nd, b.nd, fun x hx y hy e => h x hx (e ▸ hy)⟩
  dj := fun i x hx => (List.mem_append.mp hx).elim (a.dj i x) (b.dj i x)
  dR := fun x hx => (List.mem_append.mp hx).elim (a.dR x) (b.dR x)
  tr := fun x hx => (List.mem_append.mp hx).elim (a.tr x) (b.tr x)
theorem Hold.rdS (o : Hold K H fp R (wM w) d v f) : RpS K H (fun x => R x ∨ x ∈ f) d v := by
  cases w with
  | true => exact RpO.shr (fun a q => .inr q) o.rp
  | false => exact o.rp
theorem HoldL.cons {w2 : Bool} {ds : List D} {vs : List V} (o : Hold K H fp R (wM w) d v f) (l : HoldL K H fp R w2 ds vs g) (h : ∀ x ∈ f, x ∉ g) : HoldL K H fp R (w && w2) (d :: ds) (v :: vs) (f ++ g) := by
  refine ⟨o.tm.app l.1 h, ?_⟩
  by_cases hw : (w && w2) = true
  · rw [if_pos hw]
    simp only [Bool.and_eq_true] at hw
    obtain ⟨rfl, rfl⟩ := hw
    simp only [RpOs]
    exact ⟨v, vs, f, g, rfl, rfl, o.rp, l.2⟩
  · rw [if_neg hw]
    simp only [RpSs]
    exact ⟨v, vs, rfl, RpS.stay (.refl _) (fun _ _ => rfl) (fun _ q => q.elim .inl fun z => .inr (List.mem_append_left _ z)) o.rdS,
      RpSs.stay (.refl _) (fun _ _ => rfl) (fun _ q => q.elim .inl fun z => .inr (List.mem_append_right _ z)) l.weak⟩
/-- what came of a part may not be among what was held -/
theorem New.apart (t : Tmp H1 fp1 R1 f) (n : New L H1 fp1 g) : ∀ x ∈ f, x ∉ g := fun x hx hg => by
  rcases n x hg with e | ⟨j, _, p⟩
  · exact t.tr x hx e
  · exact t.dj j x hx p
end

/-! ### displays -/
def tds (K : PySem.W.Frag) (C : Ctx) (es : Ex) : TA := fun σ H Q => ∃ L ρ fp R, Gd K σ H ρ fp R ∧ ∃ w ds ρ', evd C L es ρ = .ok (w, ds) ρ' ∧
  ∀ vs H' fp' R' f, Gd K σ H' ρ' fp' R' → Mv L H fp R H' fp' R' → HoldL K H' fp' R' w ds vs f → New L H fp f → Q vs H'
def PAd (X : Cx) (C : Ctx) (es : Ex) (eas : List Expr) : Prop := PA X eas (tds X.K C es)
section
variable {X : Cx} {C : Ctx} {a b c es : Ex} {ea eb ec : Expr} {eas : List Expr} {pos : Pos}
theorem pad_nil : PAd X C .nil [] := paI pa_nil fun σ H Q ⟨L, ρ, fp, R, g, w, ds, ρ', e, q⟩ => by
  cases e
  exact q [] H fp R [] g .refl .nil .nil
theorem pad_cons (ha : PEv X C a ea) (hr : PAd X C es eas) (hs : starEach (ea :: eas) X.env = (false, eval ea X.env) :: starEach eas X.env := by rfl) : PAd X C (.cons a es) (ea :: eas) := by
  refine paI (pa_cons ha hr hs) fun σ H Q ⟨L, ρ, fp, R, g, w, ds, ρ', e, q⟩ => ?_
  obtain ⟨⟨m, d⟩, ρ1, h1, e⟩ := bind_ok e
  dsimp only at e
  refine ⟨L, ρ, fp, R, g, m, d, ρ1, h1, fun v H1 fp1 R1 f1 g1 v1 o1 n1 => ?_⟩
  cases hu : use m d ρ1 with
  | none => rw [hu] at e; cases e
  | some p =>
    obtain ⟨w1, ρ2⟩ := p
    rw [hu] at e
    obtain ⟨⟨w2, ds2⟩, ρ3, h2, e⟩ := bind_ok e
    cases e
    obtain ⟨fp2, R2, f2, g2, s2, o2, sf⟩ := use_ok g1 o1 hu
    refine ⟨L, ρ2, fp2, R2, g2, w2, ds2, ρ', h2, fun vs H3 fp3 R3 f3 g3 v3 l3 n3 => ?_⟩
    have o3 := o2.step g2 v3 (m := wM w1) (fun i hi => by cases w1 <;> cases hi)
    have ap := New.apart o2.tm n3
    have m2 : Mv L H fp R H1 fp2 R2 := v1.trans g1 s2.mv
    exact q (v :: vs) H3 fp3 R3 (f2 ++ f3) g3 (m2.trans g2 v3) (HoldL.cons o3 l3 ap) ((n1.sub sf).app (n3.back g2 m2))
theorem sv_lst (h : PAd X C es eas) : PEv X C (.lst es) (.List eas pos) := by
  refine peI (pe_lst h) fun σ H Q ⟨L, ρ, fp, R, g, m, d, ρ', e, q⟩ => ?_
  obtain ⟨⟨w, ds⟩, ρ1, h1, e⟩ := bind_ok e
  refine ⟨L, ρ, fp, R, g, w, ds, ρ1, h1, fun vs H1 fp1 R1 f1 g1 v1 l1 n1 => ?_⟩
  dsimp only at e
  split at e
  · rename_i hz
    cases e
    refine ⟨by rw [← l1.len]; exact hz, fun p hp => ?_⟩
    exact q _ _ fp1 R1 (p :: f1) (g1.laid hp) (v1.trans g1 (.laid hp)) (.lst g1 hp l1) fun x hx => by
      rcases List.mem_cons.mp hx with rfl | hx
      · exact .inl (Classical.byContradiction fun n => v1.som _ n hp)
      · exact n1 x hx
  · cases e
theorem sv_tup {k} (h : PAd X C es eas) : PEv X C (.tup es) (.Tuple eas k pos) := by
  refine peI (pe_tup h) fun σ H Q ⟨L, ρ, fp, R, g, m, d, ρ', e, q⟩ => ?_
  obtain ⟨⟨w, ds⟩, ρ1, h1, e⟩ := bind_ok e
  refine ⟨L, ρ, fp, R, g, w, ds, ρ1, h1, fun vs H1 fp1 R1 f1 g1 v1 l1 n1 => ?_⟩
  dsimp only at e
  split at e
  · rename_i hz
    cases e
    refine ⟨by rw [← l1.len]; exact hz, fun p hp => ?_⟩
    have o : Hold X.K (upd H1 p (.tup vs)) fp1 R1 (ownM w) (.tuple ds) (.ref p) f1 := by
      have o := Hold.tup g1 hp l1
      cases w with
      | true => exact o
      | false => exact ⟨o.rp, o.tm⟩
    obtain ⟨f2, o2, s2⟩ := o.nrm
    exact q _ _ fp1 R1 f2 (g1.laid hp) (v1.trans g1 (.laid hp)) o2 (n1.sub s2)
  · cases e
end
section
variable {K : PySem.W.Frag} {σ : L2.St} {H H1 H2 : Hp} {ρ ρ1 ρ2 ρ' : Env} {fp fp1 fp2 : Nat → List Addr} {R R1 R2 : Addr → Prop} {L L' : List Nat} {f g : List Addr} {m : M} {d : D} {v : V} {Q : VK} {w : Bool} {xs ys : List D}
/-- the things that another thing holds -/
def RpI (K : PySem.W.Frag) (H : Hp) (fp : Nat → List Addr) (R : Addr → Prop) (m : M) (xs : List D) (vs : List V) (f : List Addr) : Prop :=
  match m with
  | .own => ∃ g, (∀ a ∈ g, a ∈ f) ∧ g.Nodup ∧ RpOs K H xs vs g
  | .top => RpSs K H (fun x => R x ∨ x ∈ f) xs vs
  | .shr => RpSs K H (fun x => R x ∨ x ∈ f) xs vs
  | .bor i => RpSs K H (fun x => R x ∨ x ∈ fp i) xs vs
  | .bort _ => RpSs K H R xs vs
theorem RpSs.to {S S' : Addr → Prop} {vs : List V} (m : ∀ a, S a → S' a) (h : RpSs K H S xs vs) : RpSs K H S' xs vs := RpSs.stay (.refl _) (fun _ _ => rfl) m h
theorem Hold.items (o : Hold K H fp R m (.list xs) v f) : ∃ a vs, v = .ref a ∧ SqL K H a vs ∧ RpI K H fp R m xs vs f ∧ Tmp H fp R f := by
  have rp := o.rp
  cases m with
  | own =>
    have rp : RpO K H (.list xs) v f := rp
    simp only [RpO] at rp
    obtain ⟨a, vs, g, e, hl, rfl, hs⟩ := rp
    exact ⟨a, vs, e, .inl (.inl hl), ⟨g, fun x q => List.mem_cons_of_mem _ q, (List.nodup_cons.mp o.tm.nd).2, hs⟩, o.tm⟩
  | top =>
    obtain ⟨a, vs, e, hl, ha, hs⟩ := rp
    exact ⟨a, vs, e, .inl (.inl hl), hs.to fun _ q => q.imp id And.left, o.tm⟩
  | shr =>
    have rp : RpS K H _ (.list xs) v := rp
    simp only [RpS] at rp
    obtain ⟨a, vs, e, hl, hs⟩ := rp
    exact ⟨a, vs, e, hl.sq, hs, o.tm⟩
  | bor i =>
    have rp : RpS K H _ (.list xs) v := rp.1
    simp only [RpS] at rp
    obtain ⟨a, vs, e, hl, hs⟩ := rp
    exact ⟨a, vs, e, hl.sq, hs, o.tm⟩
  | bort i =>
    obtain ⟨a, vs, e, hl, hs⟩ := rp.1
    exact ⟨a, vs, e, hl.sq, hs, o.tm⟩
theorem Hold.itemsT (o : Hold K H fp R m (.tuple xs) v f) : ∃ a vs, v = .ref a ∧ TuA K H a vs ∧ RpI K H fp R m xs vs f ∧ Tmp H fp R f := by
  have rp := o.rp
  have rd : ∀ {S}, RpS K H S (.tuple xs) v → ∃ a vs, v = .ref a ∧ TuA K H a vs ∧ RpSs K H S xs vs := fun q => by
    simpa only [RpS] using q
  cases m with
  | own =>
    have rp : RpO K H (.tuple xs) v f := rp
    simp only [RpO] at rp
    obtain ⟨a, vs, e, hl, hs⟩ := rp
    exact ⟨a, vs, e, hl, ⟨f, fun x q => q, o.tm.nd, hs⟩, o.tm⟩
  | top => obtain ⟨a, vs, e, hl, hs⟩ := rd rp; exact ⟨a, vs, e, hl, hs, o.tm⟩
  | shr => obtain ⟨a, vs, e, hl, hs⟩ := rd rp; exact ⟨a, vs, e, hl, hs, o.tm⟩
  | bor i => obtain ⟨a, vs, e, hl, hs⟩ := rd rp.1; exact ⟨a, vs, e, hl, hs, o.tm⟩
  | bort i => obtain ⟨a, vs, e, hl, hs⟩ := rd rp.1; exact ⟨a, vs, e, hl, hs, o.tm⟩
theorem Tmp.sub (t : Tmp H fp R f) (s : ∀ a ∈ g, a ∈ f) (n : g.Nodup) : Tmp H fp R g := ⟨n, fun i a h => t.dj i a (s a h), fun a h => t.dR a (s a h), fun a h => t.tr a (s a h)⟩
theorem RpI.im {vs : List V} (hi : imAll xs = true) (h : RpI K H fp R m xs vs f) : RpOs K H xs vs [] := by
  cases m with
  | own => obtain ⟨g, _, _, h⟩ := h; have e := RpOs.im_nil hi h; subst e; exact h
  | top => exact RpSs.own hi h
  | shr => exact RpSs.own hi h
  | bor i => exact RpSs.own hi h
  | bort i => exact RpSs.own hi h
theorem use1_ok {vs : List V} (g : Gd K σ H ρ fp R) (t : Tmp H fp R f) (o : RpI K H fp R m xs vs f) (h : use1 m xs ρ = some (w, ρ')) :
    ∃ fp' R' f', Gd K σ H ρ' fp' R' ∧ Sub fp R fp' R' ∧ HoldL K H fp' R' w xs vs f' ∧ ∀ a ∈ f', a ∈ f := by
  unfold use1 at h
  by_cases hi : imAll xs = true
  · rw [if_pos hi] at h
    cases h
    exact ⟨fp, R, [], g, .refl, ⟨.nil, o.im hi⟩, fun _ q => absurd q (by simp)⟩
  · rw [if_neg hi] at h
    have hn : ∀ m0 : M, PV.nrm m0 (.list xs) = m0 := fun m0 => by unfold PV.nrm; rw [if_neg (by simp [PV.im])]
    unfold use at h
    rw [hn] at h
    cases m with
    | own =>
      cases h
      obtain ⟨g', s, n, o⟩ := o
      exact ⟨fp, R, g', g, .refl, ⟨t.sub s n, o⟩, s⟩
    | top => cases h; exact ⟨fp, R, f, g, .refl, ⟨t, o⟩, fun _ q => q⟩
    | shr => cases h; exact ⟨fp, R, f, g, .refl, ⟨t, o⟩, fun _ q => q⟩
    | bor i =>
      obtain ⟨r, hr, e⟩ := Option.map_eq_some_iff.mp h
      cases e
      obtain ⟨fp', R', g', s, t'⟩ := frz_ok g hr
      exact ⟨fp', R', [], g', s, ⟨.nil, RpSs.to (fun a q => .inl (q.elim (s.reg a) (t' a))) o⟩, fun _ q => absurd q (by simp)⟩
    | bort i => cases h; exact ⟨fp, R, [], g, .refl, ⟨.nil, RpSs.to (fun a q => .inl q) o⟩, fun _ q => absurd q (by simp)⟩
/-- what is held stays while places are given away -/
theorem Hold.subst (g : Gd K σ H ρ fp R) (s : Sub fp R fp1 R1) (o : Hold K H fp R m d v f) : Hold K H fp1 R1 m d v f := o.step (L := lk m) g s.mv fun _ h => h
theorem HoldL.subst {vs : List V} (g : Gd K σ H ρ fp R) (s : Sub fp R fp1 R1) (o : HoldL K H fp R w xs vs f) : HoldL K H fp1 R1 w xs vs f := o.step (L := []) g s.mv
theorem RpI.subst {vs : List V} (s : Sub fp R fp1 R1) (o : RpI K H fp R m xs vs f) : RpI K H fp1 R1 m xs vs f := by
  cases m with
  | own => exact o
  | top => exact RpSs.to (fun a q => q.imp (s.reg a) id) o
  | shr => exact RpSs.to (fun a q => q.imp (s.reg a) id) o
  | bor i => exact RpSs.to (fun a q => q.elim (fun z => .inl (s.reg a z)) fun z => (s.lock i a z).elim .inr .inl) o
  | bort i => exact RpSs.to s.reg o
theorem Tmp.subst (s : Sub fp R fp1 R1) (o : Tmp H fp R f) : Tmp H fp1 R1 f := ⟨o.nd, fun i a h z => o.dj i a h (s.sub i a z), fun a h z => (s.nR a z).elim (o.dR a h) fun ⟨j, q⟩ => o.dj j a h q, o.tr⟩
theorem RpSs.app {S : Addr → Prop} : ∀ {xs ys : List D} {us vs : List V}, RpSs K H S xs us → RpSs K H S ys vs → RpSs K H S (xs ++ ys) (us ++ vs)
  | [], ys, us, vs, h, q => by simp only [RpSs] at h; subst h; exact q
  | x :: xs, ys, us, vs, h, q => by
    simp only [RpSs] at h
    obtain ⟨v, r, rfl, h1, h2⟩ := h
    simp only [List.cons_append, RpSs]
    exact ⟨v, r ++ vs, rfl, h1, RpSs.app h2 q⟩
theorem RpOs.app : ∀ {xs ys : List D} {us vs : List V} {f g : List Addr}, RpOs K H xs us f → RpOs K H ys vs g → RpOs K H (xs ++ ys) (us ++ vs) (f ++ g)
  | [], ys, us, vs, f, g, h, q => by simp only [RpOs] at h; obtain ⟨rfl, rfl⟩ := h; exact q
  | x :: xs, ys, us, vs, f, g, h, q => by
    simp only [RpOs] at h
    obtain ⟨v, r, f1, f2, rfl, rfl, h1, h2⟩ := h
    simp only [List.cons_append, RpOs]
    exact ⟨v, r ++ vs, f1, f2 ++ g, rfl, by rw [List.append_assoc], h1, RpOs.app h2 q⟩
theorem HoldL.app {w2 : Bool} {us vs : List V} (a : HoldL K H fp R w xs us f) (b : HoldL K H fp R w2 ys vs g) (h : ∀ x ∈ f, x ∉ g) : HoldL K H fp R (w && w2) (xs ++ ys) (us ++ vs) (f ++ g) := by
  refine ⟨a.1.app b.1 h, ?_⟩
  by_cases hw : (w && w2) = true
  · rw [if_pos hw]
    simp only [Bool.and_eq_true] at hw
    obtain ⟨rfl, rfl⟩ := hw
    exact RpOs.app a.2 b.2
  · rw [if_neg hw]
    exact RpSs.app (a.weak.to fun _ q => q.imp id (List.mem_append_left _)) (b.weak.to fun _ q => q.imp id (List.mem_append_right _))
end
end PV
end

section
set_option Elab.async false
set_option linter.all false
set_option autoImplicit false
set_option maxRecDepth 100000
namespace PV
open PySem PySem.Spec PyProof.Rows L2
variable [Tbs]

section
variable {K : PySem.W.Frag} {σ : L2.St} {H H1 H2 : Hp} {ρ ρ1 ρ2 ρ' : Env} {fp fp1 fp2 : Nat → List Addr} {R R1 R2 : Addr → Prop} {L L' : List Nat} {f g : List Addr} {m : M} {d : D} {v : V} {Q : VK} {w : Bool} {xs ys : List D} {vs : List V}
/-- the end: a new list -/
theorem Got.lst (q : Got K σ L H fp R ρ' (ownM w) (.list xs) Q) (g2 : Gd K σ H2 ρ' fp2 R2) (v2 : Mv L H fp R H2 fp2 R2) (l : HoldL K H2 fp2 R2 w xs vs f) (n : New L H fp f) : ∀ p, H2 p = none → Q (.ref p) (upd H2 p (.lst vs)) := fun p hp =>
  q _ _ fp2 R2 (p :: f) (g2.laid hp) (v2.trans g2 (.laid hp)) (.lst g2 hp l) fun x hx => by
    rcases List.mem_cons.mp hx with rfl | hx
    · exact .inl (Classical.byContradiction fun n => v2.som _ n hp)
    · exact n x hx
theorem Hold.tupA {a : Addr} (h : TuA K H a vs) (l : HoldL K H fp R w xs vs f) : Hold K H fp R (ownM w) (.tuple xs) (.ref a) f := by
  refine ⟨?_, l.1⟩
  cases w with
  | true =>
    show RpO K _ (.tuple xs) _ _
    simp only [RpO]
    exact ⟨a, vs, rfl, h, l.2⟩
  | false =>
    show RpS K _ _ (.tuple xs) _
    simp only [RpS]
    exact ⟨a, vs, rfl, h, l.2⟩
/-- the end: a new tuple -/
theorem Got.tup (q : Got K σ L H fp R ρ' m (.tuple xs) Q) (hm : m = ownM w ∨ m = PV.nrm (ownM w) (.tuple xs)) (g2 : Gd K σ H2 ρ' fp2 R2) (v2 : Mv L H fp R H2 fp2 R2) (l : HoldL K H2 fp2 R2 w xs vs f) (n : New L H fp f) : ∀ p, H2 p = none → Q (.ref p) (upd H2 p (.tup vs)) := fun p hp => by
  have l' : HoldL K (upd H2 p (.tup vs)) fp2 R2 w xs vs f := l.step g2 (L := []) (.laid hp)
  have o := Hold.tupA (a := p) upd_same l'
  rcases hm with rfl | rfl
  · exact q _ _ fp2 R2 f (g2.laid hp) (v2.trans g2 (.laid hp)) o n
  · obtain ⟨f2, o2, s2⟩ := o.nrm
    exact q _ _ fp2 R2 f2 (g2.laid hp) (v2.trans g2 (.laid hp)) o2 (n.sub s2)
/-- the end: a tuple that stands -/
theorem Got.tupAt {a : Addr} (q : Got K σ L H fp R ρ' m (.tuple xs) Q) (hm : m = ownM w ∨ m = PV.nrm (ownM w) (.tuple xs)) (g2 : Gd K σ H2 ρ' fp2 R2) (v2 : Mv L H fp R H2 fp2 R2) (h : TuA K H2 a vs) (l : HoldL K H2 fp2 R2 w xs vs f) (n : New L H fp f) : Q (.ref a) H2 := by
  have o := Hold.tupA h l
  rcases hm with rfl | rfl
  · exact q _ _ fp2 R2 f g2 v2 o n
  · obtain ⟨f2, o2, s2⟩ := o.nrm
    exact q _ _ fp2 R2 f2 g2 v2 o2 (n.sub s2)
theorem Got.imm (q : Got K σ L H fp R ρ' m d Q) (g2 : Gd K σ H2 ρ' fp2 R2) (v2 : Mv L H fp R H2 fp2 R2) (o : Hold K H2 fp2 R2 m d v []) : Q v H2 := q _ _ fp2 R2 [] g2 v2 o .nil
end
section
variable {X : Cx} {C : Ctx} {a b c es : Ex} {ea eb ec : Expr} {eas : List Expr} {pos : Pos}
/-- + of two lists -/
theorem op_catS : OpR X (binaryOp .Add) (fun x y H Q => ∃ l b xs zs, x = .ref l ∧ y = .ref b ∧ SqL X.K H l xs ∧ SqL X.K H b zs ∧ xs.length + zs.length ≤ sizeLine ∧ ∀ p, H p = none → Q (.ref p) (upd H p (.lst (xs ++ zs)))) := by
  intro pins s σ H x y v u Q I rx ry h
  obtain ⟨l, b, xs, zs, rfl, rfl, hx, hy, hz, q⟩ := h
  cases rx
  cases ry
  obtain ⟨its, r, pl, z1⟩ := I.list hx
  obtain ⟨its2, r2, pl2, z2⟩ := I.list hy
  have l1 := r.length
  have l2 := r2.length
  obtain ⟨⟨cls, dd, data, sl⟩, n, ho, hc, hdd, hd⟩ := pl
  obtain ⟨⟨cls2, dd2, data2, sl2⟩, n2, ho2, hc2, hdd2, hd2⟩ := pl2
  simp only at hc hdd hd hc2 hdd2 hd2
  subst hc hd hc2 hd2
  have e : its.toArray ++ its2.toArray = (its ++ its2).toArray := by simp
  refine concat_meets ⟨_, ho, rfl⟩ ⟨_, ho2, rfl⟩ noFill_list_add seq_list_add PySem.F.slot_list_add PySem.F.entry_list_add (PySem.F.args_list_add_2 _ _) (list_addW l b its.toArray its2.toArray n n2 dd dd2 sl sl2 (by rw [List.size_toArray, List.size_toArray]; omega)) ⟨ho, ho2, ?_⟩
  rw [e]
  exact ⟨.ref _, _, I.lnew (t' := s.toks) (r.append r2) (by rw [List.length_append]; omega), rfl, q _ I.fresh⟩
theorem sv_add (ha : PEv X C a ea) (hb : PEv X C b eb) : PEv X C (.bin .add a b) (.BinOp ea .Add eb pos) := by
  refine peI (pe_op (OpR.or op_add (OpR.or op_add_str (OpR.or op_catS op_catA))) ha hb) fun σ H Q ⟨L, ρ, fp, R, g, m, d, ρ', e, q⟩ => ?_
  obtain ⟨⟨ma, da⟩, ρ1, h1, e⟩ := bind_ok e
  obtain ⟨⟨mb, db⟩, ρ2, h2, e⟩ := bind_ok e
  have e := of_ok e
  refine two g h1 h2 fun x y H2 fp2 R2 f1 f2 g2 v2 o1 o2 n1 n2 ap => ?_
  have two_use : ∀ {xs ys : List D} {us vs : List V} {w : Bool}, RpI X.K H2 fp2 R2 ma xs us f1 → RpI X.K H2 fp2 R2 mb ys vs f2 → use2 ma mb xs ys ρ2 = some (w, ρ') →
      ∃ fp3 R3 f3, Gd X.K σ H2 ρ' fp3 R3 ∧ Mv L H fp R H2 fp3 R3 ∧ HoldL X.K H2 fp3 R3 w (xs ++ ys) (us ++ vs) f3 ∧ New L H fp f3 ∧ ∃ w1 w2 h1 h2, HoldL X.K H2 fp3 R3 w1 xs us h1 ∧ HoldL X.K H2 fp3 R3 w2 ys vs h2 ∧ w = (w1 && w2) ∧ New L H fp h1 ∧ New L H fp h2 := fun {xs ys us vs w} i1 i2 hu => by
    unfold use2 at hu
    cases hu1 : use1 ma xs ρ2 with
    | none => rw [hu1] at hu; cases hu
    | some p =>
      obtain ⟨w1, ρ3⟩ := p
      rw [hu1] at hu
      dsimp only at hu
      cases hu2 : use1 mb ys ρ3 with
      | none => rw [hu2] at hu; cases hu
      | some p2 =>
        obtain ⟨w2, ρ4⟩ := p2
        rw [hu2] at hu
        cases hu
        obtain ⟨fp3, R3, f3, g3, s3, l3, sf3⟩ := use1_ok g2 o1.tm i1 hu1
        obtain ⟨fp4, R4, f4, g4, s4, l4, sf4⟩ := use1_ok g3 (o2.tm.subst s3) (i2.subst s3) hu2
        have l3' := l3.subst g3 s4
        have m4 : Mv L H fp R H2 fp4 R4 := (v2.trans g2 s3.mv).trans g3 s4.mv
        exact ⟨fp4, R4, f3 ++ f4, g4, m4, l3'.app l4 fun z hz hz2 => ap z (sf3 z hz) (sf4 z hz2), (n1.sub sf3).app (n2.sub sf4), w1, w2, f3, f4, l3', l4, rfl, n1.sub sf3, n2.sub sf4⟩
  unfold binop at e
  split at e
  · obtain ⟨k, hk, e⟩ := Option.map_eq_some_iff.mp e
    cases hk; cases e
    exact .inl ⟨_, _, o1.int, o2.int, q.imm g2 v2 .ofI⟩
  · dsimp only at e
    split at e
    · rename_i hz
      cases e
      exact .inr (.inl ⟨_, _, o1.str, o2.str, hz, q.imm g2 v2 .ofS⟩)
    · cases e
  · dsimp only at e
    split at e
    · rename_i hz
      obtain ⟨⟨w, ρ3⟩, hu, e⟩ := Option.map_eq_some_iff.mp e
      cases e
      obtain ⟨a1, us, rfl, hs1, i1, t1⟩ := o1.items
      obtain ⟨a2, vs, rfl, hs2, i2, t2⟩ := o2.items
      obtain ⟨fp3, R3, f3, g3, m3, l3, n3, w1, w2, k1, k2, r1, r2, _⟩ := two_use i1 i2 hu
      exact .inr (.inr (.inl ⟨a1, a2, us, vs, rfl, rfl, hs1, hs2, by rw [← r1.len, ← r2.len]; exact hz, q.lst g3 m3 l3 n3⟩))
    · cases e
  · dsimp only at e
    split at e
    · rename_i hz
      obtain ⟨⟨w, ρ3⟩, hu, e⟩ := Option.map_eq_some_iff.mp e
      cases e
      obtain ⟨a1, us, rfl, hs1, i1, t1⟩ := o1.itemsT
      obtain ⟨a2, vs, rfl, hs2, i2, t2⟩ := o2.itemsT
      obtain ⟨fp3, R3, f3, g3, m3, l3, n3, w1, w2, k1, k2, r1, r2, ew, q1, q2⟩ := two_use i1 i2 hu
      have e1 := r1.len
      have e2 := r2.len
      refine .inr (.inr (.inr ⟨a1, a2, us, vs, rfl, rfl, hs1.sq, hs2.sq, by rw [← e1, ← e2]; exact hz, fun hn => ?_, fun _ hn => ?_, fun _ _ => q.tup (.inl rfl) g3 m3 l3 n3⟩))
      · subst hn
        exact q.tupAt (.inl rfl) g3 m3 hs2 l3 n3
      · subst hn
        rw [List.append_nil us] at l3
        exact q.tupAt (.inl rfl) g3 m3 hs1 l3 n3
    · cases e
  all_goals first | cases e | (dsimp only at e; cases e)
theorem arith_mul (i j : Int) : arith .mul i j = if mulOk i j then some (i * j) else none := rfl
theorem arith_fdiv (i j : Int) : arith .fdiv i j = if 0 < j && wide i && decide (j.natAbs.log2 < 8000) then some (i / j) else none := rfl
theorem arith_mod (i j : Int) : arith .mod i j = if 0 < j then some (i % j) else none := rfl
theorem arith_pow (i j : Int) : arith .pow i j = if 0 ≤ j && decide ((Builtin.Int.intBits i : Int) * j ≤ 2 ^ 20) then some (i ^ j.toNat) else none := rfl
theorem op_mul_str {X : Cx} : OpR X (binaryOp .Mult) (fun x y H Q => ∃ i n, x = V.str i ∧ y = V.int n ∧ MulOk i n ∧ Q (.str (Txt.mul i n)) H) := by
  intro pins s σ H x y v u Q I rx ry h
  obtain ⟨i, n, rfl, rfl, hz, q⟩ := h
  obtain ⟨t, rfl⟩ := rx
  obtain ⟨t', rfl⟩ := ry
  exact SB.mul hz (fun t' tk => ⟨.str (Txt.mul i n), H, I.tok _, ⟨_, rfl⟩, q⟩)
theorem sv_mul (ha : PEv X C a ea) (hb : PEv X C b eb) : PEv X C (.bin .mul a b) (.BinOp ea .Mult eb pos) := by
  refine peI (pe_op (OpR.or op_mul (OpR.or op_mulW (OpR.or op_rep op_mul_str))) ha hb) fun σ H Q ⟨L, ρ, fp, R, g, m, d, ρ', e, q⟩ => ?_
  obtain ⟨⟨ma, da⟩, ρ1, h1, e⟩ := bind_ok e
  obtain ⟨⟨mb, db⟩, ρ2, h2, e⟩ := bind_ok e
  have e := of_ok e
  refine two g h1 h2 fun x y H2 fp2 R2 f1 f2 g2 v2 o1 o2 n1 n2 ap => ?_
  unfold binop at e
  split at e
  · obtain ⟨k, hk, e⟩ := Option.map_eq_some_iff.mp e
    rw [arith_mul] at hk
    split at hk
    · rename_i hm
      cases hk; cases e
      unfold mulOk at hm
      simp only [Bool.or_eq_true] at hm
      have fin := q.imm g2 v2 .ofI
      have sm : ∀ {k : Int}, small k = true → -(2 ^ 64) < k ∧ k < 2 ^ 64 := fun {k} h => by
        unfold small at h
        simp only [Bool.and_eq_true, decide_eq_true_eq] at h
        exact h
      rcases hm with (hm | hm) | hm
      · exact .inl ⟨_, _, o1.int, o2.int, .inl (sm hm), fin⟩
      · exact .inl ⟨_, _, o1.int, o2.int, .inr (sm hm), fin⟩
      · refine .inr (.inl ⟨_, _, o1.int, o2.int, ?_, fin⟩)
        unfold wide at hm
        simp only [Bool.and_eq_true, decide_eq_true_eq] at hm
        show _ + _ < 1000000
        omega
    · cases hk
  · dsimp only at e; cases e
  · dsimp only at e; cases e
  · dsimp only at e; cases e
  · rename_i xs k _ _
    dsimp only at e
    split at e
    · rename_i hc
      simp only [Bool.and_eq_true, decide_eq_true_eq] at hc
      have hk := o2.int
      subst hk
      -- the copies
      have fin : ∀ {w : Bool} {a0 : Addr} {us : List V} {g : List Addr}, x = .ref a0 → H2 a0 = some (.lst us) → HoldL X.K H2 fp2 R2 w ((List.replicate k.toNat xs).flatten) ((List.replicate k.toNat us).flatten) g → (∀ b ∈ g, b ∈ f1) → xs.length = us.length → Got X.K σ L H fp R ρ2 (ownM w) (.list (List.replicate k.toNat xs).flatten) Q → (rRep x (.int k) H2 Q) := fun {w a0 us g} hx hl l s len q => by
        refine ⟨a0, k, us, hx, rfl, hl, by omega, by omega, by rw [← len]; exact hc.1, q.lst g2 v2 l (n1.sub s)⟩
      have rep : ∀ {S : Addr → Prop} {us : List V} (n : Nat), RpSs X.K H2 S xs us → RpSs X.K H2 S ((List.replicate n xs).flatten) ((List.replicate n us).flatten) := fun {S us} n h => by
        induction n with
        | zero => simp [RpSs]
        | succ n ih => rw [List.replicate_succ, List.replicate_succ, List.flatten_cons, List.flatten_cons]; exact RpSs.app h ih
      have repO : ∀ {us : List V} (n : Nat), RpOs X.K H2 xs us [] → RpOs X.K H2 ((List.replicate n xs).flatten) ((List.replicate n us).flatten) [] := fun {us} n h => by
        induction n with
        | zero => simp [RpOs]
        | succ n ih => rw [List.replicate_succ, List.replicate_succ, List.flatten_cons, List.flatten_cons]; exact RpOs.app (f := []) (g := []) h ih
      cases ma with
      | own =>
        cases e
        have rp : RpO X.K H2 (.list xs) x f1 := o1.rp
        simp only [RpO] at rp
        obtain ⟨a0, us, g, rfl, hl, rfl, hs⟩ := rp
        refine .inr (.inr (.inl ?_))
        cases hi : imAll xs with
        | true =>
          rw [hi] at q
          exact fin (w := true) (g := []) rfl hl ⟨.nil, repO _ (by have e := RpOs.im_nil hi hs; subst e; exact hs)⟩ (fun _ h => absurd h (by simp)) hs.length q
        | false =>
          rw [hi] at q
          exact fin (w := false) (g := g) rfl hl ⟨o1.tm.sub (fun b hb => List.mem_cons_of_mem _ hb) (List.nodup_cons.mp o1.tm.nd).2, rep _ (RpOs.shr (fun b hb => .inr hb) hs)⟩ (fun b hb => List.mem_cons_of_mem _ hb) hs.length q
      | top =>
        cases e
        obtain ⟨a0, us, rfl, hl, ha, hs⟩ := (show RpU X.K H2 R2 (.list xs) x f1 from o1.rp)
        exact .inr (.inr (.inl (fin (w := false) (g := f1) rfl hl ⟨o1.tm, rep _ (RpSs.to (fun b hb => hb.imp id And.left) hs)⟩ (fun b hb => hb) hs.length q)))
      | shr => cases e
      | bor i => cases e
      | bort i => cases e
    · cases e
  · dsimp only at e
    split at e
    · rename_i hc
      simp only [Bool.and_eq_true, decide_eq_true_eq] at hc
      cases e
      refine .inr (.inr (.inr ⟨_, _, o1.str, o2.int, mulOk_of 16 1000 hc.1 (by omega) (by omega) (by decide) (by decide), q.imm g2 v2 .ofS⟩))
    · cases e
  all_goals first | cases e | (dsimp only at e; cases e)
theorem sv_neg (ha : PEv X C a ea) : PEv X C (.neg a) (.UnaryOp .USub ea pos) := by
  refine peI (pe_un un_neg ha) fun σ H Q ⟨L, ρ, fp, R, g, m, d, ρ', e, q⟩ => ?_
  obtain ⟨⟨ma, da⟩, ρ1, h1, e⟩ := bind_ok e
  refine ⟨L, ρ, fp, R, g, ma, da, ρ1, h1, fun v H1 fp1 R1 f1 g1 v1 o1 n1 => ?_⟩
  dsimp only at e
  split at e
  · cases e
    exact ⟨_, o1.int, q.imm g1 v1 .ofI⟩
  · cases e
theorem sv_fdiv (ha : PEv X C a ea) (hb : PEv X C b eb) : PEv X C (.bin .fdiv a b) (.BinOp ea .FloorDiv eb pos) := by
  refine peI (pe_op op_fdivW ha hb) fun σ H Q ⟨L, ρ, fp, R, g, m, d, ρ', e, q⟩ => ?_
  obtain ⟨⟨ma, da⟩, ρ1, h1, e⟩ := bind_ok e
  obtain ⟨⟨mb, db⟩, ρ2, h2, e⟩ := bind_ok e
  have e := of_ok e
  refine two g h1 h2 fun x y H2 fp2 R2 f1 f2 g2 v2 o1 o2 n1 n2 ap => ?_
  unfold binop at e
  split at e
  · obtain ⟨k, hk, e⟩ := Option.map_eq_some_iff.mp e
    rw [arith_fdiv] at hk
    split at hk
    · rename_i hm
      cases hk; cases e
      simp only [Bool.and_eq_true, decide_eq_true_eq] at hm
      exact ⟨_, _, o1.int, o2.int, ⟨hm.1.1, by omega⟩, q.imm g2 v2 .ofI⟩
    · cases hk
  all_goals first | cases e | (dsimp only at e; cases e)
theorem sv_mod (ha : PEv X C a ea) (hb : PEv X C b eb) : PEv X C (.bin .mod a b) (.BinOp ea .Mod eb pos) := by
  refine peI (pe_op op_mod ha hb) fun σ H Q ⟨L, ρ, fp, R, g, m, d, ρ', e, q⟩ => ?_
  obtain ⟨⟨ma, da⟩, ρ1, h1, e⟩ := bind_ok e
  obtain ⟨⟨mb, db⟩, ρ2, h2, e⟩ := bind_ok e
  have e := of_ok e
  refine two g h1 h2 fun x y H2 fp2 R2 f1 f2 g2 v2 o1 o2 n1 n2 ap => ?_
  unfold binop at e
  split at e
  · obtain ⟨k, hk, e⟩ := Option.map_eq_some_iff.mp e
    rw [arith_mod] at hk
    split at hk
    · rename_i hm
      cases hk; cases e
      exact ⟨_, _, o1.int, o2.int, hm, q.imm g2 v2 .ofI⟩
    · cases hk
  all_goals first | cases e | (dsimp only at e; cases e)
theorem op_powB : OpR X (binaryOp .Pow) (rI (fun i j => 0 ≤ j ∧ (Builtin.Int.intBits i : Int) * j ≤ 2 ^ 20) fun i j => .int (i ^ j.toNat)) :=
  opI fun i j _ _ _ _ _ hc q => pow_int hc.1 (Int.le_trans hc.2 (by decide)) q
theorem sv_pow (ha : PEv X C a ea) (hb : PEv X C b eb) : PEv X C (.bin .pow a b) (.BinOp ea .Pow eb pos) := by
  refine peI (pe_op op_powB ha hb) fun σ H Q ⟨L, ρ, fp, R, g, m, d, ρ', e, q⟩ => ?_
  obtain ⟨⟨ma, da⟩, ρ1, h1, e⟩ := bind_ok e
  obtain ⟨⟨mb, db⟩, ρ2, h2, e⟩ := bind_ok e
  have e := of_ok e
  refine two g h1 h2 fun x y H2 fp2 R2 f1 f2 g2 v2 o1 o2 n1 n2 ap => ?_
  unfold binop at e
  split at e
  · obtain ⟨k, hk, e⟩ := Option.map_eq_some_iff.mp e
    rw [arith_pow] at hk
    split at hk
    · rename_i hm
      cases hk; cases e
      simp only [Bool.and_eq_true, decide_eq_true_eq] at hm
      exact ⟨_, _, o1.int, o2.int, hm, q.imm g2 v2 .ofI⟩
    · cases hk
  all_goals first | cases e | (dsimp only at e; cases e)
end
end PV
end

section
set_option Elab.async false
set_option linter.all false
set_option autoImplicit false
set_option maxRecDepth 100000
namespace PV
open PySem PySem.Spec PyProof.Rows L2
variable [Tbs]
section
variable {K : PySem.W.Frag} {σ : L2.St} {H H1 H2 : Hp} {ρ ρ1 ρ2 ρ' : Env} {fp fp1 fp2 : Nat → List Addr} {R R1 R2 : Addr → Prop} {L L' : List Nat} {f g : List Addr} {m : M} {d : D} {v : V} {Q : VK} {w : Bool} {xs ys : List D} {vs : List V}
mutual
theorem RpS.dp {S : Addr → Prop} : ∀ {d : D} {v : V}, d.canLay0 = true → RpS K H S d v → Dp K H v d
  | .none, _, _, h => by simp only [RpS] at h; subst h; exact .non
  | .bool _, _, _, h => by simp only [RpS] at h; subst h; exact .bl _
  | .int _, _, _, h => by simp only [RpS] at h; subst h; exact .int _
  | .str _, _, _, h => by simp only [RpS] at h; subst h; exact .str _
  | .list ds, v, c, h => by
    simp only [RpS] at h
    obtain ⟨a, vs, rfl, hl, hs⟩ := h
    exact .lst hl.sq (RpSs.dp (by simpa [PyData.canLay0] using c) hs)
  | .tuple ds, v, c, h => by
    simp only [RpS] at h
    obtain ⟨a, vs, rfl, hl, hs⟩ := h
    exact .tup hl.sq (RpSs.dp (by simpa [PyData.canLay0] using c) hs)
  | .dict kvs, v, c, h => by simp [PyData.canLay0] at c
theorem RpSs.dp {S : Addr → Prop} : ∀ {ds : List D} {vs : List V}, PyData.canLayAll0 ds = true → RpSs K H S ds vs → DpAll K H vs ds
  | [], _, _, h => by simp only [RpSs] at h; subst h; exact .nil
  | d :: ds, vs, c, h => by
    simp only [RpSs] at h
    obtain ⟨v, r, rfl, h1, h2⟩ := h
    have c : d.canLay0 = true ∧ PyData.canLayAll0 ds = true := by simpa [PyData.canLayAll0] using c
    exact .cons (RpS.dp c.1 h1) (RpSs.dp c.2 h2)
end
theorem Hold.dp (o : Hold K H fp R m d v f) (h : SeqAt.shaped d = true) : Dp K H v d := let ⟨_, q⟩ := o.read; q.dp (SeqAt.canLay_of_shaped h)
theorem tru_of (o : Hold K H fp R m d v f) {b : Bool} (h : truth d = some b) : TruV K v H b := by
  cases d with
  | none => cases h; rw [o.non]; rfl
  | bool c => cases h; rw [o.bl]; rfl
  | int i =>
    cases h; rw [o.int]
    show decide (i ≠ 0) = (i != 0)
    by_cases e : i = 0 <;> simp [e]
  | str x =>
    have h : (if x.length ≤ SZ then some (decide (x.length ≠ 0)) else none) = some b := h
    split at h
    · rename_i hz
      cases h; rw [o.str]
      refine ⟨hz, ?_⟩
      by_cases e : x.length = 0
      · rw [e]; rfl
      · have : ((x.length : Int) != 0) = true := by simp; omega
        rw [this]; exact decide_eq_true e
    · cases h
  | list xs =>
    cases h
    obtain ⟨a, us, rfl, hs, i1, _⟩ := o.items
    obtain ⟨S, q⟩ := o.read
    simp only [RpS] at q
    obtain ⟨a', us', e, hl, hr⟩ := q
    cases e
    exact .inl ⟨us', hl.sq, by have := hr.length; cases xs <;> cases us' <;> simp_all⟩
  | tuple xs =>
    cases h
    obtain ⟨S, q⟩ := o.read
    simp only [RpS] at q
    obtain ⟨a', us', rfl, hl, hr⟩ := q
    exact .inr (.inl ⟨us', hl.sq, by have := hr.length; cases xs <;> cases us' <;> simp_all⟩)
  | dict kvs => cases h
end
section
variable {X : Cx} {C : Ctx} {a b c es : Ex} {ea eb ec : Expr} {eas : List Expr} {pos : Pos}
/-! ### tests -/
theorem st_tv (ha : PEv X C a ea) (he : ∀ whole, isTrue ea X.env whole = (do let v ← whole; standAt ea.pos; holding [v] (truthy v)) := by intro _; rfl) : PTv X C (.tv a) ea := by
  refine ptI (pt_truth ha he) fun σ H Q ⟨L, ρ, fp, R, g, t, ρ', e, q⟩ => ?_
  obtain ⟨⟨ma, da⟩, ρ1, h1, e⟩ := bind_ok e
  refine ⟨L, ρ, fp, R, g, ma, da, ρ1, h1, fun v H1 fp1 R1 f1 g1 v1 o1 n1 => ?_⟩
  dsimp only at e
  split at e
  · rename_i ht
    cases e
    exact ⟨_, tru_of o1 ht, q H1 fp1 R1 g1 v1⟩
  · cases e
theorem st_not (ha : PTv X C a ea) : PTv X C (.not a) (.UnaryOp .Not ea pos) := by
  refine ptI (pt_not ha) fun σ H Q ⟨L, ρ, fp, R, g, t, ρ', e, q⟩ => ?_
  obtain ⟨c, ρ1, h1, e⟩ := bind_ok e
  cases e
  exact ⟨L, ρ, fp, R, g, c, ρ', h1, q⟩
def ttA (K : PySem.W.Frag) (C : Ctx) (es : Ex) : TT := fun σ H Q => ∃ L ρ fp R, Gd K σ H ρ fp R ∧ ∃ b ρ', evtAnd C L es ρ = .ok b ρ' ∧ ∀ H' fp' R', Gd K σ H' ρ' fp' R' → Mv L H fp R H' fp' R' → Q b H'
def ttO (K : PySem.W.Frag) (C : Ctx) (es : Ex) : TT := fun σ H Q => ∃ L ρ fp R, Gd K σ H ρ fp R ∧ ∃ b ρ', evtOr C L es ρ = .ok b ρ' ∧ ∀ H' fp' R', Gd K σ H' ρ' fp' R' → Mv L H fp R H' fp' R' → Q b H'
def PWa (X : Cx) (C : Ctx) (es : Ex) (eas : List Expr) : Prop := ∀ pos, PW X (.BoolOp .And eas pos) (ttA X.K C es)
def PWo (X : Cx) (C : Ctx) (es : Ex) (eas : List Expr) : Prop := ∀ pos, PW X (.BoolOp .Or eas pos) (ttO X.K C es)
theorem pwI {X : Cx} {e : Expr} {t t' : TT} (h : PW X e t) (w : ∀ σ H Q, t' σ H Q → t σ H Q) : PW X e t' := ⟨fun wh pins s σ H Q I q => h.run wh pins s σ H Q I (w σ H Q q)⟩
theorem pwa_one (ha : PTv X C a ea) : PWa X C (.cons a .nil) [ea] := fun pos => pwI (pw_and1 ha) fun σ H Q h => h
theorem pwo_one (ha : PTv X C a ea) : PWo X C (.cons a .nil) [ea] := fun pos => pwI (pw_or1 ha) fun σ H Q h => h
theorem pwa_cons {b1 b2 : Ex} (ha : PTv X C a ea) (hb : PWa X C (.cons b1 b2) (eb :: eas)) : PWa X C (.cons a (.cons b1 b2)) (ea :: eb :: eas) := fun pos => by
  refine pwI (pw_and ha (hb pos)) fun σ H Q ⟨L, ρ, fp, R, g, t, ρ', e, q⟩ => ?_
  obtain ⟨c, ρ1, h1, e⟩ := bind_ok (show (evt C L a ρ).bind _ = _ from e)
  refine ⟨L, ρ, fp, R, g, c, ρ1, h1, fun H1 fp1 R1 g1 v1 => ?_⟩
  cases c with
  | true => rw [if_pos rfl] at e ⊢; exact ⟨L, ρ1, fp1, R1, g1, t, ρ', e, fun H2 fp2 R2 g2 v2 => q H2 fp2 R2 g2 (v1.trans g1 v2)⟩
  | false => rw [if_neg Bool.false_ne_true] at e ⊢; cases e; exact q H1 fp1 R1 g1 v1
theorem pwo_cons {b1 b2 : Ex} (ha : PTv X C a ea) (hb : PWo X C (.cons b1 b2) (eb :: eas)) : PWo X C (.cons a (.cons b1 b2)) (ea :: eb :: eas) := fun pos => by
  refine pwI (pw_or ha (hb pos)) fun σ H Q ⟨L, ρ, fp, R, g, t, ρ', e, q⟩ => ?_
  obtain ⟨c, ρ1, h1, e⟩ := bind_ok (show (evt C L a ρ).bind _ = _ from e)
  refine ⟨L, ρ, fp, R, g, c, ρ1, h1, fun H1 fp1 R1 g1 v1 => ?_⟩
  cases c with
  | true => rw [if_pos rfl] at e ⊢; cases e; exact q H1 fp1 R1 g1 v1
  | false => rw [if_neg Bool.false_ne_true] at e ⊢; exact ⟨L, ρ1, fp1, R1, g1, t, ρ', e, fun H2 fp2 R2 g2 v2 => q H2 fp2 R2 g2 (v1.trans g1 v2)⟩
theorem st_and (h : PWa X C es eas) : PTv X C (.and es) (.BoolOp .And eas pos) := ptI (h pos).pt fun σ H Q ⟨L, ρ, fp, R, q⟩ => ⟨L, ρ, fp, R, q⟩
theorem st_or (h : PWo X C es eas) : PTv X C (.or es) (.BoolOp .Or eas pos) := ptI (h pos).pt fun σ H Q ⟨L, ρ, fp, R, q⟩ => ⟨L, ρ, fp, R, q⟩
/-! and, or, not, if as values -/
def PEa (X : Cx) (C : Ctx) (es : Ex) (eas : List Expr) : Prop := ∀ pos, PE X (.BoolOp .And eas pos) (fun σ H Q => ∃ L ρ fp R, Gd X.K σ H ρ fp R ∧ ∃ m d ρ', evAnd C L es ρ = .ok (m, d) ρ' ∧ Got X.K σ L H fp R ρ' m d Q)
def PEo (X : Cx) (C : Ctx) (es : Ex) (eas : List Expr) : Prop := ∀ pos, PE X (.BoolOp .Or eas pos) (fun σ H Q => ∃ L ρ fp R, Gd X.K σ H ρ fp R ∧ ∃ m d ρ', evOr C L es ρ = .ok (m, d) ρ' ∧ Got X.K σ L H fp R ρ' m d Q)
theorem pea_one (ha : PEv X C a ea) : PEa X C (.cons a .nil) [ea] := fun pos => peI (pe_one ha) fun σ H Q h => h
theorem peo_one (ha : PEv X C a ea) : PEo X C (.cons a .nil) [ea] := fun pos => peI (pe_one ha) fun σ H Q h => h
theorem Got.trans {K : PySem.W.Frag} {σ : L2.St} {H H1 : Hp} {ρ1 ρ' : Env} {fp fp1 : Nat → List Addr} {R R1 : Addr → Prop} {L : List Nat} {m : M} {d : D} {Q : VK} (q : Got K σ L H fp R ρ' m d Q) (g1 : Gd K σ H1 ρ1 fp1 R1) (v1 : Mv L H fp R H1 fp1 R1) : Got K σ L H1 fp1 R1 ρ' m d Q :=
  fun v H' fp' R' f g2 v2 o n => q v H' fp' R' f g2 (v1.trans g1 v2) o (n.back g1 v1)
theorem pea_cons {b1 b2 : Ex} (ha : PEv X C a ea) (hb : PEa X C (.cons b1 b2) (eb :: eas)) : PEa X C (.cons a (.cons b1 b2)) (ea :: eb :: eas) := fun pos => by
  refine peI (pe_andT ha (hb pos)) fun σ H Q ⟨L, ρ, fp, R, g, m, d, ρ', e, q⟩ => ?_
  obtain ⟨⟨m1, d1⟩, ρ1, h1, e⟩ := bind_ok (show (ev C L a ρ).bind _ = _ from e)
  refine ⟨L, ρ, fp, R, g, m1, d1, ρ1, h1, fun v H1 fp1 R1 f1 g1 v1 o1 n1 => ?_⟩
  dsimp only at e
  split at e
  · rename_i ht
    exact ⟨true, tru_of o1 ht, by rw [if_pos rfl]; exact ⟨L, ρ1, fp1, R1, g1, m, d, ρ', e, q.trans g1 v1⟩⟩
  · rename_i ht
    cases e
    exact ⟨false, tru_of o1 ht, by rw [if_neg Bool.false_ne_true]; exact q _ _ fp1 R1 f1 g1 v1 o1 n1⟩
  · cases e
theorem peo_cons {b1 b2 : Ex} (ha : PEv X C a ea) (hb : PEo X C (.cons b1 b2) (eb :: eas)) : PEo X C (.cons a (.cons b1 b2)) (ea :: eb :: eas) := fun pos => by
  refine peI (pe_orT ha (hb pos)) fun σ H Q ⟨L, ρ, fp, R, g, m, d, ρ', e, q⟩ => ?_
  obtain ⟨⟨m1, d1⟩, ρ1, h1, e⟩ := bind_ok (show (ev C L a ρ).bind _ = _ from e)
  refine ⟨L, ρ, fp, R, g, m1, d1, ρ1, h1, fun v H1 fp1 R1 f1 g1 v1 o1 n1 => ?_⟩
  dsimp only at e
  split at e
  · rename_i ht
    cases e
    exact ⟨true, tru_of o1 ht, by rw [if_pos rfl]; exact q _ _ fp1 R1 f1 g1 v1 o1 n1⟩
  · rename_i ht
    exact ⟨false, tru_of o1 ht, by rw [if_neg Bool.false_ne_true]; exact ⟨L, ρ1, fp1, R1, g1, m, d, ρ', e, q.trans g1 v1⟩⟩
  · cases e
theorem sv_and (h : PEa X C es eas) : PEv X C (.and es) (.BoolOp .And eas pos) := peI (h pos) fun σ H Q ⟨L, ρ, fp, R, g, m, d, ρ', e, q⟩ => ⟨L, ρ, fp, R, g, m, d, ρ', e, q⟩
theorem sv_or (h : PEo X C es eas) : PEv X C (.or es) (.BoolOp .Or eas pos) := peI (h pos) fun σ H Q ⟨L, ρ, fp, R, g, m, d, ρ', e, q⟩ => ⟨L, ρ, fp, R, g, m, d, ρ', e, q⟩
theorem sv_not (ha : PEv X C a ea) : PEv X C (.not (.tv a)) (.UnaryOp .Not ea pos) := by
  refine peI (pe_notT ha) fun σ H Q ⟨L, ρ, fp, R, g, m, d, ρ', e, q⟩ => ?_
  obtain ⟨c, ρ1, h1, e⟩ := bind_ok e
  obtain ⟨⟨m1, d1⟩, ρ2, h2, e2⟩ := bind_ok (show (ev C L a ρ).bind _ = _ from h1)
  refine ⟨L, ρ, fp, R, g, m1, d1, ρ2, h2, fun v H1 fp1 R1 f1 g1 v1 o1 n1 => ?_⟩
  dsimp only at e2
  split at e2
  · rename_i ht
    cases e2
    cases e
    exact ⟨_, tru_of o1 ht, q.imm g1 v1 .ofB⟩
  · cases e2
theorem sv_ite (hc : PTv X C c ec) (ha : PEv X C a ea) (hb : PEv X C b eb) : PEv X C (.ite c a b) (.IfExp ec ea eb pos) := by
  refine peI (pe_ifExp hc ha hb) fun σ H Q ⟨L, ρ, fp, R, g, m, d, ρ', e, q⟩ => ?_
  obtain ⟨t, ρ1, h1, e⟩ := bind_ok e
  refine ⟨L, ρ, fp, R, g, t, ρ1, h1, fun H1 fp1 R1 g1 v1 => ?_⟩
  cases t with
  | true => rw [if_pos rfl] at e ⊢; exact ⟨L, ρ1, fp1, R1, g1, m, d, ρ', e, q.trans g1 v1⟩
  | false => rw [if_neg Bool.false_ne_true] at e ⊢; exact ⟨L, ρ1, fp1, R1, g1, m, d, ρ', e, q.trans g1 v1⟩
end
end PV
end

section
set_option Elab.async false
set_option linter.all false
set_option autoImplicit false
set_option maxRecDepth 100000
namespace PV
open PySem PySem.Spec PyProof.Rows L2
variable [Tbs]
/-! ### comparisons -/
structure CmpOk (X : Cx) (o : CO) (op : CmpOp) (r : R2) : Prop where
  ho : OpR X (compareOp op) r
  w : ∀ {H : Hp} {fp : Nat → List Addr} {R : Addr → Prop} {ma mb : M} {da db : D} {x y : V} {f g : List Addr} {k : Bool} {Q : VK}, Hold X.K H fp R ma da x f → Hold X.K H fp R mb db y g → cmpop o da db = some k → Q (.bl k) H → r x y H Q
section
variable {X : Cx} {C : Ctx} {a b c es : Ex} {ea eb ec : Expr} {eas : List Expr} {pos : Pos} {o o' : CO} {op op' : CmpOp} {r r' : R2}
theorem sv_cmp (k : CmpOk X o op r) (ha : PEv X C a ea) (hb : PEv X C b eb) (hm : behindInMarks op eb = false := by rfl) : PEv X C (.cmp o a b) (.Compare ea [op] [eb] pos) := by
  refine peI (pe_cmpR k.ho ha hb hm) fun σ H Q ⟨L, ρ, fp, R, g, m, d, ρ', e, q⟩ => ?_
  obtain ⟨⟨ma, da⟩, ρ1, h1, e⟩ := bind_ok e
  obtain ⟨⟨mb, db⟩, ρ2, h2, e⟩ := bind_ok e
  refine two g h1 h2 fun x y H2 fp2 R2 f1 f2 g2 v2 o1 o2 n1 n2 _ => ?_
  dsimp only at e
  split at e
  · rename_i hk
    cases e
    exact k.w o1 o2 hk (q.imm g2 v2 .ofB)
  · cases e
theorem st_cmp (k : CmpOk X o op r) (ha : PEv X C a ea) (hb : PEv X C b eb) (hm : behindInMarks op eb = false := by rfl) : PTv X C (.tv (.cmp o a b)) (.Compare ea [op] [eb] pos) := by
  refine ptI (pt_cmpR k.ho ha hb hm) fun σ H Q ⟨L, ρ, fp, R, g, t, ρ', e, q⟩ => ?_
  obtain ⟨⟨m0, d0⟩, ρ0, h0, e⟩ := bind_ok e
  obtain ⟨⟨ma, da⟩, ρ1, h1, e1⟩ := bind_ok (show (ev C L a ρ).bind _ = _ from h0)
  obtain ⟨⟨mb, db⟩, ρ2, h2, e1⟩ := bind_ok e1
  refine two g h1 h2 fun x y H2 fp2 R2 f1 f2 g2 v2 o1 o2 n1 n2 _ => ?_
  dsimp only at e1
  split at e1
  · rename_i hk
    cases e1
    cases e
    exact k.w o1 o2 hk ⟨_, rfl, q H2 fp2 R2 g2 v2⟩
  · cases e1
theorem sv_chain (k : CmpOk X o op r) (k' : CmpOk X o' op' r') (ha : PEv X C a ea) (hb : PEv X C b eb) (hc : PEv X C c ec) (hm : lastMarks [op, op'] [eb, ec] = false := by with_unfolding_all rfl) : PEv X C (.chain o o' a b c) (.Compare ea [op, op'] [eb, ec] pos) := by
  refine peI (pe_chain k.ho k'.ho ha hb hc hm) fun σ H Q ⟨L, ρ, fp, R, g, m, d, ρ', e, q⟩ => ?_
  obtain ⟨⟨ma, da⟩, ρ1, h1, e⟩ := bind_ok e
  obtain ⟨⟨mb, db⟩, ρ2, h2, e⟩ := bind_ok e
  refine two g h1 h2 fun x y H2 fp2 R2 f1 f2 g2 v2 o1 o2 n1 n2 _ => ?_
  dsimp only at e
  split at e
  · rename_i hk
    cases e
    exact k.w o1 o2 hk ⟨_, rfl, by rw [if_neg Bool.false_ne_true]; exact q.imm g2 v2 .ofB⟩
  · rename_i hk
    refine k.w o1 o2 hk ⟨_, rfl, ?_⟩
    rw [if_pos rfl]
    obtain ⟨⟨mc, dc⟩, ρ3, h3, e⟩ := bind_ok e
    refine ⟨lk mb ++ L, ρ2, fp2, R2, g2, mc, dc, ρ3, h3, fun z H3 fp3 R3 f3 g3 v3 o3 n3 => ?_⟩
    dsimp only at e
    split at e
    · rename_i hk2
      cases e
      exact k'.w (o2.step g2 v3 fun i hi => List.mem_append_left _ hi) o3 hk2 (q.imm g3 (v2.trans g2 (v3.mono fun i hi => List.mem_append_right _ hi)) .ofB)
    · cases e
  · cases e
theorem st_chain (k : CmpOk X o op r) (k' : CmpOk X o' op' r') (ha : PEv X C a ea) (hb : PEv X C b eb) (hc : PEv X C c ec) (hm : lastMarks [op, op'] [eb, ec] = false := by with_unfolding_all rfl) : PTv X C (.tv (.chain o o' a b c)) (.Compare ea [op, op'] [eb, ec] pos) := by
  refine ptI (pt_chain k.ho k'.ho ha hb hc hm) fun σ H Q ⟨L, ρ, fp, R, g, t, ρ', e, q⟩ => ?_
  obtain ⟨⟨m0, d0⟩, ρ0, h0, e⟩ := bind_ok e
  obtain ⟨⟨ma, da⟩, ρ1, h1, e1⟩ := bind_ok (show (ev C L a ρ).bind _ = _ from h0)
  obtain ⟨⟨mb, db⟩, ρ2, h2, e1⟩ := bind_ok e1
  refine two g h1 h2 fun x y H2 fp2 R2 f1 f2 g2 v2 o1 o2 n1 n2 _ => ?_
  dsimp only at e1
  split at e1
  · rename_i hk
    cases e1
    cases e
    exact k.w o1 o2 hk ⟨_, rfl, by rw [if_neg Bool.false_ne_true]; exact ⟨_, rfl, q H2 fp2 R2 g2 v2⟩⟩
  · rename_i hk
    refine k.w o1 o2 hk ⟨_, rfl, ?_⟩
    rw [if_pos rfl]
    obtain ⟨⟨mc, dc⟩, ρ3, h3, e1⟩ := bind_ok e1
    refine ⟨lk mb ++ L, ρ2, fp2, R2, g2, mc, dc, ρ3, h3, fun z H3 fp3 R3 f3 g3 v3 o3 n3 => ?_⟩
    dsimp only at e1
    split at e1
    · rename_i hk2
      cases e1
      cases e
      exact k'.w (o2.step g2 v3 fun i hi => List.mem_append_left _ hi) o3 hk2 ⟨_, rfl, q H3 fp3 R3 g3 (v2.trans g2 (v3.mono fun i hi => List.mem_append_right _ hi))⟩
    · cases e1
  · cases e1
def rEqA (K : PySem.W.Frag) : R2 := fun x y H Q => rEq x y H Q ∨ rEqD K x y H Q
def rNeA (K : PySem.W.Frag) : R2 := fun x y H Q => rNe x y H Q ∨ rNeD K x y H Q
theorem eqO_w {H : Hp} {fp : Nat → List Addr} {R : Addr → Prop} {ma mb : M} {da db : D} {x y : V} {f g : List Addr} {k : Bool} (o1 : Hold X.K H fp R ma da x f) (o2 : Hold X.K H fp R mb db y g) (hk : eqO da db = some k) :
    (scal x y = true ∧ k = decide (x = y)) ∨ ∃ d e, Dp X.K H x d ∧ Dp X.K H y e ∧ SeqAt.shaped d = true ∧ SeqAt.shaped e = true ∧ k = PyData.eqv d e := by
  have big : (if SeqAt.shaped da && SeqAt.shaped db then some (PyData.eqv da db) else none) = some k → (scal x y = true ∧ k = decide (x = y)) ∨ ∃ d e, Dp X.K H x d ∧ Dp X.K H y e ∧ SeqAt.shaped d = true ∧ SeqAt.shaped e = true ∧ k = PyData.eqv d e := fun hk => by
    split at hk
    · rename_i h
      simp only [Bool.and_eq_true] at h
      cases hk
      exact .inr ⟨da, db, o1.dp h.1, o2.dp h.2, h.1, h.2, rfl⟩
    · cases hk
  unfold eqO at hk
  split at hk
  · cases hk
    have e1 := o1.int
    have e2 := o2.int
    subst e1 e2
    exact .inl ⟨rfl, by simp⟩
  · cases hk
    have e1 := o1.str
    have e2 := o2.str
    subst e1 e2
    exact .inl ⟨rfl, by simp⟩
  · exact big hk
theorem ck_eq (hu : X.A.units + 64 < cLine) : CmpOk X .eq .Eq (rEqA X.K) := ⟨op_eq.or (op_eqD hu), fun {H fp R ma mb da db x y f g k Q} o1 o2 hk q => by
  rcases eqO_w o1 o2 hk with ⟨h1, rfl⟩ | ⟨d, e, h1, h2, h3, h4, rfl⟩
  · exact .inl ⟨h1, q⟩
  · exact .inr ⟨d, e, h1, h2, h3, h4, q⟩⟩
theorem ck_ne (hu : X.A.units + 64 < cLine) : CmpOk X .ne .NotEq (rNeA X.K) := ⟨op_ne.or (op_neD hu), fun {H fp R ma mb da db x y f g k Q} o1 o2 hk q => by
  obtain ⟨k1, hk1, rfl⟩ := Option.map_eq_some_iff.mp (show (eqO da db).map (!·) = some k from hk)
  rcases eqO_w o1 o2 hk1 with ⟨h1, rfl⟩ | ⟨d, e, h1, h2, h3, h4, rfl⟩
  · exact .inl ⟨h1, q⟩
  · exact .inr ⟨d, e, h1, h2, h3, h4, q⟩⟩
theorem ltI_some {da db : D} {k : Bool} (h : ltI da db = some k) : ∃ i j, da = .int i ∧ db = .int j ∧ k = decide (i < j) := by
  unfold ltI at h
  split at h
  · cases h; exact ⟨_, _, rfl, rfl, rfl⟩
  · cases h
theorem ck_lt : CmpOk X .lt .Lt (rI0 fun i j => .bl (decide (i < j))) := ⟨op_lt, fun {H fp R ma mb da db x y f g k Q} o1 o2 hk q => by
  obtain ⟨i, j, rfl, rfl, rfl⟩ := ltI_some hk
  exact ⟨i, j, o1.int, o2.int, q⟩⟩
theorem ck_gt : CmpOk X .gt .Gt (rI0 fun i j => .bl (decide (j < i))) := ⟨op_gt, fun {H fp R ma mb da db x y f g k Q} o1 o2 hk q => by
  obtain ⟨i, j, rfl, rfl, rfl⟩ := ltI_some hk
  exact ⟨j, i, o1.int, o2.int, q⟩⟩
theorem ck_le : CmpOk X .le .LtE (rI0 fun i j => .bl (decide (i ≤ j))) := ⟨op_le, fun {H fp R ma mb da db x y f g k Q} o1 o2 hk q => by
  obtain ⟨k1, hk', rfl⟩ := Option.map_eq_some_iff.mp hk
  obtain ⟨i, j, rfl, rfl, rfl⟩ := ltI_some hk'
  refine ⟨j, i, o1.int, o2.int, ?_⟩
  have e : decide (j ≤ i) = !decide (i < j) := by
    by_cases h : i < j
    · rw [decide_eq_true h, decide_eq_false (by omega)]; rfl
    · rw [decide_eq_false h, decide_eq_true (by omega)]; rfl
  show Q (.bl (decide (j ≤ i))) H
  rw [e]; exact q⟩
theorem ck_ge : CmpOk X .ge .GtE (rI0 fun i j => .bl (decide (j ≤ i))) := ⟨op_ge, fun {H fp R ma mb da db x y f g k Q} o1 o2 hk q => by
  obtain ⟨k1, hk', rfl⟩ := Option.map_eq_some_iff.mp hk
  obtain ⟨i, j, rfl, rfl, rfl⟩ := ltI_some hk'
  refine ⟨i, j, o1.int, o2.int, ?_⟩
  have e : decide (j ≤ i) = !decide (i < j) := by
    by_cases h : i < j
    · rw [decide_eq_true h, decide_eq_false (by omega)]; rfl
    · rw [decide_eq_false h, decide_eq_true (by omega)]; rfl
  show Q (.bl (decide (j ≤ i))) H
  rw [e]; exact q⟩
def isNn : D → Bool
  | .none => true
  | _ => false
theorem Hold.isN {H : Hp} {fp : Nat → List Addr} {R : Addr → Prop} {m : M} {d : D} {v : V} {g : List Addr} (o : Hold X.K H fp R m d v g) : decide (v = .non) = isNn d := by
  obtain ⟨S, q⟩ := o.read
  cases d with
  | none => simp only [RpS] at q; subst q; rfl
  | bool b => simp only [RpS] at q; subst q; rfl
  | int i => simp only [RpS] at q; subst q; rfl
  | str x => simp only [RpS] at q; subst q; rfl
  | list xs => simp only [RpS] at q; obtain ⟨a, vs, rfl, _⟩ := q; rfl
  | tuple xs => simp only [RpS] at q; obtain ⟨a, vs, rfl, _⟩ := q; rfl
  | dict kvs => simp only [RpS] at q; obtain ⟨a, u, vs, rfl, _⟩ := q; rfl
theorem ck_isN : CmpOk X .isN .Is (fun x y H Q => y = .non ∧ Q (.bl (decide (x = .non))) H) := ⟨op_isN, fun {H fp R ma mb da db x y f g k Q} o1 o2 hk q => by
  unfold cmpop at hk
  dsimp only at hk
  split at hk
  · refine ⟨o2.non, ?_⟩
    rw [o1.isN]
    have e := Option.some.inj hk
    cases da <;> (rw [← e] at q; exact q)
  · cases hk⟩
theorem ck_notN : CmpOk X .notN .IsNot (fun x y H Q => y = .non ∧ Q (.bl (!decide (x = .non))) H) := ⟨op_notN, fun {H fp R ma mb da db x y f g k Q} o1 o2 hk q => by
  unfold cmpop at hk
  dsimp only at hk
  split at hk
  · refine ⟨o2.non, ?_⟩
    rw [o1.isN]
    have e := Option.some.inj hk
    cases da <;> (rw [← e] at q; exact q)
  · cases hk⟩
theorem ck_is : CmpOk X .is .Is rIsB := ⟨op_isBl, fun {H fp R ma mb da db x y f g k Q} o1 o2 hk q => by
  unfold cmpop at hk
  dsimp only at hk
  split at hk
  · cases hk
    exact ⟨_, _, o1.bl, o2.bl, q⟩
  · cases hk⟩
theorem ck_isnot : CmpOk X .isnot .IsNot rNotB := ⟨op_notBl, fun {H fp R ma mb da db x y f g k Q} o1 o2 hk q => by
  unfold cmpop at hk
  dsimp only at hk
  split at hk
  · cases hk
    exact ⟨_, _, o1.bl, o2.bl, q⟩
  · cases hk⟩
/-! in -/
def flV : V → D → Prop
  | v, .none => v = .non
  | v, .bool b => v = .bl b
  | v, .int i => v = .int i
  | v, .str x => v = .str x
  | _, _ => False
theorem RpS.fl {K : PySem.W.Frag} {H : Hp} {S : Addr → Prop} {d : D} {v : V} (hf : flat d = true) (h : RpS K H S d v) : flV v d := by
  cases d <;> first | (simp only [RpS] at h; exact h) | (simp [PV.flat] at hf)
theorem flV.flat {v : V} {d : D} (h : flV v d) : flatV v = true := by
  cases d <;> first | (cases h; rfl) | exact h.elim
theorem flV.eqv {x y : V} {d e : D} (h : flV x d) (h' : flV y e) : eqV x y = PyData.eqv d e := by
  cases d <;> first | exact h.elim | (cases e <;> first | exact h'.elim | (cases h; cases h'; rfl))
theorem RpSs.fls {K : PySem.W.Frag} {H : Hp} {S : Addr → Prop} : ∀ {ds : List D} {vs : List V}, ds.all PV.flat = true → RpSs K H S ds vs → vs.all flatV = true ∧ ∀ {x : V} {d : D}, flV x d → inV x vs = ds.any fun y => PyData.eqv y d
  | [], vs, _, h => by simp only [RpSs] at h; subst h; exact ⟨rfl, fun _ => rfl⟩
  | d :: ds, vs, hf, h => by
    simp only [List.all_cons, Bool.and_eq_true] at hf
    simp only [RpSs] at h
    obtain ⟨v, r, rfl, h1, h2⟩ := h
    obtain ⟨i1, i2⟩ := RpSs.fls hf.2 h2
    have hv := h1.fl hf.1
    refine ⟨by simp only [List.all_cons, Bool.and_eq_true]; exact ⟨hv.flat, i1⟩, fun {x e} hx => ?_⟩
    have e1 := i2 hx
    unfold inV at e1 ⊢
    rw [List.any_cons, List.any_cons, e1, hv.eqv hx]
/-- in a dict, by values -/
theorem op_inDc (hu : X.A.units + 1 < cLine) : OpR X (compareOp .In) (fun y x H Q => ∃ a o, x = .ref a ∧ DGet H a y o ∧ Q (.bl o.isSome) H) := by
  intro pins s σ H y x u v Q I ry rx h
  obtain ⟨a, o, rfl, g, q⟩ := h
  cases rx
  exact d_in hu I g ry fun s' I' => ⟨.bl _, H, I', rfl, q⟩
theorem op_ninDc (hu : X.A.units + 1 < cLine) : OpR X (compareOp .NotIn) (fun y x H Q => ∃ a o, x = .ref a ∧ DGet H a y o ∧ Q (.bl (!o.isSome)) H) := by
  intro pins s σ H y x u v Q I ry rx h
  obtain ⟨a, o, rfl, g, q⟩ := h
  cases rx
  exact d_notIn hu I g ry fun s' I' => ⟨.bl _, H, I', rfl, q⟩
theorem eqv_kD (a b : Key) : PyData.eqv (kD a) (kD b) = decide (a = b) := by
  cases a with
  | inl i => cases b with
    | inl j => show (i == j) = _; rw [key_ll]
    | inr y => rw [key_lr]; rfl
  | inr x => cases b with
    | inl j => rw [key_rl]; rfl
    | inr y => show (x == y) = _; rw [key_rr]; by_cases e : x = y <;> simp [e]
theorem key_of {K : PySem.W.Frag} {H : Hp} {S : Addr → Prop} {d : D} {v : V} (hk : keyOk d = true) (h : RpS K H S d v) : ∃ k : Key, d = kD k ∧ v = kV k := by
  cases d <;> first | (simp [PV.keyOk] at hk; done) | (simp only [RpS] at h; first | exact ⟨.inl _, rfl, h⟩ | exact ⟨.inr _, rfl, h⟩)
theorem look_k {K : PySem.W.Frag} {H : Hp} {S : Addr → Prop} (k : Key) : ∀ {l : List (Key × V)} {kvs : List (D × D)}, l.map (fun p => kD p.1) = kvs.map (·.1) → RpSk K H S kvs (l.map (·.2)) →
    (look kvs (kD k) = none ∧ valV l k = none) ∨ ∃ d v, look kvs (kD k) = some d ∧ valV l k = some v ∧ RpS K H S d v
  | [], [], _, _ => .inl ⟨rfl, rfl⟩
  | [], _ :: _, h, _ => by simp at h
  | _ :: _, [], h, _ => by simp at h
  | (a, v) :: l, (x, d) :: kvs, h, hs => by
    simp only [List.map_cons, List.cons.injEq] at h
    obtain ⟨hx, h⟩ := h
    simp only [RpSk, List.map_cons] at hs
    obtain ⟨v', r, e, h1, h2⟩ := hs
    cases e
    unfold look
    rw [← hx, eqv_kD]
    by_cases e : a = k
    · rw [if_pos (decide_eq_true e)]
      exact .inr ⟨d, v, rfl, valV_pos (p := (a, v)) e, h1⟩
    · rw [if_neg (by rw [decide_eq_false e]; exact Bool.false_ne_true)]
      rw [show valV ((a, v) :: l) k = valV l k from valV_neg (p := (a, v)) e]
      exact look_k k h h2
def rInA (K : PySem.W.Frag) (neg : Bool) : R2 := fun x y H Q => (if neg then rNotInD K else rInD K) x y H Q ∨ rIn K neg x y H Q ∨ (∃ a o, y = .ref a ∧ DGet H a x o ∧ Q (.bl (if neg then !o.isSome else o.isSome)) H) ∨
  ∃ i j, x = .str i ∧ y = .str j ∧ Q (.bl (if neg then !(!(Builtin.Str.occurrences j i 0 j.length 1).isEmpty) else !(Builtin.Str.occurrences j i 0 j.length 1).isEmpty)) H
theorem in_w {H : Hp} {fp : Nat → List Addr} {R : Addr → Prop} {ma mb : M} {da db : D} {x y : V} {f g : List Addr} {k : Bool} {Q : VK} {neg : Bool} (o1 : Hold X.K H fp R ma da x f) (o2 : Hold X.K H fp R mb db y g) (hk : inO da db = some k)
    (q : Q (.bl (if neg then !k else k)) H) : rInA X.K neg x y H Q := by
  obtain ⟨S, q2⟩ := o2.read
  obtain ⟨S1, q1⟩ := o1.read
  unfold inO at hk
  split at hk
  · split at hk
    · rename_i h
      simp only [Bool.and_eq_true] at h
      cases hk
      refine .inl ?_
      cases neg with
      | false => exact ⟨_, _, o1.dp h.1, o2.dp h.2, h.1, h.2, q⟩
      | true => exact ⟨_, _, o1.dp h.1, o2.dp h.2, h.1, h.2, q⟩
    · cases hk
  · split at hk
    · rename_i h
      simp only [Bool.and_eq_true] at h
      cases hk
      simp only [RpS] at q2
      obtain ⟨a, vs, rfl, hl, hs⟩ := q2
      obtain ⟨i1, i2⟩ := hs.fls h.2
      have hx := q1.fl h.1
      refine .inr (.inl ⟨a, vs, rfl, .inr hl.sq, hx.flat, i1, ?_⟩)
      rw [i2 hx]; exact q
    · cases hk
  · split at hk
    · rename_i h
      cases hk
      simp only [RpS] at q2
      obtain ⟨a, u, vs, rfl, _, hl, ⟨l, rfl, e1, e2, _⟩, hs⟩ := q2
      subst e2
      obtain ⟨key, rfl, rfl⟩ := key_of h q1
      refine .inr (.inr (.inl ⟨a, valV l key, rfl, .inl ⟨l, key, hl, rfl, rfl⟩, ?_⟩))
      rcases look_k key e1 hs with ⟨h1, h2⟩ | ⟨d, v, h1, h2, _⟩ <;> (rw [h1] at q; rw [h2]; exact q)
    · cases hk
  · split at hk
    · cases hk
      exact .inr (.inr (.inr ⟨_, _, o1.str, o2.str, q⟩))
    · cases hk
  · cases hk
theorem ck_in (hu : X.A.units + 65 < cLine) : CmpOk X .isin .In (rInA X.K false) := ⟨(op_inD hu).or (op_in_seq.or ((op_inDc (by omega)).or op_in_str)), fun {H fp R ma mb da db x y f g k Q} o1 o2 hk q => in_w o1 o2 hk q⟩
theorem ck_notin (hu : X.A.units + 65 < cLine) : CmpOk X .notin .NotIn (rInA X.K true) := ⟨(op_notInD hu).or (op_notIn_seq.or ((op_ninDc (by omega)).or op_notin_str)), fun {H fp R ma mb da db x y f g k Q} o1 o2 hk q => by
  obtain ⟨k1, hk', rfl⟩ := Option.map_eq_some_iff.mp hk
  exact in_w o1 o2 hk' q⟩
end
end PV
end

section
set_option Elab.async false
set_option linter.all false
set_option autoImplicit false
set_option maxRecDepth 100000
namespace PV
open PySem PySem.Spec PyProof.Rows L2
variable [Tbs]
section
variable {K : PySem.W.Frag} {σ : L2.St} {H H1 H2 : Hp} {ρ ρ1 ρ2 ρ' : Env} {fp fp1 fp2 : Nat → List Addr} {R R1 R2 : Addr → Prop} {L L' : List Nat} {f g : List Addr} {m : M} {d : D} {v : V} {Q : VK} {w : Bool} {xs ys : List D} {vs : List V}
theorem nth_ix (n : Nat) (i : Int) : nth n i = ixN n i := rfl
theorem RpSs.at {S : Addr → Prop} : ∀ {xs : List D} {vs : List V} {n : Nat} {d : D}, RpSs K H S xs vs → xs[n]? = some d → ∃ v, vs[n]? = some v ∧ RpS K H S d v
  | [], _, _, _, _, e => by simp at e
  | x :: xs, vs, 0, d, h, e => by
    simp only [RpSs] at h
    obtain ⟨v, r, rfl, h1, h2⟩ := h
    simp at e
    subst e
    exact ⟨v, rfl, h1⟩
  | x :: xs, vs, n + 1, d, h, e => by
    simp only [RpSs] at h
    obtain ⟨v, r, rfl, h1, h2⟩ := h
    obtain ⟨v', h3, h4⟩ := RpSs.at h2 (by simpa using e)
    exact ⟨v', by simpa using h3, h4⟩
theorem RpOs.at : ∀ {xs : List D} {vs : List V} {n : Nat} {d : D} {f : List Addr}, RpOs K H xs vs f → xs[n]? = some d → ∃ v g, vs[n]? = some v ∧ RpO K H d v g ∧ g.Sublist f
  | [], _, _, _, _, _, e => by simp at e
  | x :: xs, vs, 0, d, f, h, e => by
    simp only [RpOs] at h
    obtain ⟨v, r, g, h', rfl, rfl, h1, h2⟩ := h
    simp at e
    subst e
    exact ⟨v, g, rfl, h1, List.sublist_append_left _ _⟩
  | x :: xs, vs, n + 1, d, f, h, e => by
    simp only [RpOs] at h
    obtain ⟨v, r, g, h', rfl, rfl, h1, h2⟩ := h
    obtain ⟨v', g', h3, h4, h5⟩ := RpOs.at h2 (by simpa using e)
    exact ⟨v', g', by simpa using h3, h4, h5.trans (List.sublist_append_right _ _)⟩
/-- one of the things that another thing holds -/
theorem RpI.at {n : Nat} (t : Tmp H fp R f) (h : RpI K H fp R m xs vs f) (e : xs[n]? = some d) : ∃ v f', vs[n]? = some v ∧ Hold K H fp R (PV.nrm (elt m) d) d v f' ∧ ∀ a ∈ f', a ∈ f := by
  have fin : ∀ {m0 : M} {v : V} {f0 : List Addr}, vs[n]? = some v → Hold K H fp R m0 d v f0 → (∀ a ∈ f0, a ∈ f) → ∃ v f', vs[n]? = some v ∧ Hold K H fp R (PV.nrm m0 d) d v f' ∧ ∀ a ∈ f', a ∈ f := fun {m0 v f0} e o s => by
    obtain ⟨f1, o1, s1⟩ := o.nrm
    exact ⟨v, f1, e, o1, fun a q => s a (s1 a q)⟩
  cases m with
  | own =>
    obtain ⟨g, s, nd, h⟩ := h
    obtain ⟨v, g', e1, h1, h2⟩ := h.at e
    exact fin (m0 := .own) e1 ⟨h1, t.sub (fun a q => s a (h2.subset q)) (nd.sublist h2)⟩ fun a q => s a (h2.subset q)
  | top =>
    obtain ⟨v, e1, h1⟩ := RpSs.at h e
    exact fin (m0 := .shr) e1 ⟨h1, t⟩ fun _ q => q
  | shr =>
    obtain ⟨v, e1, h1⟩ := RpSs.at h e
    exact fin (m0 := .shr) e1 ⟨h1, t⟩ fun _ q => q
  | bor i =>
    obtain ⟨v, e1, h1⟩ := RpSs.at h e
    exact fin (m0 := .bor i) e1 ⟨⟨h1, rfl⟩, .nil⟩ fun _ q => absurd q (by simp)
  | bort i =>
    obtain ⟨v, e1, h1⟩ := RpSs.at h e
    exact fin (m0 := .shr) (f0 := []) e1 ⟨RpS.stay (.refl _) (fun _ _ => rfl) (fun _ => .inl) h1, .nil⟩ fun _ q => absurd q (by simp)
theorem RpI.len (h : RpI K H fp R m xs vs f) : xs.length = vs.length := by
  cases m with
  | own => obtain ⟨g, s, nd, h⟩ := h; exact h.length
  | top => exact RpSs.length h
  | shr => exact RpSs.length h
  | bor i => exact RpSs.length h
  | bort i => exact RpSs.length h
/-- the values of a dict -/
theorem Hold.itemsD {kvs : List (D × D)} (o : Hold K H fp R m (.dict kvs) v f) : ∃ a l, v = .ref a ∧ Rd H a (.dK l) ∧ l.map (fun p => kD p.1) = kvs.map (·.1) ∧ RpI K H fp R m (kvs.map (·.2)) (l.map (·.2)) f ∧ Tmp H fp R f := by
  have rp := o.rp
  cases m with
  | own =>
    have rp : RpO K H (.dict kvs) v f := rp
    simp only [RpO] at rp
    obtain ⟨a, u, vs, g, e, hl, ⟨l, rfl, e1, e2, _⟩, rfl, hs⟩ := rp
    subst e2
    exact ⟨a, l, e, .inl hl, e1, ⟨g, fun x q => List.mem_cons_of_mem _ q, (List.nodup_cons.mp o.tm.nd).2, RpOk_iff.mp hs⟩, o.tm⟩
  | top =>
    obtain ⟨a, u, vs, e, hl, ⟨l, rfl, e1, e2, _⟩, ha, hs⟩ := rp
    subst e2
    exact ⟨a, l, e, .inl hl, e1, (RpSk_iff.mp hs).to fun _ q => q.imp id And.left, o.tm⟩
  | shr =>
    have rp : RpS K H _ (.dict kvs) v := rp
    simp only [RpS] at rp
    obtain ⟨a, u, vs, e, ha, hl, ⟨l, rfl, e1, e2, _⟩, hs⟩ := rp
    subst e2
    exact ⟨a, l, e, hl, e1, RpSk_iff.mp hs, o.tm⟩
  | bor i =>
    have rp : RpS K H _ (.dict kvs) v := rp.1
    simp only [RpS] at rp
    obtain ⟨a, u, vs, e, ha, hl, ⟨l, rfl, e1, e2, _⟩, hs⟩ := rp
    subst e2
    exact ⟨a, l, e, hl, e1, RpSk_iff.mp hs, o.tm⟩
  | bort i =>
    obtain ⟨a, u, vs, e, ha, hl, ⟨l, rfl, e1, e2, _⟩, hs⟩ := rp.1
    subst e2
    exact ⟨a, l, e, hl, e1, RpSk_iff.mp hs, o.tm⟩
/-- where a key stands -/
theorem look_ix (k : Key) : ∀ {l : List (Key × V)} {kvs : List (D × D)}, l.map (fun p => kD p.1) = kvs.map (·.1) →
    (look kvs (kD k) = none ∧ valV l k = none) ∨ ∃ (n : Nat) (d : D) (v : V), look kvs (kD k) = some d ∧ (kvs.map (·.2))[n]? = some d ∧ valV l k = some v ∧ (l.map (·.2))[n]? = some v
  | [], [], _ => .inl ⟨rfl, rfl⟩
  | [], _ :: _, h => by simp at h
  | _ :: _, [], h => by simp at h
  | (a, v) :: l, (x, d) :: kvs, h => by
    simp only [List.map_cons, List.cons.injEq] at h
    obtain ⟨hx, h⟩ := h
    unfold look
    rw [← hx, eqv_kD]
    by_cases e : a = k
    · rw [if_pos (decide_eq_true e)]
      exact .inr ⟨0, d, v, rfl, rfl, valV_pos (p := (a, v)) e, rfl⟩
    · rw [if_neg (by rw [decide_eq_false e]; exact Bool.false_ne_true)]
      rw [show valV ((a, v) :: l) k = valV l k from valV_neg (p := (a, v)) e]
      rcases look_ix k h with q | ⟨n, d', v', h1, h2, h3, h4⟩
      · exact .inl q
      · exact .inr ⟨n + 1, d', v', h1, by simpa using h2, h3, by simpa using h4⟩
end
section
variable {X : Cx} {C : Ctx} {a b c es : Ex} {ea eb ec : Expr} {eas : List Expr} {pos : Pos}
/-! ### subscripts -/
theorem ix_dict (hu : X.A.units + 1 < cLine) : IxR X (fun x y H Q => ∃ a v, x = .ref a ∧ DGet H a y (some v) ∧ Q v H) := by
  intro value slice pins s σ H x y v u Q I rx ry h hs
  obtain ⟨a, z, rfl, g, q⟩ := h
  cases rx
  exact tail_any (dict_typeIs I g) PySem.F.slot_dict_getitem.lookup (d_getItem hu I g ry fun w' s3 I3 rw' => ⟨z, H, I3, rw', q⟩) hs
theorem sv_sub_ (hu : X.A.units + 1 < cLine) (ha : PEv X C a ea) (hb : PEv X C b eb) (hs : PlainIx eb := by exact fun _ _ => rfl) : PEv X C (.sub a b) (.Subscript ea eb pos) := by
  refine peI (pe_ix (ix_seq.or (ix_dict hu)) ha hb hs) fun σ H Q ⟨L, ρ, fp, R, g, m, d, ρ', e, q⟩ => ?_
  obtain ⟨⟨ma, da⟩, ρ1, h1, e⟩ := bind_ok e
  obtain ⟨⟨mb, db⟩, ρ2, h2, e⟩ := bind_ok e
  refine two g h1 h2 fun x y H2 fp2 R2 f1 f2 g2 v2 o1 o2 n1 n2 _ => ?_
  dsimp only at e
  split at e
  · rename_i hd
    cases e
    have fin : ∀ {v : V} {f' : List Addr}, Hold X.K H2 fp2 R2 (PV.nrm (elt ma) d) d v f' → (∀ a ∈ f', a ∈ f1) → Q v H2 := fun {v f'} o s => q v H2 fp2 R2 f' g2 v2 o (n1.sub s)
    unfold atD at hd
    split at hd
    · obtain ⟨n, hn, hd⟩ := Option.bind_eq_some_iff.mp hd
      obtain ⟨a1, us, rfl, hs1, i1, t1⟩ := o1.items
      obtain ⟨v, f', e1, o, s⟩ := i1.at t1 hd
      rw [nth_ix, i1.len] at hn
      exact .inl (.inl ⟨a1, us, _, v, rfl, o2.int, hs1, by unfold atI; rw [hn]; exact e1, fin o s⟩)
    · obtain ⟨n, hn, hd⟩ := Option.bind_eq_some_iff.mp hd
      obtain ⟨a1, us, rfl, hs1, i1, t1⟩ := o1.itemsT
      obtain ⟨v, f', e1, o, s⟩ := i1.at t1 hd
      rw [nth_ix, i1.len] at hn
      exact .inl (.inr (.inl ⟨a1, us, _, v, rfl, o2.int, hs1.sq, by unfold atI; rw [hn]; exact e1, fin o s⟩))
    · split at hd
      · rename_i hk
        obtain ⟨a1, l, rfl, hl, e1, i1, t1⟩ := o1.itemsD
        obtain ⟨S, q2⟩ := o2.read
        obtain ⟨key, rfl, rfl⟩ := key_of hk q2
        rcases look_ix key e1 with ⟨h3, h4⟩ | ⟨n, d', v', h3, h4, h5, h6⟩
        · rw [h3] at hd; cases hd
        · rw [h3] at hd
          cases hd
          obtain ⟨v, f', e2, o, s⟩ := i1.at t1 h4
          rw [h6] at e2
          cases e2
          exact .inr ⟨a1, _, rfl, .inl ⟨l, key, hl, rfl, h5.symm⟩, fin o s⟩
      · cases hd
    · split at hd
      · rename_i hz
        obtain ⟨n, hn, hd⟩ := Option.bind_eq_some_iff.mp hd
        obtain ⟨ch, hc, hd⟩ := Option.map_eq_some_iff.mp hd
        cases hd
        exact .inl (.inr (.inr ⟨_, _, ch, o1.str, o2.int, hz, by unfold atI; rw [← nth_ix, hn]; exact hc, fin (f' := []) ⟨by simp [RpM, PV.nrm, PV.im, RpO], .nil⟩ fun _ z => absurd z (by simp)⟩))
      · cases hd
    · cases hd
  · cases e
end
end PV
end

section
set_option Elab.async false
set_option linter.all false
set_option autoImplicit false
set_option maxRecDepth 100000
namespace PVX
open PySem PySem.Spec PyProof.Rows L2

/-! ### defs, called where no repr runs -/
/-- as the layer's FnOk, for calls outside of any repr; nothing is let out -/
structure FnG (P : Program) (w : World) (K : PySem.W.Frag) (mg : Str → Option Value) (base : Heap) (k : Nat) (f : Addr) (fd : FuncData) (ps : List Str) (sp : Sp) : Prop where
  len : ∀ vs H Q E, sp vs H Q E → vs.length = ps.length
  run : ∀ (A : Around) (outer : List Env) (s : Shared) (H : Hp) (args : Args) (us : List Value) (vs : List V) (Q : VK) (E : XK),
    Room k A → A.guards = some [] → Env0 P w K mg base A outer s H → BindsTo s fd args (ps.zip us) → Vals vs us → sp vs H Q E →
    codeAny (model P w) A (.call (.ref f) args) (CR CX0 outer P w H s Q E) s
section
variable {P : Program} {w : World} {K : PySem.W.Frag} {mg : Str → Option Value} {base : Heap} {k : Nat} {f : Addr} {fd : FuncData} {ps : List Str} {sp : Sp}
theorem FnG.mono {j : Nat} (F : FnG P w K mg base j f fd ps sp) (h : j ≤ k) : FnG P w K mg base k f fd ps sp :=
  ⟨F.len, fun A outer s H args us vs Q E hr hg => F.run A outer s H args us vs Q E (hr.mono h) hg⟩
/-- a def's body, its reading chosen at the entry -/
theorem FnG.of {x qual : Str} {st : Stmt} {N : List Str} (F : Fun K x qual st f fd) (S : FnScope N ps (defScope st)) (len : ∀ vs H Q E, sp vs H Q E → vs.length = ps.length)
    (hbody : ∀ (cdv : Value) (A : Around) (outer : List Env) (s : Shared) (H : Hp) (vs : List V) (Q : VK) (E : XK), fd.code = cdv →
      Room k (A.deeper (envOfC qual (defScope st) s.heap.objs.size f cdv)) → A.guards = some [] → sp vs H Q E →
      ∃ t, PSs (cxOf CX0 P w K mg base N qual (defScope st) f cdv A outer s H E).nox (defBody st) t ∧ t { nx := fun _ H' => Q .non H', rt := Q } (start N vs) H) :
    FnG P w K mg base (k + 1) f fd ps sp := by
  obtain ⟨oc, od, kV, doc, pm, an, cdv, ct, osl, rfl, lk, hcd⟩ := F.ex
  refine ⟨len, fun A outer s H args us vs Q E hr hgu e0 hb r hsp => ?_⟩
  have inK : K.In s.heap := e0.mod.kin.keeps fun b o e => (e0.bs b o e).1
  have noL : s.heap.NoLimit := e0.mod.nolimit.keeps fun b o e => (e0.bs b o e).1
  obtain ⟨t, ht, hq⟩ := hbody cdv A outer s H vs Q E rfl (hr.deeper _) hgu hsp
  have hl := len vs H Q E hsp
  have kinds : ∀ y ∈ ps.zip us, (defScope st).names.lookup y.1 = some .local ∨ ((defScope st).names.lookup y.1 = some .cell ∧ ((cellsFrom (s.heap.objs.size + 1) (defScope st).names []).lookup y.1).isSome = true) := by
    intro y hy
    obtain ⟨n, v⟩ := y
    exact (S.par n (List.of_mem_zip hy).1).imp id fun q => ⟨q, PySem.W.cellsFrom_some _ _ _ (.inl q)⟩
  refine codeAny_call_function hr.depth (inK _ _ lk) rfl S.co S.gen rfl (PySem.W.codeRec_of inK hcd) (hb _ _ _ _ (wpAny_newFunctionEnv_cells S.kind kinds fun env he s1 x => ?_))
  subst he
  refine ⟨noL.keeps x.toInCall.keep, codeAny_func ?_⟩
  have I : L2.Inv (cxOf CX0 P w K mg base N qual (defScope st) f cdv A outer s H E) [] (start N vs) H s1 := inv_start S hr.hd e0 hl r x
  have back : ∀ {σ' : L2.St} {H' : Hp} {s' : Shared} {v : V} {u : Value}, L2.Inv (cxOf CX0 P w K mg base N qual (defScope st) f cdv A outer s H E) [] σ' H' s' → RelV v u → Q v H' → CE outer P w H s Q u s' :=
    fun J rv q => ⟨_, _, J.os, J.bare, J.base, J.hok, rv, q⟩
  refine wpAny_mono (ht.nox.run [] s1 (start N vs) H _ I hq) (fun fl s' hs => ?_) fun e s' hs => hs
  cases fl with
  | ret u => obtain ⟨v, σ', H', J, rv, q⟩ := hs; exact back J rv q
  | next => obtain ⟨σ', H', J, q⟩ := hs; exact back (v := V.non) (u := Value.none) J rfl q
  | brk => obtain ⟨_, _, _, q⟩ := hs; exact q.elim
  | cont => obtain ⟨_, _, _, q⟩ := hs; exact q.elim
end
section
variable {X : Cx} {k : Nat} {f : Addr} {fd : FuncData} {ps ks : List Str} {sp : Sp} {E : XK} {x : Str} {p pos : Pos} {e : Expr} {es : List Expr} {kws : List Keyword} {t tk : TA}
/-- the call itself, by values -/
theorem FnG.called {pins : List (Addr × Obj)} {σ : L2.St} {H : Hp} {s : Shared} {Q : VK} {args : Args} {us : List Value} {vs : List V} (F : FnG X.prog X.w X.K X.mg X.base k f fd ps sp) (hr : Room k X.A) (hgu : X.A.guards = some [])
    (hb : BindsTo s fd args (ps.zip us)) (I : L2.Inv X pins σ H s) (r : Vals vs us) (h : sp vs H Q E) : codeAny (model X.prog X.w) X.A (.call (.ref f) args) (fun r s' => match r with
      | .ok (.ret u) => EP X pins σ Q u s'
      | .ok _ => False
      | .error _ => False) s := by
  refine codeAny_mono (F.run X.A X.stack s H args us vs Q E hr hgu I.env0 hb r h) fun r s' hq => ?_
  cases r with
  | error e => exact hq
  | ok fl =>
    cases fl with
    | ret u => exact I.after hq
    | next => exact hq
    | brk => exact hq
    | cont => exact hq
theorem wpAny_call' {M : Model} {A : Around} {E : Value → Shared → Prop} {s : Shared} {g : Value} {us : List Value} {kw : List (Str × Value)} {Q : Value → Shared → Prop}
    (h : codeAny M A (.call g ⟨us, kw⟩) (fun r s' => match r with
      | .ok (.ret u) => Q u s'
      | .ok _ => False
      | .error _ => False) s) : wpAny M A (call g us kw) Q E s := by
  refine wpAny_call (codeAny_mono h fun r s' hq => ?_)
  cases r with
  | error e => exact hq.elim
  | ok fl => cases fl <;> first | exact hq | exact hq.elim
theorem pe_callG (F : FnG X.prog X.w X.K X.mg X.base k f fd ps sp) (hr : Room k X.A) (hgu : X.A.guards = some []) (hg : Gl X x) (hm : X.mg x = some (.ref f)) (hk : PySem.W.keepIn X.K (.ref f) = true) (hb : Binds X.K fd ps [])
    (ha : PA X (e :: es) t) (hdb : (x == ("__debug__" : Str)) = false) (he : starEach (e :: es) X.env = (false, eval e X.env) :: starEach es X.env) (hpl : (backTo pos (starEach es X.env)).any (·.1) = false) :
    PE X (.Call (.Name x p) (e :: es) [] pos) (fun σ H Q => t σ H fun vs H1 => sp vs H1 Q E) := by
  refine ⟨fun pins s σ H Q I h => wpAny_Call_Name_kw (ld_glob I hg hm ?_ hdb)⟩
  refine PySem.W.callWith_K (h₀ := X.base) I.ok.mod.kin hk (thn (ha.run pos pins s σ H _ I h) fun us s1 ⟨vs, H1, I1, r, q⟩ => ⟨I1.kIn, ?_⟩) he hpl
  have hl : us.length = ps.length := by rw [← r.length]; exact F.len _ _ _ _ q
  have b := hb s1 us I1.kIn (by rw [List.append_nil]; exact hl)
  rw [List.append_nil] at b
  exact wpAny_call' (F.called hr hgu b I1 r q)
theorem pe_callG0 (F : FnG X.prog X.w X.K X.mg X.base k f fd ps sp) (hr : Room k X.A) (hgu : X.A.guards = some []) (hg : Gl X x) (hm : X.mg x = some (.ref f)) (hk : PySem.W.keepIn X.K (.ref f) = true) (hb : Binds X.K fd ps [])
    (hdb : (x == ("__debug__" : Str)) = false) : PE X (.Call (.Name x p) [] [] pos) (fun σ H Q => sp [] H Q E) := by
  refine ⟨fun pins s σ H Q I h => wpAny_Call_Name_kw (ld_glob I hg hm ?_ hdb)⟩
  have b := hb s [] I.kIn (F.len _ _ _ _ h)
  exact PySem.W.callWith_K0 I.kIn hk (wpAny_call' (F.called (us := []) hr hgu b I .nil h))
/-- how keywords come to the parameters: perm tells, for each parameter, which of all arguments it is -/
structure KwB (K : PySem.W.Frag) (fd : FuncData) (ps ks : List Str) (n : Nat) (perm : List Nat) : Prop where
  to : ∀ (s : Shared) (us ws : List Value), K.In s.heap → us.length = n → ws.length = ks.length → BindsTo s fd ⟨us, ks.zip ws⟩ (ps.zip (perm.filterMap fun j => (us ++ ws)[j]?))
theorem Vals.pick {vs : List V} {us : List Value} (r : Vals vs us) : ∀ perm : List Nat, Vals (perm.filterMap fun j => vs[j]?) (perm.filterMap fun j => us[j]?)
  | [] => .nil
  | j :: q => by
    have ih := Vals.pick r q
    rw [List.filterMap_cons, List.filterMap_cons]
    cases e : vs[j]? with
    | none => rw [r.none_of e]; exact ih
    | some v => obtain ⟨u, h1, h2⟩ := r.get e; rw [h1]; exact .cons h2 ih
theorem pe_callGK {perm : List Nat} (F : FnG X.prog X.w X.K X.mg X.base k f fd ps sp) (hr : Room k X.A) (hgu : X.A.guards = some []) (hg : Gl X x) (hm : X.mg x = some (.ref f)) (hk : PySem.W.keepIn X.K (.ref f) = true) (hb : KwB X.K fd ps ks (es.length + 1) perm)
    (ha : PA X (e :: es) t) (hkw : PK X kws tk) (hnk : kws.length = ks.length) (hdb : (x == ("__debug__" : Str)) = false) (hall : (backToKw pos (keywordEach kws X.env)).all (·.1.isSome) = true) (hks : (backToKw pos (keywordEach kws X.env)).filterMap (·.1) = ks)
    (he : starEach (e :: es) X.env = (false, eval e X.env) :: starEach es X.env) (hpl : ((backTo pos (starEach (e :: es) X.env)).any (·.1) || (backToKw pos (keywordEach kws X.env)).any (·.1.isNone)) = false) :
    PE X (.Call (.Name x p) (e :: es) kws pos) (fun σ H Q => t σ H fun vs H1 => tk σ H1 fun zs H2 => vs.length = es.length + 1 ∧ zs.length = ks.length ∧ sp (perm.filterMap fun j => (vs ++ zs)[j]?) H2 Q E) := by
  refine ⟨fun pins s σ H Q I h => wpAny_Call_Name_kw (ld_glob I hg hm ?_ hdb)⟩
  refine PySem.W.callWith_KW (h₀ := X.base) I.ok.mod.kin hk hall (thn (ha.run pos pins s σ H _ I h) fun us s1 ⟨vs, H1, I1, r, q⟩ => ?_) hpl he
  refine thn (hkw.run pos pins s1 σ H1 _ I1 q) fun ws s2 ⟨zs, H2, I2, rz, l1, l2, q2⟩ => ⟨I2.kIn, ?_⟩
  rw [hks]
  exact wpAny_call' (F.called hr hgu (hb.to s2 us ws I2.kIn (by rw [← r.length]; exact l1) (by rw [← rz.length]; exact l2)) I2 (Vals.pick (r.append rz) perm) q2)
theorem pe_callGK0 {perm : List Nat} (F : FnG X.prog X.w X.K X.mg X.base k f fd ps sp) (hr : Room k X.A) (hgu : X.A.guards = some []) (hg : Gl X x) (hm : X.mg x = some (.ref f)) (hk : PySem.W.keepIn X.K (.ref f) = true) (hb : KwB X.K fd ps ks 0 perm)
    (hkw : PK X kws tk) (hnk : kws.length = ks.length) (hdb : (x == ("__debug__" : Str)) = false) (hall : (backToKw pos (keywordEach kws X.env)).all (·.1.isSome) = true) (hks : (backToKw pos (keywordEach kws X.env)).filterMap (·.1) = ks)
    (hpl : ((backTo pos (starEach [] X.env)).any (·.1) || (backToKw pos (keywordEach kws X.env)).any (·.1.isNone)) = false) :
    PE X (.Call (.Name x p) [] kws pos) (fun σ H Q => tk σ H fun zs H2 => zs.length = ks.length ∧ sp (perm.filterMap fun j => zs[j]?) H2 Q E) := by
  refine ⟨fun pins s σ H Q I h => wpAny_Call_Name_kw (ld_glob I hg hm ?_ hdb)⟩
  refine PySem.W.callWith_KW0 (h₀ := X.base) I.ok.mod.kin hk hall (thn (hkw.run pos pins s σ H _ I h) fun ws s2 ⟨zs, H2, I2, rz, l2, q2⟩ => ⟨I2.kIn, ?_⟩) hpl
  rw [hks]
  exact wpAny_call' (F.called hr hgu (hb.to s2 [] ws I2.kIn rfl (by rw [← rz.length]; exact l2)) I2 (Vals.pick rz perm) q2)
end
end PVX
end

section
set_option Elab.async false
set_option linter.all false
set_option autoImplicit false
set_option maxRecDepth 100000
namespace PV
open PySem PySem.Spec PyProof.Rows L2
variable [Tbs]
section
variable {K : PySem.W.Frag} {σ : L2.St} {H H0 H1 H2 : Hp} {ρ ρ1 ρ2 ρ' : Env} {fp fp0 fp1 fp2 : Nat → List Addr} {R R0 R1 R2 : Addr → Prop} {L L' : List Nat} {f g : List Addr} {m : M} {d : D} {v : V} {Q : VK} {w : Bool} {xs ys : List D} {vs : List V} {as : List Arg} {ios : List (Option D)} {fr : Bool} {fs : Nat → List Addr}
theorem getc_zip {F : Option Cell × Nat → Option Cell} (h0 : ∀ i, F (none, i) = none) (ρ : Env) (i : Nat) : getc (ρ.zipIdx.map F) i = F (getc ρ i, i) := by
  unfold getc
  rw [List.getElem?_map, List.getElem?_zipIdx]
  cases h : ρ[i]? with
  | none => exact (h0 i).symm
  | some c => simp
theorem aftC_none (i : Nat) : aftC as ios fr i none = none := by
  unfold aftC
  cases ioAt as i with
  | some j => rfl
  | none => dsimp only; split <;> rfl
theorem getc_aft (i : Nat) : getc (aft as ios fr ρ) i = aftC as ios fr i (getc ρ i) := getc_zip (F := fun p => aftC as ios fr p.2 p.1) aftC_none ρ i
theorem argsOk_at {i : Nat} : ∀ {as : List Arg} {j l : Nat} {a b : Arg}, argsOk as = true → as[j]? = some a → as[l]? = some b → j ≠ l → a.src = some i → b.src = some i → a.k = .shr ∧ b.k = .shr := by
  have one : ∀ {r : List Arg} {a b : Arg} {l : Nat}, r.all (fun b => a.src.isNone || !decide (a.src = b.src) || (match a.k, b.k with | .shr, .shr => true | _, _ => false)) = true → r[l]? = some b → a.src = some i → b.src = some i → a.k = .shr ∧ b.k = .shr := by
    intro r a b l h e ha hb
    have := List.all_eq_true.mp h b (List.mem_of_getElem? e)
    rw [ha, hb] at this
    simp at this
    revert this
    cases a.k <;> cases b.k <;> simp
  intro as
  induction as with
  | nil => intro j l a b _ e; simp at e
  | cons x r ih =>
    intro j l a b h ea eb n ha hb
    unfold argsOk at h
    rw [Bool.and_eq_true] at h
    cases j with
    | zero =>
      simp at ea; subst ea
      cases l with
      | zero => exact absurd rfl n
      | succ l => exact one h.1 (by simpa using eb) ha hb
    | succ j =>
      cases l with
      | zero =>
        simp at eb; subst eb
        exact (one h.1 (by simpa using ea) hb ha).symm
      | succ l => exact ih h.2 (by simpa using ea) (by simpa using eb) (fun e => n (by rw [e])) ha hb
theorem ioAt_some {i j : Nat} (h : ioAt as i = some j) : ∃ a, as[j]? = some a ∧ (a.k = .io ∨ a.k = .iot) ∧ a.src = some i := by
  unfold ioAt at h
  obtain ⟨hj, hp, _⟩ := List.findIdx?_eq_some_iff_getElem.mp h
  refine ⟨as[j], List.getElem?_eq_getElem hj, ?_⟩
  rw [Bool.and_eq_true] at hp
  refine ⟨?_, of_decide_eq_true hp.2⟩
  revert hp
  cases as[j].k <;> simp
theorem ioAt_none {i : Nat} (h : ioAt as i = none) {j : Nat} {a : Arg} (e : as[j]? = some a) (hs : a.src = some i) : ¬ (a.k = .io ∨ a.k = .iot) := by
  unfold ioAt at h
  have := List.findIdx?_eq_none_iff.mp h a (List.mem_of_getElem? e)
  rw [hs] at this
  simp at this
  rintro (q | q) <;> rw [q] at this <;> simp at this
theorem lentAt_iff {i : Nat} : lentAt as i = true ↔ ∃ (j : Nat) (a : Arg), as[j]? = some a ∧ a.k = .shr ∧ a.src = some i := by
  unfold lentAt
  rw [List.any_eq_true]
  constructor
  · rintro ⟨a, ha, hp⟩
    obtain ⟨j, e⟩ := List.getElem?_of_mem ha
    rw [Bool.and_eq_true] at hp
    refine ⟨j, a, e, ?_, of_decide_eq_true hp.2⟩
    revert hp
    cases a.k <;> simp
  · rintro ⟨j, a, e, hk, hs⟩
    refine ⟨a, List.mem_of_getElem? e, ?_⟩
    rw [hk, hs]; simp
/-- an argument, held -/
def HA1 (K : PySem.W.Frag) (L : List Nat) (σ : L2.St) (H : Hp) (ρ : Env) (fp : Nat → List Addr) (R : Addr → Prop) (a : Arg) (v : V) (f : List Addr) : Prop :=
  match a.k, a.src with
  | .own, none => RpO K H a.d v f
  | .shr, none => RpS K H (fun x => R x ∨ x ∈ f) a.d v
  | .shr, some i => RpS K H (fun x => R x ∨ x ∈ fp i) a.d v ∧ f = []
  | .io, some i => σ[i]? = some (some v) ∧ (∃ k, getc ρ i = some ⟨k, a.d⟩ ∧ (k = .own ∨ k = .io)) ∧ i ∉ L ∧ f = []
  | .iot, some i => σ[i]? = some (some v) ∧ (∃ k, getc ρ i = some ⟨k, a.d⟩ ∧ (k = .own ∨ k = .top ∨ k = .iot)) ∧ i ∉ L ∧ f = [] ∧ isBox a.d = true
  | _, _ => False
structure HoldA (K : PySem.W.Frag) (L : List Nat) (σ : L2.St) (H : Hp) (ρ : Env) (fp : Nat → List Addr) (R : Addr → Prop) (as : List Arg) (vs : List V) (fs : Nat → List Addr) : Prop where
  len : vs.length = as.length
  at_ : ∀ j a, as[j]? = some a → ∃ v, vs[j]? = some v ∧ HA1 K L σ H ρ fp R a v (fs j)
  out : ∀ j, as[j]? = none → fs j = []
  nd : ∀ j, (fs j).Nodup
  dj : ∀ j l a, a ∈ fs j → a ∈ fs l → j = l
  sl : ∀ j i a, a ∈ fs j → a ∉ fp i
  dR : ∀ j a, a ∈ fs j → ¬ R a
  tr : ∀ j a, a ∈ fs j → nt H a
/-- the places that the called one has for its own -/
def fpC (as : List Arg) (fp fs : Nat → List Addr) (j : Nat) : List Addr :=
  match as[j]? with
  | some ⟨.io, _, some i⟩ => fp i
  | some ⟨.iot, _, some i⟩ => (fp i).take 1
  | some ⟨.own, _, _⟩ => fs j
  | _ => []
/-- what it only reads -/
def RC (as : List Arg) (fp fs : Nat → List Addr) (R : Addr → Prop) (a : Addr) : Prop :=
  R a ∨ (∃ (j : Nat) (b : Arg), as[j]? = some b ∧ b.k = .shr ∧ a ∈ fs j) ∨ (∃ i, lentAt as i = true ∧ a ∈ fp i) ∨ ∃ (j : Nat) (d : D) (i : Nat), as[j]? = some (Arg.mk .iot d (some i)) ∧ a ∈ (fp i).drop 1
theorem mem_fpC {j : Nat} {a : Addr} (h : a ∈ fpC as fp fs j) : (∃ b i, as[j]? = some b ∧ (b.k = .io ∨ (b.k = .iot ∧ a ∈ (fp i).take 1)) ∧ b.src = some i ∧ a ∈ fp i) ∨ ∃ b, as[j]? = some b ∧ b.k = .own ∧ a ∈ fs j := by
  unfold fpC at h
  split at h
  · rename_i d i e; exact .inl ⟨_, i, e, .inl rfl, rfl, h⟩
  · rename_i d i e; exact .inl ⟨_, i, e, .inr ⟨rfl, h⟩, rfl, List.mem_of_mem_take h⟩
  · rename_i d s e; exact .inr ⟨_, e, rfl, h⟩
  · cases h
/-- what a call asks: what the arguments are, what it answers -/
def outE (args : List (CK × D)) (ios : List (Option D)) : Env := args.zipIdx.map fun p => match p.1.1, (ios[p.2]?).join with
  | .io, some d => some ⟨.io, d⟩
  | .iot, some d => some ⟨.iot, d⟩
  | _, _ => none
def inE (args : List (CK × D)) : Env := args.map fun a => some (Cell.mk a.1 a.2)
def spD (K : PySem.W.Frag) (cf : List (CK × D) → CR) : Sp := fun vs H Q _ => ∃ args fp R, Gd K (vs.map some) H (inE args) fp R ∧ ∃ m d ios, cf args = .ret m d ios ∧
  ∀ v H' fp' R' f, Gd K (vs.map some) H' (outE args ios) fp' R' → Mv [] H fp R H' fp' R' → Hold K H' fp' R' m d v f → New [] H fp f → Q v H'
theorem getc_inE (args : List (CK × D)) (j : Nat) : getc (inE args) j = (args[j]?).map fun a => Cell.mk a.1 a.2 := by
  unfold getc inE
  rw [List.getElem?_map]
  cases args[j]? <;> rfl
theorem getc_outE (args : List (CK × D)) (ios : List (Option D)) (j : Nat) : getc (outE args ios) j = match (args[j]?).map (·.1), (ios[j]?).join with
    | some .io, some d => some ⟨.io, d⟩
    | some .iot, some d => some ⟨.iot, d⟩
    | _, _ => none := by
  unfold getc outE
  rw [List.getElem?_map, List.getElem?_zipIdx]
  cases h : args[j]? with
  | none => simp
  | some c =>
    obtain ⟨k, d⟩ := c
    simp only [Option.map_some, Nat.zero_add, Option.join_some]
    cases k <;> cases (ios[j]?).join <;> rfl
theorem RpO.top {d : D} {v : V} {f : List Addr} {S : Addr → Prop} (hb : isBox d = true) (m : ∀ a, a ∈ f.drop 1 → S a) (h : RpO K H d v f) : RpT K H S d v (f.take 1) := by
  cases d with
  | list ds =>
    simp only [RpO] at h
    obtain ⟨a, vs, g, e, hl, rfl, hs⟩ := h
    exact ⟨a, vs, e, hl, rfl, RpOs.shr (fun b hb => m b (by simpa using hb)) hs⟩
  | dict kvs =>
    simp only [RpO] at h
    obtain ⟨a, u, vs, g, e, hl, hd, rfl, hs⟩ := h
    exact ⟨a, u, vs, e, hl, hd, rfl, RpOk.shr (fun b hb => m b (by simpa using hb)) hs⟩
  | _ => cases hb
theorem RpT.to {d : D} {v : V} {f : List Addr} {S S' : Addr → Prop} (m : ∀ a, S a → S' a) (h : RpT K H S d v f) : RpT K H S' d v f := h.stay (.refl _) (fun _ _ => rfl) m (fun _ _ => rfl)
theorem RpT.take {d : D} {v : V} {f : List Addr} {S : Addr → Prop} (hb : isBox d = true) (h : RpT K H S d v f) : RpT K H S d v (f.take 1) := by
  cases d with
  | list ds =>
    obtain ⟨a, vs, e, hl, rfl, hs⟩ := h
    exact ⟨a, vs, e, hl, rfl, hs⟩
  | dict kvs =>
    obtain ⟨a, u, vs, e, hl, hd, rfl, hs⟩ := h
    exact ⟨a, u, vs, e, hl, hd, rfl, hs⟩
  | _ => cases hb
theorem nodup_take_drop {l : List Addr} (h : l.Nodup) {a : Addr} (h1 : a ∈ l.take 1) (h2 : a ∈ l.drop 1) : False := by
  cases l with
  | nil => simp at h1
  | cons x r =>
    simp at h1 h2
    subst h1
    exact (List.nodup_cons.mp h).1 h2
/-- the called one's entry -/
theorem call_in (g : Gd K σ H ρ fp R) (A : HoldA K L σ H ρ fp R as vs fs) (ok : argsOk as = true) : Gd K (vs.map some) H (inE (as.map fun a => (a.k, a.d))) (fpC as fp fs) (RC as fp fs R) where
  len := by simp [inE, A.len]
  cell := fun j c h => by
    rw [getc_inE, List.getElem?_map] at h
    cases e : as[j]? with
    | none => rw [e] at h; cases h
    | some a =>
      rw [e] at h
      simp at h
      subst h
      obtain ⟨v, hv, q⟩ := A.at_ j a e
      refine ⟨v, by rw [List.getElem?_map, hv]; rfl, ?_⟩
      obtain ⟨k, d, src⟩ := a
      have toR : ∀ x, R x → RC as fp fs R x := fun x z => Or.inl z
      unfold fpC
      cases k <;> cases src <;> simp only [HA1] at q <;> rw [e] <;> dsimp only [RpK]
      · exact q
      · refine ⟨RpS.stay (.refl _) (fun _ _ => rfl) (fun a z => z.elim Or.inl fun z => Or.inr (.inl ⟨j, _, e, rfl, z⟩)) q, rfl⟩
      · rename_i i
        refine ⟨RpS.stay (.refl _) (fun _ _ => rfl) (fun a z => z.elim Or.inl fun z => Or.inr (.inr (.inl ⟨i, lentAt_iff.mpr ⟨j, _, e, rfl, rfl⟩, z⟩))) q.1, rfl⟩
      · obtain ⟨h1, ⟨k, h2, h3⟩, h4⟩ := q
        obtain ⟨v', h5, h6⟩ := g.cell _ _ h2
        rw [h1] at h5; cases h5
        rcases h3 with rfl | rfl <;> exact h6
      · rename_i i
        obtain ⟨h1, ⟨k, h2, h3⟩, h4, _, hb⟩ := q
        obtain ⟨v', h5, h6⟩ := g.cell _ _ h2
        rw [h1] at h5; cases h5
        have dr : ∀ a, a ∈ (fp i).drop 1 → RC as fp fs R a := fun a z => Or.inr (.inr (.inr ⟨j, _, i, e, z⟩))
        rcases h3 with rfl | rfl | rfl
        · exact RpO.top hb dr h6
        · exact RpT.take hb (RpT.to toR h6)
        · exact RpT.take hb (RpT.to toR h6)
  non := fun j h => by
    rw [getc_inE, List.getElem?_map] at h
    cases e : as[j]? with
    | none => unfold fpC; rw [e]
    | some a => rw [e] at h; cases h
  nd := fun j => by
    unfold fpC
    split
    · exact g.nd _
    · exact (g.nd _).sublist (List.take_sublist _ _)
    · exact A.nd _
    · exact .nil
  dj := fun j l a h1 h2 => Classical.byContradiction fun n => by
    rcases mem_fpC h1 with ⟨b, i, e1, k1, s1, p1⟩ | ⟨b, e1, k1, p1⟩ <;> rcases mem_fpC h2 with ⟨b', i', e2, k2, s2, p2⟩ | ⟨b', e2, k2, p2⟩
    · have := g.dj _ _ _ p1 p2
      subst this
      have := (argsOk_at ok e1 e2 n s1 s2).1
      rw [this] at k1
      rcases k1 with k1 | k1 <;> simp at k1
    · exact A.sl _ _ _ p2 p1
    · exact A.sl _ _ _ p1 p2
    · exact n (A.dj _ _ _ p1 p2)
  dR := fun j a h1 h2 => by
    rcases mem_fpC h1 with ⟨b, i, e1, k1, s1, p1⟩ | ⟨b, e1, k1, p1⟩
    · rcases h2 with q | ⟨l, b', e2, k2, q⟩ | ⟨i', hl, q⟩ | ⟨l, d', i', e2, q⟩
      · exact g.dR _ _ p1 q
      · exact A.sl _ _ _ q p1
      · have := g.dj _ _ _ p1 q
        subst this
        obtain ⟨l, b', e2, k2, s2⟩ := lentAt_iff.mp hl
        have n : j ≠ l := fun z => by subst z; rw [e1] at e2; cases e2; rw [k2] at k1; rcases k1 with k1 | k1 <;> simp at k1
        rw [(argsOk_at ok e1 e2 n s1 s2).1] at k1
        rcases k1 with k1 | k1 <;> simp at k1
      · have := g.dj _ _ _ p1 (List.mem_of_mem_drop q)
        subst this
        by_cases n : j = l
        · subst n
          rw [e1] at e2; cases e2
          rcases k1 with k1 | k1
          · simp at k1
          · exact nodup_take_drop (g.nd _) k1.2 q
        · rw [(argsOk_at ok e1 e2 n s1 rfl).1] at k1
          rcases k1 with k1 | k1 <;> simp at k1
    · rcases h2 with q | ⟨l, b', e2, k2, q⟩ | ⟨i', hl, q⟩ | ⟨l, d', i', e2, q⟩
      · exact A.dR _ _ p1 q
      · have := A.dj _ _ _ p1 q
        subst this
        rw [e1] at e2; cases e2
        rw [k1] at k2; cases k2
      · exact A.sl _ _ _ p1 q
      · exact A.sl _ _ _ p1 (List.mem_of_mem_drop q)
  tr := fun j a h1 => by
    rcases mem_fpC h1 with ⟨b, i, e1, k1, s1, p1⟩ | ⟨b, e1, k1, p1⟩
    · exact g.tr _ _ p1
    · exact A.tr _ _ p1
  tR := fun a h2 => by
    rcases h2 with q | ⟨l, b', e2, k2, q⟩ | ⟨i', hl, q⟩ | ⟨l, d', i', e2, q⟩
    · exact g.tR _ q
    · exact A.tr _ _ q
    · exact g.tr _ _ q
    · exact g.tr _ _ (List.mem_of_mem_drop q)
  tb := g.tb
end
end PV
end

section
set_option Elab.async false
set_option linter.all false
set_option autoImplicit false
set_option maxRecDepth 100000
namespace PV
open PySem PySem.Spec PyProof.Rows L2
variable [Tbs]
section
variable {K : PySem.W.Frag} {σ : L2.St} {H H0 H1 H2 H' : Hp} {ρ ρ1 ρ2 ρ' : Env} {fp fp0 fp1 fp2 fp' : Nat → List Addr} {R R0 R1 R2 R' : Addr → Prop} {L L' : List Nat} {f g : List Addr} {m : M} {d : D} {v : V} {Q : VK} {w : Bool} {xs ys : List D} {vs : List V} {as : List Arg} {ios : List (Option D)} {fr : Bool} {fs : Nat → List Addr}
/-- places behind a call -/
def fpN (as : List Arg) (fr : Bool) (fp fp' : Nat → List Addr) (i : Nat) : List Addr :=
  match ioAt as i with
  | some j => fp' j
  | none => if (fr && lentAt as i) = true then [] else fp i
def RN (fr : Bool) (R R' : Addr → Prop) (a : Addr) : Prop := if fr = true then R' a else R a
theorem RpK.not_iot_R {k : CK} (h : RpO K H d v f) (hk : k = .own ∨ k = .io) : RpK K H R k d v f := by rcases hk with rfl | rfl <;> exact h
theorem call_out (g : Gd K σ H ρ fp R) (A : HoldA K L σ H ρ fp R as vs fs) (ok : argsOk as = true) (hf : ∀ (j : Nat) (b : Arg), as[j]? = some b → b.k = .iot → fr = true)
    (g' : Gd K (vs.map some) H' (outE (as.map fun a => (a.k, a.d)) ios) fp' R') (mv : Mv [] H (fpC as fp fs) (RC as fp fs R) H' fp' R') :
    Gd K σ H' (aft as ios fr ρ) (fpN as fr fp fp') (RN fr R R') := by
  have nfp : ∀ {i : Nat} {a : Addr}, ioAt as i = none → a ∈ fp i → ∀ j, a ∉ fpC as fp fs j := fun {i a} hi ha j hc => by
    rcases mem_fpC hc with ⟨b, i', e1, k1, s1, p1⟩ | ⟨b, e1, k1, p1⟩
    · have := g.dj _ _ _ ha p1
      subst this
      exact ioAt_none hi e1 s1 (k1.imp id And.left)
    · exact A.sl _ _ _ p1 ha
  have same : ∀ {i : Nat} {a : Addr}, ioAt as i = none → a ∈ fp i → H' a = H a := fun {i a} hi ha => mv.keep a (g.tr i a ha) fun j _ => nfp hi ha j
  have gi := call_in g A ok
  have sameR : ∀ {a : Addr}, R a → H' a = H a := fun {a} ha => mv.keep a (g.tR a ha) fun j _ z => gi.dR j a z (.inl ha)
  have upR : ∀ a, R a → R' a := fun a q => mv.reg a (.inl q)
  have nio : ∀ {i : Nat} {a : Addr}, ioAt as i = none → a ∈ fp i → ∀ j, a ∉ fp' j := fun {i a} hi ha j hc => by
    rcases mv.nf j a hc with e | ⟨j', e⟩
    · exact g.tr _ _ ha e
    · exact nfp hi ha j' e
  refine ⟨?_, fun i c h => ?_, fun i h => ?_, fun i => ?_, fun i l a h1 h2 => ?_, fun i a h1 h2 => ?_, fun i a h1 => ?_, fun a h1 => ?_, g'.tb⟩
  · simp [aft, g.len]
  · rw [getc_aft] at h
    unfold aftC at h
    unfold fpN
    cases hi : ioAt as i with
    | some j =>
      rw [hi] at h
      dsimp only at h ⊢
      obtain ⟨a, e, hk, hs⟩ := ioAt_some hi
      obtain ⟨v, hv, q⟩ := A.at_ j a e
      obtain ⟨k, d, src⟩ := a
      dsimp only at hs hk
      subst hs
      cases hio : (ios[j]?).join with
      | none => rw [hio] at h; split at h <;> first | (rename_i z; cases z; done) | (cases h; done)
      | some d' =>
        rw [hio] at h
        have gc : getc (outE (as.map fun a => (a.k, a.d)) ios) j = some ⟨k, d'⟩ := by
          rw [getc_outE, List.getElem?_map, e, hio]
          rcases hk with rfl | rfl <;> rfl
        obtain ⟨v', h5, h6⟩ := g'.cell j _ gc
        rw [List.getElem?_map, hv] at h5
        simp at h5
        subst h5
        rcases hk with rfl | rfl
        · simp only [HA1] at q
          obtain ⟨h1, ⟨k, h2, h3⟩, h4⟩ := q
          rw [h2] at h
          dsimp only at h
          cases h
          refine ⟨v, h1, ?_⟩
          rw [e]
          have h6 : RpO K H' d' v (fp' j) := h6
          rcases h3 with rfl | rfl <;> exact h6
        · simp only [HA1] at q
          obtain ⟨h1, ⟨k, h2, h3⟩, h4⟩ := q
          rw [h2] at h
          dsimp only at h
          cases h
          refine ⟨v, h1, ?_⟩
          rw [e]
          have ef := hf j _ e rfl
          have h6 : RpT K H' (RN fr R R') d' v (fp' j) := RpT.to (fun a z => by unfold RN; rw [if_pos ef]; exact z) (show RpT K H' R' d' v (fp' j) from h6)
          rcases h3 with rfl | rfl | rfl <;> exact h6
    | none =>
      rw [hi] at h
      dsimp only at h ⊢
      by_cases hl : (fr && lentAt as i) = true
      · rw [if_pos hl] at h ⊢
        have hl := Bool.and_eq_true_iff.mp hl
        have rn : RN fr R R' = R' := by funext a; unfold RN; rw [if_pos hl.1]
        rw [rn]
        have lr : ∀ a, a ∈ fp i → R' a := fun a z => mv.reg a (.inr (.inr (.inl ⟨i, hl.2, z⟩)))
        have go : ∀ {k : CK} {d : D}, getc ρ i = some ⟨k, d⟩ → (∀ v f, RpK K H R k d v f → RpS K H (fun x => R x ∨ x ∈ f) d v) → ∃ v, σ[i]? = some (some v) ∧ RpK K H' R' .shr d v [] := fun {k d} e sh => by
          obtain ⟨v, e2, rp⟩ := g.cell i _ e
          refine ⟨v, e2, RpS.stay mv.tup (fun a z => z.elim (fun z => sameR z) fun z => same hi z) (fun a z => z.elim (upR a) (lr a)) (sh v _ rp), rfl⟩
        cases e : getc ρ i with
        | none => rw [e] at h; cases h
        | some c0 =>
          obtain ⟨k, d⟩ := c0
          rw [e] at h
          cases k with
          | own => cases h; exact go e fun v f rp => RpO.shr (fun a q => .inr q) rp
          | top => cases h; exact go e fun v f rp => RpT.shr rp
          | shr => cases h; exact go e fun v f rp => RpS.stay (.refl _) (fun _ _ => rfl) (fun _ => .inl) rp.1
          | io => cases h
          | iot => cases h
      · rw [if_neg hl] at h ⊢
        obtain ⟨v, e2, rp⟩ := g.cell i _ h
        exact ⟨v, e2, rp.stay mv.tup (fun a q => sameR q) (fun a q => by unfold RN; split; exact upR a q; exact q) fun a q => same hi q⟩
  · rw [getc_aft] at h
    unfold aftC at h
    unfold fpN
    cases hi : ioAt as i with
    | some j =>
      rw [hi] at h
      dsimp only at h ⊢
      obtain ⟨a, e, hk, hs⟩ := ioAt_some hi
      obtain ⟨v, hv, q⟩ := A.at_ j a e
      obtain ⟨k, d, src⟩ := a
      dsimp only at hs hk
      subst hs
      refine g'.non j ?_
      rw [getc_outE, List.getElem?_map, e]
      have gi : ∃ c, getc ρ i = some c := by
        rcases hk with rfl | rfl <;> (simp only [HA1] at q; obtain ⟨h1, ⟨k, h2, h3⟩, h4⟩ := q; exact ⟨_, h2⟩)
      obtain ⟨c, gi⟩ := gi
      rw [gi] at h
      cases hio : (ios[j]?).join with
      | none => rcases hk with rfl | rfl <;> rfl
      | some d' => rw [hio] at h; cases h
    | none =>
      rw [hi] at h
      dsimp only at h ⊢
      by_cases hl : (fr && lentAt as i) = true
      · rw [if_pos hl]
      · rw [if_neg hl] at h ⊢; exact g.non i h
  · unfold fpN
    split
    · exact g'.nd _
    · split
      · exact .nil
      · exact g.nd i
  · unfold fpN at h1 h2
    cases hi : ioAt as i with
    | some j =>
      rw [hi] at h1
      cases hl : ioAt as l with
      | some j' =>
        rw [hl] at h2
        have := g'.dj _ _ _ h1 h2
        subst this
        obtain ⟨a, e, hk, hs⟩ := ioAt_some hi
        obtain ⟨a', e', hk', hs'⟩ := ioAt_some hl
        rw [e] at e'; cases e'
        rw [hs] at hs'; cases hs'; rfl
      | none =>
        rw [hl] at h2
        dsimp only at h2
        split at h2
        · cases h2
        · exact absurd h1 (nio hl h2 j)
    | none =>
      rw [hi] at h1
      dsimp only at h1
      split at h1
      · cases h1
      · cases hl : ioAt as l with
        | some j' => rw [hl] at h2; exact absurd h2 (nio hi h1 j')
        | none =>
          rw [hl] at h2
          dsimp only at h2
          split at h2
          · cases h2
          · exact g.dj _ _ _ h1 h2
  · unfold fpN at h1
    unfold RN at h2
    cases hi : ioAt as i with
    | some j =>
      rw [hi] at h1
      exact g'.dR j a h1 (by split at h2; exact h2; exact upR a h2)
    | none =>
      rw [hi] at h1
      dsimp only at h1
      split at h1
      · cases h1
      · rename_i hl
        split at h2
        · rename_i hfr
          rw [hfr, Bool.true_and] at hl
          rcases mv.nR a h2 with q | q | ⟨j, q⟩
          · rcases q with q | ⟨l, b', e2, k2, q⟩ | ⟨i', hl', q⟩ | ⟨l, d', i', e2, q⟩
            · exact g.dR _ _ h1 q
            · exact A.sl _ _ _ q h1
            · have := g.dj _ _ _ h1 q; subst this; exact hl hl'
            · have := g.dj _ _ _ h1 (List.mem_of_mem_drop q); subst this; exact ioAt_none hi e2 rfl (.inr rfl)
          · exact g.tr _ _ h1 q
          · exact nfp hi h1 j q
        · exact g.dR i a h1 h2
  · unfold fpN at h1
    split at h1
    · exact g'.tr _ _ h1
    · split at h1
      · cases h1
      · exact mv.sn a (g.tr i a h1)
  · unfold RN at h1
    split at h1
    · exact g'.tR a h1
    · exact mv.sn a (g.tR a h1)
theorem call_back (g : Gd K σ H ρ fp R) (v1 : Mv L H0 fp0 R0 H fp R) (A : HoldA K L σ H ρ fp R as vs fs) (n : ∀ j, New L H0 fp0 (fs j)) {a : Addr} {j : Nat} (h : a ∈ fpC as fp fs j) : H0 a = none ∨ ∃ i, i ∉ L ∧ a ∈ fp0 i := by
  rcases mem_fpC h with ⟨b, i, e1, k1, s1, p1⟩ | ⟨b, e1, k1, p1⟩
  · obtain ⟨v, hv, q⟩ := A.at_ j b e1
    obtain ⟨k, d, src⟩ := b
    dsimp only at s1 k1
    subst s1
    have hiL : i ∉ L := by rcases k1 with rfl | ⟨rfl, _⟩ <;> (simp only [HA1] at q) <;> first | exact q.2.2.1 | exact q.2.2.1
    rcases v1.nf i a p1 with e | ⟨i', q'⟩
    · exact .inl e
    · by_cases hi : i' ∈ L
      · rcases v1.lock i' hi a q' with z | z
        · exact absurd (g.dj i i' a p1 z ▸ hi) hiL
        · exact absurd z (g.dR i a p1)
      · exact .inr ⟨i', hi, q'⟩
  · exact n j a p1
theorem call_mv (g : Gd K σ H ρ fp R) (v1 : Mv L H0 fp0 R0 H fp R) (A : HoldA K L σ H ρ fp R as vs fs) (ok : argsOk as = true) (n : ∀ j, New L H0 fp0 (fs j)) (mv : Mv [] H (fpC as fp fs) (RC as fp fs R) H' fp' R') :
    Mv L H0 fp0 R0 H' (fpN as fr fp fp') (RN fr R R') where
  keep := fun a ha hi => by
    have e1 := v1.keep a ha hi
    refine (mv.keep a (ha.eq e1) fun j _ z => ?_).trans e1
    rcases call_back g v1 A n z with e | ⟨i, hi', q⟩
    · exact ha e
    · exact hi i hi' q
  tup := v1.tup.trans mv.tup
  lock := fun i hi a ha => by
    have up : R a → RN fr R R' a := fun q => by unfold RN; split; exact mv.reg a (.inl q); exact q
    rcases v1.lock i hi a ha with q | q
    · unfold fpN
      cases hio : ioAt as i with
      | some j =>
        obtain ⟨b, e, hk, hs⟩ := ioAt_some hio
        obtain ⟨v, hv, q'⟩ := A.at_ j b e
        obtain ⟨k, d, src⟩ := b
        dsimp only at hs hk
        subst hs
        rcases hk with rfl | rfl <;> (simp only [HA1] at q'; exact absurd hi q'.2.2.1)
      | none =>
        dsimp only
        split
        · rename_i hl
          have hl := Bool.and_eq_true_iff.mp hl
          refine .inr ?_
          unfold RN
          rw [if_pos hl.1]
          exact mv.reg a (.inr (.inr (.inl ⟨i, hl.2, q⟩)))
        · exact .inl q
    · exact .inr (up q)
  reg := fun a q => by
    have q := v1.reg a q
    unfold RN; split
    · exact mv.reg a (.inl q)
    · exact q
  nf := fun i a h => by
    have fin : (∃ j, a ∈ fpC as fp fs j) → H0 a = none ∨ ∃ j, a ∈ fp0 j := fun ⟨j, z⟩ => (call_back g v1 A n z).imp id fun ⟨i, _, q⟩ => ⟨i, q⟩
    have non : H a = none → H0 a = none := fun e => Classical.byContradiction fun z => v1.som a z e
    unfold fpN at h
    split at h
    · rcases mv.nf _ a h with e | q
      · exact .inl (non e)
      · exact fin q
    · split at h
      · cases h
      · exact v1.nf i a h
  nR := fun a h => by
    have fin : (∃ j, a ∈ fpC as fp fs j) → H0 a = none ∨ ∃ j, a ∈ fp0 j := fun ⟨j, z⟩ => (call_back g v1 A n z).imp id fun ⟨i, _, q⟩ => ⟨i, q⟩
    have non : H a = none → H0 a = none := fun e => Classical.byContradiction fun z => v1.som a z e
    unfold RN at h
    split at h
    · rcases mv.nR a h with q | q | q
      · rcases q with q | ⟨l, b', e2, k2, q⟩ | ⟨i', hl', q⟩ | ⟨l, d', i', e2, q⟩
        · exact v1.nR a q
        · exact .inr ((n l a q).imp id fun ⟨i, _, z⟩ => ⟨i, z⟩)
        · exact .inr (v1.nf _ a q)
        · exact .inr (v1.nf _ a (List.mem_of_mem_drop q))
      · exact .inr (.inl (non q))
      · exact .inr (fin q)
    · exact v1.nR a h
  som := fun a h => mv.som a (v1.som a h)
  sn := fun a h => mv.sn a (v1.sn a h)
/-- what the called one answers, held by the caller -/
theorem call_hold (g : Gd K σ H ρ fp R) (A : HoldA K L σ H ρ fp R as vs fs) (mv : Mv [] H (fpC as fp fs) (RC as fp fs R) H' fp' R') (hm : m = .own ∨ (fr = true ∧ (m = .top ∨ m = .shr)))
    (o : Hold K H' fp' R' m d v f) (n' : New [] H (fpC as fp fs) f) : Hold K H' (fpN as fr fp fp') (RN fr R R') m d v f where
  rp := by
    rcases hm with rfl | ⟨hf, rfl | rfl⟩
    · exact o.rp
    · have : RN fr R R' = R' := by funext a; unfold RN; rw [if_pos hf]
      rw [this]; exact o.rp
    · have : RN fr R R' = R' := by funext a; unfold RN; rw [if_pos hf]
      rw [this]; exact o.rp
  tm := by
    refine ⟨o.tm.nd, fun i a ha z => ?_, fun a ha z => ?_, o.tm.tr⟩
    · unfold fpN at z
      cases hi : ioAt as i with
      | some j => rw [hi] at z; exact o.tm.dj j a ha z
      | none =>
        rw [hi] at z
        dsimp only at z
        split at z
        · cases z
        · rcases n' a ha with e | ⟨j, _, q⟩
          · exact g.tr i a z e
          · rcases mem_fpC q with ⟨b, i', e1, k1, s1, p1⟩ | ⟨b, e1, k1, p1⟩
            · have := g.dj _ _ _ z p1; subst this; exact ioAt_none hi e1 s1 (k1.imp id And.left)
            · exact A.sl _ _ _ p1 z
    · refine o.tm.dR a ha ?_
      unfold RN at z
      split at z
      · exact z
      · exact mv.reg a (.inl z)
/-- what is behind a call -/
def Gote (K : PySem.W.Frag) (σ : L2.St) (L : List Nat) (H : Hp) (fp : Nat → List Addr) (R : Addr → Prop) (ρ' : Env) (as : List Arg) (Q : List V → Hp → Prop) : Prop :=
  ∀ vs H' fp' R' fs, Gd K σ H' ρ' fp' R' → Mv L H fp R H' fp' R' → HoldA K L σ H' ρ' fp' R' as vs fs → (∀ j, New L H fp (fs j)) → Q vs H'
theorem call_ok {C : Ctx} {fi : Nat} {E : XK} (g : Gd K σ H ρ fp R) (v1 : Mv L H0 fp0 R0 H fp R) (A : HoldA K L σ H ρ fp R as vs fs) (n : ∀ j, New L H0 fp0 (fs j)) (h : doCall C fi as ρ = .ok (m, d) ρ') (q : Got K σ L H0 fp0 R0 ρ' m d Q) :
    spD K (C.call fi) vs H Q E := by
  unfold doCall at h
  split at h
  · rename_i ok
    split at h
    · rename_i m0 d0 ios hc
      refine ⟨_, _, _, call_in g A ok, m0, d0, ios, hc, fun v H' fp' R' f g' mv o n' => ?_⟩
      have fin : (m0 = .own ∨ (lent m0 as = true ∧ (m0 = .top ∨ m0 = .shr))) → ((PV.nrm m0 d0, d0), aft as ios (lent m0 as) ρ) = ((m, d), ρ') → Q v H' := fun hm e => by
        cases e
        have gn := call_out (fr := lent m0 as) g A ok (fun j b e hk => by
          unfold lent
          rw [Bool.or_eq_true]
          refine .inr (List.any_eq_true.mpr ⟨b, List.mem_of_getElem? e, by rw [hk]⟩)) g' mv
        have on := call_hold (fr := lent m0 as) g A mv hm o n'
        obtain ⟨f2, o2, s2⟩ := on.nrm
        refine q v H' _ _ f2 gn (call_mv g v1 A ok n mv) o2 fun a ha => ?_
        rcases n' a (s2 a ha) with e | ⟨j, _, z⟩
        · exact .inl (Classical.byContradiction fun w => v1.som a w e)
        · exact call_back g v1 A n z
      cases m0 with
      | own => exact fin (.inl rfl) (by cases h; rfl)
      | top => exact fin (.inr ⟨rfl, .inl rfl⟩) (by cases h; rfl)
      | shr => exact fin (.inr ⟨rfl, .inr rfl⟩) (by cases h; rfl)
      | bor i => cases h
      | bort i => cases h
    · cases h
    · cases h
  · cases h
end
end PV
end

section
set_option Elab.async false
set_option linter.all false
set_option autoImplicit false
set_option maxRecDepth 100000
namespace PV
open PySem PySem.Spec PyProof.Rows L2
variable [Tbs]
section
variable {K : PySem.W.Frag} {σ : L2.St} {H H0 H1 H2 H' : Hp} {ρ ρ1 ρ2 ρ' : Env} {fp fp0 fp1 fp2 fp' : Nat → List Addr} {R R0 R1 R2 R' : Addr → Prop} {L L' : List Nat} {f g : List Addr} {m : M} {d : D} {v : V} {Q : VK} {w : Bool} {xs ys : List D} {vs : List V} {as : List Arg} {ios : List (Option D)} {fr : Bool} {fs : Nat → List Addr}
def isIo : Ex → Bool
  | .io _ => true
  | .iot _ => true
  | _ => false
def argOf (m : M) (d : D) : Arg :=
  match m with
  | .own => ⟨.own, d, none⟩
  | .top => ⟨.shr, d, none⟩
  | .shr => ⟨.shr, d, none⟩
  | .bor i => ⟨.shr, d, some i⟩
  | .bort i => ⟨.shr, d, some i⟩
theorem eva_cons {C : Ctx} {a b : Ex} (h : isIo a = false) : eva C L (.cons a b) ρ = (ev C L a ρ).bind fun (m, d) ρ1 => (eva C (lk m ++ L) b ρ1).bind fun as ρ2 => .ok (argOf m d :: as) ρ2 := by
  have fin : ∀ (r : PV.R (M × D)) (g : M → Env → PV.R (List Arg)), (r.bind fun (x : M × D) ρ1 => (g x.1 ρ1).bind fun as ρ2 => (match x.1 with
    | .own => .ok (⟨.own, x.2, none⟩ :: as) ρ2
    | .top => .ok (⟨.shr, x.2, none⟩ :: as) ρ2
    | .shr => .ok (⟨.shr, x.2, none⟩ :: as) ρ2
    | .bor i => .ok (⟨.shr, x.2, some i⟩ :: as) ρ2
    | .bort i => .ok (⟨.shr, x.2, some i⟩ :: as) ρ2 : PV.R (List Arg))) = r.bind fun (x : M × D) ρ1 => (g x.1 ρ1).bind fun as ρ2 => .ok (argOf x.1 x.2 :: as) ρ2 := fun r g => by
    congr 1; funext x ρ1; congr 1; funext as ρ2; obtain ⟨m, d⟩ := x; cases m <;> rfl
  cases a <;> first | (cases h; done) | exact fin _ (fun m ρ1 => eva C (lk m ++ L) b ρ1)
def consF (f : List Addr) (fs : Nat → List Addr) : Nat → List Addr
  | 0 => f
  | j + 1 => fs j
theorem HA1.mono {a : Arg} (h : HA1 K L' σ H ρ fp R a v f) (s : ∀ i ∈ L, i ∈ L') : HA1 K L σ H ρ fp R a v f := by
  obtain ⟨k, d, src⟩ := a
  cases k <;> cases src <;> simp only [HA1] at h ⊢
  · exact h
  · exact h
  · exact h
  · exact ⟨h.1, h.2.1, fun q => h.2.2.1 (s _ q), h.2.2.2⟩
  · exact ⟨h.1, h.2.1, fun q => h.2.2.1 (s _ q), h.2.2.2⟩
theorem HoldA.nil : HoldA K L σ H ρ fp R [] [] (fun _ => []) := ⟨rfl, fun j a h => by simp at h, fun _ _ => rfl, fun _ => .nil, fun _ _ _ h => absurd h (by simp), fun _ _ _ h => absurd h (by simp), fun _ _ h => absurd h (by simp), fun _ _ h => absurd h (by simp)⟩
theorem HoldA.cons {a : Arg} (t : Tmp H fp R f) (h : HA1 K L σ H ρ fp R a v f) (A : HoldA K L' σ H ρ fp R as vs fs) (s : ∀ i ∈ L, i ∈ L') (ap : ∀ x ∈ f, ∀ j, x ∉ fs j) : HoldA K L σ H ρ fp R (a :: as) (v :: vs) (consF f fs) where
  len := by simp [A.len]
  at_ := fun j b e => by
    cases j with
    | zero => simp at e; subst e; exact ⟨v, rfl, h⟩
    | succ j => obtain ⟨v', h1, h2⟩ := A.at_ j b (by simpa using e); exact ⟨v', by simpa using h1, h2.mono s⟩
  out := fun j e => by
    cases j with
    | zero => simp at e
    | succ j => exact A.out j (by simpa using e)
  nd := fun j => by
    cases j with
    | zero => exact t.nd
    | succ j => exact A.nd j
  dj := fun j l x h1 h2 => by
    cases j with
    | zero =>
      cases l with
      | zero => rfl
      | succ l => exact absurd h2 (ap x h1 l)
    | succ j =>
      cases l with
      | zero => exact absurd h1 (ap x h2 j)
      | succ l => rw [A.dj j l x h1 h2]
  sl := fun j i x h1 => by
    cases j with
    | zero => exact t.dj i x h1
    | succ j => exact A.sl j i x h1
  dR := fun j x h1 => by
    cases j with
    | zero => exact t.dR x h1
    | succ j => exact A.dR j x h1
  tr := fun j x h1 => by
    cases j with
    | zero => exact t.tr x h1
    | succ j => exact A.tr j x h1
/-- the arguments in another order -/
theorem HoldA.pick {perm : List Nat} (A : HoldA K L σ H ρ fp R as vs fs) (nd : perm.Nodup) (hp : ∀ j ∈ perm, j < as.length) :
    HoldA K L σ H ρ fp R (perm.filterMap fun j => as[j]?) (perm.filterMap fun j => vs[j]?) (fun j => match perm[j]? with | some p => fs p | none => []) := by
  have key : ∀ {α : Type} (l : List α) (q : List Nat), (∀ j ∈ q, j < l.length) → ∀ j : Nat, (q.filterMap fun j => l[j]?)[j]? = (q[j]?).bind fun p => l[p]? := by
    intro α l q
    induction q with
    | nil => intro _ j; simp
    | cons p q ih =>
      intro h j
      have hp : p < l.length := h p List.mem_cons_self
      rw [List.filterMap_cons, List.getElem?_eq_getElem hp]
      dsimp only
      cases j with
      | zero => simp [hp]
      | succ j => simpa using ih (fun j hj => h j (List.mem_cons_of_mem _ hj)) j
  have hp' : ∀ j ∈ perm, j < vs.length := by rw [A.len]; exact hp
  have inj : ∀ {j l p : Nat}, perm[j]? = some p → perm[l]? = some p → j = l := fun {j l p} h1 h2 => by
    obtain ⟨a1, b1⟩ := List.getElem?_eq_some_iff.mp h1
    obtain ⟨a2, b2⟩ := List.getElem?_eq_some_iff.mp h2
    exact (List.getElem_inj nd).mp (b1.trans b2.symm)
  have ln : ∀ {α : Type} (l : List α) (q : List Nat), (∀ j ∈ q, j < l.length) → (q.filterMap fun j => l[j]?).length = q.length := by
    intro α l q
    induction q with
    | nil => intro _; rfl
    | cons p q ih =>
      intro h
      have hp : p < l.length := h p List.mem_cons_self
      rw [List.filterMap_cons, List.getElem?_eq_getElem hp]
      simpa using ih fun j hj => h j (List.mem_cons_of_mem _ hj)
  refine ⟨by rw [ln _ _ hp, ln _ _ hp'], fun j a e => ?_, fun j e => ?_, fun j => ?_, fun j l x h1 h2 => ?_, fun j i x h1 => ?_, fun j x h1 => ?_, fun j x h1 => ?_⟩
  · rw [key _ _ hp] at e
    rw [key _ _ hp']
    cases hj : perm[j]? with
    | none => rw [hj] at e; cases e
    | some p =>
      rw [hj] at e
      obtain ⟨v, h1, h2⟩ := A.at_ p a e
      exact ⟨v, h1, h2⟩
  · rw [key _ _ hp] at e
    cases hj : perm[j]? with
    | none => rfl
    | some p => rw [hj] at e; exact A.out p e
  · split
    · exact A.nd _
    · exact .nil
  · split at h1
    · rename_i p e1
      split at h2
      · rename_i p' e2
        have := A.dj _ _ _ h1 h2
        subst this
        exact inj e1 e2
      · cases h2
    · cases h1
  · split at h1
    · exact A.sl _ _ _ h1
    · cases h1
  · split at h1
    · exact A.dR _ _ h1
    · cases h1
  · split at h1
    · exact A.tr _ _ h1
    · cases h1
/-- an argument is held -/
theorem Hold.arg (o : Hold K H fp R m d v f) : HA1 K L σ H ρ fp R (argOf m d) v f := by
  have rp := o.rp
  cases m with
  | own => exact rp
  | top => exact RpU.shr rp
  | shr => exact rp
  | bor i => exact rp
  | bort i => exact ⟨RpW.shr (fun _ => .inl) rp.1, rp.2⟩
def exLen : Ex → Nat
  | .cons _ b => exLen b + 1
  | _ => 0
theorem eva_len {C : Ctx} : ∀ {es : Ex} {L : List Nat} {ρ : Env} {as : List Arg} {ρ' : Env}, eva C L es ρ = .ok as ρ' → as.length = exLen es
  | .nil, L, ρ, as, ρ', h => by cases h; rfl
  | .cons a b, L, ρ, as, ρ', h => by
    cases hi : isIo a with
    | false =>
      rw [eva_cons hi] at h
      obtain ⟨⟨m, d⟩, ρ1, h1, h⟩ := bind_ok h
      obtain ⟨as2, ρ2, h2, h⟩ := bind_ok h
      cases h
      simp only [List.length_cons, exLen, eva_len h2]
    | true =>
      have fin : ∀ {r : PV.R (List Arg)} {F : List Arg → Env → PV.R (List Arg)}, (∀ L ρ as ρ', eva C L b ρ = .ok as ρ' → as.length = exLen b) → True := fun _ => trivial
      cases a <;> first | (cases hi; done) | skip
      · rename_i i
        have h : (if L.contains i || (getc ρ i).isNone then PV.R.bad else (eva C L b ρ).bind fun as ρ1 => match getc ρ1 i with
          | some ⟨.own, d⟩ => .ok (⟨.io, d, some i⟩ :: as) ρ1
          | some ⟨.io, d⟩ => .ok (⟨.io, d, some i⟩ :: as) ρ1
          | _ => .bad) = .ok as ρ' := h
        split at h
        · cases h
        · obtain ⟨as2, ρ2, h2, h⟩ := bind_ok h
          have := eva_len h2
          split at h <;> first | (cases h; simp only [List.length_cons, exLen, this]; done) | (cases h; done)
      · rename_i i
        have h : (if L.contains i || (getc ρ i).isNone then PV.R.bad else (eva C L b ρ).bind fun as ρ1 => match getc ρ1 i with
          | some ⟨.own, d⟩ => if isBox d then .ok (⟨.iot, d, some i⟩ :: as) ρ1 else .bad
          | some ⟨.top, d⟩ => if isBox d then .ok (⟨.iot, d, some i⟩ :: as) ρ1 else .bad
          | some ⟨.iot, d⟩ => if isBox d then .ok (⟨.iot, d, some i⟩ :: as) ρ1 else .bad
          | _ => .bad) = .ok as ρ' := h
        split at h
        · cases h
        · obtain ⟨as2, ρ2, h2, h⟩ := bind_ok h
          have := eva_len h2
          split at h <;> first | (split at h <;> first | (cases h; simp only [List.length_cons, exLen, this]; done) | (cases h; done)) | (cases h; done)
  | .con _, _, _, _, _, h => by cases h
  | .var _, _, _, _, _, h => by cases h
  | .mv _, _, _, _, _, h => by cases h
  | .glob _, _, _, _, _, h => by cases h
  | .inG _ _ _, _, _, _, _, h => by cases h
  | .subG _ _, _, _, _, _, h => by cases h
  | .bin _ _ _, _, _, _, _, h => by cases h
  | .neg _, _, _, _, _, h => by cases h
  | .not _, _, _, _, _, h => by cases h
  | .cmp _ _ _, _, _, _, _, h => by cases h
  | .chain _ _ _ _ _, _, _, _, _, h => by cases h
  | .and _, _, _, _, _, h => by cases h
  | .or _, _, _, _, _, h => by cases h
  | .ite _ _ _, _, _, _, _, h => by cases h
  | .lst _, _, _, _, _, h => by cases h
  | .tup _, _, _, _, _, h => by cases h
  | .dct _, _, _, _, _, h => by cases h
  | .sub _ _, _, _, _, _, h => by cases h
  | .slc _ _ _, _, _, _, _, h => by cases h
  | .rev _, _, _, _, _, h => by cases h
  | .call _ _, _, _, _, _, h => by cases h
  | .callk _ _ _, _, _, _, _, h => by cases h
  | .bi _ _, _, _, _, _, h => by cases h
  | .bii _ _, _, _, _, _, h => by cases h
  | .lvals _, _, _, _, _, h => by cases h
  | .lrng _, _, _, _, _, h => by cases h
  | .tv _, _, _, _, _, h => by cases h
  | .itr _, _, _, _, _, h => by cases h
  | .me _ _ _, _, _, _, _, h => by cases h
  | .pop _ _ _, _, _, _, _, h => by cases h
  | .lc _ _ _ _ _, _, _, _, _, h => by cases h
  | .lc2 _ _ _ _ _ _ _ _ _, _, _, _, _, h => by cases h
  | .dc _ _ _ _ _ _, _, _, _, _, h => by cases h
  | .io _, _, _, _, _, h => by cases h
  | .iot _, _, _, _, _, h => by cases h
  | .rng _, _, _, _, _, h => by cases h
  | .enum _, _, _, _, _, h => by cases h
  | .zip _ _, _, _, _, _, h => by cases h
end
/-! ### argument lists -/
def tea (K : PySem.W.Frag) (C : Ctx) (es : Ex) : TA := fun σ H Q => ∃ L ρ fp R, Gd K σ H ρ fp R ∧ ∃ as ρ', eva C L es ρ = .ok as ρ' ∧ Gote K σ L H fp R ρ' as Q
def PAa (X : Cx) (C : Ctx) (es : Ex) (eas : List Expr) : Prop := PA X eas (tea X.K C es)
def PKa (X : Cx) (C : Ctx) (es : Ex) (kws : List Keyword) : Prop := PK X kws (tea X.K C es)
section
variable {X : Cx} {C : Ctx} {a b c es : Ex} {ea eb ec : Expr} {eas : List Expr} {kws : List Keyword} {pos kpos : Pos} {nm : Option Str} {x : Str}
theorem tea_cons (hio : isIo a = false) {K : PySem.W.Frag} {σ : L2.St} {H : Hp} {Q : List V → Hp → Prop} (h : tea K C (.cons a es) σ H Q) : tCons (tvx K C a) (tea K C es) σ H Q := by
  obtain ⟨L, ρ, fp, R, g, as, ρ', e, q⟩ := h
  rw [eva_cons hio] at e
  obtain ⟨⟨m, d⟩, ρ1, h1, e⟩ := bind_ok e
  obtain ⟨as2, ρ2, h2, e⟩ := bind_ok e
  cases e
  refine ⟨L, ρ, fp, R, g, m, d, ρ1, h1, fun v H1 fp1 R1 f1 g1 v1 o1 n1 => ?_⟩
  refine ⟨lk m ++ L, ρ1, fp1, R1, g1, as2, ρ', h2, fun vs H2 fp2 R2 fs g2 v2 A2 n2 => ?_⟩
  have v2' : Mv L H1 fp1 R1 H2 fp2 R2 := v2.mono fun i hi => List.mem_append_right _ hi
  have o2 := o1.step g1 v2 fun i hi => List.mem_append_left _ hi
  have mv : Mv L H fp R H2 fp2 R2 := v1.trans g1 v2'
  refine q (v :: vs) H2 fp2 R2 (consF f1 fs) g2 mv (HoldA.cons o2.tm o2.arg A2 (fun i hi => List.mem_append_right _ hi) fun x hx j hj => ?_) fun j => ?_
  · rcases n2 j x hj with e | ⟨l, _, p⟩
    · exact o1.tm.tr x hx e
    · exact o1.tm.dj l x hx p
  · cases j with
    | zero => exact n1
    | succ j => exact ((n2 j).mono fun i hi => List.mem_append_right _ hi).back g1 v1
theorem tea_io {i : Nat} {K : PySem.W.Frag} {σ : L2.St} {H : Hp} {Q : List V → Hp → Prop} (h : tea K C (.cons (.io i) es) σ H Q) : tCons (L2.tVar i) (tea K C es) σ H Q := by
  obtain ⟨L, ρ, fp, R, g, as, ρ', e, q⟩ := h
  have e : (if L.contains i || (getc ρ i).isNone then PV.R.bad else (eva C L es ρ).bind fun as ρ1 => match getc ρ1 i with
    | some ⟨.own, d⟩ => .ok (⟨.io, d, some i⟩ :: as) ρ1
    | some ⟨.io, d⟩ => .ok (⟨.io, d, some i⟩ :: as) ρ1
    | _ => .bad) = .ok as ρ' := e
  split at e
  · cases e
  · rename_i hL
    rw [Bool.or_eq_true, not_or] at hL
    obtain ⟨hL, hN⟩ := hL
    obtain ⟨as2, ρ2, h2, e⟩ := bind_ok e
    cases hc : getc ρ i with
    | none => rw [hc] at hN; exact absurd rfl hN
    | some c =>
      obtain ⟨v, hv, _⟩ := g.cell i c hc
      have go : ∀ {k : CK} {d : D}, getc ρ2 i = some ⟨k, d⟩ → (k = .own ∨ k = .io) → PV.R.ok (⟨.io, d, some i⟩ :: as2) ρ2 = .ok as ρ' → tCons (L2.tVar i) (tea K C es) σ H Q := fun {k d} hk hk2 e => by
        cases e
        refine ⟨v, hv, L, ρ, fp, R, g, as2, ρ', h2, fun vs H2 fp2 R2 fs g2 v2 A2 n2 => ?_⟩
        refine q (v :: vs) H2 fp2 R2 (consF [] fs) g2 v2 (HoldA.cons .nil ⟨hv, ⟨k, hk, hk2⟩, fun z => hL (by simpa using z), rfl⟩ A2 (fun _ q => q) fun x hx => absurd hx (by simp)) fun j => ?_
        cases j with
        | zero => exact .nil
        | succ j => exact n2 j
      split at e
      · rename_i d hk; exact go hk (.inl rfl) e
      · rename_i d hk; exact go hk (.inr rfl) e
      · cases e
theorem tea_iot {i : Nat} {K : PySem.W.Frag} {σ : L2.St} {H : Hp} {Q : List V → Hp → Prop} (h : tea K C (.cons (.iot i) es) σ H Q) : tCons (L2.tVar i) (tea K C es) σ H Q := by
  obtain ⟨L, ρ, fp, R, g, as, ρ', e, q⟩ := h
  have e : (if L.contains i || (getc ρ i).isNone then PV.R.bad else (eva C L es ρ).bind fun as ρ1 => match getc ρ1 i with
          | some ⟨.own, d⟩ => if isBox d then .ok (⟨.iot, d, some i⟩ :: as) ρ1 else .bad
          | some ⟨.top, d⟩ => if isBox d then .ok (⟨.iot, d, some i⟩ :: as) ρ1 else .bad
          | some ⟨.iot, d⟩ => if isBox d then .ok (⟨.iot, d, some i⟩ :: as) ρ1 else .bad
          | _ => .bad) = .ok as ρ' := e
  split at e
  · cases e
  · rename_i hL
    rw [Bool.or_eq_true, not_or] at hL
    obtain ⟨hL, hN⟩ := hL
    obtain ⟨as2, ρ2, h2, e⟩ := bind_ok e
    cases hc : getc ρ i with
    | none => rw [hc] at hN; exact absurd rfl hN
    | some c =>
      obtain ⟨v, hv, _⟩ := g.cell i c hc
      have go : ∀ {k : CK} {d : D}, getc ρ2 i = some ⟨k, d⟩ → (k = .own ∨ k = .top ∨ k = .iot) → (if isBox d then PV.R.ok (⟨.iot, d, some i⟩ :: as2) ρ2 else .bad) = .ok as ρ' → tCons (L2.tVar i) (tea K C es) σ H Q := fun {k d} hk hk2 e => by
        split at e
        · rename_i hb
          cases e
          refine ⟨v, hv, L, ρ, fp, R, g, as2, ρ', h2, fun vs H2 fp2 R2 fs g2 v2 A2 n2 => ?_⟩
          refine q (v :: vs) H2 fp2 R2 (consF [] fs) g2 v2 (HoldA.cons .nil ⟨hv, ⟨k, hk, hk2⟩, fun z => hL (by simpa using z), rfl, hb⟩ A2 (fun _ q => q) fun x hx => absurd hx (by simp)) fun j => ?_
          cases j with
          | zero => exact .nil
          | succ j => exact n2 j
        · cases e
      split at e
      · rename_i d hk; exact go hk (.inl rfl) e
      · rename_i d hk; exact go hk (.inr (.inl rfl)) e
      · rename_i d hk; exact go hk (.inr (.inr rfl)) e
      · cases e
theorem tea_nil {K : PySem.W.Frag} {σ : L2.St} {H : Hp} {Q : List V → Hp → Prop} (h : tea K C .nil σ H Q) : Q [] H := by
  obtain ⟨L, ρ, fp, R, g, as, ρ', e, q⟩ := h
  cases e
  exact q [] H fp R _ g .refl .nil fun _ => .nil
theorem paa_nil : PAa X C .nil [] := paI pa_nil fun σ H Q h => tea_nil h
theorem paa_cons (ha : PEv X C a ea) (hr : PAa X C es eas) (hio : isIo a = false := by rfl) (hs : starEach (ea :: eas) X.env = (false, eval ea X.env) :: starEach eas X.env := by rfl) : PAa X C (.cons a es) (ea :: eas) :=
  paI (pa_cons ha hr hs) fun σ H Q h => tea_cons hio h
theorem paa_io {i : Nat} (hr : PAa X C es eas) (hN : X.N[i]? = some x := by rfl) (hv : Vis X.env.scope x := by first | exact Or.inl rfl | exact Or.inr (Or.inl rfl) | exact Or.inr (Or.inr rfl)) (hd : (x == ("__debug__" : Str)) = false := by decide)
    (hcd : (x == ("__classdict__" : Str)) = false := by decide) (hs : starEach (.Name x pos :: eas) X.env = (false, eval (.Name x pos) X.env) :: starEach eas X.env := by rfl) : PAa X C (.cons (.io i) es) (.Name x pos :: eas) :=
  paI (pa_cons (pe_var hN hv hd hcd) hr hs) fun σ H Q h => tea_io h
theorem paa_iot {i : Nat} (hr : PAa X C es eas) (hN : X.N[i]? = some x := by rfl) (hv : Vis X.env.scope x := by first | exact Or.inl rfl | exact Or.inr (Or.inl rfl) | exact Or.inr (Or.inr rfl)) (hd : (x == ("__debug__" : Str)) = false := by decide)
    (hcd : (x == ("__classdict__" : Str)) = false := by decide) (hs : starEach (.Name x pos :: eas) X.env = (false, eval (.Name x pos) X.env) :: starEach eas X.env := by rfl) : PAa X C (.cons (.iot i) es) (.Name x pos :: eas) :=
  paI (pa_cons (pe_var hN hv hd hcd) hr hs) fun σ H Q h => tea_iot h
theorem pkI {es : List Keyword} {t t' : TA} (h : PK X es t) (w : ∀ σ H Q, t' σ H Q → t σ H Q) : PK X es t' := ⟨fun pos pins s σ H Q I q => h.run pos pins s σ H Q I (w σ H Q q)⟩
theorem pka_nil : PKa X C .nil [] := pkI pk_nil fun σ H Q h => tea_nil h
theorem pka_cons (ha : PEv X C a ea) (hr : PKa X C es kws) (hio : isIo a = false := by rfl) : PKa X C (.cons a es) (⟨nm, ea, kpos⟩ :: kws) := pkI (pk_cons ha hr) fun σ H Q h => tea_cons hio h
theorem pka_io {i : Nat} (hr : PKa X C es kws) (hN : X.N[i]? = some x := by rfl) (hv : Vis X.env.scope x := by first | exact Or.inl rfl | exact Or.inr (Or.inl rfl) | exact Or.inr (Or.inr rfl)) (hd : (x == ("__debug__" : Str)) = false := by decide)
    (hcd : (x == ("__classdict__" : Str)) = false := by decide) : PKa X C (.cons (.io i) es) (⟨nm, .Name x pos, kpos⟩ :: kws) := pkI (pk_cons (pe_var hN hv hd hcd) hr) fun σ H Q h => tea_io h
/-- by place, then by name -/
structure PX (X : Cx) (C : Ctx) (n : Nat) (es : Ex) (eas : List Expr) (kws : List Keyword) : Prop where
  ex : ∃ t tk, PA X eas t ∧ PK X kws tk ∧ ∀ σ H (Q : List V → List V → Hp → Prop), tea X.K C es σ H (fun l H2 => ∀ vs zs, l = vs ++ zs → vs.length = n → Q vs zs H2) → t σ H fun vs H1 => tk σ H1 fun zs H2 => Q vs zs H2
theorem tea.mono {K : PySem.W.Frag} {σ : L2.St} {H : Hp} {Q Q' : List V → Hp → Prop} (h : tea K C es σ H Q) (w : ∀ l H, Q l H → Q' l H) : tea K C es σ H Q' := by
  obtain ⟨L, ρ, fp, R, g, as, ρ', e, q⟩ := h
  exact ⟨L, ρ, fp, R, g, as, ρ', e, fun vs H2 fp2 R2 fs g2 v2 A2 n2 => w _ _ (q vs H2 fp2 R2 fs g2 v2 A2 n2)⟩
theorem px_nil (h : PKa X C es kws) : PX X C 0 es [] kws := ⟨_, _, pa_nil, h, fun σ H Q h => tea.mono h fun l H q => q [] l rfl rfl⟩
theorem px_cons {n : Nat} (ha : PEv X C a ea) (hr : PX X C n es eas kws) (hio : isIo a = false := by rfl) (hs : starEach (ea :: eas) X.env = (false, eval ea X.env) :: starEach eas X.env := by rfl) : PX X C (n + 1) (.cons a es) (ea :: eas) kws := by
  obtain ⟨t, tk, h1, h2, h3⟩ := hr.ex
  refine ⟨_, tk, pa_cons ha h1 hs, h2, fun σ H Q h => ?_⟩
  obtain ⟨L, ρ, fp, R, g, m, d, ρ1, e, q⟩ := tea_cons hio h
  refine ⟨L, ρ, fp, R, g, m, d, ρ1, e, fun v H1 fp1 R1 f1 g1 v1 o1 n1 => ?_⟩
  refine h3 σ H1 (fun vs zs H2 => Q (v :: vs) zs H2) ((q v H1 fp1 R1 f1 g1 v1 o1 n1).mono fun l H2 z vs zs e1 e2 => z (v :: vs) zs (by rw [e1]; rfl) (by rw [List.length_cons, e2]))
theorem px_io {n i : Nat} (hr : PX X C n es eas kws) (hN : X.N[i]? = some x := by rfl) (hv : Vis X.env.scope x := by first | exact Or.inl rfl | exact Or.inr (Or.inl rfl) | exact Or.inr (Or.inr rfl)) (hd : (x == ("__debug__" : Str)) = false := by decide)
    (hcd : (x == ("__classdict__" : Str)) = false := by decide) (hs : starEach (.Name x pos :: eas) X.env = (false, eval (.Name x pos) X.env) :: starEach eas X.env := by rfl) : PX X C (n + 1) (.cons (.io i) es) (.Name x pos :: eas) kws := by
  obtain ⟨t, tk, h1, h2, h3⟩ := hr.ex
  refine ⟨_, tk, pa_cons (pe_var hN hv hd hcd) h1 hs, h2, fun σ H Q h => ?_⟩
  obtain ⟨v, hv, q⟩ := tea_io h
  exact ⟨v, hv, h3 σ H (fun vs zs H2 => Q (v :: vs) zs H2) (q.mono fun l H2 z vs zs e1 e2 => z (v :: vs) zs (by rw [e1]; rfl) (by rw [List.length_cons, e2]))⟩
/-! ### calls -/
variable {k fi : Nat} {fa : Addr} {fd : FuncData} {ps ks : List Str} {E : XK} {p : Pos} {perm : List Nat}
theorem sv_call (F : PVX.FnG X.prog X.w X.K X.mg X.base k fa fd ps (spD X.K (C.call fi))) (hr : Room k X.A) (hgu : X.A.guards = some []) (hb : Binds X.K fd ps []) (ha : PAa X C es (ea :: eas)) (hg : Gl X x := by rfl) (hm : X.mg x = some (.ref fa) := by rfl) (hk : PySem.W.keepIn X.K (.ref fa) = true := by rfl)
    (hdb : (x == ("__debug__" : Str)) = false := by decide) (he : starEach (ea :: eas) X.env = (false, eval ea X.env) :: starEach eas X.env := by rfl) (hpl : (backTo pos (starEach eas X.env)).any (·.1) = false := by rfl) : PEv X C (.call fi es) (.Call (.Name x p) (ea :: eas) [] pos) := by
  refine peI (PVX.pe_callG (E := fun _ _ _ => False) F hr hgu hg hm hk hb ha hdb he hpl) fun σ H Q ⟨L, ρ, fp, R, g, m, d, ρ', e, q⟩ => ?_
  obtain ⟨as, ρ1, h1, h2⟩ := bind_ok e
  exact ⟨L, ρ, fp, R, g, as, ρ1, h1, fun vs H1 fp1 R1 fs g1 v1 A1 n1 => call_ok g1 v1 A1 n1 h2 q⟩
theorem sv_call0 (F : PVX.FnG X.prog X.w X.K X.mg X.base k fa fd ps (spD X.K (C.call fi))) (hr : Room k X.A) (hgu : X.A.guards = some []) (hb : Binds X.K fd ps []) (hg : Gl X x := by rfl) (hm : X.mg x = some (.ref fa) := by rfl) (hk : PySem.W.keepIn X.K (.ref fa) = true := by rfl)
    (hdb : (x == ("__debug__" : Str)) = false := by decide) : PEv X C (.call fi .nil) (.Call (.Name x p) [] [] pos) := by
  refine peI (PVX.pe_callG0 (E := fun _ _ _ => False) F hr hgu hg hm hk hb hdb) fun σ H Q ⟨L, ρ, fp, R, g, m, d, ρ', e, q⟩ => ?_
  obtain ⟨as, ρ1, h1, h2⟩ := bind_ok e
  cases h1
  exact call_ok g .refl .nil (fun _ => .nil) h2 q
theorem pick_ok {K : PySem.W.Frag} {σ : L2.St} {L : List Nat} {H0 H : Hp} {ρ ρ' : Env} {fp0 fp fs : Nat → List Addr} {R0 R : Addr → Prop} {as : List Arg} {vs : List V} {m : M} {d : D} {Q : VK} (hp : perm.Nodup ∧ ∀ j ∈ perm, j < as.length) (g : Gd K σ H ρ fp R) (v1 : Mv L H0 fp0 R0 H fp R) (A : HoldA K L σ H ρ fp R as vs fs) (n : ∀ j, New L H0 fp0 (fs j))
    (h : doCall C fi (perm.filterMap fun j => as[j]?) ρ = .ok (m, d) ρ') (q : Got K σ L H0 fp0 R0 ρ' m d Q) : spD K (C.call fi) (perm.filterMap fun j => vs[j]?) H Q E :=
  call_ok g v1 (A.pick hp.1 hp.2) (fun j => by split; exact n _; exact .nil) h q
theorem sv_callk (hp : decide (perm.Nodup ∧ ∀ j ∈ perm, j < exLen es) = true) (F : PVX.FnG X.prog X.w X.K X.mg X.base k fa fd ps (spD X.K (C.call fi))) (hr : Room k X.A) (hgu : X.A.guards = some []) (hb : PVX.KwB X.K fd ps ks (eas.length + 1) perm) (ha : PX X C (eas.length + 1) es (ea :: eas) kws) (hes : exLen es = eas.length + 1 + ks.length)
    (hnk : kws.length = ks.length := by rfl) (hg : Gl X x := by rfl) (hm : X.mg x = some (.ref fa) := by rfl) (hk : PySem.W.keepIn X.K (.ref fa) = true := by rfl)
    (hdb : (x == ("__debug__" : Str)) = false := by decide) (hall : (backToKw pos (keywordEach kws X.env)).all (·.1.isSome) = true := by rfl) (hks : (backToKw pos (keywordEach kws X.env)).filterMap (·.1) = ks := by rfl)
    (he : starEach (ea :: eas) X.env = (false, eval ea X.env) :: starEach eas X.env := by rfl) (hpl : ((backTo pos (starEach (ea :: eas) X.env)).any (·.1) || (backToKw pos (keywordEach kws X.env)).any (·.1.isNone)) = false := by rfl) : PEv X C (.callk fi es perm) (.Call (.Name x p) (ea :: eas) kws pos) := by
  obtain ⟨t, tk, h1, h2, h3⟩ := ha.ex
  refine peI (PVX.pe_callGK (E := fun _ _ _ => False) F hr hgu hg hm hk hb h1 h2 hnk hdb hall hks he hpl) fun σ H Q ⟨L, ρ, fp, R, g, m, d, ρ', e, q⟩ => ?_
  obtain ⟨as, ρ1, e1, e2⟩ := bind_ok e
  have hl := eva_len e1
  refine h3 σ H _ ⟨L, ρ, fp, R, g, as, ρ1, e1, fun l H1 fp1 R1 fs g1 v1 A1 n1 vs zs el hv => ⟨hv, ?_, ?_⟩⟩
  · have := A1.len
    rw [el, List.length_append, hl, hes, hv] at this
    omega
  · rw [← el]
    exact pick_ok (by rw [hl]; exact of_decide_eq_true hp) g1 v1 A1 n1 e2 q
theorem sv_callk0 (hp : decide (perm.Nodup ∧ ∀ j ∈ perm, j < exLen es) = true) (F : PVX.FnG X.prog X.w X.K X.mg X.base k fa fd ps (spD X.K (C.call fi))) (hr : Room k X.A) (hgu : X.A.guards = some []) (hb : PVX.KwB X.K fd ps ks 0 perm) (ha : PKa X C es kws) (hes : exLen es = ks.length)
    (hnk : kws.length = ks.length := by rfl) (hg : Gl X x := by rfl) (hm : X.mg x = some (.ref fa) := by rfl) (hk : PySem.W.keepIn X.K (.ref fa) = true := by rfl)
    (hdb : (x == ("__debug__" : Str)) = false := by decide) (hall : (backToKw pos (keywordEach kws X.env)).all (·.1.isSome) = true := by rfl) (hks : (backToKw pos (keywordEach kws X.env)).filterMap (·.1) = ks := by rfl)
    (hpl : ((backTo pos (starEach [] X.env)).any (·.1) || (backToKw pos (keywordEach kws X.env)).any (·.1.isNone)) = false := by rfl) : PEv X C (.callk fi es perm) (.Call (.Name x p) [] kws pos) := by
  refine peI (PVX.pe_callGK0 (E := fun _ _ _ => False) F hr hgu hg hm hk hb ha hnk hdb hall hks hpl) fun σ H Q ⟨L, ρ, fp, R, g, m, d, ρ', e, q⟩ => ?_
  obtain ⟨as, ρ1, e1, e2⟩ := bind_ok e
  have hl := eva_len e1
  refine ⟨L, ρ, fp, R, g, as, ρ1, e1, fun l H1 fp1 R1 fs g1 v1 A1 n1 => ⟨?_, ?_⟩⟩
  · rw [A1.len, hl, hes]
  · exact pick_ok (by rw [hl]; exact of_decide_eq_true hp) g1 v1 A1 n1 e2 q
end
end PV
end

section
set_option Elab.async false
set_option linter.all false
set_option autoImplicit false
set_option maxRecDepth 100000
namespace PV
open PySem PySem.Spec PyProof.Rows L2
variable [Tbs]
section
variable {K : PySem.W.Frag} {σ σ1 σ' : L2.St} {H H0 H1 H2 H' : Hp} {ρ ρ1 ρ2 ρ' : Env} {fp fp0 fp1 fp2 fp' : Nat → List Addr} {R R0 R1 R2 R' : Addr → Prop} {L L' T T' : List Nat} {f g : List Addr} {m : M} {d : D} {v : V} {Q : VK} {w : Bool} {k : CK} {xs ys ds : List D} {vs : List V} {fl : Fl} {D : Ends}
/-- the other names stand for what they stood for -/
def Keep (T : List Nat) (σ σ' : L2.St) : Prop := ∀ j : Nat, j ∉ T → σ'[j]? = σ[j]?
theorem Keep.refl : Keep T σ σ := fun _ _ => rfl
theorem Keep.trans (a : Keep T σ σ1) (b : Keep T σ1 σ') : Keep T σ σ' := fun j h => (b j h).trans (a j h)
theorem Keep.mono (a : Keep T σ σ') (s : ∀ j ∈ T, j ∈ T') : Keep T' σ σ' := fun j h => a j fun z => h (s j z)
def flE (K : PySem.W.Frag) (L : List Nat) (H : Hp) (fp : Nat → List Addr) (D : Ends) (σ' : L2.St) (H' : Hp) (fp' : Nat → List Addr) (R' : Addr → Prop) : Fl → Prop
  | .nx => D.nx σ' H'
  | .brk => D.bk σ' H'
  | .ct => D.ct σ' H'
  | .ret m d => ∀ v f, Hold K H' fp' R' m d v f → New L H fp f → D.rt v H'
/-- what is wanted behind a statement -/
def Aft (K : PySem.W.Frag) (T L : List Nat) (σ : L2.St) (H : Hp) (fp : Nat → List Addr) (R : Addr → Prop) (D : Ends) (fl : Fl) (ρ' : Env) : Prop :=
  ∀ σ' H' fp' R', Gd K σ' H' ρ' fp' R' → Mv L H fp R H' fp' R' → Keep T σ σ' → flE K L H fp D σ' H' fp' R' fl
theorem Aft.after (a : Aft K T L σ H fp R D fl ρ') (g1 : Gd K σ1 H1 ρ1 fp1 R1) (v1 : Mv L H fp R H1 fp1 R1) (k1 : Keep T σ σ1) : Aft K T L σ1 H1 fp1 R1 D fl ρ' := fun σ' H' fp' R' g' v' k' => by
  have := a σ' H' fp' R' g' (v1.trans g1 v') (k1.trans k')
  cases fl with
  | nx => exact this
  | brk => exact this
  | ct => exact this
  | ret m d => exact fun v f o n => this v f o (n.back g1 v1)
def tsv (K : PySem.W.Frag) (C : Ctx) (s : PV.St) : TS := fun D σ H => ∃ T L ρ fp R, (∀ j ∈ tgs s, j ∈ T) ∧ Gd K σ H ρ fp R ∧ ∃ fl ρ', exec C L s ρ = .ok fl ρ' ∧ Aft K T L σ H fp R D fl ρ'
def PSv (X : Cx) (C : Ctx) (s : PV.St) (st : Stmt) : Prop := PS X st (tsv X.K C s)
def PBv (X : Cx) (C : Ctx) (s : PV.St) (sts : List Stmt) : Prop := PSs X sts (tsv X.K C s)
/-! ### what a name keeps -/
theorem Gd.grow (g : Gd K σ H ρ fp R) (r : ∀ a, R a → R' a) (n : ∀ a, R' a → R a ∨ a ∈ f) (t : Tmp H fp R f) : Gd K σ H ρ fp R' where
  len := g.len
  tb := g.tb
  cell := fun i c e => let ⟨v, h1, h2⟩ := g.cell i c e; ⟨v, h1, h2.stay (.refl _) (fun _ _ => rfl) r fun _ _ => rfl⟩
  non := g.non
  nd := g.nd
  dj := g.dj
  dR := fun i a h z => (n a z).elim (g.dR i a h) fun q => t.dj i a q h
  tr := g.tr
  tR := fun a z => (n a z).elim (g.tR a) (t.tr a)
/-- places go from slots and from f to what is only read -/
structure SubF (f : List Addr) (fp : Nat → List Addr) (R : Addr → Prop) (fp' : Nat → List Addr) (R' : Addr → Prop) : Prop where
  reg : ∀ a, R a → R' a
  nR : ∀ a, R' a → R a ∨ a ∈ f ∨ ∃ j, a ∈ fp j
  sub : ∀ i a, a ∈ fp' i → a ∈ fp i
  lock : ∀ i a, a ∈ fp i → a ∈ fp' i ∨ R' a
theorem Sub.toF (s : Sub fp R fp' R') : SubF f fp R fp' R' := ⟨s.reg, fun a q => (s.nR a q).imp id .inr, s.sub, s.lock⟩
theorem keep_ok (g : Gd K σ H ρ fp R) (o : Hold K H fp R m d v f) (h : keep m d ρ = some (k, ρ')) :
    ∃ fp' R' f', Gd K σ H ρ' fp' R' ∧ SubF f fp R fp' R' ∧ RpK K H R' k d v f' ∧ Tmp H fp' R' f' ∧ (∀ a ∈ f', a ∈ f) ∧ (k = .own ∨ k = .top ∨ k = .shr) := by
  obtain ⟨f1, o1, s1⟩ := o.nrm
  have hn : ∀ {m'}, PV.nrm m d = m' → m' ≠ .own → im d = false := fun {m'} e n => by
    unfold PV.nrm at e
    cases hi : im d with
    | false => rfl
    | true => rw [hi] at e; exact absurd e.symm n
  unfold keep at h
  generalize hm : PV.nrm m d = m' at h o1
  cases m' with
  | own => cases h; exact ⟨fp, R, f1, g, Sub.refl.toF, o1.rp, o1.tm, s1, .inl rfl⟩
  | top =>
    cases h
    have ni := hn hm (by simp)
    have mk : ∀ {p : Addr}, p ∈ f1 → (∀ x, (R x ∨ (x ∈ f1 ∧ x ≠ p)) → (fun x => R x ∨ (x ∈ f1 ∧ x ≠ p)) x) → Gd K σ H ρ fp (fun x => R x ∨ (x ∈ f1 ∧ x ≠ p)) ∧ SubF f fp R fp (fun x => R x ∨ (x ∈ f1 ∧ x ≠ p)) ∧ Tmp H fp (fun x => R x ∨ (x ∈ f1 ∧ x ≠ p)) [p] := fun {p} hp _ =>
      ⟨g.grow (f := f1) (fun a => .inl) (fun a q => q.imp id And.left) o1.tm, ⟨fun a => .inl, fun a q => q.imp id fun z => .inl (s1 a z.1), fun _ _ h => h, fun _ _ h => .inl h⟩,
        ⟨by simp, fun i a ha => by rw [List.mem_singleton.mp ha]; exact o1.tm.dj i p hp, fun a ha => by rw [List.mem_singleton.mp ha]; exact fun z => z.elim (o1.tm.dR p hp) fun z => z.2 rfl, fun a ha => by rw [List.mem_singleton.mp ha]; exact o1.tm.tr p hp⟩⟩
    have rest : RpU K H R d v f1 → im d = false → (∀ ds, d ≠ .list ds) → (∀ kvs, d ≠ .dict kvs) → ∃ fp' R' f', Gd K σ H ρ fp' R' ∧ SubF f fp R fp' R' ∧ RpK K H R' .top d v f' ∧ Tmp H fp' R' f' ∧ (∀ a ∈ f', a ∈ f) ∧ (CK.top = .own ∨ CK.top = .top ∨ CK.top = .shr) := fun q _ n1 n2 => by
      refine ⟨fp, fun x => R x ∨ x ∈ f1, [], g.grow (f := f1) (fun a => .inl) (fun a q => q) o1.tm, ⟨fun a => .inl, fun a q => q.imp id fun z => .inl (s1 a z), fun _ _ h => h, fun _ _ h => .inl h⟩, ?_, .nil, fun _ q => absurd q (by simp), .inr (.inl rfl)⟩
      cases d with
      | list ds => exact absurd rfl (n1 ds)
      | dict kvs => exact absurd rfl (n2 kvs)
      | none => exact ⟨q, rfl⟩
      | bool b => exact ⟨q, rfl⟩
      | int b => exact ⟨q, rfl⟩
      | str b => exact ⟨q, rfl⟩
      | tuple b => exact ⟨q, rfl⟩
    have q : RpU K H R d v f1 := o1.rp
    cases d with
    | list ds =>
      obtain ⟨p, us, e, hl, hp, hs⟩ := q
      obtain ⟨h1, h2, h3⟩ := mk hp fun _ q => q
      exact ⟨fp, _, [p], h1, h2, ⟨p, us, e, hl, rfl, hs⟩, h3, fun a ha => by rw [List.mem_singleton.mp ha]; exact s1 p hp, .inr (.inl rfl)⟩
    | dict kvs =>
      obtain ⟨p, u, us, e, hl, hd, hp, hs⟩ := q
      obtain ⟨h1, h2, h3⟩ := mk hp fun _ q => q
      exact ⟨fp, _, [p], h1, h2, ⟨p, u, us, e, hl, hd, rfl, hs⟩, h3, fun a ha => by rw [List.mem_singleton.mp ha]; exact s1 p hp, .inr (.inl rfl)⟩
    | none => exact rest q ni (fun _ => by simp) fun _ => by simp
    | bool b => exact rest q ni (fun _ => by simp) fun _ => by simp
    | int b => exact rest q ni (fun _ => by simp) fun _ => by simp
    | str b => exact rest q ni (fun _ => by simp) fun _ => by simp
    | tuple b => exact rest q ni (fun _ => by simp) fun _ => by simp
  | shr =>
    cases h
    exact ⟨fp, fun x => R x ∨ x ∈ f1, [], g.grow (f := f1) (fun a => .inl) (fun a q => q) o1.tm, ⟨fun a => .inl, fun a q => q.imp id fun z => .inl (s1 a z), fun _ _ h => h, fun _ _ h => .inl h⟩, ⟨o1.rp, rfl⟩, .nil, fun _ q => absurd q (by simp), .inr (.inr rfl)⟩
  | bor i =>
    obtain ⟨r, hr, e⟩ := Option.map_eq_some_iff.mp h
    cases e
    obtain ⟨fp', R', g', s, t⟩ := frz_ok g hr
    exact ⟨fp', R', [], g', s.toF, ⟨RpS.stay (.refl _) (fun _ _ => rfl) (fun a q => q.elim (s.reg a) (t a)) o1.rp.1, rfl⟩, .nil, fun _ q => absurd q (by simp), .inr (.inr rfl)⟩
  | bort i =>
    obtain ⟨r, hr, e⟩ := Option.map_eq_some_iff.mp h
    cases e
    obtain ⟨fp', R', g', s, t⟩ := frz_ok g hr
    exact ⟨fp', R', [], g', s.toF, ⟨RpS.stay (.refl _) (fun _ _ => rfl) (fun a q => q.elim (s.reg a) (t a)) (RpW.shr (fun _ => .inl) o1.rp.1), rfl⟩, .nil, fun _ q => absurd q (by simp), .inr (.inr rfl)⟩
/-- from where the value came -/
theorem SubF.mv (s : SubF f fp1 R1 fp' R') (g1 : Gd K σ H1 ρ1 fp1 R1) (v1 : Mv L H fp R H1 fp1 R1) (n : New L H fp f) : Mv L H fp R H1 fp' R' where
  keep := v1.keep
  tup := v1.tup
  lock := fun i hi a ha => (v1.lock i hi a ha).elim (s.lock i a) fun q => .inr (s.reg a q)
  reg := fun a q => s.reg a (v1.reg a q)
  nf := fun i a h => v1.nf i a (s.sub i a h)
  nR := fun a h => by
    rcases s.nR a h with q | q | ⟨j, q⟩
    · exact v1.nR a q
    · exact .inr ((n a q).imp id fun ⟨j, _, z⟩ => ⟨j, z⟩)
    · exact .inr (v1.nf j a q)
  som := v1.som
  sn := v1.sn
/-! ### a name is given a value -/
def fpS (fp : Nat → List Addr) (i : Nat) (f : List Addr) (j : Nat) : List Addr := if j = i then f else fp j
theorem Gd.set {i : Nat} (g : Gd K σ H ρ fp R) (hi : i < ρ.length) (rp : RpK K H R k d v f) (t : Tmp H fp R f) : Gd K (σ.set i (some v)) H (ρ.set i (some ⟨k, d⟩)) (fpS fp i f) R where
  len := by simpa using g.len
  tb := g.tb
  cell := fun j c h => by
    rw [getc_set hi] at h
    unfold fpS
    by_cases e : j = i
    · subst e
      rw [if_pos rfl] at h ⊢
      cases h
      exact ⟨v, by rw [List.getElem?_set_self (by rw [← g.len]; exact hi)], rp⟩
    · rw [if_neg e] at h ⊢
      rw [List.getElem?_set_ne (Ne.symm e)]
      exact g.cell j c h
  non := fun j h => by
    rw [getc_set hi] at h
    unfold fpS
    by_cases e : j = i
    · rw [if_pos e] at h; cases h
    · rw [if_neg e] at h ⊢; exact g.non j h
  nd := fun j => by
    unfold fpS; split
    · exact t.nd
    · exact g.nd j
  dj := fun j l a h1 h2 => by
    unfold fpS at h1 h2
    split at h1 <;> split at h2
    · rename_i e1 e2; rw [e1, e2]
    · exact absurd h2 (t.dj l a h1)
    · exact absurd h1 (t.dj j a h2)
    · exact g.dj j l a h1 h2
  dR := fun j a h1 => by
    unfold fpS at h1
    split at h1
    · exact t.dR a h1
    · exact g.dR j a h1
  tr := fun j a h1 => by
    unfold fpS at h1
    split at h1
    · exact t.tr a h1
    · exact g.tr j a h1
  tR := g.tR
theorem setv_ok {i : Nat} (h : setv L ρ i k d = some ρ') : i ∉ L ∧ i < ρ.length ∧ ρ' = ρ.set i (some ⟨k, d⟩) := by
  unfold setv at h
  split at h
  · cases h
  · split at h
    · cases h
    · rename_i hL
      have hL : i ∉ L := by simpa using hL
      split at h
      · cases h
      · cases h
      · split at h
        · rename_i hl; cases h; exact ⟨hL, hl, rfl⟩
        · cases h
/-- the places behind an assignment of what has f -/
structure SetF (L : List Nat) (f : List Addr) (fp fp' : Nat → List Addr) : Prop where
  sub : ∀ i a, a ∈ fp' i → a ∈ fp i ∨ a ∈ f
  lock : ∀ i ∈ L, fp' i = fp i
theorem SetF.trans {fp2 : Nat → List Addr} (a : SetF L f fp fp') (b : SetF L g fp' fp2) : SetF L (f ++ g) fp fp2 :=
  ⟨fun i x h => (b.sub i x h).elim (fun q => (a.sub i x q).imp id (List.mem_append_left _)) fun q => .inr (List.mem_append_right _ q), fun i hi => (b.lock i hi).trans (a.lock i hi)⟩
theorem SetF.mv (s : SetF L f fp1 fp') (v1 : Mv L H fp R H1 fp1 R1) (n : New L H fp f) : Mv L H fp R H1 fp' R1 where
  keep := v1.keep
  tup := v1.tup
  lock := fun i hi a ha => by rw [s.lock i hi]; exact v1.lock i hi a ha
  reg := v1.reg
  nf := fun i a h => (s.sub i a h).elim (v1.nf i a) fun q => (n a q).imp id fun ⟨j, _, z⟩ => ⟨j, z⟩
  nR := v1.nR
  som := v1.som
  sn := v1.sn
def RpKs (K : PySem.W.Frag) (H : Hp) (R : Addr → Prop) (k : CK) (ds : List PyData) (vs : List V) (f : List Addr) : Prop :=
  match k with
  | .own => RpOs K H ds vs f
  | _ => RpSs K H R ds vs ∧ f = []
def OkK (k : CK) : Prop := k = .own ∨ k = .top ∨ k = .shr
def tgv (K : PySem.W.Frag) (tg : Tg) : TG := fun v σ H Q => ∃ T L ρ fp R k d f ρ', (∀ j ∈ tgT tg, j ∈ T) ∧ Gd K σ H ρ fp R ∧ OkK k ∧ RpK K H R k d v f ∧ Tmp H fp R f ∧ asgT L tg k d ρ = some ρ' ∧
  ∀ σ' fp', Gd K σ' H ρ' fp' R → SetF L f fp fp' → Keep T σ σ' → Q σ' H
def tgvs (K : PySem.W.Frag) (tg : Tg) : TGs := fun vs σ H Q => ∃ T L ρ fp R k ds f ρ', (∀ j ∈ tgT tg, j ∈ T) ∧ Gd K σ H ρ fp R ∧ (k = .own ∨ k = .shr) ∧ RpKs K H R k ds vs f ∧ Tmp H fp R f ∧ asgTs L tg k ds ρ = some ρ' ∧
  ∀ σ' fp', Gd K σ' H ρ' fp' R → SetF L f fp fp' → Keep T σ σ' → Q σ' H
def PGv (X : Cx) (tg : Tg) (e : Expr) : Prop := PG X e (tgv X.K tg)
def PGvs (X : Cx) (tg : Tg) (es : List Expr) : Prop := PGs X es (tgvs X.K tg)
theorem pgI {X : Cx} {e : Expr} {t t' : TG} (h : PG X e t) (w : ∀ v σ H Q, t' v σ H Q → t v σ H Q) : PG X e t' := ⟨fun pins s σ H v u Q I r q => h.run pins s σ H v u Q I r (w v σ H Q q)⟩
theorem pgsI {X : Cx} {e : List Expr} {t t' : TGs} (h : PGs X e t) (w : ∀ v σ H Q, t' v σ H Q → t v σ H Q) : PGs X e t' := ⟨fun pins s σ H v u Q I r q => h.run pins s σ H v u Q I r (w v σ H Q q)⟩
theorem set_keep {i : Nat} (hi : i ∈ T) : Keep T σ (σ.set i (some v)) := fun j hj => List.getElem?_set_ne fun e => hj (by rw [← e]; exact hi)
theorem nm_ok {i : Nat} {Q : L2.St → Hp → Prop} (h : tgv K (.nm i) v σ H Q) : Q (σ.set i (some v)) H := by
  obtain ⟨T, L, ρ, fp, R, k, d, f, ρ', hT, g, hk, rp, t, ha, q⟩ := h
  obtain ⟨hL, hi, rfl⟩ := setv_ok ha
  refine q _ (fpS fp i f) (g.set hi rp t) ⟨fun j a h => ?_, fun j hj => ?_⟩ (set_keep (hT i List.mem_cons_self))
  · unfold fpS at h; split at h
    · exact .inr h
    · exact .inl h
  · unfold fpS; rw [if_neg fun e => hL (by rw [← e]; exact hj)]
end
section
variable {X : Cx} {C : Ctx} {a b c es : Ex} {s t : PV.St} {st : Stmt} {sts sts2 : List Stmt} {ea eb ec e : Expr} {eas : List Expr} {kws : List Keyword} {pos kpos : Pos} {nm : Option Str} {x : Str} {tg : Tg}
theorem gv_nm {i : Nat} (hN : X.N.Nodup) (hi : X.N[i]? = some x := by rfl) (hx : Loc X.env.scope x := by first | exact Or.inl rfl | exact Or.inr rfl) (hf : X.fn x = true ∨ X.env.scope.names.lookup x = some .local := by first | exact .inl rfl | exact .inr rfl) : PGv X (.nm i) (.Name x pos) :=
  pgI (pg_name hN hi hx hf) fun v σ H Q h => nm_ok h
theorem gv_nil : PGvs X .nil [] := pgsI pgs_nil fun vs σ H Q h => by
  obtain ⟨T, L, ρ, fp, R, k, ds, f, ρ', hT, g, hk, rp, t, ha, q⟩ := h
  cases ds with
  | cons d ds => cases ha
  | nil =>
    cases ha
    refine ⟨?_, q σ fp g ⟨fun _ _ h => .inl h, fun _ _ => rfl⟩ .refl⟩
    cases k with
    | own => exact rp.1
    | _ => exact rp.1
theorem gv_cons {tg2 : Tg} (h1 : PGv X tg e) (h2 : PGvs X tg2 eas) (hs : (assignEach (e :: eas) X.env).map (·.2) = assign e X.env :: (assignEach eas X.env).map (·.2) := by rfl) : PGvs X (.cons tg tg2) (e :: eas) :=
  pgsI (pgs_cons h1 h2 hs) fun vs σ H Q h => by
    obtain ⟨T, L, ρ, fp, R, k, ds, f, ρ', hT, g, hk, rp, t, ha, q⟩ := h
    cases ds with
    | nil => cases ha
    | cons d ds =>
      obtain ⟨ρ1, ha1, ha2⟩ := Option.bind_eq_some_iff.mp ha
      have sp : ∃ v r f1 f2, vs = v :: r ∧ f = f1 ++ f2 ∧ RpK X.K H R k d v f1 ∧ RpKs X.K H R k ds r f2 := by
        rcases hk with rfl | rfl
        · have rp : RpOs X.K H (d :: ds) vs f := rp
          simp only [RpOs] at rp
          obtain ⟨v, r, f1, f2, e1, e2, r1, r2⟩ := rp
          exact ⟨v, r, f1, f2, e1, e2, r1, r2⟩
        · have rp : RpSs X.K H R (d :: ds) vs ∧ f = [] := rp
          simp only [RpSs] at rp
          obtain ⟨⟨v, r, e1, r1, r2⟩, e2⟩ := rp
          exact ⟨v, r, [], [], e1, e2, ⟨r1, rfl⟩, ⟨r2, rfl⟩⟩
      obtain ⟨v, r, f1, f2, rfl, rfl, r1, r2⟩ := sp
      have nd := List.nodup_append.mp t.nd
      have t1 : Tmp H fp R f1 := t.sub (fun a h => List.mem_append_left _ h) nd.1
      have t2 : Tmp H fp R f2 := t.sub (fun a h => List.mem_append_right _ h) nd.2.1
      refine ⟨v, r, rfl, T, L, ρ, fp, R, k, d, f1, ρ1, fun j hj => hT j (List.mem_append_left _ hj), g, hk.imp id .inr, r1, t1, ha1, fun σ1 fp1 g1 s1 k1 => ?_⟩
      refine ⟨T, L, ρ1, fp1, R, k, ds, f2, ρ', fun j hj => hT j (List.mem_append_right _ hj), g1, hk, r2, ⟨t2.nd, fun i a ha hz => ?_, t2.dR, t2.tr⟩, ha2, fun σ2 fp2 g2 s2 k2 => q σ2 fp2 g2 (s1.trans s2) (k1.trans k2)⟩
      rcases s1.sub i a hz with z | z
      · exact t2.dj i a ha z
      · exact nd.2.2 a z a ha rfl
def tgLen : Tg → Nat
  | .cons _ b => tgLen b + 1
  | _ => 0
theorem asgTs_len : ∀ {tg : Tg} {L : List Nat} {k : CK} {ds : List D} {ρ ρ' : Env}, asgTs L tg k ds ρ = some ρ' → ds.length = tgLen tg
  | .nil, L, k, [], ρ, ρ', h => rfl
  | .nil, L, k, d :: ds, ρ, ρ', h => by cases h
  | .cons t ts, L, k, [], ρ, ρ', h => by cases h
  | .cons t ts, L, k, d :: ds, ρ, ρ', h => by
    obtain ⟨ρ1, h1, h2⟩ := Option.bind_eq_some_iff.mp h
    simp only [List.length_cons, tgLen, asgTs_len h2]
  | .nm _, L, k, ds, ρ, ρ', h => by cases ds <;> cases h
  | .tp _, L, k, ds, ρ, ρ', h => by cases ds <;> cases h
theorem gv_tp {k : Nat} (hc : X.calm = true) (h : PGvs X tg eas) (hn : (assignEach eas X.env).length = tgLen tg := by rfl) (hst : (assignEach eas X.env).findIdx? (·.1) = none := by rfl) : PGv X (.tp tg) (.Tuple eas k pos) :=
  pgI (pg_tup hc h hn hst) fun v σ H Q h => by
    obtain ⟨T, L, ρ, fp, R, k, d, f, ρ', hT, g, hk, rp, t, ha, q⟩ := h
    cases d with
    | tuple xs =>
      have ha : asgTs L tg (if k = .top then .shr else k) xs ρ = some ρ' := ha
      have sp : ∃ a vs, v = .ref a ∧ TuA X.K H a vs ∧ RpKs X.K H R (if k = .top then .shr else k) xs vs f ∧ ((if k = CK.top then CK.shr else k) = .own ∨ (if k = CK.top then CK.shr else k) = .shr) := by
        rcases hk with rfl | rfl | rfl
        · have rp : RpO X.K H (.tuple xs) v f := rp
          simp only [RpO] at rp
          obtain ⟨a, vs, e, hl, hs⟩ := rp
          exact ⟨a, vs, e, hl, hs, .inl rfl⟩
        · have rp : RpS X.K H R (.tuple xs) v ∧ f = [] := rp
          simp only [RpS] at rp
          obtain ⟨⟨a, vs, e, hl, hs⟩, e2⟩ := rp
          exact ⟨a, vs, e, hl, ⟨hs, e2⟩, .inr rfl⟩
        · have rp : RpS X.K H R (.tuple xs) v ∧ f = [] := rp
          simp only [RpS] at rp
          obtain ⟨⟨a, vs, e, hl, hs⟩, e2⟩ := rp
          exact ⟨a, vs, e, hl, ⟨hs, e2⟩, .inr rfl⟩
      obtain ⟨a, vs, e, hl, rps, hk2⟩ := sp
      refine ⟨a, vs, e, hl.sq, ?_, T, L, ρ, fp, R, _, xs, f, ρ', hT, g, hk2, rps, t, ha, q⟩
      rw [← asgTs_len ha]
      rcases hk2 with hk2 | hk2 <;> rw [hk2] at rps
      · exact (RpOs.length rps).symm
      · exact (RpSs.length rps.1).symm
    | _ => cases ha
/-! ### statements -/
theorem bv_nil : PBv X C .nil [] := ⟨fun pins s σ H D I h => pss_nil.run pins s σ H D I (by
  obtain ⟨T, L, ρ, fp, R, hT, g, fl, ρ', e, q⟩ := h
  cases e
  exact q σ H fp R g .refl .refl)⟩
theorem bv_cons (h1 : PSv X C s st) (h2 : PBv X C t sts) : PBv X C (.cons s t) (st :: sts) := ⟨fun pins s0 σ H D I h => (pss_cons h1 h2).run pins s0 σ H D I (by
  obtain ⟨T, L, ρ, fp, R, hT, g, fl, ρ', e, q⟩ := h
  obtain ⟨f1, ρ1, e1, e2⟩ := bind_ok e
  refine ⟨T, L, ρ, fp, R, fun j hj => hT j (List.mem_append_left _ hj), g, f1, ρ1, e1, fun σ1 H1 fp1 R1 g1 v1 k1 => ?_⟩
  cases f1 with
  | nx => exact ⟨T, L, ρ1, fp1, R1, fun j hj => hT j (List.mem_append_right _ hj), g1, fl, ρ', e2, q.after g1 v1 k1⟩
  | brk => cases e2; exact q σ1 H1 fp1 R1 g1 v1 k1
  | ct => cases e2; exact q σ1 H1 fp1 R1 g1 v1 k1
  | ret m d => cases e2; exact q σ1 H1 fp1 R1 g1 v1 k1)⟩
theorem sv_pass : PSv X C .pass (.Pass pos) := psI ps_pass fun D σ H ⟨T, L, ρ, fp, R, hT, g, fl, ρ', e, q⟩ => by cases e; exact q σ H fp R g .refl .refl
theorem sv_brk : PSv X C .brk (.Break pos) := psI ps_break fun D σ H ⟨T, L, ρ, fp, R, hT, g, fl, ρ', e, q⟩ => by cases e; exact q σ H fp R g .refl .refl
theorem sv_cnt : PSv X C .cnt (.Continue pos) := psI ps_continue fun D σ H ⟨T, L, ρ, fp, R, hT, g, fl, ρ', e, q⟩ => by cases e; exact q σ H fp R g .refl .refl
theorem sv_never : PSv X C .never st := psI ps_never fun D σ H ⟨T, L, ρ, fp, R, hT, g, fl, ρ', e, q⟩ => by cases e
theorem sv_retn : PSv X C .retn (.Return none pos) := psI ps_retN fun D σ H ⟨T, L, ρ, fp, R, hT, g, fl, ρ', e, q⟩ => by
  cases e
  exact q σ H fp R g .refl .refl .non [] .ofN .nil
theorem sv_ret (ha : PEv X C a ea) : PSv X C (.ret a) (.Return (some ea) pos) := psI (ps_ret ha) fun D σ H ⟨T, L, ρ, fp, R, hT, g, fl, ρ', e, q⟩ => by
  obtain ⟨⟨m, d⟩, ρ1, e1, e2⟩ := bind_ok e
  cases e2
  exact ⟨L, ρ, fp, R, g, m, d, ρ', e1, fun v H1 fp1 R1 f1 g1 v1 o1 n1 => q σ H1 fp1 R1 g1 v1 .refl v f1 o1 n1⟩
theorem sv_exp (ha : PEv X C a ea) (hs : swapsWith ea none pos.line X.env = pure false := by rfl) : PSv X C (.exp a) (.Expr ea pos) := psI (ps_expr ha hs) fun D σ H ⟨T, L, ρ, fp, R, hT, g, fl, ρ', e, q⟩ => by
  obtain ⟨⟨m, d⟩, ρ1, e1, e2⟩ := bind_ok e
  cases e2
  exact ⟨L, ρ, fp, R, g, m, d, ρ', e1, fun v H1 fp1 R1 f1 g1 v1 o1 n1 => q σ H1 fp1 R1 g1 v1 .refl⟩
theorem sv_if (hc : PTv X C c ec) (ha : PBv X C s sts) (hb : PBv X C t sts2) : PSv X C (.ite c s t) (.If ec sts sts2 pos) := psI (ps_if hc ha hb) fun D σ H ⟨T, L, ρ, fp, R, hT, g, fl, ρ', e, q⟩ => by
  obtain ⟨b, ρ1, e1, e2⟩ := bind_ok e
  refine ⟨L, ρ, fp, R, g, b, ρ1, e1, fun H1 fp1 R1 g1 v1 => ?_⟩
  cases b with
  | true => exact ⟨T, L, ρ1, fp1, R1, fun j hj => hT j (List.mem_append_left _ hj), g1, fl, ρ', e2, q.after g1 v1 .refl⟩
  | false => exact ⟨T, L, ρ1, fp1, R1, fun j hj => hT j (List.mem_append_right _ hj), g1, fl, ρ', e2, q.after g1 v1 .refl⟩
theorem sv_while (hp : PassesOwn (model X.prog X.w) X.A X.env X.xe) (hc : PTv X C c ec) (hb : PBv X C s sts) : PSv X C (.whl c s) (.While ec sts [] pos) := psI (ps_while hp hc hb) fun D σ H ⟨T, L, ρ, fp, R, hT, g, fl, ρ', e, q⟩ => by
  refine ⟨fun m σ H => ∃ ρ fp R, Gd X.K σ H ρ fp R ∧ loopW (fun r => evt C L c r) (fun r => exec C L s r) m ρ = .ok fl ρ' ∧ Aft X.K T L σ H fp R D fl ρ', ⟨C.w, ρ, fp, R, g, e, q⟩, ?_⟩
  rintro m σ H ⟨ρ, fp, R, g, e, q⟩
  cases m with
  | zero => cases e
  | succ n =>
    obtain ⟨b, ρ1, e1, e2⟩ := bind_ok e
    refine ⟨L, ρ, fp, R, g, b, ρ1, e1, fun H1 fp1 R1 g1 v1 => ?_⟩
    cases b with
    | false => cases e2; exact q σ H1 fp1 R1 g1 v1 .refl
    | true =>
      obtain ⟨f2, ρ2, e2, e3⟩ := bind_ok e2
      have q1 := q.after g1 v1 .refl
      refine ⟨fun σ' H' => _, fun σ' H' h => ⟨n, Nat.lt_succ_self n, h⟩, T, L, ρ1, fp1, R1, hT, g1, f2, ρ2, e2, fun σ2 H2 fp2 R2 g2 v2 k2 => ?_⟩
      cases f2 with
      | nx => exact ⟨ρ2, fp2, R2, g2, e3, q1.after g2 v2 k2⟩
      | ct => exact ⟨ρ2, fp2, R2, g2, e3, q1.after g2 v2 k2⟩
      | brk => cases e3; exact q1 σ2 H2 fp2 R2 g2 v2 k2
      | ret m d => cases e3; exact q1 σ2 H2 fp2 R2 g2 v2 k2
theorem asg_ok {K : PySem.W.Frag} {D : Ends} {σ : L2.St} {H : Hp} {a : Ex} {tg : Tg} (h : tsv K C (.asg tg a) D σ H) : tvx K C a σ H fun v H1 => tgv K tg v σ H1 D.nx := by
  obtain ⟨T, L, ρ, fp, R, hT, g, fl, ρ', e, q⟩ := h
  obtain ⟨⟨m, d⟩, ρ1, e1, e2⟩ := bind_ok e
  refine ⟨L, ρ, fp, R, g, m, d, ρ1, e1, fun v H1 fp1 R1 f1 g1 v1 o1 n1 => ?_⟩
  dsimp only at e2
  cases hk : keep m d ρ1 with
  | none => rw [hk] at e2; cases e2
  | some p =>
    obtain ⟨k, ρ2⟩ := p
    rw [hk] at e2
    obtain ⟨ρ3, h3, e3⟩ := Option.map_eq_some_iff.mp (of_ok e2)
    cases e3
    obtain ⟨fp2, R2, f2, g2, s2, rp, t2, sf, ok⟩ := keep_ok g1 o1 hk
    refine ⟨T, L, ρ2, fp2, R2, k, d, f2, ρ', hT, g2, ok, rp, t2, h3, fun σ' fp' g' s' k' => ?_⟩
    exact q σ' H1 fp' R2 g' (s'.mv (s2.mv g1 v1 n1) (n1.sub sf)) k'
theorem sv_set {i : Nat} {pos' : Pos} (hN : X.N.Nodup) (ha : PEv X C a ea) (hi : X.N[i]? = some x := by rfl) (hx : Loc X.env.scope x := by first | exact Or.inl rfl | exact Or.inr rfl) (hs : swapsWith ea (some (.Name x pos')) pos.line X.env = pure false := by rfl)
    (hf : X.fn x = true ∨ X.env.scope.names.lookup x = some .local := by first | exact .inl rfl | exact .inr rfl) : PSv X C (.asg (.nm i) a) (.Assign [.Name x pos'] ea pos) := psI (ps_set hN hi hx ha hs hf) fun D σ H h => by
  obtain ⟨L, ρ, fp, R, g, m, d, ρ1, e, q⟩ := asg_ok h
  exact ⟨L, ρ, fp, R, g, m, d, ρ1, e, fun v H1 fp1 R1 f1 g1 v1 o1 n1 => nm_ok (q v H1 fp1 R1 f1 g1 v1 o1 n1)⟩
theorem sv_asg (ha : PEv X C a ea) (hg : PGv X tg e) (hs : swapsWithSole [e] ea pos.line X.env = pure false := by rfl) (hw : swappedStores [e] ea X.env = pure none := by rfl)
    (h1 : (assignEach [e] X.env).map (·.2) = [assign e X.env] := by rfl) : PSv X C (.asg tg a) (.Assign [e] ea pos) := psI (ps_asg ha hg hs hw h1) fun D σ H h => asg_ok h
/-- a, b = x, y -/
theorem sv_par {i j : Nat} {x y : Str} {px py pt : Pos} {kt k2 pt2} (hc : X.calm = true) (hN : X.N.Nodup) (ha : PAd X C es [ea, eb]) (hi : X.N[i]? = some x := by rfl) (hj : X.N[j]? = some y := by rfl) (hij : i ≠ j := by decide)
    (hx : X.env.scope.names.lookup x = some .local := by rfl) (hy : X.env.scope.names.lookup y = some .local := by rfl)
    (hw : swappedStores [.Tuple [.Name x px, .Name y py] kt pt] (.Tuple [ea, eb] k2 pt2) X.env = pure (some [x, y]) := by rfl)
    (hs : swapsWithSole [.Tuple [.Name x px, .Name y py] kt pt] (.Tuple [ea, eb] k2 pt2) pos.line X.env = pure false := by rfl) :
    PSv X C (.asg (.tp (.cons (.nm i) (.cons (.nm j) .nil))) (.tup es)) (.Assign [.Tuple [.Name x px, .Name y py] kt pt] (.Tuple [ea, eb] k2 pt2) pos) := psI (ps_par hc hN hi hj hij hx hy ha hw hs) fun D σ H ⟨T, L, ρ, fp, R, hT, g, fl, ρ', e, q⟩ => by
  obtain ⟨⟨m, d⟩, ρ1, e1, e2⟩ := bind_ok e
  obtain ⟨⟨w, ds⟩, ρ2, e3, e4⟩ := bind_ok e1
  refine ⟨L, ρ, fp, R, g, w, ds, ρ2, e3, fun vs H1 fp1 R1 f1 g1 v1 l1 n1 => ?_⟩
  dsimp only at e4 e2
  split at e4
  · cases e4
    -- the tuple itself is nowhere
    have key : ∀ {k : CK} {f0 : List Addr} {ρ' : Env}, Aft X.K T L σ H fp R D .nx ρ' → (k = .own ∨ k = .shr) → (∃ R2, RpKs X.K H1 R2 k ds vs f0 ∧ Tmp H1 fp1 R2 f0 ∧ (∀ a ∈ f0, a ∈ f1) ∧ (∀ a, R1 a → R2 a) ∧ (∀ a, R2 a → R1 a ∨ a ∈ f1)) → asgTs L (.cons (.nm i) (.cons (.nm j) .nil)) k ds ρ1 = some ρ' → ∃ v w, vs = [v, w] ∧ D.nx ((σ.set i (some v)).set j (some w)) H1 := by
      intro k f0 ρ' q hk ⟨R2, rp, t2, sf, r1, r2⟩ ha
      have hl := asgTs_len ha
      have hl2 : ds.length = vs.length := l1.len
      obtain ⟨v, w, rfl⟩ : ∃ v w, vs = [v, w] := by
        rw [hl] at hl2
        match vs, hl2 with
        | [v, w], _ => exact ⟨v, w, rfl⟩
      refine ⟨v, w, rfl, ?_⟩
      have g2 : Gd X.K σ H1 ρ1 fp1 R2 := g1.grow (f := f1) r1 r2 l1.1
      have mv : Mv L H fp R H1 fp1 R2 := (SubF.mv (f := f1) ⟨r1, fun a h => (r2 a h).imp id .inl, fun _ _ h => h, fun _ _ h => .inl h⟩ g1 v1 n1)
      have nn : New L H fp f0 := n1.sub sf
      have goal : tgvs X.K (.cons (.nm i) (.cons (.nm j) .nil)) [v, w] σ H1 D.nx := ⟨T, L, ρ1, fp1, R2, k, ds, _, ρ', hT, g2, hk, rp, t2, ha, fun σ' fp' g' s' k' => q σ' H1 fp' R2 g' (s'.mv mv nn) k'⟩
      -- the two stores
      obtain ⟨T, L, ρ, fp, R, k, ds, f, ρ', hT, g, hk, rp, t, ha, q⟩ := goal
      match ds, ha, rp, asgTs_len ha with
      | [d1, d2], ha, rp, _ =>
        obtain ⟨ρa, ha1, ha2⟩ := Option.bind_eq_some_iff.mp ha
        obtain ⟨ρb, ha2, ha3⟩ := Option.bind_eq_some_iff.mp ha2
        cases ha3
        have sp : ∃ f1 f2, f = f1 ++ f2 ∧ RpK X.K H1 R k d1 v f1 ∧ RpK X.K H1 R k d2 w f2 := by
          rcases hk with rfl | rfl
          · have rp : RpOs X.K H1 [d1, d2] [v, w] f := rp
            simp only [RpOs] at rp
            obtain ⟨v', r, f1, f2, e1, e2, r1, v2, r', f3, f4, e3, e4, r2, e5, e6⟩ := rp
            simp only [List.cons.injEq] at e1
            obtain ⟨rfl, rfl⟩ := e1
            simp only [List.cons.injEq] at e3
            obtain ⟨rfl, rfl⟩ := e3
            subst e6
            exact ⟨f1, f2, e2, r1, by rw [e4, List.append_nil]; exact r2⟩
          · have rp : RpSs X.K H1 R [d1, d2] [v, w] ∧ f = [] := rp
            simp only [RpSs] at rp
            obtain ⟨⟨v', r, e1, r1, v2, r', e3, r2, e5⟩, e2⟩ := rp
            simp only [List.cons.injEq] at e1
            obtain ⟨rfl, rfl⟩ := e1
            simp only [List.cons.injEq] at e3
            obtain ⟨rfl, rfl⟩ := e3
            exact ⟨[], [], e2, ⟨r1, rfl⟩, ⟨r2, rfl⟩⟩
        obtain ⟨f1, f2, rfl, r1, r2⟩ := sp
        have nd := List.nodup_append.mp t.nd
        have t1 : Tmp H1 fp R f1 := t.sub (fun a h => List.mem_append_left _ h) nd.1
        have t2 : Tmp H1 fp R f2 := t.sub (fun a h => List.mem_append_right _ h) nd.2.1
        refine nm_ok (K := X.K) (Q := fun σ2 H2 => D.nx (σ2.set j (some w)) H2) ⟨T, L, ρ, fp, R, k, d1, f1, ρa, fun j hj => hT j (List.mem_append_left _ hj), g, hk.imp id .inr, r1, t1, ha1, fun σ1 fp1 g1 s1 k1 => ?_⟩
        refine nm_ok (K := X.K) ⟨T, L, ρa, fp1, R, k, d2, f2, ρ', fun j hj => hT j (List.mem_append_right _ (List.mem_append_left _ hj)), g1, hk.imp id .inr, r2, ⟨t2.nd, fun i a ha hz => ?_, t2.dR, t2.tr⟩, ha2, fun σ2 fp2 g2 s2 k2 => q σ2 fp2 g2 (s1.trans s2) (k1.trans k2)⟩
        rcases s1.sub i a hz with z | z
        · exact t2.dj i a ha z
        · exact nd.2.2 a z a ha rfl
    cases hi : im (.tuple ds) with
    | true =>
      have e2 : PV.R.of ((asgTs L (.cons (.nm i) (.cons (.nm j) .nil)) .own ds ρ1).map fun ρ3 => (Fl.nx, ρ3)) = .ok fl ρ' := by
        have hk : keep (PV.nrm (ownM w) (.tuple ds)) (.tuple ds) ρ1 = some (.own, ρ1) := by unfold keep PV.nrm; rw [if_pos hi]
        rw [hk] at e2; exact e2
      obtain ⟨ρ3, h3, e3⟩ := Option.map_eq_some_iff.mp (of_ok e2)
      cases e3
      exact key q (.inl rfl) ⟨R1, RpSs.own (by simpa [im] using hi) l1.weak, .nil, fun _ q => absurd q (by simp), fun _ q => q, fun _ => .inl⟩ h3
    | false =>
      cases w with
      | true =>
        have e2 : PV.R.of ((asgTs L (.cons (.nm i) (.cons (.nm j) .nil)) .own ds ρ1).map fun ρ3 => (Fl.nx, ρ3)) = .ok fl ρ' := by
          have hk : keep (PV.nrm (ownM true) (.tuple ds)) (.tuple ds) ρ1 = some (.own, ρ1) := by unfold keep PV.nrm ownM; simp [hi]
          rw [hk] at e2; exact e2
        obtain ⟨ρ3, h3, e3⟩ := Option.map_eq_some_iff.mp (of_ok e2)
        cases e3
        exact key q (.inl rfl) ⟨R1, l1.2, l1.1, fun _ q => q, fun _ q => q, fun _ => .inl⟩ h3
      | false =>
        have e2 : PV.R.of ((asgTs L (.cons (.nm i) (.cons (.nm j) .nil)) .shr ds ρ1).map fun ρ3 => (Fl.nx, ρ3)) = .ok fl ρ' := by
          have hk : keep (PV.nrm (ownM false) (.tuple ds)) (.tuple ds) ρ1 = some (.top, ρ1) := by unfold keep PV.nrm ownM; simp [hi]
          rw [hk] at e2; exact e2
        obtain ⟨ρ3, h3, e3⟩ := Option.map_eq_some_iff.mp (of_ok e2)
        cases e3
        exact key q (.inr rfl) ⟨fun x => R1 x ∨ x ∈ f1, ⟨l1.weak, rfl⟩, .nil, fun _ q => absurd q (by simp), fun _ => .inl, fun _ q => q⟩ h3
  · cases e4
end
end PV
end

section
set_option Elab.async false
set_option linter.all false
set_option autoImplicit false
set_option maxRecDepth 100000
namespace PV
open PySem PySem.Spec PyProof.Rows L2
variable [Tbs]
/-! ### enumerate of a text -/
/-- each sign in a new pair -/
def Ites (x : Str) : It := ⟨fun i _ => i < x.cps.size, fun i H v H' => ∃ T c, v = .ref T ∧ H T = none ∧ H' = upd H T (.tup [.int (i : Nat), .str ⟨#[c]⟩]) ∧ x.cps[i]? = some c, fun i _ => x.cps.size ≤ i⟩
theorem draws_str {P : Program} {w : World} {A : Around} (hh : A.handled = none) (it : Addr) (x : Str) (t : Tok) : Draws P w A it [it] x.cps.size (fun i v => ∃ c u, x.cps[i]? = some c ∧ v = .str ⟨#[c]⟩ u) (fun i h => h.IsStrIter it (strIterType x) x t i) := by
  unfold strIterType
  split
  · exact Draws.strAscii hh it x t
  · exact Draws.strWide hh it x t
theorem turn_enumS {P : Program} {w : World} {K : PySem.W.Frag} {elts : List Expr} {kk : Nat} {tpos : Pos} (x : Str) (t : Tok) (e it : Addr) :
    Turn P w K (.Tuple elts kk tpos) (Ites x) [e, it] e (fun i h => (∃ old, IsEnum h e it ((i : Nat) : Int) old) ∧ h.IsStrIter it (strIterType x) x t i ∧ e ≠ it ∧ i ≤ x.cps.size) where
  mem := by simp
  obj := fun i h st b hb => by
    obtain ⟨⟨old, he⟩, ⟨o, ho, hc, hd⟩, _⟩ := st
    have e' : b = e ∨ b = it := by simpa using hb
    rcases e' with z | z
    · rw [z]; exact ⟨_, he, fun v q => nomatch q⟩
    · rw [z]; exact ⟨o, ho, fun v q => by rw [hd] at q; cases q⟩
  keep := fun i h h' st k => let ⟨⟨old, he⟩, ⟨o, ho, r⟩, hne⟩ := st; ⟨⟨old, k e (by simp) _ he⟩, ⟨o, k it (by simp) o ho, r⟩, hne⟩
  item := by
    intro X hP hw hK hc i pins s σ H E I hf st hg
    subst hP hw hK
    obtain ⟨⟨old, he⟩, hit, hne, hle⟩ := st
    have hg : i < x.cps.size := hg
    have hel : e < s.heap.objs.size := Heap.lt_size he
    have hil : it < s.heap.objs.size := by obtain ⟨_, q, _⟩ := hit; exact Heap.lt_size q
    have hh : X.A.handled = none := I.ok.hd hc
    refine wpAny_pyNext_enum_itemD (draws_str (A := X.A.in1) hh it x t) he hit hg hne (by simpa using hne) fun u h' tk hu ho hit' hT hsz hk => ?_
    obtain ⟨c, uu, hcx, rfl⟩ := hu
    refine ⟨_, rfl, wpAny_letOwnedTupleGo_enum (s := { s with heap := h', toks := tk + 1 }) ho fun h'' he' sb => ?_⟩
    have hT2 : h''.get? s.heap.objs.size = some { cls := .type "tuple", data := .seq #[.int i tk, .str ⟨#[c]⟩ uu] } := (sb.2 _ (Nat.ne_of_gt hel)).trans hT
    have new : ObjOk X.prog X.w (upd H s.heap.objs.size (.tup [.int (i : Nat), .str ⟨#[c]⟩])) h'' s.heap.objs.size (.tup [.int (i : Nat), .str ⟨#[c]⟩]) :=
      ⟨by show 2 ≤ sizeLine; decide, [.int i tk, .str ⟨#[c]⟩ uu], .cons ⟨_, rfl⟩ (.cons ⟨_, rfl⟩ .nil), ⟨_, hT2, rfl, _, rfl⟩⟩
    have I1 : Inv X pins σ (upd H s.heap.objs.size (.tup [.int (i : Nat), .str ⟨#[c]⟩])) { s with heap := h'', toks := tk + 1 } :=
      I.turnedNew (ch := [e, it]) (fun b ob hb q => (sb.2 b (fun z => hb (by simp [z]))).trans (hk b ob (fun z => hb (by simp [z])) (fun z => hb (by simp [z])) q)) hf (Nat.le_refl _) new
    refine ⟨.ref s.heap.objs.size, _, I1, rfl, ⟨_, c, rfl, I.hok.fresh (Nat.le_refl _), rfl, hcx⟩, ⟨⟨.str ⟨#[c]⟩ uu, ?_⟩, ?_, hne, hg⟩, fun b hb => ?_⟩
    · have e1 : ((i + 1 : Nat) : Int) = (i : Int) + 1 := by omega
      rw [e1]; exact he'
    · obtain ⟨o, ho', r⟩ := hit'
      exact ⟨o, (sb.2 it (Ne.symm hne)).trans ho', r⟩
    · have hb' : b < s.heap.objs.size := by
        have e' : b = e ∨ b = it := by simpa using hb
        rcases e' with z | z
        · rw [z]; exact hel
        · rw [z]; exact hil
      rw [upd_ne (Nat.ne_of_lt hb')]
      exact (hf b hb).1
  done := by
    intro X hP hw hK hc i pins s σ H E I hf st hg
    subst hP hw hK
    obtain ⟨⟨old, he⟩, hit, hne, hle⟩ := st
    have hg : x.cps.size ≤ i := hg
    obtain ⟨f0, f1, f2, f3, f4, f5⟩ := hf it (by simp)
    have hh : X.A.handled = none := I.ok.hd hc
    have hi : i = x.cps.size := Nat.le_antisymm hle hg
    subst hi
    exact wpAny_pyNext_enum_endD (draws_str (A := X.A.in1) hh it x t) he hit fun h' eb => ⟨rfl, I.turned (t' := s.toks) (fun b o hb q => eb b o hb q) f0 f1 f3 f4 f5⟩
  self := fun A i s Q E st h => let ⟨⟨_, he⟩, _⟩ := st; wpAny_pyIter_enum he h
/-- of a list or a text -/
def iEnum2 (K : PySem.W.Frag) (ta : TA) : TI := fun σ H R => ta σ H fun vs H1 => (∃ a xs, vs = [.ref a] ∧ SqL K H1 a xs ∧ R (Ite K a) H1) ∨ ∃ x, vs = [.str x] ∧ R (Ites x) H1
theorem pi_enum2 {X : Cx} {e : Expr} {ta : TA} {p pos tpos : Pos} {elts : List Expr} {kk : Nat} (hg : Gl X "enumerate") (hm : X.mg "enumerate" = none) (ha : PA X [e] ta) (hs : starEach [e] X.env = [(false, eval e X.env)] := by rfl) :
    PI X (.Tuple elts kk tpos) (.Call (.Name "enumerate" p) [e] [] pos) (iEnum2 X.K ta) := by
  refine ⟨fun pins s σ H R I h => ?_⟩
  refine Call_ (ld_blt I hg hm boot_enumerate (PyProof.Rows.callWith_type1 (thn (ha.run pos pins s σ H _ I h) fun us s1 ⟨vs, H1, I1, r1, q1⟩ => ?_) hs rfl))
  rcases q1 with ⟨a, xs, ex, hq, q⟩ | ⟨x, ex, q⟩
  · subst ex
    cases r1 with
    | cons r rr =>
      cases rr
      cases r
      obtain ⟨its, rv, p', hz⟩ := I1.list hq
      refine call_enumerate_list p'.isList fun h' he hit hsz hk => wpAny_pyIter_enum he ?_
      have I2 : Inv X pins σ H1 { s1 with heap := h' } := I1.kept (t' := s1.toks) hk
      refine ⟨s1.heap.objs.size + 1, [s1.heap.objs.size + 1, s1.heap.objs.size], _, _, H1, rfl, I2, turn_enum a (s1.heap.objs.size + 1) s1.heap.objs.size, ⟨⟨.none, he⟩, hit, Nat.succ_ne_self _⟩, fun b hb => ?_, q⟩
      have e' : b = s1.heap.objs.size + 1 ∨ b = s1.heap.objs.size := by simpa using hb
      have hle : s1.heap.objs.size ≤ b := by
        rcases e' with z | z
        · rw [z]; exact Nat.le_add_right _ _
        · rw [z]; exact Nat.le_refl _
      exact I1.fpOk hle (I1.hok.fresh hle)
  · subst ex
    cases r1 with
    | cons r rr =>
      cases rr
      obtain ⟨t, rfl⟩ := r
      refine call_enumerate_str fun h' he hit hsz hk => wpAny_pyIter_enum he ?_
      have I2 : Inv X pins σ H1 { s1 with heap := h' } := I1.kept (t' := s1.toks) hk
      refine ⟨s1.heap.objs.size + 1, [s1.heap.objs.size + 1, s1.heap.objs.size], _, _, H1, rfl, I2, turn_enumS x t (s1.heap.objs.size + 1) s1.heap.objs.size, ⟨⟨.none, he⟩, hit, Nat.succ_ne_self _, Nat.zero_le _⟩, fun b hb => ?_, q⟩
      have e' : b = s1.heap.objs.size + 1 ∨ b = s1.heap.objs.size := by simpa using hb
      have hle : s1.heap.objs.size ≤ b := by
        rcases e' with z | z
        · rw [z]; exact Nat.le_add_right _ _
        · rw [z]; exact Nat.le_refl _
      exact I1.fpOk hle (I1.hok.fresh hle)
end PV
end

section
set_option Elab.async false
set_option linter.all false
set_option autoImplicit false
set_option maxRecDepth 100000
namespace PV
open PySem PySem.Spec PyProof.Rows L2
variable [Tbs]
section
variable {K : PySem.W.Frag} {σ σ1 σ2 σ' : L2.St} {H H0 H1 H2 H' : Hp} {ρ ρ1 ρ2 ρ' : Env} {fp fp0 fp1 fp2 fp' : Nat → List Addr} {R R0 R1 R2 R' : Addr → Prop} {L L' T T' ls : List Nat} {f g : List Addr} {m : M} {d : D} {v : V} {Q : VK} {w : Bool} {k : CK} {xs ys ds : List D} {vs : List V} {items : List (Bool × D)}
/-- what is held besides stays while places go -/
theorem Tmp.subF (s : SubF f fp R fp' R') (t : Tmp H fp R g) (ap : ∀ x ∈ f, x ∉ g) : Tmp H fp' R' g :=
  ⟨t.nd, fun i a h z => t.dj i a h (s.sub i a z), fun a h z => by
    rcases s.nR a z with q | q | ⟨j, q⟩
    · exact t.dR a h q
    · exact ap a q h
    · exact t.dj j a h q, t.tr⟩
theorem Hold.subF (s : SubF f fp R fp' R') (o : Hold K H fp R m d v g) (ap : ∀ x ∈ f, x ∉ g) : Hold K H fp' R' m d v g := by
  refine ⟨?_, o.tm.subF s ap⟩
  have rp := o.rp
  cases m with
  | own => exact rp
  | top => exact RpU.stay (.refl _) (fun _ _ => rfl) s.reg (fun _ _ => rfl) rp
  | shr => exact RpS.stay (.refl _) (fun _ _ => rfl) (fun a q => q.imp (s.reg a) id) rp
  | bor i => exact ⟨RpS.stay (.refl _) (fun _ _ => rfl) (fun a q => q.elim (fun z => .inl (s.reg a z)) fun z => (s.lock i a z).elim .inr .inl) rp.1, rp.2⟩
  | bort i => exact ⟨RpW.stay (.refl _) (fun _ _ => rfl) s.reg (fun _ _ => rfl) (fun a q => q.elim (fun z => .inl (s.reg a z)) fun z => (s.lock i a z).elim .inr .inl) rp.1, rp.2⟩
def isSeq (d : D) (xs : List D) : Prop := d = .list xs ∨ d = .tuple xs
def ItM (m : M) (f : List Addr) (xs : List D) (items : List (Bool × D)) : Prop :=
  (imAll xs = true ∧ items = xs.map fun x => (true, x)) ∨ (((m = .shr ∧ f = []) ∨ ∃ i, m = .bort i) ∧ items = xs.map fun x => (false, x))
theorem imAll_of_im (hs : isSeq d xs) (h : im d = true) : imAll xs = true := by
  rcases hs with rfl | rfl
  · simp [im] at h
  · simpa [im] using h
theorem walk_ok (g : Gd K σ H ρ fp R) (o : Hold K H fp R m d v f) (hs : isSeq d xs) (h : walkO m d xs ρ = some ((items, ls), ρ')) :
    ∃ fp' R' m' f', Gd K σ H ρ' fp' R' ∧ SubF f fp R fp' R' ∧ Hold K H fp' R' m' d v f' ∧ (∀ a ∈ f', a ∈ f) ∧ (∀ i ∈ lk m', i ∈ ls) ∧ ItM m' f' xs items := by
  unfold walkO at h
  by_cases hi : imAll xs = true
  · rw [if_pos hi] at h
    cases h
    exact ⟨fp, R, m, f, g, Sub.refl.toF, o, fun _ q => q, fun _ q => q, .inl ⟨hi, rfl⟩⟩
  · rw [if_neg hi] at h
    have ni : im d ≠ true := fun q => hi (imAll_of_im hs q)
    have other : (use m d ρ).map (fun (p : Bool × Env) => ((xs.map fun x => (false, x), ([] : List Nat)), p.2)) = some ((items, ls), ρ') → ∃ fp' R' m' f', Gd K σ H ρ' fp' R' ∧ SubF f fp R fp' R' ∧ Hold K H fp' R' m' d v f' ∧ (∀ a ∈ f', a ∈ f) ∧ (∀ i ∈ lk m', i ∈ ls) ∧ ItM m' f' xs items := fun h => by
      obtain ⟨⟨w, ρ2⟩, hu, e⟩ := Option.map_eq_some_iff.mp h
      cases e
      obtain ⟨fp1, R1, f1, g1, s1, o1, sf⟩ := use_ok g o hu
      refine ⟨fp1, fun x => R1 x ∨ x ∈ f1, .shr, [], g1.grow (f := f1) (fun a => .inl) (fun a q => q) o1.tm, ⟨fun a q => .inl (s1.reg a q), fun a q => ?_, s1.sub, fun i a q => (s1.lock i a q).imp id .inl⟩, ⟨?_, .nil⟩, fun _ q => absurd q (by simp), fun _ q => absurd q (by simp [lk]), .inr ⟨.inl ⟨rfl, rfl⟩, rfl⟩⟩
      · rcases q with q | q
        · exact (s1.nR a q).imp id .inr
        · exact .inr (.inl (sf a q))
      · exact RpS.stay (.refl _) (fun _ _ => rfl) (fun _ => .inl) o1.rdS
    cases m with
    | bort i =>
      cases h
      exact ⟨fp, R, .bort i, f, g, Sub.refl.toF, o, fun _ q => q, fun _ q => q, .inr ⟨.inr ⟨i, rfl⟩, rfl⟩⟩
    | own => exact other h
    | top => exact other h
    | shr => exact other h
    | bor i => exact other h
theorem ItM.get (o : Hold K H fp R m d v f) (hs : isSeq d xs) (h : ItM m f xs items) :
    ∃ a vs, v = .ref a ∧ (d = .list xs → SqL K H a vs) ∧ (d = .tuple xs → SqT K H a vs) ∧ items.length = vs.length ∧ ∀ (i : Nat) (w : Bool) (e : PyData), items[i]? = some (w, e) → ∃ x, vs[i]? = some x ∧ RpK K H R (ownK w) e x [] := by
  have key : ∃ a vs, v = .ref a ∧ (d = .list xs → SqL K H a vs) ∧ (d = .tuple xs → SqT K H a vs) ∧ RpI K H fp R m xs vs f := by
    rcases hs with rfl | rfl
    · obtain ⟨a, vs, e, h1, h2, _⟩ := o.items
      exact ⟨a, vs, e, fun _ => h1, (fun z => nomatch z), h2⟩
    · obtain ⟨a, vs, e, h1, h2, _⟩ := o.itemsT
      exact ⟨a, vs, e, (fun z => nomatch z), fun _ => h1.sq, h2⟩
  obtain ⟨a, vs, e, h1, h2, h3⟩ := key
  refine ⟨a, vs, e, h1, h2, ?_, fun i w x hx => ?_⟩
  · rw [← h3.len]
    rcases h with ⟨_, rfl⟩ | ⟨_, rfl⟩ <;> simp
  · rcases h with ⟨hi, rfl⟩ | ⟨hm, rfl⟩
    · rw [List.getElem?_map] at hx
      obtain ⟨y, hy, ey⟩ := Option.map_eq_some_iff.mp hx
      cases ey
      obtain ⟨x', q, e1, e2, e3⟩ := RpOs.at (h3.im hi) hy
      have : q = [] := List.sublist_nil.mp e3
      subst this
      exact ⟨x', e1, e2⟩
    · rw [List.getElem?_map] at hx
      obtain ⟨y, hy, ey⟩ := Option.map_eq_some_iff.mp hx
      cases ey
      rcases hm with ⟨rfl, rfl⟩ | ⟨j, rfl⟩
      · obtain ⟨x', e1, e2⟩ := RpSs.at h3 hy
        exact ⟨x', e1, RpS.stay (.refl _) (fun _ _ => rfl) (fun a q => q.elim id fun z => absurd z (by simp)) e2, rfl⟩
      · obtain ⟨x', e1, e2⟩ := RpSs.at h3 hy
        exact ⟨x', e1, e2, rfl⟩
/-- an iterator that yields the items, whatever is done meanwhile to what it does not look at -/
structure ItOk (K : PySem.W.Frag) (J : It) (items : List (Bool × D)) (ls : List Nat) (H : Hp) (fp : Nat → List Addr) (R : Addr → Prop) : Prop where
  go : ∀ σ2 H2 ρ2 fp2 R2, Gd K σ2 H2 ρ2 fp2 R2 → Mv ls H fp R H2 fp2 R2 → ∀ (i : Nat) (w : Bool) (d : PyData), items[i]? = some (w, d) → J.go i H2 ∧ ∀ x H3, J.yld i H2 x H3 → Gd K σ2 H3 ρ2 fp2 R2 ∧ (∀ L, Mv L H2 fp2 R2 H3 fp2 R2) ∧ RpK K H3 R2 (ownK w) d x []
  stop : ∀ σ2 H2 ρ2 fp2 R2, Gd K σ2 H2 ρ2 fp2 R2 → Mv ls H fp R H2 fp2 R2 → ∀ i : Nat, items[i]? = none → J.stop i H2
def tiv (K : PySem.W.Frag) (C : Ctx) (it : Ex) : TI := fun σ H Q => ∃ L ρ fp R, Gd K σ H ρ fp R ∧ ∃ items ls ρ', evi C L it ρ = .ok (items, ls) ρ' ∧
  ∀ J H' fp' R', Gd K σ H' ρ' fp' R' → Mv L H fp R H' fp' R' → ItOk K J items ls H' fp' R' → Q J H'
def PIv (X : Cx) (C : Ctx) (tg : Expr) (it : Ex) (e : Expr) : Prop := PI X tg e (tiv X.K C it)
theorem RpK.of_shr {w : Bool} (h : RpK K H R (ownK w) d v f) : RpK K H R (ownK w) d v f ∧ OkK (ownK w) := ⟨h, by cases w <;> simp [ownK, OkK]⟩
theorem ItOk.list {a : Addr} (g : Gd K σ H ρ fp R) (o : Hold K H fp R m (.list xs) (.ref a) f) (h : ItM m f xs items) (hl : ∀ i ∈ lk m, i ∈ ls) : ItOk K (Itl K a) items ls H fp R where
  go := fun σ2 H2 ρ2 fp2 R2 g2 mv i w d hi => by
    obtain ⟨a', vs, e, h1, _, h2, h3⟩ := h.get (o.step g mv hl) (.inl rfl)
    cases e
    obtain ⟨x, hx, rp⟩ := h3 i w d hi
    refine ⟨⟨vs, x, h1 rfl, hx⟩, fun y H3 ⟨e1, e2⟩ => ?_⟩
    subst e1
    rw [e2 vs (h1 rfl)] at hx
    cases hx
    exact ⟨g2, fun _ => .refl, rp⟩
  stop := fun σ2 H2 ρ2 fp2 R2 g2 mv i hi => by
    obtain ⟨a', vs, e, h1, _, h2, h3⟩ := h.get (o.step g mv hl) (.inl rfl)
    cases e
    exact ⟨vs, h1 rfl, by rw [← h2]; exact List.getElem?_eq_none_iff.mp hi⟩
theorem ItOk.tup {a : Addr} (g : Gd K σ H ρ fp R) (o : Hold K H fp R m (.tuple xs) (.ref a) f) (h : ItM m f xs items) (hl : ∀ i ∈ lk m, i ∈ ls) : ItOk K (Itt K a) items ls H fp R where
  go := fun σ2 H2 ρ2 fp2 R2 g2 mv i w d hi => by
    obtain ⟨a', vs, e, _, h1, h2, h3⟩ := h.get (o.step g mv hl) (.inr rfl)
    cases e
    obtain ⟨x, hx, rp⟩ := h3 i w d hi
    refine ⟨⟨vs, x, h1 rfl, hx⟩, fun y H3 ⟨e1, e2⟩ => ?_⟩
    subst e1
    rw [e2 vs (h1 rfl)] at hx
    cases hx
    exact ⟨g2, fun _ => .refl, rp⟩
  stop := fun σ2 H2 ρ2 fp2 R2 g2 mv i hi => by
    obtain ⟨a', vs, e, _, h1, h2, h3⟩ := h.get (o.step g mv hl) (.inr rfl)
    cases e
    exact ⟨vs, h1 rfl, by rw [← h2]; exact List.getElem?_eq_none_iff.mp hi⟩
theorem ItOk.str {x : Str} : ItOk K (L2.Its x) (x.cps.toList.map fun c => (true, .str ⟨#[c]⟩)) [] H fp R where
  go := fun σ2 H2 ρ2 fp2 R2 g2 mv i w d hi => by
    rw [List.getElem?_map] at hi
    obtain ⟨c, hc, e⟩ := Option.map_eq_some_iff.mp hi
    cases e
    have hc : x.cps[i]? = some c := by rw [← hc]; simp
    refine ⟨(Array.getElem?_eq_some_iff.mp hc).1, fun y H3 ⟨e1, c', e2, e3⟩ => ?_⟩
    subst e1
    rw [hc] at e2
    cases e2
    exact ⟨g2, fun _ => .refl, by subst e3; simp [ownK, RpK, RpO]⟩
  stop := fun σ2 H2 ρ2 fp2 R2 g2 mv i hi => by
    rw [List.getElem?_map, Option.map_eq_none_iff] at hi
    have := List.getElem?_eq_none_iff.mp hi
    show x.cps.size ≤ i
    simpa using this
theorem ItOk.rng {lo hi : Int} : ItOk K (Itr lo (hi - lo).toNat) ((rangeD lo hi).map fun x => (true, x)) [] H fp R where
  go := fun σ2 H2 ρ2 fp2 R2 g2 mv i w d h => by
    unfold rangeD at h
    rw [List.getElem?_map, List.getElem?_map] at h
    obtain ⟨y, hy, e⟩ := Option.map_eq_some_iff.mp h
    obtain ⟨k, hk, e2⟩ := Option.map_eq_some_iff.mp hy
    cases e; cases e2
    obtain ⟨hlt, e3⟩ := List.getElem?_eq_some_iff.mp hk
    simp at hlt e3
    subst e3
    refine ⟨show i < (hi - lo).toNat by omega, fun y H3 ⟨e1, e2⟩ => ?_⟩
    subst e1; subst e2
    exact ⟨g2, fun _ => .refl, by simp [ownK, RpK, RpO]⟩
  stop := fun σ2 H2 ρ2 fp2 R2 g2 mv i h => by
    unfold rangeD at h
    rw [List.getElem?_map, List.getElem?_map, Option.map_eq_none_iff, Option.map_eq_none_iff] at h
    have := List.getElem?_eq_none_iff.mp h
    show (hi - lo).toNat ≤ i
    simp at this
    omega
end
section
variable {X : Cx} {C : Ctx} {a b c es : Ex} {s t : PV.St} {st : Stmt} {sts sts2 : List Stmt} {ea eb ec e tge : Expr} {eas : List Expr} {kws : List Keyword} {pos kpos : Pos} {nm : Option Str} {x : Str} {tg : Tg}
theorem piI {X : Cx} {tg e : Expr} {t t' : TI} (h : PI X tg e t) (w : ∀ σ H Q, t' σ H Q → t σ H Q) : PI X tg e t' := ⟨fun pins s σ H Q I q => h.run pins s σ H Q I (w σ H Q q)⟩
theorem piOr {X : Cx} {tg e : Expr} {t t' : TI} (h : PI X tg e t) (h' : PI X tg e t') : PI X tg e (fun σ H Q => t σ H Q ∨ t' σ H Q) := ⟨fun pins s σ H Q I q => q.elim (h.run pins s σ H Q I) (h'.run pins s σ H Q I)⟩
theorem si_itr (ha : PEv X C a ea) : PIv X C tge (.itr a) ea := by
  refine piI (piOr (pi_list ha) (piOr (pi_tup ha) (pi_str ha))) fun σ H Q ⟨L, ρ, fp, R, g, items, ls, ρ', e, q⟩ => ?_
  obtain ⟨⟨m, d⟩, ρ1, e1, e2⟩ := bind_ok e
  dsimp only at e2
  split at e2
  · rename_i xs
    have e2 := of_ok e2
    refine .inl ⟨L, ρ, fp, R, g, m, _, ρ1, e1, fun v H1 fp1 R1 f1 g1 v1 o1 n1 => ?_⟩
    obtain ⟨a1, us, rfl, hs1, _⟩ := o1.items
    obtain ⟨fp2, R2, m2, f2, g2, s2, o2, sf, hl, hM⟩ := walk_ok g1 o1 (.inl rfl) e2
    exact ⟨a1, rfl, ⟨us, hs1⟩, q _ H1 fp2 R2 g2 (s2.mv g1 v1 n1) (.list g2 o2 hM hl)⟩
  · rename_i xs
    have e2 := of_ok e2
    refine .inr (.inl ⟨L, ρ, fp, R, g, m, _, ρ1, e1, fun v H1 fp1 R1 f1 g1 v1 o1 n1 => ?_⟩)
    obtain ⟨a1, us, rfl, hs1, _⟩ := o1.itemsT
    obtain ⟨fp2, R2, m2, f2, g2, s2, o2, sf, hl, hM⟩ := walk_ok g1 o1 (.inr rfl) e2
    exact ⟨a1, rfl, ⟨us, hs1.sq⟩, q _ H1 fp2 R2 g2 (s2.mv g1 v1 n1) (.tup g2 o2 hM hl)⟩
  · rename_i x
    cases e2
    refine .inr (.inr ⟨L, ρ, fp, R, g, m, _, ρ', e1, fun v H1 fp1 R1 f1 g1 v1 o1 n1 => ?_⟩)
    exact ⟨x, o1.str, q _ H1 fp1 R1 g1 v1 .str⟩
  · cases e2
/-! evs: an argument list as values -/
def tes (K : PySem.W.Frag) (C : Ctx) (es : Ex) : TA := fun σ H Q => ∃ L ρ fp R, Gd K σ H ρ fp R ∧ ∃ ws ρ', evs C L es ρ = .ok ws ρ' ∧
  ∀ vs H' fp' R' (fs : Nat → List Addr), Gd K σ H' ρ' fp' R' → Mv L H fp R H' fp' R' → vs.length = ws.length → (∀ (j : Nat) (p : M × D), ws[j]? = some p → ∃ v, vs[j]? = some v ∧ Hold K H' fp' R' p.1 p.2 v (fs j)) → (∀ j l x, x ∈ fs j → x ∈ fs l → j = l) → (∀ j, New L H fp (fs j)) → Q vs H'
def PAv (X : Cx) (C : Ctx) (es : Ex) (eas : List Expr) : Prop := PA X eas (tes X.K C es)
theorem pav_nil : PAv X C .nil [] := paI pa_nil fun σ H Q ⟨L, ρ, fp, R, g, ws, ρ', e, q⟩ => by
  cases e
  exact q [] H fp R (fun _ => []) g .refl rfl (fun j p h => by simp at h) (fun _ _ _ h => absurd h (by simp)) fun _ => .nil
theorem pav_cons (ha : PEv X C a ea) (hr : PAv X C es eas) (hs : starEach (ea :: eas) X.env = (false, eval ea X.env) :: starEach eas X.env := by rfl) : PAv X C (.cons a es) (ea :: eas) := by
  refine paI (pa_cons ha hr hs) fun σ H Q ⟨L, ρ, fp, R, g, ws, ρ', e, q⟩ => ?_
  obtain ⟨⟨m, d⟩, ρ1, h1, e⟩ := bind_ok e
  obtain ⟨ws2, ρ2, h2, e⟩ := bind_ok e
  cases e
  refine ⟨L, ρ, fp, R, g, m, d, ρ1, h1, fun v H1 fp1 R1 f1 g1 v1 o1 n1 => ?_⟩
  refine ⟨lk m ++ L, ρ1, fp1, R1, g1, ws2, ρ', h2, fun vs H2 fp2 R2 fs g2 v2 l2 o2 d2 n2 => ?_⟩
  have v2' : Mv L H1 fp1 R1 H2 fp2 R2 := v2.mono fun i hi => List.mem_append_right _ hi
  have ap : ∀ x ∈ f1, ∀ j, x ∉ fs j := fun x hx j hj => by
    rcases n2 j x hj with e | ⟨l, _, p⟩
    · exact o1.tm.tr x hx e
    · exact o1.tm.dj l x hx p
  refine q (v :: vs) H2 fp2 R2 (consF f1 fs) g2 (v1.trans g1 v2') (by simp [l2]) (fun j p hp => ?_) (fun j l x h1 h2 => ?_) fun j => ?_
  · cases j with
    | zero => simp at hp; subst hp; exact ⟨v, rfl, o1.step g1 v2 fun i hi => List.mem_append_left _ hi⟩
    | succ j => obtain ⟨v', e1, e2⟩ := o2 j p (by simpa using hp); exact ⟨v', by simpa using e1, e2⟩
  · cases j with
    | zero =>
      cases l with
      | zero => rfl
      | succ l => exact absurd h2 (ap x h1 l)
    | succ j =>
      cases l with
      | zero => exact absurd h1 (ap x h2 j)
      | succ l => rw [d2 j l x h1 h2]
  · cases j with
    | zero => exact n1
    | succ j => exact ((n2 j).mono fun i hi => List.mem_append_right _ hi).back g1 v1
/-- one argument -/
theorem tes1 {K : PySem.W.Frag} {σ : L2.St} {H : Hp} {Q : List V → Hp → Prop} {L : List Nat} {ρ ρ' : Env} {fp : Nat → List Addr} {R : Addr → Prop} {m : M} {d : D} (g : Gd K σ H ρ fp R) (e : evs C L es ρ = .ok [(m, d)] ρ')
    (q : ∀ v H' fp' R' f, Gd K σ H' ρ' fp' R' → Mv L H fp R H' fp' R' → Hold K H' fp' R' m d v f → New L H fp f → Q [v] H') : tes K C es σ H Q := by
  refine ⟨L, ρ, fp, R, g, _, ρ', e, fun vs H' fp' R' fs g' v' l o dj n => ?_⟩
  obtain ⟨v, h1, h2⟩ := o 0 _ rfl
  match vs, l, h1 with
  | [x], _, h1 => cases h1; exact q _ H' fp' R' _ g' v' h2 (n 0)
theorem tes2 {K : PySem.W.Frag} {σ : L2.St} {H : Hp} {Q : List V → Hp → Prop} {L : List Nat} {ρ ρ' : Env} {fp : Nat → List Addr} {R : Addr → Prop} {m m2 : M} {d d2 : D} (g : Gd K σ H ρ fp R) (e : evs C L es ρ = .ok [(m, d), (m2, d2)] ρ')
    (q : ∀ v u H' fp' R' f f2, Gd K σ H' ρ' fp' R' → Mv L H fp R H' fp' R' → Hold K H' fp' R' m d v f → Hold K H' fp' R' m2 d2 u f2 → New L H fp f → New L H fp f2 → (∀ x ∈ f, x ∉ f2) → Q [v, u] H') : tes K C es σ H Q := by
  refine ⟨L, ρ, fp, R, g, _, ρ', e, fun vs H' fp' R' fs g' v' l o dj n => ?_⟩
  obtain ⟨v, h1, h2⟩ := o 0 _ rfl
  obtain ⟨u, h3, h4⟩ := o 1 _ rfl
  match vs, l, h1, h3 with
  | [x, y], _, h1, h3 => cases h1; cases h3; exact q _ _ H' fp' R' _ _ g' v' h2 h4 (n 0) (n 1) fun z hz hz2 => absurd (dj 0 1 z hz hz2) (by decide)
theorem ints62_1 : ∀ {vs : List D} {i : Int}, ints62 vs = some [i] → vs = [.int i] ∧ -(2 ^ 62) ≤ i ∧ i < 2 ^ 62
  | [], _, h => by cases h
  | d :: r, i, h => by
    cases d with
    | int j =>
      simp only [ints62] at h
      split at h
      · rename_i hc
        simp only [Bool.and_eq_true, decide_eq_true_eq] at hc
        obtain ⟨l, h1, h2⟩ := Option.map_eq_some_iff.mp h
        simp only [List.cons.injEq] at h2
        obtain ⟨rfl, rfl⟩ := h2
        cases r with
        | nil => exact ⟨rfl, hc⟩
        | cons y r =>
          cases y <;> simp only [ints62] at h1 <;> first | (cases h1; done) | skip
          split at h1
          · obtain ⟨l, _, h2⟩ := Option.map_eq_some_iff.mp h1; cases h2
          · cases h1
      · cases h
    | _ => cases h
theorem ints62_2 : ∀ {vs : List D} {i j : Int}, ints62 vs = some [i, j] → vs = [.int i, .int j] ∧ -(2 ^ 62) ≤ i ∧ i < 2 ^ 62 ∧ -(2 ^ 62) ≤ j ∧ j < 2 ^ 62
  | [], _, _, h => by cases h
  | d :: r, i, j, h => by
    cases d with
    | int k =>
      simp only [ints62] at h
      split at h
      · rename_i hc
        simp only [Bool.and_eq_true, decide_eq_true_eq] at hc
        obtain ⟨l, h1, h2⟩ := Option.map_eq_some_iff.mp h
        simp only [List.cons.injEq] at h2
        obtain ⟨rfl, rfl⟩ := h2
        obtain ⟨rfl, h3, h4⟩ := ints62_1 h1
        exact ⟨rfl, hc.1, hc.2, h3, h4⟩
      · cases h
    | _ => cases h
theorem evs1 {L : List Nat} {ρ ρ' : Env} {ws : List (M × D)} (h : evs C L (.cons a .nil) ρ = .ok ws ρ') : ∃ m d, ws = [(m, d)] ∧ ev C L a ρ = .ok (m, d) ρ' := by
  obtain ⟨⟨m, d⟩, ρ1, h1, h⟩ := bind_ok h
  obtain ⟨ws2, ρ2, h2, h⟩ := bind_ok h
  cases h2
  cases h
  exact ⟨m, d, rfl, h1⟩
theorem evs2 {L : List Nat} {ρ ρ' : Env} {ws : List (M × D)} (h : evs C L (.cons a (.cons b .nil)) ρ = .ok ws ρ') : ∃ m d m2 d2, ws = [(m, d), (m2, d2)] := by
  obtain ⟨⟨m, d⟩, ρ1, h1, h⟩ := bind_ok h
  obtain ⟨ws2, ρ2, h2, h⟩ := bind_ok h
  obtain ⟨m2, d2, rfl, _⟩ := evs1 h2
  cases h
  exact ⟨m, d, m2, d2, rfl⟩
theorem si_rng1 {p : Pos} (ha : PEv X C a ea) (hg : Gl X "range" := by rfl) (hm : X.mg "range" = none := by rfl) (hs : starEach [ea] X.env = [(false, eval ea X.env)] := by rfl) : PIv X C tge (.rng (.cons a .nil)) (.Call (.Name "range" p) [ea] [] pos) := by
  refine piI (pi_range1 hg hm (pav_cons ha pav_nil hs) hs) fun σ H Q ⟨L, ρ, fp, R, g, items, ls, ρ', e, q⟩ => ?_
  obtain ⟨ws, ρ1, e1, e2⟩ := bind_ok e
  obtain ⟨m, d, rfl, _⟩ := evs1 e1
  split at e2
  · rename_i xs hx
    cases e2
    unfold rngO at hx
    split at hx
    · rename_i hi hI
      cases hx
      obtain ⟨h1, h2, h3⟩ := ints62_1 hI
      cases h1
      refine tes1 g e1 fun v H' fp' R' f g' v' o n => ?_
      rw [o.int]
      have := q (Itr 0 (hi - 0).toNat) H' fp' R' g' v' .rng
      rw [Int.sub_zero] at this
      exact ⟨hi, rfl, h2, h3, this⟩
    · rename_i lo hi hI
      obtain ⟨h1, _⟩ := ints62_2 hI
      cases h1
    · cases hx
  · cases e2
theorem si_rng2 {p : Pos} (ha : PEv X C a ea) (hb : PEv X C b eb) (hg : Gl X "range" := by rfl) (hm : X.mg "range" = none := by rfl) (hs : starEach [ea, eb] X.env = [(false, eval ea X.env), (false, eval eb X.env)] := by rfl) (hs2 : starEach [eb] X.env = [(false, eval eb X.env)] := by rfl) :
    PIv X C tge (.rng (.cons a (.cons b .nil))) (.Call (.Name "range" p) [ea, eb] [] pos) := by
  refine piI (pi_range2 hg hm (pav_cons ha (pav_cons hb pav_nil hs2) (by rw [hs, hs2])) hs hs2) fun σ H Q ⟨L, ρ, fp, R, g, items, ls, ρ', e, q⟩ => ?_
  obtain ⟨ws, ρ1, e1, e2⟩ := bind_ok e
  obtain ⟨m, d, m2, d2, rfl⟩ := evs2 e1
  split at e2
  · rename_i xs hx
    cases e2
    unfold rngO at hx
    split at hx
    · rename_i hi hI
      obtain ⟨h1, _⟩ := ints62_1 hI
      cases h1
    · rename_i lo hi hI
      cases hx
      obtain ⟨h1, h2⟩ := ints62_2 hI
      cases h1
      refine tes2 g e1 fun v u H' fp' R' f f2 g' v' o o2 n n2 _ => ?_
      rw [o.int, o2.int]
      exact ⟨lo, hi, rfl, h2, q (Itr lo (hi - lo).toNat) H' fp' R' g' v' .rng⟩
    · cases hx
  · cases e2
theorem zipIdx_at {its : List (Bool × D)} {i : Nat} {w : Bool} {d : D} (h : ((its.zipIdx 0).map fun (p : (Bool × D) × Nat) => (p.1.1, PyData.tuple [.int (p.2 : Nat), p.1.2]))[i]? = some (w, d)) : ∃ e, its[i]? = some (w, e) ∧ d = .tuple [.int (i : Nat), e] := by
  rw [List.getElem?_map, List.getElem?_zipIdx] at h
  cases hi : its[i]? with
  | none => rw [hi] at h; cases h
  | some p =>
    rw [hi] at h
    simp at h
    obtain ⟨rfl, rfl⟩ := h
    exact ⟨p.2, rfl, rfl⟩
/-- a pair made by an iterator -/
theorem pairK {K : PySem.W.Frag} {σ : L2.St} {H : Hp} {ρ : Env} {fp : Nat → List Addr} {R : Addr → Prop} {w w2 : Bool} {d d2 : D} {x y : V} {p : Addr} (g : Gd K σ H ρ fp R) (hp : H p = none) (h1 : RpK K H R (ownK w) d x []) (h2 : RpK K H R (ownK w2) d2 y []) :
    RpK K (upd H p (.tup [x, y])) R (ownK (w && w2)) (.tuple [d, d2]) (.ref p) [] := by
  have k : ∀ a, R a → upd H p (.tup [x, y]) a = H a := fun a q => upd_new hp (g.tR a q)
  have h1 := h1.stay (tups_upd hp (o := .tup [x, y])) k (fun _ q => q) fun _ q => absurd q (by simp)
  have h2 := h2.stay (tups_upd hp (o := .tup [x, y])) k (fun _ q => q) fun _ q => absurd q (by simp)
  have toS : ∀ {w : Bool} {d : D} {v : V} {H : Hp}, RpK K H R (ownK w) d v [] → RpS K H R d v := fun {w d v H} h => by
    cases w with
    | true => exact RpO.shr (fun a q => absurd q (by simp)) h
    | false => exact h.1
  by_cases hw : (w && w2) = true
  · rw [hw]
    simp only [Bool.and_eq_true] at hw
    obtain ⟨rfl, rfl⟩ := hw
    show RpO K _ _ _ _
    simp only [RpO, RpOs]
    exact ⟨p, [x, y], rfl, upd_same, x, [y], [], [], rfl, rfl, h1, y, [], [], [], rfl, rfl, h2, rfl, rfl⟩
  · rw [Bool.not_eq_true] at hw
    rw [hw]
    refine ⟨?_, rfl⟩
    simp only [RpS, RpSs]
    exact ⟨p, [x, y], rfl, upd_same, x, [y], rfl, toS h1, y, [], rfl, toS h2, rfl⟩
theorem si_enum {elts : List Expr} {kk : Nat} {tpos p : Pos} (ha : PEv X C a ea) (hg : Gl X "enumerate" := by rfl) (hm : X.mg "enumerate" = none := by rfl) (hs : starEach [ea] X.env = [(false, eval ea X.env)] := by rfl) : PIv X C (.Tuple elts kk tpos) (.enum a) (.Call (.Name "enumerate" p) [ea] [] pos) := by
  refine piI (pi_enum2 hg hm (pa_cons ha pa_nil hs) hs) fun σ H Q ⟨L, ρ, fp, R, g, items, ls, ρ', e, q⟩ => ?_
  obtain ⟨⟨m, d⟩, ρ1, e1, e2⟩ := bind_ok e
  refine ⟨L, ρ, fp, R, g, m, d, ρ1, e1, fun v H1 fp1 R1 f1 g1 v1 o1 n1 => ?_⟩
  dsimp only at e2
  split at e2
  · rename_i xs
    obtain ⟨⟨its, ls2⟩, ρ2, e3, e4⟩ := bind_ok e2
    cases e4
    obtain ⟨a1, us, rfl, hs1, _⟩ := o1.items
    obtain ⟨fp2, R2, m2, f2, g2, s2, o2, sf, hl, hM⟩ := walk_ok g1 o1 (.inl rfl) (of_ok e3)
    refine .inl ⟨a1, us, rfl, hs1, q _ H1 fp2 R2 g2 (s2.mv g1 v1 n1) ⟨fun σ2 H2 ρ2 fp3 R3 g3 mv i w d hi => ?_, fun σ2 H2 ρ2 fp3 R3 g3 mv i hi => ?_⟩⟩
    · obtain ⟨a', vs, e, h1, _, h2, h3⟩ := hM.get (o2.step g2 mv hl) (.inl rfl)
      cases e
      obtain ⟨e, he, rfl⟩ := zipIdx_at hi
      obtain ⟨x, hx, rp⟩ := h3 i w e he
      refine ⟨⟨vs, x, h1 rfl, hx⟩, fun y H3 ⟨T, x', ey, hT, eH, e2⟩ => ?_⟩
      have := e2 vs (h1 rfl)
      rw [hx] at this
      cases this
      subst ey eH
      refine ⟨g3.laid hT, fun _ => .laid hT, ?_⟩
      have := pairK (w := true) (d := .int (i : Nat)) (x := .int (i : Nat)) g3 hT (by simp [ownK, RpK, RpO]) rp
      rwa [Bool.true_and] at this
    · obtain ⟨a', vs, e, h1, _, h2, h3⟩ := hM.get (o2.step g2 mv hl) (.inl rfl)
      cases e
      rw [List.getElem?_map, Option.map_eq_none_iff, List.getElem?_zipIdx, Option.map_eq_none_iff] at hi
      exact ⟨vs, h1 rfl, by rw [← h2]; exact List.getElem?_eq_none_iff.mp hi⟩
  · rename_i x
    cases e2
    have ev := o1.str
    subst ev
    refine .inr ⟨x, rfl, q (Ites x) H1 fp1 R1 g1 v1 ⟨fun σ2 H2 ρ2 fp3 R3 g3 mv i w d hi => ?_, fun σ2 H2 ρ2 fp3 R3 g3 mv i hi => ?_⟩⟩
    · rw [List.getElem?_map, List.getElem?_zipIdx] at hi
      cases hc : x.cps.toList[i]? with
      | none => rw [hc] at hi; cases hi
      | some c =>
        rw [hc] at hi
        simp at hi
        obtain ⟨rfl, rfl⟩ := hi
        have hx : x.cps[i]? = some c := by simpa using hc
        refine ⟨(Array.getElem?_eq_some_iff.mp hx).1, fun y H3 ⟨T, c', ey, hT, eH, e2⟩ => ?_⟩
        rw [hx] at e2
        cases e2
        subst ey eH
        refine ⟨g3.laid hT, fun _ => .laid hT, ?_⟩
        exact pairK (w := true) (w2 := true) (d := .int (i : Nat)) (x := .int (i : Nat)) g3 hT (by simp [ownK, RpK, RpO]) (by simp [ownK, RpK, RpO])
    · rw [List.getElem?_map, Option.map_eq_none_iff, List.getElem?_zipIdx, Option.map_eq_none_iff] at hi
      show x.cps.size ≤ i
      simpa using List.getElem?_eq_none_iff.mp hi
  · cases e2
theorem zip_at {its its2 : List (Bool × D)} {i : Nat} {w : Bool} {d : D} (h : ((its.zip its2).map fun (p : (Bool × D) × (Bool × D)) => (p.1.1 && p.2.1, PyData.tuple [p.1.2, p.2.2]))[i]? = some (w, d)) : ∃ w1 e1 w2 e2, its[i]? = some (w1, e1) ∧ its2[i]? = some (w2, e2) ∧ w = (w1 && w2) ∧ d = .tuple [e1, e2] := by
  rw [List.getElem?_map] at h
  obtain ⟨⟨⟨w1, e1⟩, ⟨w2, e2⟩⟩, h1, h2⟩ := Option.map_eq_some_iff.mp h
  cases h2
  obtain ⟨h3, h4⟩ := List.getElem?_zip_eq_some.mp h1
  exact ⟨w1, e1, w2, e2, h3, h4, rfl, rfl⟩
theorem si_zip {elts : List Expr} {kk : Nat} {tpos p : Pos} (ha : PEv X C a ea) (hb : PEv X C b eb) (hg : Gl X "zip" := by rfl) (hm : X.mg "zip" = none := by rfl) (hs : starEach [ea, eb] X.env = (false, eval ea X.env) :: starEach [eb] X.env := by rfl) (hs2 : starEach [eb] X.env = [(false, eval eb X.env)] := by rfl)
    (hpl : (backTo pos (starEach [eb] X.env)).any (·.1) = false := by rfl) : PIv X C (.Tuple elts kk tpos) (.zip a b) (.Call (.Name "zip" p) [ea, eb] [] pos) := by
  refine piI (pi_zip hg hm (pa_cons ha (pa_cons hb pa_nil hs2) hs) hs hpl) fun σ H Q ⟨L, ρ, fp, R, g, items, ls, ρ', e, q⟩ => ?_
  obtain ⟨⟨ma, da⟩, ρ1, e1, e⟩ := bind_ok e
  obtain ⟨⟨mb, db⟩, ρ2, e2, e⟩ := bind_ok e
  refine two g e1 e2 fun v u H1 fp1 R1 f1 f2 g1 v1 o1 o2 n1 n2 ap => ?_
  dsimp only at e
  split at e
  · rename_i xs ys
    obtain ⟨⟨its, ls1⟩, ρ3, h3, e⟩ := bind_ok e
    obtain ⟨⟨its2, ls2⟩, ρ4, h4, e⟩ := bind_ok e
    cases e
    obtain ⟨a1, us, rfl, hs1, _⟩ := o1.items
    obtain ⟨a2, us2, rfl, hs2, _⟩ := o2.items
    obtain ⟨fp2, R2, m2, f1', g2, s2, o1', sf1, hl1, hM1⟩ := walk_ok g1 o1 (.inl rfl) (of_ok h3)
    have o2' := o2.subF s2 ap
    obtain ⟨fp3, R3, m3, f2', g3, s3, o2'', sf2, hl2, hM2⟩ := walk_ok g2 o2' (.inl rfl) (of_ok h4)
    have o1'' := o1'.subF s3 fun x h1 h2 => ap x (sf1 x h2) h1
    have mv : Mv L H fp R H1 fp3 R3 := s3.mv g2 (s2.mv g1 v1 n1) n2
    refine ⟨a1, a2, us, us2, rfl, hs1, hs2, q _ H1 fp3 R3 g3 mv ⟨fun σ5 H5 ρ5 fp5 R5 g5 mv5 i w d hi => ?_, fun σ5 H5 ρ5 fp5 R5 g5 mv5 i hi => ?_⟩⟩
    all_goals
      obtain ⟨b1, vs1, e1, p1, _, l1, k1⟩ := hM1.get (o1''.step g3 mv5 fun i hi => List.mem_append_left _ (hl1 i hi)) (.inl rfl)
      cases e1
      obtain ⟨b2, vs2, e2, p2, _, l2, k2⟩ := hM2.get (o2''.step g3 mv5 fun i hi => List.mem_append_right _ (hl2 i hi)) (.inl rfl)
      cases e2
    · obtain ⟨w1, d1, w2, d2, h5, h6, rfl, rfl⟩ := zip_at hi
      obtain ⟨x1, hx1, rp1⟩ := k1 i w1 d1 h5
      obtain ⟨x2, hx2, rp2⟩ := k2 i w2 d2 h6
      refine ⟨⟨vs1, vs2, x1, x2, p1 rfl, p2 rfl, hx1, hx2⟩, fun y H6 ⟨T, y1, y2, ey, hT, eH, z1, z2⟩ => ?_⟩
      have e1 := z1 vs1 (p1 rfl)
      rw [hx1] at e1; cases e1
      have e2 := z2 vs2 (p2 rfl)
      rw [hx2] at e2; cases e2
      subst ey eH
      exact ⟨g5.laid hT, fun _ => .laid hT, pairK g5 hT rp1 rp2⟩
    · rw [List.getElem?_map, Option.map_eq_none_iff] at hi
      have := List.getElem?_eq_none_iff.mp hi
      rw [List.length_zip, l1, l2] at this
      exact ⟨vs1, vs2, p1 rfl, p2 rfl, by omega⟩
  · cases e
/-! ### for -/
theorem sv_for {it : Ex} (hp : PassesOwn (model X.prog X.w) X.A X.env X.xe) (hc : X.calm = true) (hi : PIv X C tge it e) (hg : PGv X tg tge) (hb : PBv X C s sts) (hs : ∀ x, foldedSetIterable e X.env x = pure x := by intro _; rfl) : PSv X C (.for_ tg it s) (.For tge e sts [] pos) := psI (ps_for hp hc hi hg hb hs) fun D σ H ⟨T, L, ρ, fp, R, hT, g, fl, ρ', e, q⟩ => by
  obtain ⟨⟨items, ls⟩, ρ1, e1, e2⟩ := bind_ok e
  refine ⟨L, ρ, fp, R, g, items, ls, ρ1, e1, fun J H1 fp1 R1 g1 v1 ok => ?_⟩
  refine ⟨fun i m σ H => ∃ ρ fp R, Gd X.K σ H ρ fp R ∧ Mv (ls ++ L) H1 fp1 R1 H fp R ∧ m = items.length - i ∧ i ≤ items.length ∧ loopF (ls ++ L) tg (fun r => exec C (ls ++ L) s r) (items.drop i) ρ = .ok fl ρ' ∧ Aft X.K T L σ H fp R D fl ρ', ⟨items.length, ρ1, fp1, R1, g1, .refl, by simp, Nat.zero_le _, e2, q.after g1 v1 .refl⟩, ?_⟩
  rintro i m σ H ⟨ρ, fp, R, g, mv, hm, hi, e, q⟩
  have mvl : Mv ls H1 fp1 R1 H fp R := mv.mono fun i hi => List.mem_append_left _ hi
  cases hit : items[i]? with
  | none =>
    refine .inl ⟨ok.stop σ H ρ fp R g mvl i hit, ?_⟩
    rw [List.drop_eq_nil_of_le (List.getElem?_eq_none_iff.mp hit)] at e
    cases e
    exact q σ H fp R g .refl .refl
  | some p =>
    obtain ⟨w, d⟩ := p
    obtain ⟨hlt, hge⟩ := List.getElem?_eq_some_iff.mp hit
    rw [List.drop_eq_getElem_cons hlt, hge] at e
    obtain ⟨jg, jy⟩ := ok.go σ H ρ fp R g mvl i w d hit
    refine .inr ⟨jg, ?_⟩
    have e : (match asgT (ls ++ L) tg (ownK w) d ρ with
      | none => PV.R.bad
      | some ρ1 => (exec C (ls ++ L) s ρ1).bind fun f ρ2 => match f with
        | .nx => loopF (ls ++ L) tg (fun r => exec C (ls ++ L) s r) (items.drop (i + 1)) ρ2
        | .ct => loopF (ls ++ L) tg (fun r => exec C (ls ++ L) s r) (items.drop (i + 1)) ρ2
        | .brk => .ok .nx ρ2
        | .ret m d => .ok (.ret m d) ρ2) = .ok fl ρ' := e
    cases ha : asgT (ls ++ L) tg (ownK w) d ρ with
    | none => rw [ha] at e; cases e
    | some ρ2 =>
      rw [ha] at e
      obtain ⟨f2, ρ3, e2, e3⟩ := bind_ok e
      refine ⟨fun σ' H' => ∃ ρ fp R, Gd X.K σ' H' ρ fp R ∧ Mv (ls ++ L) H1 fp1 R1 H' fp R ∧ loopF (ls ++ L) tg (fun r => exec C (ls ++ L) s r) (items.drop (i + 1)) ρ = .ok fl ρ' ∧ Aft X.K T L σ' H' fp R D fl ρ', fun σ' H' ⟨ρ, fp, R, h1, h2, h3, h4⟩ => ⟨m - 1, by omega, ρ, fp, R, h1, h2, by omega, by omega, h3, h4⟩, fun x H3 hy => ?_⟩
      obtain ⟨g3, mv3, rp⟩ := jy x H3 hy
      refine ⟨T, ls ++ L, ρ, fp, R, ownK w, d, [], ρ2, fun j hj => hT j (List.mem_append_left _ hj), g3, by cases w <;> simp [ownK, OkK], rp, .nil, ha, fun σ4 fp4 g4 s4 k4 => ?_⟩
      have mv4 : Mv (ls ++ L) H fp R H3 fp4 R := s4.mv (mv3 _) .nil
      have q4 := q.after g4 (mv4.mono fun i hi => List.mem_append_right _ hi) k4
      have mv5 : Mv (ls ++ L) H1 fp1 R1 H3 fp4 R := mv.trans g mv4
      refine ⟨T, ls ++ L, ρ2, fp4, R, fun j hj => hT j (List.mem_append_right _ hj), g4, f2, ρ3, e2, fun σ5 H5 fp5 R5 g5 v5 k5 => ?_⟩
      have q5 := q4.after g5 (v5.mono fun i hi => List.mem_append_right _ hi) k5
      cases f2 with
      | nx => exact ⟨ρ3, fp5, R5, g5, mv5.trans g4 v5, e3, q5⟩
      | ct => exact ⟨ρ3, fp5, R5, g5, mv5.trans g4 v5, e3, q5⟩
      | brk => cases e3; exact q5 σ5 H5 fp5 R5 g5 .refl .refl
      | ret m d =>
        cases e3
        exact fun v f o n => q4 σ5 H5 fp5 R5 g5 (v5.mono fun i hi => List.mem_append_right _ hi) k5 v f o (n.mono fun i hi => List.mem_append_right _ hi)
end
end PV
end

section
set_option Elab.async false
set_option linter.all false
set_option autoImplicit false
set_option maxRecDepth 100000
namespace PV
open PySem PySem.Spec PyProof.Rows L2
variable [Tbs]
section
variable {X : Cx} {C : Ctx} {a b c es : Ex} {s t : PV.St} {st : Stmt} {sts sts2 : List Stmt} {ea eb ec e tge : Expr} {eas : List Expr} {kws : List Keyword} {pos kpos : Pos} {nm : Option Str} {x : Str} {tg : Tg}
/-- over a list that only the loop has, its things given to the name one after the other -/
theorem sv_forown (hp : PassesOwn (model X.prog X.w) X.A X.env X.xe) (hc : X.calm = true) (ha : PEv X C a ea) (hg : PGv X tg tge) (hb : PBv X C s sts) (hs : ∀ x, foldedSetIterable ea X.env x = pure x := by intro _; rfl) : PSv X C (.forown tg a s) (.For tge ea sts [] pos) := psI (ps_for hp hc (pi_list ha) hg hb hs) fun D σ H ⟨T, L, ρ, fp, R, hT, g, fl, ρ', e, q⟩ => by
  obtain ⟨⟨m, d⟩, ρ1, e1, e2⟩ := bind_ok e
  refine ⟨L, ρ, fp, R, g, m, d, ρ1, e1, fun v H1 fp1 R1 f1 g1 v1 o1 n1 => ?_⟩
  dsimp only at e2
  split at e2
  · rename_i xs
    have rp : RpO X.K H1 (.list xs) v f1 := o1.rp
    simp only [RpO] at rp
    obtain ⟨a0, vs, f0, rfl, hl, rfl, hs0⟩ := rp
    have len0 : xs.length = vs.length := hs0.length
    refine ⟨a0, rfl, ⟨vs, .of hl⟩, ?_⟩
    refine ⟨fun i m σ' H' => ∃ ρ' fp' R' fr, Gd X.K σ' H' ρ' fp' R' ∧ Mv L H fp R H' fp' R' ∧ Keep T σ σ' ∧ Tmp H' fp' R' (a0 :: fr) ∧ New L H fp fr ∧ H' a0 = some (.lst vs) ∧ RpOs X.K H' (xs.drop i) (vs.drop i) fr ∧ m = xs.length - i ∧ i ≤ xs.length ∧ ∃ ρ2, loopF L tg (fun r => exec C L s r) ((xs.drop i).map fun x => (true, x)) ρ' = .ok fl ρ2 ∧ Aft X.K T L σ H fp R D fl ρ2,
      ⟨xs.length, ρ1, fp1, R1, f0, g1, v1, .refl, o1.tm, fun x hx => n1 x (List.mem_cons_of_mem _ hx), hl, hs0, by simp, Nat.zero_le _, ρ', e2, q⟩, ?_⟩
    rintro i m σ2 H2 ⟨ρ2, fp2, R2, fr, g2, mv, kp, t2, nr, hl2, rp2, hm, hi, ρ9, e, q⟩
    cases hit : xs[i]? with
    | none =>
      have hle := List.getElem?_eq_none_iff.mp hit
      refine .inl ⟨⟨vs, .of hl2, by omega⟩, ?_⟩
      rw [List.drop_eq_nil_of_le hle] at e
      cases e
      exact q σ2 H2 fp2 R2 g2 mv kp
    | some d =>
      obtain ⟨hlt, hge⟩ := List.getElem?_eq_some_iff.mp hit
      rw [List.drop_eq_getElem_cons hlt, hge] at e
      have hv : i < vs.length := by omega
      rw [List.drop_eq_getElem_cons hlt, List.drop_eq_getElem_cons hv, hge] at rp2
      simp only [RpOs] at rp2
      obtain ⟨v', r', fa, fb, ev, rfl, ra, rb⟩ := rp2
      simp only [List.cons.injEq] at ev
      obtain ⟨rfl, rfl⟩ := ev
      refine .inr ⟨⟨vs, vs[i], .of hl2, List.getElem?_eq_getElem hv⟩, ?_⟩
      have e : (match asgT L tg (ownK true) d ρ2 with
        | none => PV.R.bad
        | some ρ1 => (exec C L s ρ1).bind fun f ρ2 => match f with
          | .nx => loopF L tg (fun r => exec C L s r) ((xs.drop (i + 1)).map fun x => (true, x)) ρ2
          | .ct => loopF L tg (fun r => exec C L s r) ((xs.drop (i + 1)).map fun x => (true, x)) ρ2
          | .brk => .ok .nx ρ2
          | .ret m d => .ok (.ret m d) ρ2) = .ok fl ρ9 := e
      cases has : asgT L tg (ownK true) d ρ2 with
      | none => rw [has] at e; cases e
      | some ρ3 =>
        rw [has] at e
        obtain ⟨f2, ρ4, e2, e3⟩ := bind_ok e
        have nd := List.nodup_cons.mp t2.nd
        have nd2 := List.nodup_append.mp nd.2
        refine ⟨fun σ' H' => ∃ ρ' fp' R', Gd X.K σ' H' ρ' fp' R' ∧ Mv L H fp R H' fp' R' ∧ Keep T σ σ' ∧ Tmp H' fp' R' (a0 :: fb) ∧ H' a0 = some (.lst vs) ∧ RpOs X.K H' (xs.drop (i + 1)) (vs.drop (i + 1)) fb ∧ loopF L tg (fun r => exec C L s r) ((xs.drop (i + 1)).map fun x => (true, x)) ρ' = .ok fl ρ9,
          fun σ' H' ⟨ρ5, fp5, R5, h1, h2, h3, h4, h5, h6, h7⟩ => ⟨m - 1, by omega, ρ5, fp5, R5, fb, h1, h2, h3, h4, fun x hx => nr x (List.mem_append_right _ hx), h5, h6, by omega, by omega, ρ9, h7, q⟩, fun x H3 hy => ?_⟩
        obtain ⟨eH, hy⟩ := hy
        subst eH
        have := hy vs (.of hl2)
        rw [List.getElem?_eq_getElem hv] at this
        cases this
        have ta : Tmp H3 fp2 R2 fa := t2.sub (fun a h => List.mem_cons_of_mem _ (List.mem_append_left _ h)) nd2.1
        have tb : Tmp H3 fp2 R2 (a0 :: fb) := t2.sub (fun a h => (List.mem_cons.mp h).elim (fun e => e ▸ List.mem_cons_self) fun h => List.mem_cons_of_mem _ (List.mem_append_right _ h)) (List.nodup_cons.mpr ⟨fun h => nd.1 (List.mem_append_right _ h), nd2.2.1⟩)
        refine ⟨T, L, ρ2, fp2, R2, ownK true, d, fa, ρ3, fun j hj => hT j (List.mem_append_left _ hj), g2, .inl rfl, ra, ta, has, fun σ4 fp4 g4 s4 k4 => ?_⟩
        have tb4 : Tmp H3 fp4 R2 (a0 :: fb) := ⟨tb.nd, fun j x hx z => by
          rcases s4.sub j x z with z | z
          · exact tb.dj j x hx z
          · rcases List.mem_cons.mp hx with rfl | hx
            · exact nd.1 (List.mem_append_left _ z)
            · exact nd2.2.2 x z x hx rfl, tb.dR, tb.tr⟩
        have mv4 : Mv L H fp R H3 fp4 R2 := s4.mv mv fun x hx => nr x (List.mem_append_left _ hx)
        have q4 := q
        refine ⟨T, L, ρ3, fp4, R2, fun j hj => hT j (List.mem_append_right _ hj), g4, f2, ρ4, e2, fun σ5 H5 fp5 R5 g5 v5 k5 => ?_⟩
        have mv5 := mv4.trans g4 v5
        have kp5 := kp.trans (k4.trans k5)
        obtain ⟨tb5, kb5⟩ := tb4.step v5
        have nxt : ∀ {r : PV.R Fl}, loopF L tg (fun r => exec C L s r) ((xs.drop (i + 1)).map fun x => (true, x)) ρ4 = .ok fl ρ9 → ∃ ρ' fp' R', Gd X.K σ5 H5 ρ' fp' R' ∧ Mv L H fp R H5 fp' R' ∧ Keep T σ σ5 ∧ Tmp H5 fp' R' (a0 :: fb) ∧ H5 a0 = some (.lst vs) ∧ RpOs X.K H5 (xs.drop (i + 1)) (vs.drop (i + 1)) fb ∧ loopF L tg (fun r => exec C L s r) ((xs.drop (i + 1)).map fun x => (true, x)) ρ' = .ok fl ρ9 := fun {r} e => 
          ⟨ρ4, fp5, R5, g5, mv5, kp5, tb5, (kb5 a0 List.mem_cons_self).trans hl2, RpOs.stay v5.tup (fun x hx => kb5 x (List.mem_cons_of_mem _ hx)) rb, e⟩
        cases f2 with
        | nx => exact nxt (r := .bad) e3
        | ct => exact nxt (r := .bad) e3
        | brk => cases e3; exact q σ5 H5 fp5 R5 g5 mv5 kp5
        | ret m d =>
          cases e3
          exact fun v f o n => q σ5 H5 fp5 R5 g5 mv5 kp5 v f o (n.back g4 mv4)
  · cases e2
end
end PV
end

section
set_option Elab.async false
set_option linter.all false
set_option autoImplicit false
set_option maxRecDepth 100000
namespace PV
open PySem PySem.Spec PyProof.Rows L2
variable [Tbs]
section
variable {K : PySem.W.Frag} {σ σ1 σ2 σ' : L2.St} {H H0 H1 H2 H' : Hp} {ρ ρ1 ρ2 ρ' : Env} {fp fp0 fp1 fp2 fp' : Nat → List Addr} {R R0 R1 R2 R' : Addr → Prop} {L L' T T' ls : List Nat} {f g h f' : List Addr} {m : M} {d e : D} {v v0 v1 : V} {Q : VK} {w : Bool} {k : CK} {xs ys ds ps : List D} {vs us : List V} {p : D}
/-- one step down, by a key, through what is the holder's own -/
def HStep (H : Hp) (f : List Addr) (v : V) (p : D) (v1 : V) : Prop :=
  (∃ a vs n i, v = .ref a ∧ ((H a = some (.lst vs) ∧ a ∈ f) ∨ H a = some (.tup vs)) ∧ p = .int i ∧ nth vs.length i = some n ∧ vs[n]? = some v1) ∨
  ∃ a l key, v = .ref a ∧ H a = some (.dK l) ∧ a ∈ f ∧ p = kD key ∧ valV l key = some v1
def HPath (H : Hp) (f : List Addr) (v0 : V) : List D → V → Prop
  | [], v => v = v0
  | p :: r, v => ∃ v1, HStep H f v0 p v1 ∧ HPath H f v1 r v
theorem HStep.fn (a : HStep H f v p v0) (b : HStep H g v p v1) : v0 = v1 := by
  rcases a with ⟨a, vs, n, i, rfl, h1, rfl, h2, h3⟩ | ⟨a, l, key, rfl, h1, h2, rfl, h3⟩ <;> rcases b with ⟨a', vs', n', i', e, h1', e2, h2', h3'⟩ | ⟨a', l', key', e, h1', h2', e2, h3'⟩
  · cases e; cases e2
    have : vs = vs' := by
      rcases h1 with h1 | h1 <;> rcases h1' with h1' | h1'
      · exact HO.lst.inj (Option.some.inj (h1.1.symm.trans h1'.1))
      · rw [h1.1] at h1'; cases h1'
      · rw [h1] at h1'; cases h1'.1
      · exact HO.tup.inj (Option.some.inj (h1.symm.trans h1'))
    subst this
    rw [h2] at h2'; cases h2'
    rw [h3] at h3'; cases h3'; rfl
  · cases e
    rcases h1 with h1 | h1
    · rw [h1.1] at h1'; cases h1'
    · rw [h1] at h1'; cases h1'
  · cases e
    rcases h1' with h1' | h1'
    · rw [h1] at h1'; cases h1'.1
    · rw [h1] at h1'; cases h1'
  · cases e
    rw [h1] at h1'
    cases h1'
    have : key = key' := by
      revert e2
      cases key <;> cases key' <;> simp [kD]
    subst this
    rw [h3] at h3'; cases h3'; rfl
theorem HPath.fn : ∀ {ps : List D} {v0 v v1 : V}, HPath H f v0 ps v → HPath H g v0 ps v1 → v = v1
  | [], v0, v, v1, a, b => a.trans b.symm
  | p :: r, v0, v, v1, ⟨x, a1, a2⟩, ⟨y, b1, b2⟩ => by
    have := a1.fn b1
    subst this
    exact HPath.fn a2 b2
theorem HStep.stay (t : TupS H H') (k : ∀ a ∈ f, H' a = H a) (a : HStep H f v p v1) : HStep H' f v p v1 := by
  rcases a with ⟨a, vs, n, i, rfl, h1, rfl, h2, h3⟩ | ⟨a, l, key, rfl, h1, h2, rfl, h3⟩
  · exact .inl ⟨a, vs, n, i, rfl, h1.imp (fun z => ⟨(k a z.2).trans z.1, z.2⟩) (t _ _), rfl, h2, h3⟩
  · exact .inr ⟨a, l, key, rfl, (k a h2).trans h1, h2, rfl, h3⟩
theorem HPath.stay (t : TupS H H') (k : ∀ a ∈ f, H' a = H a) : ∀ {ps : List D} {v0 v : V}, HPath H f v0 ps v → HPath H' f v0 ps v
  | [], v0, v, a => a
  | p :: r, v0, v, ⟨x, a1, a2⟩ => ⟨x, a1.stay t k, HPath.stay t k a2⟩
theorem HStep.mono (s : ∀ a ∈ f, a ∈ g) (a : HStep H f v p v1) : HStep H g v p v1 := by
  rcases a with ⟨a, vs, n, i, rfl, h1, rfl, h2, h3⟩ | ⟨a, l, key, rfl, h1, h2, rfl, h3⟩
  · exact .inl ⟨a, vs, n, i, rfl, h1.imp (fun z => ⟨z.1, s a z.2⟩) id, rfl, h2, h3⟩
  · exact .inr ⟨a, l, key, rfl, h1, s a h2, rfl, h3⟩
theorem HPath.mono (s : ∀ a ∈ f, a ∈ g) : ∀ {ps : List D} {v0 v : V}, HPath H f v0 ps v → HPath H g v0 ps v
  | [], v0, v, a => a
  | p :: r, v0, v, ⟨x, a1, a2⟩ => ⟨x, a1.mono s, HPath.mono s a2⟩
theorem HPath.snoc : ∀ {ps : List D} {v0 v v1 : V} {p : D}, HPath H f v0 (ps ++ [p]) v1 ↔ ∃ v, HPath H f v0 ps v ∧ HStep H f v p v1
  | [], v0, v, v1, p => ⟨fun ⟨x, a1, a2⟩ => ⟨v0, rfl, by cases a2; exact a1⟩, fun ⟨v, h1, h2⟩ => by cases h1; exact ⟨v1, h2, rfl⟩⟩
  | q :: r, v0, v, v1, p => ⟨fun ⟨x, a1, a2⟩ => let ⟨v, h1, h2⟩ := (HPath.snoc (v := v)).mp a2; ⟨v, ⟨x, a1, h1⟩, h2⟩, fun ⟨v, ⟨x, a1, h1⟩, h2⟩ => ⟨x, a1, (HPath.snoc (v := v)).mpr ⟨v, h1, h2⟩⟩⟩
/-- one of a row, and the row with another in its place -/
theorem RpOs.lens : ∀ {xs : List D} {vs : List V} {n : Nat} {x : D} {g : List Addr}, RpOs K H xs vs g → xs[n]? = some x → ∃ v g1 gn g2, vs[n]? = some v ∧ g = g1 ++ (gn ++ g2) ∧ RpO K H x v gn ∧
    ∀ {H' : Hp} {y : D} {w : V} {gn' : List Addr}, TupS H H' → (∀ a, a ∈ g1 ∨ a ∈ g2 → H' a = H a) → RpO K H' y w gn' → RpOs K H' (xs.set n y) (vs.set n w) (g1 ++ (gn' ++ g2))
  | [], vs, n, x, g, h, e => by simp at e
  | a :: xs, vs, 0, x, g, h, e => by
    simp at e; subst e
    simp only [RpOs] at h
    obtain ⟨v, r, f1, f2, rfl, rfl, h1, h2⟩ := h
    refine ⟨v, [], f1, f2, rfl, rfl, h1, fun {H' y w gn'} t k q => ?_⟩
    simp only [List.set_cons_zero, RpOs, List.nil_append]
    exact ⟨w, r, gn', f2, rfl, rfl, q, RpOs.stay t (fun a ha => k a (.inr ha)) h2⟩
  | a :: xs, vs, n + 1, x, g, h, e => by
    simp only [RpOs] at h
    obtain ⟨v, r, f1, f2, rfl, rfl, h1, h2⟩ := h
    obtain ⟨v', g1, gn, g2, e1, rfl, h3, h4⟩ := RpOs.lens h2 (by simpa using e)
    refine ⟨v', f1 ++ g1, gn, g2, by simpa using e1, by simp, h3, fun {H' y w gn'} t k q => ?_⟩
    simp only [List.set_cons_succ, RpOs]
    exact ⟨v, r.set n w, f1, g1 ++ (gn' ++ g2), rfl, by simp, RpO.stay t (fun a ha => k a (.inl (List.mem_append_left _ ha))) h1, h4 t (fun a ha => k a (ha.imp (List.mem_append_right _) id)) q⟩
/-- look and put, on both sides -/
theorem put_at (key : Key) (y : D) (w : V) : ∀ {l : List (Key × V)} {kvs : List (D × D)}, l.map (fun p => kD p.1) = kvs.map (·.1) → (l.map (·.1)).Nodup →
    (look kvs (kD key) = none ∧ valV l key = none ∧ putKV kvs (kD key) y = kvs ++ [(kD key, y)] ∧ putK l key w = l ++ [(key, w)] ∧ key ∉ l.map (·.1)) ∨
    ∃ (n : Nat) (d : D) (v : V), look kvs (kD key) = some d ∧ (kvs.map (·.2))[n]? = some d ∧ valV l key = some v ∧ (l.map (·.2))[n]? = some v ∧
      (putKV kvs (kD key) y).map (·.1) = kvs.map (·.1) ∧ (putKV kvs (kD key) y).map (·.2) = (kvs.map (·.2)).set n y ∧ (putK l key w).map (·.1) = l.map (·.1) ∧ (putK l key w).map (·.2) = (l.map (·.2)).set n w
  | [], [], _, _ => .inl ⟨rfl, rfl, rfl, rfl, by simp⟩
  | [], _ :: _, h, _ => by simp at h
  | _ :: _, [], h, _ => by simp at h
  | (a, v) :: l, (x, d) :: kvs, h, nd => by
    simp only [List.map_cons, List.cons.injEq] at h
    obtain ⟨hx, h⟩ := h
    simp only [List.map_cons, List.nodup_cons] at nd
    by_cases e : a = key
    · subst e
      have hk : PyData.eqv x (kD a) = true := by rw [← hx, eqv_kD]; exact decide_eq_true rfl
      refine .inr ⟨0, d, v, ?_, rfl, valV_pos (p := (a, v)) rfl, rfl, ?_, ?_, ?_, ?_⟩
      · unfold look; rw [if_pos hk]
      · unfold putKV; rw [if_pos hk]; rfl
      · unfold putKV; rw [if_pos hk]; rfl
      · unfold putK
        rw [if_pos (by simp)]
        simp only [List.map_map, List.map_cons]
        congr 1
        refine List.map_congr_left fun p _ => ?_
        show (if p.1 = a then (p.1, w) else p).1 = p.1
        split <;> rfl
      · unfold putK
        rw [if_pos (by simp)]
        simp only [List.map_cons, List.set_cons_zero, if_pos rfl]
        congr 1
        rw [List.map_map]
        refine List.map_congr_left fun p hp => ?_
        show (if p.1 = a then (p.1, w) else p).2 = p.2
        rw [if_neg fun z => nd.1 (List.mem_map.mpr ⟨p, hp, z⟩)]
    · have hk : ¬ PyData.eqv x (kD key) = true := by rw [← hx, eqv_kD, decide_eq_false e]; exact Bool.false_ne_true
      have el : look ((x, d) :: kvs) (kD key) = look kvs (kD key) := by conv => lhs; unfold look; rw [if_neg hk]
      have ep : putKV ((x, d) :: kvs) (kD key) y = (x, d) :: putKV kvs (kD key) y := by conv => lhs; unfold putKV; rw [if_neg hk]
      have ev : valV ((a, v) :: l) key = valV l key := valV_neg (p := (a, v)) e
      have eq : putK ((a, v) :: l) key w = (a, v) :: putK l key w := by
        unfold putK
        simp only [List.any_cons, decide_eq_false e, Bool.false_or]
        split
        · simp [e]
        · rfl
      rw [el, ep, ev, eq]
      rcases put_at key y w h nd.2 with ⟨h1, h2, h3, h4, h5⟩ | ⟨n, d', v', h1, h2, h3, h4, h5, h6, h7, h8⟩
      · exact .inl ⟨h1, h2, by rw [h3]; rfl, by rw [h4]; rfl, by simp [h5]; exact fun z => e z.symm⟩
      · exact .inr ⟨n + 1, d', v', h1, by simpa using h2, h3, by simpa using h4, by simp [h5], by simp [h6], by simp [h7], by simp [h8]⟩
theorem set_same {α : Type} {l : List α} {n : Nat} {x : α} (h : l[n]? = some x) : l.set n x = l := by
  obtain ⟨hn, rfl⟩ := List.getElem?_eq_some_iff.mp h
  exact List.set_getElem_self hn
theorem key_kD {k : D} (h : keyOk k = true) : ∃ key, k = kD key := by
  cases k with
  | int i => exact ⟨.inl i, rfl⟩
  | str x => exact ⟨.inr x, rfl⟩
  | _ => cases h
theorem mapk {α β γ : Type} {l : List (α × β)} {m : List (γ × D)} {g : α → γ} (h1 : l.map (fun p => g p.1) = m.map (·.1)) : (l.map (·.1)).map g = m.map (·.1) := by rw [List.map_map]; exact h1
/-- a part by its path; the whole with another in its place -/
theorem RpO.lens {F : D → Option D} : ∀ {ps : List D} {d d' : D} {v0 : V} {f : List Addr}, RpO K H d v0 f → updD d ps F = some d' → ∃ e e' v f1 fe f2, F e = some e' ∧ atP d ps = some e ∧ f = f1 ++ (fe ++ f2) ∧ RpO K H e v fe ∧ HPath H f v0 ps v ∧
    ∀ {H' : Hp} {fe' : List Addr}, TupS H H' → (∀ a, a ∈ f1 ∨ a ∈ f2 → H' a = H a) → RpO K H' e' v fe' → RpO K H' d' v0 (f1 ++ (fe' ++ f2))
  | [], d, d', v0, f, h, u => ⟨d, d', v0, [], f, [], u, rfl, by simp, h, rfl, fun {H' fe'} _ _ q => by simpa using q⟩
  | i :: r, d, d', v0, f, h, u => by
    unfold updD at u
    obtain ⟨x, hx, u⟩ := Option.bind_eq_some_iff.mp u
    obtain ⟨y, hy, u⟩ := Option.bind_eq_some_iff.mp u
    have up : ∀ {P : D → Prop}, True := trivial
    have nxt : ∀ {vx : V} {g1 gn g2 ff : List Addr}, RpO K H x vx gn → HStep H ff v0 i vx → (∀ a ∈ gn, a ∈ ff) → (∀ {H' : Hp} {fe' : List Addr}, TupS H H' → (∀ a, a ∈ g1 ∨ a ∈ g2 → H' a = H a) → RpO K H' y vx fe' → RpO K H' d' v0 (g1 ++ (fe' ++ g2))) → ff = g1 ++ (gn ++ g2) →
        ∃ e e' v f1 fe f2, F e = some e' ∧ atP d (i :: r) = some e ∧ ff = f1 ++ (fe ++ f2) ∧ RpO K H e v fe ∧ HPath H ff v0 (i :: r) v ∧ ∀ {H' : Hp} {fe' : List Addr}, TupS H H' → (∀ a, a ∈ f1 ∨ a ∈ f2 → H' a = H a) → RpO K H' e' v fe' → RpO K H' d' v0 (f1 ++ (fe' ++ f2)) := by
      intro vx g1 gn g2 ff h1 h2 hs h3 hf
      obtain ⟨e, e', v, f1, fe, f2, q1, q2, rfl, q3, q4, q5⟩ := RpO.lens h1 hy
      refine ⟨e, e', v, g1 ++ f1, fe, f2 ++ g2, q1, by unfold atP; rw [hx]; exact q2, by rw [hf]; simp, q3, ⟨vx, h2, q4.mono hs⟩, fun {H' fe'} t k q => ?_⟩
      have := h3 t (fun a ha => k a (ha.imp (List.mem_append_left _) (List.mem_append_right _))) (q5 t (fun a ha => k a (ha.imp (List.mem_append_right _) (List.mem_append_left _))) q)
      simpa using this
    cases d with
    | list zs =>
      cases i with
      | int i =>
        obtain ⟨n, hn, hx⟩ := Option.bind_eq_some_iff.mp hx
        obtain ⟨n', hn', u⟩ := Option.map_eq_some_iff.mp u
        rw [hn] at hn'; cases hn'
        subst u
        simp only [RpO] at h
        obtain ⟨a, vs, g, rfl, hl, rfl, hs⟩ := h
        obtain ⟨vx, g1, gn, g2, e1, rfl, h3, h4⟩ := hs.lens hx
        refine nxt (g1 := a :: g1) (g2 := g2) h3 (.inl ⟨a, vs, n, i, rfl, .inl ⟨hl, List.mem_cons_self⟩, rfl, by rw [← hs.length]; exact hn, e1⟩) (fun b hb => by simp [hb]) (fun {H' fe'} t k q => ?_) rfl
        simp only [RpO]
        have := h4 t (fun b hb => k b (hb.imp (List.mem_cons_of_mem _) id)) q
        rw [set_same e1] at this
        exact ⟨a, vs, g1 ++ (fe' ++ g2), rfl, (k a (.inl List.mem_cons_self)).trans hl, rfl, this⟩
      | _ => cases hx
    | tuple zs =>
      cases i with
      | int i =>
        obtain ⟨n, hn, hx⟩ := Option.bind_eq_some_iff.mp hx
        obtain ⟨n', hn', u⟩ := Option.map_eq_some_iff.mp u
        rw [hn] at hn'; cases hn'
        subst u
        simp only [RpO] at h
        obtain ⟨a, vs, rfl, hl, hs⟩ := h
        obtain ⟨vx, g1, gn, g2, e1, rfl, h3, h4⟩ := hs.lens hx
        refine nxt (g1 := g1) (g2 := g2) h3 (.inl ⟨a, vs, n, i, rfl, .inr hl, rfl, by rw [← hs.length]; exact hn, e1⟩) (fun b hb => by simp [hb]) (fun {H' fe'} t k q => ?_) rfl
        simp only [RpO]
        have := h4 t k q
        rw [set_same e1] at this
        exact ⟨a, vs, rfl, hl.stay t, this⟩
      | _ => cases hx
    | dict kvs =>
      have hx : (if keyOk i then look kvs i else none) = some x := hx
      have u : (if keyOk i then some (PyData.dict (putKV kvs i y)) else none) = some d' := u
      cases hk : keyOk i with
      | false => rw [hk] at hx; cases hx
      | true =>
        rw [hk] at hx u
        cases u
        have hx : look kvs i = some x := hx
        obtain ⟨key, rfl⟩ := key_kD hk
        simp only [RpO] at h
        obtain ⟨a, u, vs, g, rfl, hl, ⟨l, rfl, e1, e2, nd⟩, rfl, hs⟩ := h
        subst e2
        have hs := RpOk_iff.mp hs
        rcases put_at key y (.int 0) e1 nd with ⟨h1, _⟩ | ⟨n, d1, v1, h1, h2, h3, h4, h5, h6, _, _⟩
        · rw [h1] at hx; cases hx
        · rw [h1] at hx; cases hx
          obtain ⟨vx, g1, gn, g2, e3, rfl, h7, h8⟩ := hs.lens h2
          rw [h4] at e3; cases e3
          refine nxt (g1 := a :: g1) (g2 := g2) h7 (.inr ⟨a, l, key, rfl, hl, List.mem_cons_self, rfl, h3⟩) (fun b hb => by simp [hb]) (fun {H' fe'} t k q => ?_) rfl
          simp only [RpO]
          have := h8 t (fun b hb => k b (hb.imp (List.mem_cons_of_mem _) id)) q
          rw [set_same h4, ← h6] at this
          exact ⟨a, .dK l, l.map (·.2), g1 ++ (fe' ++ g2), rfl, (k a (.inl List.mem_cons_self)).trans hl, ⟨l, rfl, by rw [h5]; exact e1, rfl, nd⟩, rfl, RpOk_iff.mpr this⟩
    | none => cases hx
    | bool b => cases hx
    | int b => cases hx
    | str b =>
      cases i <;> cases u
end
end PV
end

section
set_option Elab.async false
set_option linter.all false
set_option autoImplicit false
set_option maxRecDepth 100000
namespace PV
open PySem PySem.Spec PyProof.Rows L2
variable [Tbs]
section
variable {K : PySem.W.Frag} {σ σ1 σ2 σ' : L2.St} {H H0 H1 H2 H' : Hp} {ρ ρ1 ρ2 ρ' : Env} {fp fp0 fp1 fp2 fp' : Nat → List Addr} {R R0 R1 R2 R' : Addr → Prop} {L L' T T' ls : List Nat} {f g h f' fv : List Addr} {m : M} {d e d' : D} {v v0 v1 : V} {Q : VK} {w : Bool} {k k' : CK} {xs ys ds ps : List D} {vs us ws : List V} {p : D} {x : Nat} {a : Addr} {u : HO}
theorem tups_at (ht : ∀ t, H a ≠ some (.tup t)) : TupS H (upd H a u) := fun b xs e => by rw [upd_ne fun z => ht xs (by rw [← z]; exact e)]; exact e
theorem chg_ok (hu : Pl u) (g : Gd K σ H ρ fp R) (hx : x < ρ.length) (hv : σ[x]? = some (some v0)) (ha : a ∈ fp x) (ht : ∀ t, H a ≠ some (.tup t)) (t : Tmp H fp R fv)
    (r1 : ∀ b, R b → R' b) (r2 : ∀ b, R' b → R b ∨ b ∈ fv ∨ b ∈ fp x) (nd : f'.Nodup) (s : ∀ b ∈ f', b ∈ fp x ∨ b ∈ fv) (dis : ∀ b ∈ f', ¬ R' b) (rp : RpK K (upd H a u) R' k' d' v0 f') :
    Gd K σ (upd H a u) (ρ.set x (some ⟨k', d'⟩)) (fpS fp x f') R' where
  len := by simpa using g.len
  tb := Tabs_upd g.tb (.inr (g.tr x a ha))
  cell := fun j c h => by
    rw [getc_set hx] at h
    unfold fpS
    by_cases e : j = x
    · subst e
      rw [if_pos rfl] at h ⊢
      cases h
      exact ⟨v0, hv, rp⟩
    · rw [if_neg e] at h ⊢
      obtain ⟨v, h1, h2⟩ := g.cell j c h
      exact ⟨v, h1, h2.stay (tups_at ht) (fun b q => upd_ne fun z => g.dR x a ha (z ▸ q)) r1 fun b q => upd_ne fun z => e (g.dj j x a (z ▸ q) ha)⟩
  non := fun j h => by
    rw [getc_set hx] at h
    unfold fpS
    by_cases e : j = x
    · rw [if_pos e] at h; cases h
    · rw [if_neg e] at h ⊢; exact g.non j h
  nd := fun j => by
    unfold fpS; split
    · exact nd
    · exact g.nd j
  dj := fun j l b h1 h2 => by
    unfold fpS at h1 h2
    split at h1 <;> split at h2
    · rename_i e1 e2; rw [e1, e2]
    · rename_i e1 e2
      rcases s b h1 with q | q
      · exact absurd (g.dj l x b h2 q) e2
      · exact absurd h2 (t.dj l b q)
    · rename_i e1 e2
      rcases s b h2 with q | q
      · exact absurd (g.dj j x b h1 q) e1
      · exact absurd h1 (t.dj j b q)
    · exact g.dj j l b h1 h2
  dR := fun j b h1 h2 => by
    unfold fpS at h1
    split at h1
    · exact dis b h1 h2
    · rename_i e
      rcases r2 b h2 with q | q | q
      · exact g.dR j b h1 q
      · exact t.dj j b q h1
      · exact e (g.dj j x b h1 q)
  tr := fun j b h1 => by
    have up : nt H b → nt (upd H a u) b := fun q => by
      by_cases z : b = a
      · subst z; exact hu.nt upd_same
      · exact q.eq (upd_ne z)
    unfold fpS at h1
    split at h1
    · exact up ((s b h1).elim (g.tr x b) (t.tr b))
    · exact up (g.tr j b h1)
  tR := fun b h1 => by
    have up : nt H b → nt (upd H a u) b := fun q => by
      by_cases z : b = a
      · subst z; exact hu.nt upd_same
      · exact q.eq (upd_ne z)
    rcases r2 b h1 with q | q | q
    · exact up (g.tR b q)
    · exact up (t.tr b q)
    · exact up (g.tr x b q)
theorem chg_mv (hu : Pl u) (g : Gd K σ H ρ fp R) (ha : a ∈ fp x) (ht : ∀ t, H a ≠ some (.tup t)) (r1 : ∀ b, R b → R' b) (r2 : ∀ b, R' b → R b ∨ b ∈ fv ∨ b ∈ fp x) (s : ∀ b ∈ f', b ∈ fp x ∨ b ∈ fv)
    (mv : Mv L H0 fp0 R0 H fp R) (hL : x ∉ L) (n : New L H0 fp0 fv) : Mv L H0 fp0 R0 (upd H a u) (fpS fp x f') R' where
  keep := fun b hb hi => by
    rw [upd_ne fun z => ?_]
    · exact mv.keep b hb hi
    · subst z
      rcases mv.nf x b ha with q | ⟨j, q⟩
      · exact hb q
      · by_cases hj : j ∈ L
        · rcases mv.lock j hj b q with z | z
          · exact hL (g.dj x j b ha z ▸ hj)
          · exact g.dR x b ha z
        · exact hi j hj q
  tup := mv.tup.trans (tups_at ht)
  lock := fun i hi b hb => by
    unfold fpS
    rw [if_neg (show ¬ i = x from fun z => hL (by rw [← z]; exact hi))]
    exact (mv.lock i hi b hb).imp id (r1 b)
  reg := fun b q => r1 b (mv.reg b q)
  nf := fun i b hb => by
    unfold fpS at hb
    split at hb
    · rcases s b hb with q | q
      · exact mv.nf x b q
      · exact (n b q).imp id fun ⟨j, _, z⟩ => ⟨j, z⟩
    · exact mv.nf i b hb
  nR := fun b hb => by
    rcases r2 b hb with q | q | q
    · exact mv.nR b q
    · exact .inr ((n b q).imp id fun ⟨j, _, z⟩ => ⟨j, z⟩)
    · exact .inr (mv.nf x b q)
  som := fun b q => by
    by_cases z : b = a
    · subst z; rw [upd_same]; simp
    · rw [upd_ne z]; exact mv.som b q
  sn := fun b q => by
    by_cases z : b = a
    · subst z; exact hu.nt upd_same
    · exact (mv.sn b q).eq (upd_ne z)
theorem updD_nil {F : D → Option D} : updD d [] F = F d := rfl
/-- behind a change of the slot x -/
structure Chg (K : PySem.W.Frag) (σ : L2.St) (H : Hp) (ρ : Env) (fp : Nat → List Addr) (R : Addr → Prop) (x : Nat) (fv : List Addr) (k' : CK) (d' : D) (H' : Hp) (f' : List Addr) (R' : Addr → Prop) : Prop where
  gd : Gd K σ H' (ρ.set x (some ⟨k', d'⟩)) (fpS fp x f') R'
  mv : ∀ {L H0 fp0 R0}, Mv L H0 fp0 R0 H fp R → x ∉ L → New L H0 fp0 fv → Mv L H0 fp0 R0 H' (fpS fp x f') R'
  sub : ∀ b ∈ f', b ∈ fp x ∨ b ∈ fv
  nR : ∀ b, R' b → R b ∨ b ∈ fv ∨ b ∈ fp x
  own : k' = .own ∨ k' = .io → R' = R
/-- what a list or a dict holds -/
def valsOf : D → List D
  | .list xs => xs
  | .dict kvs => kvs.map (·.2)
  | _ => []
/-- the object of a list or a dict -/
def Sh (e : D) (u : HO) (vs : List V) : Prop :=
  match e with
  | .list _ => u = .lst vs
  | .dict kvs => DcA u (kvs.map (·.1)) vs
  | _ => False
theorem Sh.tup (s : Sh e u vs) : ∀ t, u ≠ .tup t := fun t z => by
  subst z
  cases e with
  | list xs => cases s
  | dict kvs => obtain ⟨l, h, _⟩ := s; cases h
  | _ => exact s
theorem Sh.pl (s : Sh e u vs) : Pl u := by
  cases e with
  | list xs => cases s; exact ⟨fun _ z => (by cases z), fun _ z => (by cases z)⟩
  | dict kvs => obtain ⟨l, rfl, _⟩ := s; exact ⟨fun _ z => (by cases z), fun _ z => (by cases z)⟩
  | _ => exact s.elim
theorem Sh.box (s : Sh e u vs) : isBox e = true := by cases e <;> first | rfl | exact s.elim
theorem own_box (hb : isBox e = true) (h : RpO K H e v f) : ∃ a u vs g, v = .ref a ∧ H a = some u ∧ Sh e u vs ∧ f = a :: g ∧ RpOs K H (valsOf e) vs g := by
  cases e with
  | list xs => simp only [RpO] at h; obtain ⟨a, vs, g, h1, h2, h3, h4⟩ := h; exact ⟨a, _, vs, g, h1, h2, rfl, h3, h4⟩
  | dict kvs => simp only [RpO] at h; obtain ⟨a, u, vs, g, h1, h2, h3, h4, h5⟩ := h; exact ⟨a, u, vs, g, h1, h2, h3, h4, RpOk_iff.mp h5⟩
  | _ => cases hb
theorem own_box' (s : Sh e u vs) (hl : H a = some u) (h : RpOs K H (valsOf e) vs g) : RpO K H e (.ref a) (a :: g) := by
  cases e with
  | list xs => simp only [RpO]; cases s; exact ⟨a, vs, g, rfl, hl, rfl, h⟩
  | dict kvs => simp only [RpO]; exact ⟨a, u, vs, g, rfl, hl, s, rfl, RpOk_iff.mpr h⟩
  | _ => exact s.elim
theorem top_box (hb : isBox e = true) (h : RpT K H R e v f) : ∃ a u vs, v = .ref a ∧ H a = some u ∧ Sh e u vs ∧ f = [a] ∧ RpSs K H R (valsOf e) vs := by
  cases e with
  | list xs => obtain ⟨a, vs, h1, h2, h3, h4⟩ := h; exact ⟨a, _, vs, h1, h2, rfl, h3, h4⟩
  | dict kvs => obtain ⟨a, u, vs, h1, h2, h3, h4, h5⟩ := h; exact ⟨a, u, vs, h1, h2, h3, h4, RpSk_iff.mp h5⟩
  | _ => cases hb
theorem top_box' (s : Sh e u vs) (hl : H a = some u) (h : RpSs K H R (valsOf e) vs) : RpT K H R e (.ref a) [a] := by
  cases e with
  | list xs => cases s; exact ⟨a, vs, rfl, hl, rfl, h⟩
  | dict kvs => exact ⟨a, u, vs, rfl, hl, s, rfl, RpSk_iff.mpr h⟩
  | _ => exact s.elim
/-- a list or a dict in the slot x is changed -/
theorem box_chg {F : D → Option D} {Ext : List Addr → Prop} (g : Gd K σ H ρ fp R) (hc : getc ρ x = some ⟨k, d⟩) (hv : σ[x]? = some (some v0)) (hu : updD d ps F = some d') (hk : stK k w ps.isEmpty = some k') (t : Tmp H fp R fv)
    (hF : ∀ e e', F e = some e' → isBox e = true ∧ isBox e' = true) :
    ∃ e e' a u vs, atP d ps = some e ∧ F e = some e' ∧ H a = some u ∧ Sh e u vs ∧ HPath H (fp x) v0 ps (.ref a) ∧ (valsOf e).length = vs.length ∧ a ∈ fp x ∧
      ∀ u' ws, Sh e' u' ws → (w = true → ∀ g, RpOs K H (valsOf e) vs g → g.Nodup → (∀ b ∈ g, b ∉ fv) → ∃ g' gx, RpOs K H (valsOf e') ws g' ∧ g'.Nodup ∧ (∀ b ∈ g', b ∈ g ∨ b ∈ fv) ∧ (∀ b ∈ gx, b ∈ g ∧ b ∉ g') ∧ Ext gx) →
        (∀ S : Addr → Prop, (∀ b, R b → S b) → (∀ b ∈ fv, S b) → RpSs K H S (valsOf e) vs → RpSs K H S (valsOf e') ws) →
        ∃ f' R', Chg K σ H ρ fp R x fv k' d' (upd H a u') f' R' ∧ ((k' = .own ∨ k' = .io) → ∃ gx, Ext gx ∧ ∀ b ∈ gx, b ∈ fp x ∧ b ∉ f') ∧ ((k' = .top ∨ k' = .iot) → (k = .top ∨ k = .iot) → RpSs K H R (valsOf e) vs) := by
  have hx := getc_lt hc
  obtain ⟨v0', hv', rp⟩ := g.cell x _ hc
  rw [hv] at hv'; cases hv'
  have dv : ∀ b, b ∈ fp x → b ∉ fv := fun b h1 h2 => t.dj x b h2 h1
  -- the whole of it is its own
  have own : (k = .own ∨ k = .io) → k' = k → w = true → RpO K H d v0 (fp x) → ∃ e e' a u vs, atP d ps = some e ∧ F e = some e' ∧ H a = some u ∧ Sh e u vs ∧ HPath H (fp x) v0 ps (.ref a) ∧ (valsOf e).length = vs.length ∧ a ∈ fp x ∧
      ∀ u' ws, Sh e' u' ws → (w = true → ∀ g, RpOs K H (valsOf e) vs g → g.Nodup → (∀ b ∈ g, b ∉ fv) → ∃ g' gx, RpOs K H (valsOf e') ws g' ∧ g'.Nodup ∧ (∀ b ∈ g', b ∈ g ∨ b ∈ fv) ∧ (∀ b ∈ gx, b ∈ g ∧ b ∉ g') ∧ Ext gx) →
        (∀ S : Addr → Prop, (∀ b, R b → S b) → (∀ b ∈ fv, S b) → RpSs K H S (valsOf e) vs → RpSs K H S (valsOf e') ws) →
        ∃ f' R', Chg K σ H ρ fp R x fv k' d' (upd H a u') f' R' ∧ ((k' = .own ∨ k' = .io) → ∃ gx, Ext gx ∧ ∀ b ∈ gx, b ∈ fp x ∧ b ∉ f') ∧ ((k' = .top ∨ k' = .iot) → (k = .top ∨ k = .iot) → RpSs K H R (valsOf e) vs) := fun hk hkk hw rp => by
    obtain ⟨e, e', v, f1, fe, f2, q1, q2, q3, q4, q5, q6⟩ := RpO.lens rp hu
    obtain ⟨b1, b2⟩ := hF e e' q1
    obtain ⟨a, u, vs, g0, rfl, hl, hsh, rfl, hs⟩ := own_box b1 q4
    have hax : a ∈ fp x := by rw [q3]; simp
    have ndx := g.nd x
    rw [q3] at ndx
    have nd1 := List.nodup_append.mp ndx
    have nd2 := List.nodup_append.mp nd1.2.1
    have nd3 := List.nodup_cons.mp nd2.1
    have inx : ∀ b, b ∈ f1 ∨ b = a ∨ b ∈ g0 ∨ b ∈ f2 → b ∈ fp x := fun b hb => by rw [q3]; simpa using hb
    refine ⟨e, e', a, u, vs, q2, q1, hl, hsh, q5, hs.length, hax, fun u' ws hsh' h1 h2 => ?_⟩
    obtain ⟨g', gx, z1, z2, z3, z4, z5⟩ := h1 hw g0 hs nd3.2 fun b hb => dv b (inx b (.inr (.inr (.inl hb))))
    have ht : ∀ t, H a ≠ some (.tup t) := fun t z => by rw [hl] at z; exact hsh.tup t (Option.some.inj z)
    have nag : a ∉ g' := fun z => by
      rcases z3 a z with q | q
      · exact nd3.1 q
      · exact dv a hax q
    have sub : ∀ b ∈ f1 ++ ((a :: g') ++ f2), b ∈ fp x ∨ b ∈ fv := fun b hb => by
      simp at hb
      rcases hb with q | q | q | q
      · exact .inl (inx b (.inl q))
      · exact .inl (inx b (.inr (.inl q)))
      · exact (z3 b q).imp (fun z => inx b (.inr (.inr (.inl z)))) id
      · exact .inl (inx b (.inr (.inr (.inr q))))
    have z3' : ∀ b ∈ g', b ∈ a :: g0 ∨ b ∈ fv := fun b hb => (z3 b hb).imp (List.mem_cons_of_mem _) id
    have ndf : (f1 ++ ((a :: g') ++ f2)).Nodup := by
      refine List.nodup_append.mpr ⟨nd1.1, List.nodup_append.mpr ⟨List.nodup_cons.mpr ⟨nag, z2⟩, nd2.2.1, fun b hb c hc e => ?_⟩, fun b hb c hc e => ?_⟩
      · subst e
        rcases List.mem_cons.mp hb with rfl | hb
        · exact nd2.2.2 b List.mem_cons_self b hc rfl
        · rcases z3' b hb with q | q
          · exact nd2.2.2 b q b hc rfl
          · exact dv b (inx b (.inr (.inr (.inr hc)))) q
      · subst e
        rcases List.mem_append.mp hc with hc | hc
        · rcases List.mem_cons.mp hc with rfl | hc
          · exact nd1.2.2 b hb b (by simp) rfl
          · rcases z3' b hc with q | q
            · exact nd1.2.2 b hb b (List.mem_append_left _ q) rfl
            · exact dv b (inx b (.inl hb)) q
        · exact nd1.2.2 b hb b (List.mem_append_right _ hc) rfl
    have rp' : RpO K (upd H a u') d' v0 (f1 ++ ((a :: g') ++ f2)) := by
      refine q6 (tups_at ht) (fun b hb => upd_ne fun z => ?_) ?_
      · subst z
        rcases hb with hb | hb
        · exact nd1.2.2 b hb b (by simp) rfl
        · exact nd2.2.2 b List.mem_cons_self b hb rfl
      · exact own_box' hsh' upd_same (RpOs.stay (tups_at ht) (fun b hb => upd_ne fun z => nag (z ▸ hb)) z1)
    refine ⟨_, R, ⟨chg_ok hsh'.pl g hx hv hax ht t (fun _ q => q) (fun _ q => .inl q) ndf sub (fun b hb z => (sub b hb).elim (fun q => g.dR x b q z) fun q => t.dR b q z) ?_, fun mv hL n => chg_mv hsh'.pl g hax ht (fun _ q => q) (fun _ q => .inl q) sub mv hL n, sub, fun _ q => .inl q, fun _ => rfl⟩, fun _ => ⟨gx, z5, fun b hb => ⟨inx b (.inr (.inr (.inl (z4 b hb).1))), fun z => ?_⟩⟩, fun z => ?_⟩
    · subst hkk
      rcases hk with rfl | rfl <;> exact rp'
    · have hg := (z4 b hb).1
      simp at z
      rcases z with q | q | q | q
      · exact nd1.2.2 b q b (by simp [hg]) rfl
      · exact nd3.1 (q ▸ hg)
      · exact (z4 b hb).2 q
      · exact nd2.2.2 b (List.mem_cons_of_mem _ hg) b q rfl
    · subst hkk; rcases hk with rfl | rfl <;> rcases z with z | z <;> cases z
  -- only the thing itself
  have top : ∀ {a : Addr} {u : HO} {vs : List V} {R1 : Addr → Prop}, ps = [] → v0 = .ref a → H a = some u → Sh d u vs → a ∈ fp x → (k' = .top ∨ k' = .iot) → (∀ b, R b → R1 b) → (∀ b, R1 b → R b ∨ (b ∈ fp x ∧ b ≠ a)) → RpSs K H R1 (valsOf d) vs → ((k = .top ∨ k = .iot) → R1 = R) → ∃ e e' a u vs, atP d ps = some e ∧ F e = some e' ∧ H a = some u ∧ Sh e u vs ∧ HPath H (fp x) v0 ps (.ref a) ∧ (valsOf e).length = vs.length ∧ a ∈ fp x ∧
      ∀ u' ws, Sh e' u' ws → (w = true → ∀ g, RpOs K H (valsOf e) vs g → g.Nodup → (∀ b ∈ g, b ∉ fv) → ∃ g' gx, RpOs K H (valsOf e') ws g' ∧ g'.Nodup ∧ (∀ b ∈ g', b ∈ g ∨ b ∈ fv) ∧ (∀ b ∈ gx, b ∈ g ∧ b ∉ g') ∧ Ext gx) →
        (∀ S : Addr → Prop, (∀ b, R b → S b) → (∀ b ∈ fv, S b) → RpSs K H S (valsOf e) vs → RpSs K H S (valsOf e') ws) →
        ∃ f' R', Chg K σ H ρ fp R x fv k' d' (upd H a u') f' R' ∧ ((k' = .own ∨ k' = .io) → ∃ gx, Ext gx ∧ ∀ b ∈ gx, b ∈ fp x ∧ b ∉ f') ∧ ((k' = .top ∨ k' = .iot) → (k = .top ∨ k = .iot) → RpSs K H R (valsOf e) vs) := fun {a u vs R1} hps hv0 hl hsh hax hkk r1 r2 hs hR => by
    subst hps hv0
    refine ⟨d, d', a, u, vs, rfl, hu, hl, hsh, rfl, hs.length, hax, fun u' ws hsh' _ h2 => ?_⟩
    have ht : ∀ t, H a ≠ some (.tup t) := fun t z => by rw [hl] at z; exact hsh.tup t (Option.some.inj z)
    have hs' := h2 (fun b => R1 b ∨ b ∈ fv) (fun b q => .inl (r1 b q)) (fun b q => .inr q) (hs.to fun _ => .inl)
    have na : ∀ b, (R1 b ∨ b ∈ fv) → b ≠ a := fun b hb z => by
      subst z
      rcases hb with hb | hb
      · rcases r2 b hb with q | q
        · exact g.dR x b hax q
        · exact q.2 rfl
      · exact dv b hax hb
    have sub : ∀ b ∈ [a], b ∈ fp x ∨ b ∈ fv := fun b hb => by rw [List.mem_singleton.mp hb]; exact .inl hax
    have r2' : ∀ b, (R1 b ∨ b ∈ fv) → R b ∨ b ∈ fv ∨ b ∈ fp x := fun b hb => hb.elim (fun q => (r2 b q).imp id fun z => .inr z.1) fun q => .inr (.inl q)
    refine ⟨[a], fun b => R1 b ∨ b ∈ fv, ⟨chg_ok hsh'.pl g hx hv hax ht t (fun b q => .inl (r1 b q)) r2' (by simp) sub (fun b hb z => na b z (List.mem_singleton.mp hb)) ?_, fun mv hL n => chg_mv hsh'.pl g hax ht (fun b q => .inl (r1 b q)) r2' sub mv hL n, sub, r2', fun z => (by rcases hkk with rfl | rfl <;> rcases z with z | z <;> cases z)⟩, fun z => (by rcases hkk with rfl | rfl <;> rcases z with z | z <;> cases z), fun _ z => (by rw [← hR z]; exact hs)⟩
    have : RpT K (upd H a u') (fun b => R1 b ∨ b ∈ fv) d' (.ref a) [a] := top_box' hsh' upd_same (RpSs.stay (tups_at ht) (fun b q => upd_ne (na b q)) (fun _ q => q) hs')
    rcases hkk with rfl | rfl <;> exact this
  cases k with
  | own =>
    unfold stK at hk
    cases w with
    | true => cases hk; exact own (.inl rfl) rfl rfl rp
    | false =>
      cases ps with
      | nil =>
        cases hk
        obtain ⟨b1, b2⟩ := hF _ _ hu
        obtain ⟨a, u, vs, g0, e0, hl, hsh, ef, hs⟩ := own_box b1 (show RpO K H d v0 (fp x) from rp)
        have ndx := g.nd x
        rw [ef] at ndx
        refine top (R1 := fun b => R b ∨ b ∈ g0) rfl e0 hl hsh (by rw [ef]; simp) (.inl rfl) (fun b => .inl) (fun b q => q.imp id fun z => ⟨by rw [ef]; simp [z], fun y => (List.nodup_cons.mp ndx).1 (y ▸ z)⟩) (RpOs.shr (fun b q => .inr q) hs) fun z => by rcases z with z | z <;> cases z
      | cons p r => cases hk
  | io =>
    unfold stK at hk
    cases w with
    | true => cases hk; exact own (.inr rfl) rfl rfl rp
    | false => cases hk
  | top =>
    unfold stK at hk
    cases ps with
    | cons p r => cases hk
    | nil =>
      cases hk
      obtain ⟨b1, b2⟩ := hF _ _ hu
      obtain ⟨a, u, vs, e0, hl, hsh, ef, hs⟩ := top_box b1 (show RpT K H R d v0 (fp x) from rp)
      exact top (R1 := R) rfl e0 hl hsh (by rw [ef]; simp) (.inl rfl) (fun b q => q) (fun b q => .inl q) hs fun _ => rfl
  | iot =>
    unfold stK at hk
    cases ps with
    | cons p r => cases hk
    | nil =>
      cases hk
      obtain ⟨b1, b2⟩ := hF _ _ hu
      obtain ⟨a, u, vs, e0, hl, hsh, ef, hs⟩ := top_box b1 (show RpT K H R d v0 (fp x) from rp)
      exact top (R1 := R) rfl e0 hl hsh (by rw [ef]; simp) (.inr rfl) (fun b q => q) (fun b q => .inl q) hs fun _ => rfl
  | shr => cases hk
end
end PV
end

section
set_option Elab.async false
set_option linter.all false
set_option autoImplicit false
set_option maxRecDepth 100000
namespace PV
open PySem PySem.Spec PyProof.Rows L2
variable [Tbs]
section
variable {K : PySem.W.Frag} {σ σ1 σ2 σ' : L2.St} {H H0 H1 H2 H' : Hp} {ρ ρ1 ρ2 ρ' : Env} {fp fp0 fp1 fp2 fp' : Nat → List Addr} {R R0 R1 R2 R' : Addr → Prop} {L L' T T' ls : List Nat} {f g h f' fv : List Addr} {m : M} {d e d' : D} {v v0 v1 : V} {Q : VK} {w : Bool} {k k' : CK} {xs ys ds ps : List D} {vs us ws : List V} {p : D} {x : Nat} {a : Addr} {u : HO}
theorem atP_str : ∀ {ps : List D} {b : Str} {e : D}, atP (.str b) ps = some e → ∃ s, e = .str s
  | [], b, e, h => by cases h; exact ⟨b, rfl⟩
  | i :: r, b, e, h => by
    unfold atP at h
    obtain ⟨x, hx, h⟩ := Option.bind_eq_some_iff.mp h
    cases i with
    | int j =>
      have hx : (if b.length ≤ SZ then (nth b.cps.toList.length j).bind fun n => (b.cps.toList[n]?).map fun c => PyData.str ⟨#[c]⟩ else none) = some x := hx
      split at hx
      · obtain ⟨n, _, hx⟩ := Option.bind_eq_some_iff.mp hx
        obtain ⟨c, _, hx⟩ := Option.map_eq_some_iff.mp hx
        subst hx
        exact atP_str h
      · cases hx
    | _ => cases hx
/-- reading along a path -/
theorem RpO.path : ∀ {ps : List D} {d e : D} {v0 : V} {f : List Addr}, RpO K H d v0 f → atP d ps = some e → (∀ s, e ≠ .str s) → ∃ v fe, HPath H f v0 ps v ∧ RpO K H e v fe ∧ ∀ b ∈ fe, b ∈ f
  | [], d, e, v0, f, h, u, ne => by cases u; exact ⟨v0, f, rfl, h, fun _ q => q⟩
  | i :: r, d, e, v0, f, h, u, ne => by
    have u0 := u
    unfold atP at u
    obtain ⟨x, hx, u⟩ := Option.bind_eq_some_iff.mp u
    have nxt : ∀ {vx : V} {gn : List Addr}, RpO K H x vx gn → HStep H f v0 i vx → (∀ a ∈ gn, a ∈ f) → ∃ v fe, HPath H f v0 (i :: r) v ∧ RpO K H e v fe ∧ ∀ b ∈ fe, b ∈ f := fun {vx gn} h1 h2 hs => by
      obtain ⟨v, fe, q1, q2, q3⟩ := RpO.path h1 u ne
      exact ⟨v, fe, ⟨vx, h2, q1.mono hs⟩, q2, fun b hb => hs b (q3 b hb)⟩
    cases d with
    | list zs =>
      cases i with
      | int i =>
        obtain ⟨n, hn, hx⟩ := Option.bind_eq_some_iff.mp hx
        simp only [RpO] at h
        obtain ⟨a, vs, g, rfl, hl, rfl, hs⟩ := h
        obtain ⟨vx, gn, e1, h3, h4⟩ := hs.at hx
        exact nxt h3 (.inl ⟨a, vs, n, i, rfl, .inl ⟨hl, List.mem_cons_self⟩, rfl, by rw [← hs.length]; exact hn, e1⟩) fun b hb => List.mem_cons_of_mem _ (h4.subset hb)
      | _ => cases hx
    | tuple zs =>
      cases i with
      | int i =>
        obtain ⟨n, hn, hx⟩ := Option.bind_eq_some_iff.mp hx
        simp only [RpO] at h
        obtain ⟨a, vs, rfl, hl, hs⟩ := h
        obtain ⟨vx, gn, e1, h3, h4⟩ := hs.at hx
        exact nxt h3 (.inl ⟨a, vs, n, i, rfl, .inr hl, rfl, by rw [← hs.length]; exact hn, e1⟩) fun b hb => h4.subset hb
      | _ => cases hx
    | dict kvs =>
      have hx : (if keyOk i then look kvs i else none) = some x := hx
      cases hk : keyOk i with
      | false => rw [hk] at hx; cases hx
      | true =>
        rw [hk] at hx
        have hx : look kvs i = some x := hx
        obtain ⟨key, rfl⟩ := key_kD hk
        simp only [RpO] at h
        obtain ⟨a, u, vs, g, rfl, hl, ⟨l, rfl, e1, e2, nd⟩, rfl, hs⟩ := h
        subst e2
        have hs := RpOk_iff.mp hs
        rcases look_ix key e1 with ⟨h1, _⟩ | ⟨n, d1, v1, h1, h2, h3, h4⟩
        · rw [h1] at hx; cases hx
        · rw [h1] at hx; cases hx
          obtain ⟨vx, gn, e3, h7, h8⟩ := hs.at h2
          rw [h4] at e3; cases e3
          exact nxt h7 (.inr ⟨a, l, key, rfl, hl, List.mem_cons_self, rfl, h3⟩) fun b hb => List.mem_cons_of_mem _ (h8.subset hb)
    | none => cases hx
    | bool b => cases hx
    | int b => cases hx
    | str b => obtain ⟨s, hs⟩ := atP_str u0; exact absurd hs (ne s)
/-- a place in the slot x -/
def tpl (K : PySem.W.Frag) (C : Ctx) (x : Nat) (path : Ex) : TE := fun σ H Q => ∃ L ρ fp R, Gd K σ H ρ fp R ∧ x ∈ L ∧ ∃ ps ρ', evp C L x path ρ = .ok ps ρ' ∧
  ∀ v v0 H' fp' R', Gd K σ H' ρ' fp' R' → Mv L H fp R H' fp' R' → σ[x]? = some (some v0) → HPath H' (fp' x) v0 ps v → Q v H'
def PPl (X : Cx) (C : Ctx) (x : Nat) (path : Ex) (e : Expr) : Prop := PE X e (tpl X.K C x path)
/-- what is locked is as it was -/
theorem Mv.same (g1 : Gd K σ H1 ρ1 fp1 R1) (mv : Mv L H1 fp1 R1 H2 fp2 R2) (hx : x ∈ L) : ∀ a ∈ fp1 x, H2 a = H1 a := fun a ha => mv.keep a (g1.tr x a ha) fun i hi z => hi (g1.dj i x a z ha ▸ hx)
theorem HPath.step (g1 : Gd K σ H1 ρ1 fp1 R1) (mv : Mv L H1 fp1 R1 H2 fp2 R2) (hx : x ∈ L) (h : HPath H1 (fp1 x) v0 ps v) : HPath H2 (fp1 x) v0 ps v := h.stay mv.tup (mv.same g1 hx)
theorem isOwn_iff : isOwn k = true ↔ (k = .own ∨ k = .io) := by cases k <;> simp [isOwn]
theorem Gd.ownCell (g : Gd K σ H ρ fp R) (hc : getc ρ x = some ⟨k, d⟩) (hk : isOwn k = true) : ∃ v0, σ[x]? = some (some v0) ∧ RpO K H d v0 (fp x) := by
  obtain ⟨v0, h1, h2⟩ := g.cell x _ hc
  rcases isOwn_iff.mp hk with rfl | rfl <;> exact ⟨v0, h1, h2⟩
end
section
variable {X : Cx} {C : Ctx} {a b c es path : Ex} {s t : PV.St} {st : Stmt} {sts sts2 : List Stmt} {ea eb ec e tge eo : Expr} {eas : List Expr} {kws : List Keyword} {pos kpos : Pos} {nm : Option Str} {n : Str} {tg : Tg} {x : Nat}
theorem pl_nil (hN : X.N[x]? = some n := by rfl) (hv : Vis X.env.scope n := by first | exact Or.inl rfl | exact Or.inr (Or.inl rfl) | exact Or.inr (Or.inr rfl)) (hd : (n == ("__debug__" : Str)) = false := by decide) (hcd : (n == ("__classdict__" : Str)) = false := by decide) : PPl X C x .nil (.Name n pos) :=
  peI (pe_var hN hv hd hcd) fun σ H Q ⟨L, ρ, fp, R, g, hx, ps, ρ', e, q⟩ => by
    have e : (if (getc ρ x).isSome then PV.R.ok [] ρ else .bad) = .ok ps ρ' := e
    split at e
    · rename_i hc
      cases e
      cases hcc : getc ρ x with
      | none => rw [hcc] at hc; cases hc
      | some c =>
        obtain ⟨v, hv, _⟩ := g.cell x c hcc
        exact ⟨v, hv, q v v H fp R g .refl hv rfl⟩
    · cases e
theorem pl_snoc (hu : X.A.units + 1 < cLine) (ho : PPl X C x path eo) (ha : PEv X C a ea) (hs : PlainIx ea := by exact fun _ _ => rfl) : PPl X C x (.cons path a) (.Subscript eo ea pos) := by
  refine peI (pe_ix (ix_seq.or (ix_dict hu)) ho ha hs) fun σ H Q ⟨L, ρ, fp, R, g, hx, ps, ρ', e, q⟩ => ?_
  obtain ⟨ps1, ρ1, e1, e⟩ := bind_ok e
  obtain ⟨⟨m, key⟩, ρ2, e2, e⟩ := bind_ok e
  refine ⟨L, ρ, fp, R, g, hx, ps1, ρ1, e1, fun v v0 H1 fp1 R1 g1 v1 hv hp => ?_⟩
  refine ⟨L, ρ1, fp1, R1, g1, m, key, ρ2, e2, fun y H2 fp2 R2 f2 g2 v2 o2 n2 => ?_⟩
  dsimp only at e
  split at e
  · rename_i k d hc
    split at e
    · rename_i hk
      cases e
      rw [Bool.and_eq_true] at hk
      obtain ⟨hk, hat⟩ := hk
      obtain ⟨v0', hv', rp⟩ := g2.ownCell hc hk
      rw [hv] at hv'; cases hv'
      obtain ⟨e0, he0, hn0⟩ : ∃ e0, atP d (ps1 ++ [key]) = some e0 ∧ ∀ s, e0 ≠ .str s := by
        unfold holdAt at hat
        split at hat
        · cases hat
        · rename_i e0 hne he; exact ⟨e0, he, fun s z => hne s z⟩
        · cases hat
      obtain ⟨v', fe, hp2, _, _⟩ := RpO.path rp he0 hn0
      obtain ⟨v'', hp3, hst⟩ := (HPath.snoc (v := v)).mp hp2
      have : v'' = v := HPath.fn hp3 (hp.step g1 v2 hx)
      subst this
      have fin : Q v' H2 := q v' v0 H2 fp2 R2 g2 (v1.trans g1 v2) hv hp2
      rcases hst with ⟨a, vs, n, i, rfl, h1, rfl, h2, h3⟩ | ⟨a, l, key', rfl, h1, h2, rfl, h3⟩
      · rcases h1 with h1 | h1
        · exact .inl (.inl ⟨a, vs, i, v', rfl, o2.int, .of h1.1, by unfold atI; rw [← nth_ix, h2]; exact h3, fin⟩)
        · exact .inl (.inr (.inl ⟨a, vs, i, v', rfl, o2.int, .of h1, by unfold atI; rw [← nth_ix, h2]; exact h3, fin⟩))
      · refine .inr ⟨a, v', rfl, .inl ⟨l, key', .inl h1, ?_, h3.symm⟩, fin⟩
        cases key' with
        | inl i => exact o2.int
        | inr z => exact o2.str
    · cases e
  · cases e
end
end PV
end

section
set_option Elab.async false
set_option linter.all false
set_option autoImplicit false
set_option maxRecDepth 100000
namespace PV
open PySem PySem.Spec PyProof.Rows L2
variable [Tbs]
section
variable {K : PySem.W.Frag} {σ σ1 σ2 σ' : L2.St} {H H0 H1 H2 H' : Hp} {ρ ρ1 ρ2 ρ' : Env} {fp fp0 fp1 fp2 fp' : Nat → List Addr} {R R0 R1 R2 R' S : Addr → Prop} {L L' T T' ls : List Nat} {f g h f' fv : List Addr} {m : M} {d e d' : D} {v v0 v1 y : V} {Q : VK} {w : Bool} {k k' : CK} {xs ys ds ps : List D} {vs us ws : List V} {p : D} {x n : Nat} {a : Addr} {u : HO}
theorem RpSs.set : ∀ {xs : List D} {vs : List V} {n : Nat}, RpSs K H S xs vs → RpS K H S d v → RpSs K H S (xs.set n d) (vs.set n v)
  | [], vs, n, h, q => by simp only [RpSs] at h; subst h; simp [RpSs]
  | x :: xs, vs, 0, h, q => by
    simp only [RpSs] at h
    obtain ⟨v1, r, rfl, h1, h2⟩ := h
    simp only [List.set_cons_zero, RpSs]
    exact ⟨_, _, rfl, q, h2⟩
  | x :: xs, vs, n + 1, h, q => by
    simp only [RpSs] at h
    obtain ⟨v1, r, rfl, h1, h2⟩ := h
    simp only [List.set_cons_succ, RpSs]
    exact ⟨_, _, rfl, h1, RpSs.set h2 q⟩
theorem updD_at {F : D → Option D} : ∀ {ps : List D} {d d' : D}, updD d ps F = some d' → ∃ e, atP d ps = some e
  | [], d, d', h => ⟨d, rfl⟩
  | i :: r, d, d', h => by
    unfold updD at h
    obtain ⟨x, hx, h⟩ := Option.bind_eq_some_iff.mp h
    obtain ⟨y, hy, h⟩ := Option.bind_eq_some_iff.mp h
    obtain ⟨e, he⟩ := updD_at hy
    exact ⟨e, by unfold atP; rw [hx]; exact he⟩
/-- a value is stored at a place in a list or a dict: contents -/
theorem store_own (hw : w = true) (o : Hold K H fp R (wM w) d v fv) (nd : fv.Nodup) (i : n < xs.length) : ∀ g, RpOs K H xs vs g → g.Nodup → (∀ b ∈ g, b ∉ fv) → ∃ (g' gx : List Addr), RpOs K H (xs.set n d) (vs.set n v) g' ∧ g'.Nodup ∧ (∀ b ∈ g', b ∈ g ∨ b ∈ fv) ∧ (∀ b ∈ gx, b ∈ g ∧ b ∉ g') ∧ True := fun g h ng ap => by
  subst hw
  obtain ⟨v1, g1, gn, g2, e1, rfl, h3, h4⟩ := h.lens (List.getElem?_eq_getElem i)
  have n1 := List.nodup_append.mp ng
  have n2 := List.nodup_append.mp n1.2.1
  refine ⟨g1 ++ (fv ++ g2), [], h4 (.refl _) (fun _ _ => rfl) o.rp, List.nodup_append.mpr ⟨n1.1, List.nodup_append.mpr ⟨nd, n2.2.1, fun b hb c hc z => ap c (by simp [hc]) (z ▸ hb)⟩, fun b hb c hc z => ?_⟩, fun b hb => ?_, fun b hb => absurd hb (by simp), trivial⟩
  · subst z
    rcases List.mem_append.mp hc with q | q
    · exact ap b (by simp [hb]) q
    · exact n1.2.2 b hb b (List.mem_append_right _ q) rfl
  · simp at hb
    rcases hb with q | q | q
    · exact .inl (by simp [q])
    · exact .inr q
    · exact .inl (by simp [q])
theorem push_own (hw : w = true) (o : Hold K H fp R (wM w) d v fv) (nd : fv.Nodup) : ∀ g, RpOs K H xs vs g → g.Nodup → (∀ b ∈ g, b ∉ fv) → ∃ (g' gx : List Addr), RpOs K H (xs ++ [d]) (vs ++ [v]) g' ∧ g'.Nodup ∧ (∀ b ∈ g', b ∈ g ∨ b ∈ fv) ∧ (∀ b ∈ gx, b ∈ g ∧ b ∉ g') ∧ True := fun g h ng ap => by
  subst hw
  have h1 : RpOs K H [d] [v] fv := by
    simp only [RpOs]
    exact ⟨v, [], fv, [], rfl, by simp, o.rp, rfl, rfl⟩
  exact ⟨g ++ fv, [], RpOs.app h h1, List.nodup_append.mpr ⟨ng, nd, fun b hb c hc z => ap b hb (z ▸ hc)⟩, fun b hb => List.mem_append.mp hb, fun b hb => absurd hb (by simp), trivial⟩
theorem store_top (o : Hold K H fp R (wM w) d v fv) (s1 : ∀ b, R b → S b) (s2 : ∀ b ∈ fv, S b) : RpS K H S d v := RpS.stay (.refl _) (fun _ _ => rfl) (fun b q => q.elim (s1 b) (s2 b)) o.rdS
theorem push_top (o : Hold K H fp R (wM w) d v fv) : ∀ S : Addr → Prop, (∀ b, R b → S b) → (∀ b ∈ fv, S b) → RpSs K H S xs vs → RpSs K H S (xs ++ [d]) (vs ++ [v]) := fun S s1 s2 h =>
  RpSs.app h (by simp only [RpSs]; exact ⟨v, [], rfl, store_top o s1 s2, rfl⟩)
end
section
variable {X : Cx} {C : Ctx} {a b c es path : Ex} {s t : PV.St} {st : Stmt} {sts sts2 : List Stmt} {ea eb ec e tge eo : Expr} {eas : List Expr} {kws : List Keyword} {pos kpos tpos apos cpos : Pos} {nm : Option Str} {n : Str} {tg : Tg} {x : Nat}
def tSet2 : TSet := fun o i v H Q => rSetL o i v H Q ∨ rSetD o i v H Q
theorem set_both (hu : X.A.units + 1 < cLine) : PSet X tSet2 := fun pins s σ H o i v ov iv u Q I ro ri rv h => h.elim (set_list pins s σ H o i v ov iv u Q I ro ri rv) (set_dict hu pins s σ H o i v ov iv u Q I ro ri rv)
theorem putD_box {e i v e' : D} (h : putD e i v = some e') : isBox e = true ∧ isBox e' = true := by
  cases e with
  | list xs =>
    cases i with
    | int j => obtain ⟨n, _, rfl⟩ := Option.map_eq_some_iff.mp h; exact ⟨rfl, rfl⟩
    | _ => cases h
  | dict kvs =>
    have h : (if keyOk i && decide (kvs.length < SZ) then some (PyData.dict (putKV kvs i v)) else none) = some e' := h
    split at h
    · cases h; exact ⟨rfl, rfl⟩
    · cases h
  | _ => cases i <;> cases h
theorem sv_put (hu : X.A.units + 1 < cLine) (he : PEv X C a ea) (ho : PPl X C x path eo) (hi : PEv X C b eb)
    (ha : ∀ v, assign (.Subscript eo eb tpos) X.env v = (do
      let ov ← holding [v] (eval eo X.env)
      let iv ← holding [v, ov] (eval eb X.env)
      standAt tpos
      holding [v, ov, iv] (setItem ov iv v)
      release [v, ov, iv] []) := by intro _; rfl)
    (hs : swapsWithSole [.Subscript eo eb tpos] ea pos.line X.env = pure false := by rfl) (hw : swappedStores [.Subscript eo eb tpos] ea X.env = pure none := by rfl)
    (h1 : (assignEach [.Subscript eo eb tpos] X.env).map (·.2) = [assign (.Subscript eo eb tpos) X.env] := by rfl) : PSv X C (.put x path b a) (.Assign [.Subscript eo eb tpos] ea pos) := by
  refine psI (ps_asg he (pg_sub ho hi (set_both hu) ha) hs hw h1) fun D σ H ⟨T, L, ρ, fp, R, hT, g, fl, ρ', e, q⟩ => ?_
  obtain ⟨⟨m, v⟩, ρ1, e1, e⟩ := bind_ok e
  dsimp only at e
  refine ⟨L, ρ, fp, R, g, m, v, ρ1, e1, fun val H1 fp1 R1 f1 g1 v1 o1 n1 => ?_⟩
  cases huse : use m v ρ1 with
  | none => rw [huse] at e; cases e
  | some p =>
    obtain ⟨w, ρ2⟩ := p
    rw [huse] at e
    obtain ⟨ps, ρ3, e3, e⟩ := bind_ok e
    obtain ⟨⟨mi, di⟩, ρ4, e4, e⟩ := bind_ok e
    dsimp only at e
    split at e
    · cases e
    · rename_i hL
      have hL : x ∉ L := by simpa using hL
      obtain ⟨fp2, R2, f2, g2, s2, o2, sf⟩ := use_ok g1 o1 huse
      refine ⟨x :: L, ρ2, fp2, R2, g2, List.mem_cons_self, ps, ρ3, e3, fun obj v0 H3 fp3 R3 g3 v3 hv0 hp => ?_⟩
      refine ⟨x :: L, ρ3, fp3, R3, g3, mi, di, ρ4, e4, fun idx H4 fp4 R4 fi g4 v4 oi ni => ?_⟩
      have nl : ∀ {L : List Nat}, ∀ i ∈ lk (wM w), i ∈ L := fun i hi => by cases w <;> cases hi
      have o4 : Hold X.K H4 fp4 R4 (wM w) v val f2 := (o2.step g2 v3 nl).step g3 v4 nl
      have hp4 := hp.step g3 v4 List.mem_cons_self
      have mv4 : Mv L H fp R H4 fp4 R4 := ((v1.trans g1 s2.mv).trans g2 (v3.mono fun i hi => List.mem_cons_of_mem _ hi)).trans g3 (v4.mono fun i hi => List.mem_cons_of_mem _ hi)
      cases hc : getc ρ4 x with
      | none => rw [hc] at e; cases e
      | some c =>
        obtain ⟨k, d⟩ := c
        rw [hc] at e
        dsimp only at e
        cases hk : stK k w ps.isEmpty with
        | none => rw [hk] at e; cases e
        | some k' =>
          rw [hk] at e
          dsimp only at e
          cases hup : updD d ps (fun y => putD y di v) with
          | none => rw [hup] at e; cases e
          | some d' =>
            rw [hup] at e
            cases e
            obtain ⟨e0, e1', a0, u, vs, q1, q2, q3, q4, q5, q6, q7, q8⟩ := box_chg (Ext := fun _ => True) g4 hc hv0 hup hk o4.tm fun _ _ h => putD_box h
            have eobj : obj = .ref a0 := HPath.fn hp4 q5
            subst eobj
            have fin : ∀ {u' : HO} {ws : List V}, Sh e1' u' ws → (w = true → ∀ g, RpOs X.K H4 (valsOf e0) vs g → g.Nodup → (∀ b ∈ g, b ∉ f2) → ∃ (g' gx : List Addr), RpOs X.K H4 (valsOf e1') ws g' ∧ g'.Nodup ∧ (∀ b ∈ g', b ∈ g ∨ b ∈ f2) ∧ (∀ b ∈ gx, b ∈ g ∧ b ∉ g') ∧ True) →
                (∀ S : Addr → Prop, (∀ b, R4 b → S b) → (∀ b ∈ f2, S b) → RpSs X.K H4 S (valsOf e0) vs → RpSs X.K H4 S (valsOf e1') ws) → D.nx σ (upd H4 a0 u') := fun {u' ws} h1 h2 h3 => by
              obtain ⟨f', R', ch, _, _⟩ := q8 u' ws h1 h2 h3
              exact q σ _ _ R' ch.gd (ch.mv mv4 hL (n1.sub sf)) .refl
            cases e0 with
            | list xs =>
              cases di with
              | int j =>
                obtain ⟨n, hn, rfl⟩ := Option.map_eq_some_iff.mp q2
                cases q4
                have hlt : n < xs.length := by
                  unfold nth at hn
                  split at hn
                  · split at hn
                    · cases hn; omega
                    · cases hn
                  · split at hn
                    · cases hn; omega
                    · cases hn
                exact .inl ⟨a0, vs, j, n, rfl, oi.int, q3, by rw [← nth_ix, ← q6]; exact hn, fin rfl (fun hw => store_own hw o4 o4.tm.nd hlt) fun S s1 s2 h => h.set (store_top o4 s1 s2)⟩
              | _ => cases q2
            | dict kvs =>
              have q2 : (if keyOk di && decide (kvs.length < SZ) then some (PyData.dict (putKV kvs di v)) else none) = some e1' := q2
              split at q2
              · rename_i hkk
                cases q2
                rw [Bool.and_eq_true, decide_eq_true_eq] at hkk
                obtain ⟨hkey, hlen⟩ := hkk
                obtain ⟨key, rfl⟩ := key_kD hkey
                obtain ⟨l, rfl, k1, k2, nd⟩ := q4
                subst k2
                have hidx : idx = kV key := by
                  cases key with
                  | inl i => exact oi.int
                  | inr z => exact oi.str
                subst hidx
                have hl : l.length < sizeLine := by
                  have := congrArg List.length k1
                  simp at this
                  rw [this]; exact hlen
                refine .inr ⟨a0, _, rfl, .k q3 hl, ?_⟩
                rcases put_at key v val k1 nd with ⟨z1, z2, z3, z4, z5⟩ | ⟨n, d0, v00, z1, z2, z3, z4, z5, z6, z7, z8⟩
                · rw [z4]
                  refine fin (ws := l.map (·.2) ++ [val]) ?_ (fun hw => ?_) ?_
                  · show DcA _ _ _
                    refine ⟨_, rfl, ?_, by simp, ?_⟩
                    · rw [z3]; simp [k1]
                    · rw [List.map_append]
                      exact List.nodup_append.mpr ⟨nd, by simp, fun b hb c hc e => z5 (by simp at hc; subst hc; exact e ▸ hb)⟩
                  · show ∀ g, RpOs X.K H4 (kvs.map (·.2)) _ g → g.Nodup → _ → ∃ (g' gx : List Addr), RpOs X.K H4 ((putKV kvs (kD key) v).map (·.2)) _ g' ∧ _
                    rw [z3, List.map_append]
                    exact push_own hw o4 o4.tm.nd
                  · show ∀ S : Addr → Prop, (∀ b, R4 b → S b) → (∀ b ∈ f2, S b) → RpSs X.K H4 S (kvs.map (·.2)) _ → RpSs X.K H4 S ((putKV kvs (kD key) v).map (·.2)) _
                    rw [z3, List.map_append]
                    exact push_top o4
                · have hlt : n < (kvs.map (·.2)).length := (List.getElem?_eq_some_iff.mp z2).1
                  refine fin (ws := (l.map (·.2)).set n val) ?_ (fun hw => ?_) ?_
                  · show DcA _ _ _
                    refine ⟨_, rfl, ?_, z8, by rw [z7]; exact nd⟩
                    rw [z5, ← k1]
                    have := congrArg (List.map kD) z7
                    rw [List.map_map, List.map_map] at this
                    exact this
                  · show ∀ g, RpOs X.K H4 (kvs.map (·.2)) _ g → g.Nodup → _ → ∃ (g' gx : List Addr), RpOs X.K H4 ((putKV kvs (kD key) v).map (·.2)) _ g' ∧ _
                    rw [z6]
                    exact store_own hw o4 o4.tm.nd hlt
                  · show ∀ S : Addr → Prop, (∀ b, R4 b → S b) → (∀ b ∈ f2, S b) → RpSs X.K H4 S (kvs.map (·.2)) _ → RpSs X.K H4 S ((putKV kvs (kD key) v).map (·.2)) _
                    rw [z6]
                    exact fun S s1 s2 h => h.set (store_top o4 s1 s2)
              · cases q2
            | _ => cases di <;> cases q2
end
end PV
end

section
set_option Elab.async false
set_option linter.all false
set_option autoImplicit false
set_option maxRecDepth 100000
namespace PV
open PySem PySem.Spec PyProof.Rows L2
variable [Tbs]
section
variable {X : Cx} {C : Ctx} {a b c es path : Ex} {s t : PV.St} {st : Stmt} {sts sts2 : List Stmt} {ea eb ec e tge eo : Expr} {eas : List Expr} {kws : List Keyword} {pos kpos tpos apos cpos : Pos} {nm : Option Str} {n : Str} {tg : Tg} {x : Nat}
/-- there is a list at the place -/
theorem listAt_ok {K : PySem.W.Frag} {σ : L2.St} {H : Hp} {ρ : Env} {fp : Nat → List Addr} {R : Addr → Prop} {ps : List D} {v v0 : V} (g : Gd K σ H ρ fp R) (h : listAt ρ x ps = true) (hv : σ[x]? = some (some v0)) (hp : HPath H (fp x) v0 ps v) : ∃ a vs, v = .ref a ∧ SqL K H a vs := by
  unfold listAt at h
  cases hc : getc ρ x with
  | none => rw [hc] at h; cases h
  | some c =>
    obtain ⟨k, d⟩ := c
    rw [hc] at h
    dsimp only at h
    rw [Bool.and_eq_true] at h
    obtain ⟨h1, h2⟩ := h
    obtain ⟨xs, hx⟩ : ∃ xs, atP d ps = some (.list xs) := by
      split at h2
      · rename_i xs e; exact ⟨xs, e⟩
      · cases h2
    cases hk : isOwn k with
    | true =>
      obtain ⟨v0', hv', rp⟩ := g.ownCell hc hk
      rw [hv] at hv'; cases hv'
      obtain ⟨v', fe, hp2, rp2, _⟩ := RpO.path rp hx fun s z => by cases z
      have := hp.fn hp2
      subst this
      simp only [RpO] at rp2
      obtain ⟨a, vs, g, e, hl, _, _⟩ := rp2
      exact ⟨a, vs, e, .of hl⟩
    | false =>
      rw [hk] at h1
      cases ps with
      | cons p r => cases h1
      | nil =>
        cases hx
        cases hp
        obtain ⟨v0', hv', rp⟩ := g.cell x _ hc
        rw [hv] at hv'; cases hv'
        cases k with
        | own => cases hk
        | io => cases hk
        | top => obtain ⟨a, vs, e, hl, _⟩ := (show RpT K H R (.list xs) v (fp x) from rp); exact ⟨a, vs, e, .of hl⟩
        | iot => obtain ⟨a, vs, e, hl, _⟩ := (show RpT K H R (.list xs) v (fp x) from rp); exact ⟨a, vs, e, .of hl⟩
        | shr =>
          have rp : RpS K H R (.list xs) v ∧ fp x = [] := rp
          simp only [RpS] at rp
          obtain ⟨⟨a, vs, e, hl, _⟩, _⟩ := rp
          exact ⟨a, vs, e, hl.sq⟩
theorem appD_box {e v e' : D} (h : appD e v = some e') : isBox e = true ∧ isBox e' = true := by
  cases e with
  | list xs =>
    have h : (if xs.length < SZ then some (PyData.list (xs ++ [v])) else none) = some e' := h
    split at h
    · cases h; exact ⟨rfl, rfl⟩
    · cases h
  | _ => cases h
theorem sv_app (ho : PPl X C x path eo) (he : PEv X C a ea) (hs2 : swapsWith (.Call (.Attribute eo "append" apos) [ea] [] cpos) none pos.line X.env = pure false := by rfl)
    (hbase : attributeBase eo "append" X.env (eval eo X.env) = eval eo X.env := by rfl)
    (hfew : ((backTo cpos (starEach [ea] X.env)).all (fun x => !x.1) && (backToKw cpos (keywordEach [] X.env)).all (fun x => x.1.isSome)
      && decide ([ea].length + ([] : List Keyword).length + (if ([] : List Keyword).isEmpty then 0 else 1) < 30)) = true := by rfl)
    (hline : (apos.endLine == cpos.line) = true := by rfl) (hs : starEach [ea] X.env = (false, eval ea X.env) :: starEach [] X.env := by rfl) (hplain : (backTo cpos (starEach [] X.env)).any (·.1) = false := by rfl) :
    PSv X C (.app x path a) (.Expr (.Call (.Attribute eo "append" apos) [ea] [] cpos) pos) := by
  refine psI (ps_expr (pe_bm PySem.F.plainAttrs_list PySem.F.slot_list_append PySem.F.type_list_append mt_append ho (pa_cons he pa_nil hs) hbase hfew hline hs hplain) hs2) fun D σ H ⟨T, L, ρ, fp, R, hT, g, fl, ρ', e, q⟩ => ?_
  obtain ⟨ps, ρ1, e1, e⟩ := bind_ok e
  dsimp only at e
  split at e
  · cases e
  · rename_i hla
    have hla : listAt ρ1 x ps = true := by simpa using hla
    obtain ⟨⟨m, v⟩, ρ2, e2, e⟩ := bind_ok e
    dsimp only at e
    -- the locks at the place
    refine ⟨x :: L, ρ, fp, R, g, List.mem_cons_self, ps, ρ1, e1, fun obj v0 H1 fp1 R1 g1 v1 hv0 hp => ?_⟩
    obtain ⟨a1, us, rfl, hsq⟩ := listAt_ok g1 hla hv0 hp
    refine ⟨.inl ⟨rfl, us, hsq⟩, x :: L, ρ1, fp1, R1, g1, m, v, ρ2, e2, fun val H2 fp2 R2 f2 g2 v2 o2 n2 => ?_⟩
    cases huse : use m v ρ2 with
    | none => rw [huse] at e; cases e
    | some p =>
      obtain ⟨w, ρ3⟩ := p
      rw [huse] at e
      dsimp only at e
      split at e
      · cases e
      · rename_i hL
        have hL : x ∉ L := by simpa using hL
        obtain ⟨fp3, R3, f3, g3, s3, o3, sf⟩ := use_ok g2 o2 huse
        have hp3 := hp.step g1 v2 List.mem_cons_self
        have mv2 : Mv L H fp R H2 fp2 R2 := (v1.mono fun i hi => List.mem_cons_of_mem _ hi).trans g1 (v2.mono fun i hi => List.mem_cons_of_mem _ hi)
        have mv3 : Mv L H fp R H2 fp3 R3 := mv2.trans g2 s3.mv
        have n3 : New L H fp f3 := ((n2.mono fun i hi => List.mem_cons_of_mem _ hi).back g1 (v1.mono fun i hi => List.mem_cons_of_mem _ hi)).sub sf
        cases hc : getc ρ3 x with
        | none => rw [hc] at e; cases e
        | some c =>
          obtain ⟨k, d⟩ := c
          rw [hc] at e
          dsimp only at e
          cases hk : stK k w ps.isEmpty with
          | none => rw [hk] at e; cases e
          | some k' =>
            rw [hk] at e
            dsimp only at e
            cases hup : updD d ps (fun y => appD y v) with
            | none => rw [hup] at e; cases e
            | some d' =>
              rw [hup] at e
              cases e
              obtain ⟨e0, e1', a0, u, vs, q1, q2, q3, q4, q5, q6, q7, q8⟩ := box_chg (Ext := fun _ => True) g3 hc hv0 hup hk o3.tm fun _ _ h => appD_box h
              have eobj := HPath.fn hp3 q5
              cases eobj
              cases e0 with
              | list xs =>
                have q2 : (if xs.length < SZ then some (PyData.list (xs ++ [v])) else none) = some e1' := q2
                split at q2
                · rename_i hz
                  cases q2
                  cases q4
                  have q6 : xs.length = vs.length := q6
                  refine ⟨_, vs, val, rfl, rfl, q3, by rw [← q6]; exact hz, ?_⟩
                  obtain ⟨f', R', ch, _, _⟩ := q8 (.lst (vs ++ [val])) (vs ++ [val]) rfl (fun hw => push_own hw o3 o3.tm.nd) (push_top o3)
                  exact q σ _ _ R' ch.gd (ch.mv mv3 hL n3) .refl
                · cases q2
              | _ => cases q2
end
end PV
end

section
set_option Elab.async false
set_option linter.all false
set_option autoImplicit false
set_option maxRecDepth 100000
namespace PV
open PySem PySem.Spec PyProof.Rows L2
variable [Tbs]
section
variable {X : Cx} {C : Ctx} {a b c es path : Ex} {s t : PV.St} {st : Stmt} {sts sts2 : List Stmt} {ea eb ec e tge eo : Expr} {eas : List Expr} {kws : List Keyword} {pos kpos tpos apos cpos : Pos} {nm : Option Str} {n : Str} {tg : Tg} {x : Nat}
theorem clrD_box {e e' : D} (h : clrD e = some e') : isBox e = true ∧ isBox e' = true := by
  cases e with
  | list xs => cases h; exact ⟨rfl, rfl⟩
  | _ => cases h
theorem sv_clr (ho : PPl X C x path eo) (hs2 : swapsWith (.Call (.Attribute eo "clear" apos) [] [] cpos) none pos.line X.env = pure false := by rfl)
    (hbase : attributeBase eo "clear" X.env (eval eo X.env) = eval eo X.env := by rfl) (hline : (apos.endLine == cpos.line) = true := by rfl) :
    PSv X C (.clr x path) (.Expr (.Call (.Attribute eo "clear" apos) [] [] cpos) pos) := by
  refine psI (ps_expr (pe_bm0 PySem.F.plainAttrs_list PySem.F.slot_list_clear PySem.F.type_list_clear mt_clear ho hbase hline) hs2) fun D σ H ⟨T, L, ρ, fp, R, hT, g, fl, ρ', e, q⟩ => ?_
  obtain ⟨ps, ρ1, e1, e⟩ := bind_ok e
  split at e
  · cases e
  · rename_i hla
    have hla : listAt ρ1 x ps = true := by simpa using hla
    refine ⟨x :: L, ρ, fp, R, g, List.mem_cons_self, ps, ρ1, e1, fun obj v0 H1 fp1 R1 g1 v1 hv0 hp => ?_⟩
    obtain ⟨a1, us, rfl, hsq⟩ := listAt_ok g1 hla hv0 hp
    split at e
    · cases e
    · rename_i hL
      have hL : x ∉ L := by simpa using hL
      have mv1 : Mv L H fp R H1 fp1 R1 := v1.mono fun i hi => List.mem_cons_of_mem _ hi
      cases hc : getc ρ1 x with
      | none => rw [hc] at e; cases e
      | some c =>
        obtain ⟨k, d⟩ := c
        rw [hc] at e
        dsimp only at e
        cases hk : stK k true ps.isEmpty with
        | none => rw [hk] at e; cases e
        | some k' =>
          rw [hk] at e
          dsimp only at e
          cases hup : updD d ps clrD with
          | none => rw [hup] at e; cases e
          | some d' =>
            rw [hup] at e
            cases e
            obtain ⟨e0, e1', a0, u, vs, q1, q2, q3, q4, q5, q6, q7, q8⟩ := box_chg (Ext := fun _ => True) (fv := []) g1 hc hv0 hup hk .nil fun _ _ h => clrD_box h
            have eobj := HPath.fn hp q5
            cases eobj
            cases e0 with
            | list xs =>
              cases q2
              cases q4
              refine ⟨.inl ⟨rfl, us, hsq⟩, _, vs, rfl, rfl, q3, ?_⟩
              obtain ⟨f', R', ch, _, _⟩ := q8 (.lst []) [] rfl (fun hw g _ ng _ => ⟨[], [], by simp [valsOf, RpOs], .nil, fun b hb => absurd hb (by simp), fun b hb => absurd hb (by simp), trivial⟩) (fun S _ _ _ => by simp [valsOf, RpSs])
              exact q σ _ _ R' ch.gd (ch.mv mv1 hL .nil) .refl
            | _ => cases q2
end
end PV
end

section
set_option Elab.async false
set_option linter.all false
set_option autoImplicit false
set_option maxRecDepth 100000
namespace PV
open PySem PySem.Spec PyProof.Rows L2
variable [Tbs]
section
variable {K : PySem.W.Frag} {σ σ1 σ2 σ' : L2.St} {H H0 H1 H2 H' : Hp} {ρ ρ1 ρ2 ρ' : Env} {fp fp0 fp1 fp2 fp' : Nat → List Addr} {R R0 R1 R2 R' S : Addr → Prop} {L L' T T' ls ow : List Nat} {f g f2 : List Addr} {m : M} {d e d' : D} {v v0 v1 y : V} {Q : VK} {w w1 : Bool} {k : CK} {xs ys ds acc : List D} {vs us ws : List V} {A : Addr} {u o : HO}
/-! ### names forgotten and told again -/
theorem getc_setn {i j : Nat} : getc (ρ.set i none) j = if j = i then none else getc ρ j := by
  unfold getc
  by_cases h : j = i
  · subst h
    rw [if_pos rfl]
    by_cases hl : j < ρ.length
    · rw [List.getElem?_set_self hl]; rfl
    · rw [List.getElem?_eq_none (by simpa using hl)]; rfl
  · rw [List.getElem?_set_ne (Ne.symm h), if_neg h]
theorem wipe_getc : ∀ (is : List Nat) (ρ : Env) (i : Nat), getc (PV.wipe ρ is) i = if i ∈ is then none else getc ρ i
  | [], ρ, i => by simp [PV.wipe]
  | j :: r, ρ, i => by
    show getc (PV.wipe (ρ.set j none) r) i = _
    rw [wipe_getc r, getc_setn]
    by_cases h1 : i ∈ r
    · simp [h1]
    · by_cases h2 : i = j
      · simp [h2]
      · simp [h1, h2]
theorem wipe_len : ∀ (is : List Nat) (ρ : Env), (PV.wipe ρ is).length = ρ.length
  | [], ρ => rfl
  | j :: r, ρ => by show (PV.wipe (ρ.set j none) r).length = _; rw [wipe_len r]; simp
theorem back_len : ∀ (is : List Nat) (ρ ρ' : Env), (back ρ ρ' is).length = ρ'.length
  | [], ρ, ρ' => rfl
  | j :: r, ρ, ρ' => by show (back ρ (ρ'.set j (ρ[j]?).join) r).length = _; rw [back_len r]; simp
theorem back_getc : ∀ (is : List Nat) (ρ ρ' : Env), ρ.length = ρ'.length → ∀ i, getc (back ρ ρ' is) i = if i ∈ is then getc ρ i else getc ρ' i
  | [], ρ, ρ', hl, i => by simp [back]
  | j :: r, ρ, ρ', hl, i => by
    show getc (back ρ (ρ'.set j (ρ[j]?).join) r) i = _
    rw [back_getc r ρ _ (by simpa using hl)]
    by_cases h1 : i ∈ r
    · simp [h1]
    · by_cases h2 : i = j
      · subst h2
        simp only [h1, if_false, List.mem_cons, true_or, if_true]
        by_cases hlt : i < ρ'.length
        · rw [getc_set hlt, if_pos rfl]; rfl
        · unfold getc
          rw [List.getElem?_eq_none (by simpa using hlt), List.getElem?_eq_none (by omega)]
      · simp only [h1, if_false, List.mem_cons, h2, or_self]
        by_cases hlt : j < ρ'.length
        · rw [getc_set hlt, if_neg h2]
        · rw [List.set_eq_of_length_le (by omega)]
theorem lwipe_out : ∀ {vs : List Nat} {i : Nat}, i ∉ vs → (L2.wipe σ vs)[i]? = σ[i]?
  | [], i, h => rfl
  | j :: r, i, h => by
    simp only [List.mem_cons, not_or] at h
    show ((L2.wipe σ r).set j none)[i]? = _
    rw [List.getElem?_set_ne (Ne.symm h.1)]
    exact lwipe_out h.2
theorem lwipe_in : ∀ {vs : List Nat} {i : Nat}, i ∈ vs → i < σ.length → (L2.wipe σ vs)[i]? = some none
  | j :: r, i, h, hl => by
    show ((L2.wipe σ r).set j none)[i]? = _
    by_cases e : i = j
    · subst e
      rw [List.getElem?_set_self (by rw [wipe_length]; exact hl)]
    · rw [List.getElem?_set_ne (Ne.symm e)]
      exact lwipe_in ((List.mem_cons.mp h).resolve_left e) hl
theorem lwipe_eq (hl : σ1.length = σ.length) (h : ∀ i, i ∉ ow → σ1[i]? = σ[i]?) : L2.wipe σ1 ow = L2.wipe σ ow := by
  refine List.ext_getElem? fun i => ?_
  by_cases hi : i ∈ ow
  · by_cases hlt : i < σ.length
    · rw [lwipe_in hi hlt, lwipe_in hi (by omega)]
    · rw [List.getElem?_eq_none (by rw [wipe_length]; omega), List.getElem?_eq_none (by rw [wipe_length]; omega)]
  · rw [lwipe_out hi, lwipe_out hi, h i hi]
def fpW (ow : List Nat) (fp : Nat → List Addr) (i : Nat) : List Addr := if i ∈ ow then [] else fp i
theorem mem_fpW {i : Nat} {a : Addr} (h : a ∈ fpW ow fp i) : i ∉ ow ∧ a ∈ fp i := by
  unfold fpW at h
  split at h
  · cases h
  · rename_i hi; exact ⟨hi, h⟩
theorem fpW_out {i : Nat} (h : i ∉ ow) : fpW ow fp i = fp i := if_neg h
theorem Gd.wipe (g : Gd K σ H ρ fp R) (ow : List Nat) : Gd K (L2.wipe σ ow) H (PV.wipe ρ ow) (fpW ow fp) R where
  len := by rw [wipe_len, wipe_length]; exact g.len
  tb := g.tb
  cell := fun i c h => by
    rw [wipe_getc] at h
    split at h
    · cases h
    · rename_i hi
      obtain ⟨v, h1, h2⟩ := g.cell i c h
      exact ⟨v, by rw [lwipe_out hi]; exact h1, by rw [fpW_out hi]; exact h2⟩
  non := fun i h => by
    rw [wipe_getc] at h
    unfold fpW
    split at h
    · rename_i hi; rw [if_pos hi]
    · rename_i hi; rw [if_neg hi]; exact g.non i h
  nd := fun i => by unfold fpW; split; exact .nil; exact g.nd i
  dj := fun i j a h1 h2 => g.dj i j a (mem_fpW h1).2 (mem_fpW h2).2
  dR := fun i a h => g.dR i a (mem_fpW h).2
  tr := fun i a h => g.tr i a (mem_fpW h).2
  tR := g.tR
theorem Mv.wipe (hd : ∀ i ∈ ow, i ∉ L) : Mv L H fp R H (fpW ow fp) R :=
  ⟨fun _ _ _ => rfl, .refl _, fun i hi a h => .inl (by rw [fpW_out fun z => hd i z hi]; exact h), fun _ h => h, fun i a h => .inr ⟨i, (mem_fpW h).2⟩, fun _ h => .inl h, fun _ h => h, fun _ h => h⟩
def fpB (ow : List Nat) (fp1 fp : Nat → List Addr) (i : Nat) : List Addr := if i ∈ ow then fp1 i else fp i
/-- what the forgotten names have is as it was -/
theorem hid (g1 : Gd K σ H1 ρ1 fp1 R1) (mv : Mv L H1 (fpW ow fp1) R1 H fp R) {i : Nat} (hi : i ∈ ow) {a : Addr} (ha : a ∈ fp1 i) : H a = H1 a ∧ (∀ j, a ∉ fp j) ∧ ¬ R a := by
  have no : ∀ j, a ∉ fpW ow fp1 j := fun j h => (mem_fpW h).1 (g1.dj j i a (mem_fpW h).2 ha ▸ hi)
  obtain ⟨h1, h2⟩ := mv.out (g1.tr i a ha) no
  refine ⟨h1, h2, fun z => ?_⟩
  rcases mv.nR a z with q | q | ⟨j, q⟩
  · exact g1.dR i a ha q
  · exact g1.tr i a ha q
  · exact no j q
theorem Gd.back (g1 : Gd K σ H1 ρ1 fp1 R1) (gw : Gd K (L2.wipe σ ow) H (PV.wipe ρ2 ow) fp R) (mv : Mv L H1 (fpW ow fp1) R1 H fp R) : Gd K σ H (back ρ1 ρ2 ow) (fpB ow fp1 fp) R := by
  have hl : ρ2.length = σ.length := by have := gw.len; rwa [wipe_len, wipe_length] at this
  have bg : ∀ i, getc (PV.back ρ1 ρ2 ow) i = if i ∈ ow then getc ρ1 i else getc ρ2 i := back_getc ow ρ1 ρ2 (by rw [hl]; exact g1.len)
  have wg : ∀ i, i ∉ ow → getc (PV.wipe ρ2 ow) i = getc ρ2 i := fun i hi => by rw [wipe_getc, if_neg hi]
  refine ⟨by rw [back_len]; exact hl, fun i c h => ?_, fun i h => ?_, fun i => ?_, fun i j a h1 h2 => ?_, fun i a h1 h2 => ?_, fun i a h1 => ?_, gw.tR, gw.tb⟩
  · rw [bg] at h
    unfold fpB
    by_cases hi : i ∈ ow
    · rw [if_pos hi] at h ⊢
      obtain ⟨v, h1, h2⟩ := g1.cell i c h
      exact ⟨v, h1, h2.stay mv.tup (fun a q => (g1.wipe ow).R_same mv q) mv.reg fun a q => (hid g1 mv hi q).1⟩
    · rw [if_neg hi] at h ⊢
      obtain ⟨v, h1, h2⟩ := gw.cell i c (by rw [wg i hi]; exact h)
      exact ⟨v, by rw [lwipe_out hi] at h1; exact h1, h2⟩
  · rw [bg] at h
    unfold fpB
    by_cases hi : i ∈ ow
    · rw [if_pos hi] at h ⊢; exact g1.non i h
    · rw [if_neg hi] at h ⊢; exact gw.non i (by rw [wg i hi]; exact h)
  · unfold fpB; split; exact g1.nd i; exact gw.nd i
  · unfold fpB at h1 h2
    split at h1 <;> split at h2
    · exact g1.dj i j a h1 h2
    · rename_i hi _; exact absurd h2 ((hid g1 mv hi h1).2.1 j)
    · rename_i _ hj; exact absurd h1 ((hid g1 mv hj h2).2.1 i)
    · exact gw.dj i j a h1 h2
  · unfold fpB at h1
    split at h1
    · rename_i hi; exact (hid g1 mv hi h1).2.2 h2
    · exact gw.dR i a h1 h2
  · unfold fpB at h1
    split at h1
    · rename_i hi; exact (g1.tr i a h1).eq (hid g1 mv hi h1).1
    · exact gw.tr i a h1
theorem Mv.back (hd : ∀ i ∈ ow, i ∉ L) (mv : Mv L H1 (fpW ow fp1) R1 H fp R) : Mv L H1 fp1 R1 H (fpB ow fp1 fp) R where
  keep := fun a ha hi => mv.keep a ha fun i hL z => hi i hL (mem_fpW z).2
  tup := mv.tup
  lock := fun i hi a ha => by
    have no : i ∉ ow := fun z => hd i z hi
    unfold fpB
    rw [if_neg no]
    exact mv.lock i hi a (by rw [fpW_out no]; exact ha)
  reg := mv.reg
  nf := fun i a h => by
    unfold fpB at h
    split at h
    · exact .inr ⟨i, h⟩
    · exact (mv.nf i a h).imp id fun ⟨j, q⟩ => ⟨j, (mem_fpW q).2⟩
  nR := fun a h => (mv.nR a h).imp id fun q => q.imp id fun ⟨j, q⟩ => ⟨j, (mem_fpW q).2⟩
  som := mv.som
  sn := mv.sn
/-! ### a thing that no name has yet -/
theorem Gd.outw (g : Gd K σ H ρ fp R) (t : Tmp H fp R (A :: f)) (hA : ∀ t, H A ≠ some (.tup t)) : Gd K σ (upd H A o) ρ fp R := by
  have nR : ∀ a, R a → a ≠ A := fun a q z => t.dR A List.mem_cons_self (z ▸ q)
  have nf : ∀ i a, a ∈ fp i → a ≠ A := fun i a q z => t.dj i A List.mem_cons_self (z ▸ q)
  exact ⟨g.len, fun i c h => let ⟨v, h1, h2⟩ := g.cell i c h; ⟨v, h1, h2.stay (tups_at hA) (fun a q => upd_ne (nR a q)) (fun _ q => q) fun a q => upd_ne (nf i a q)⟩, g.non, g.nd, g.dj, g.dR,
    fun i a q => (g.tr i a q).eq (upd_ne (nf i a q)), fun a q => (g.tR a q).eq (upd_ne (nR a q)), Tabs_upd g.tb (.inr (t.tr A List.mem_cons_self))⟩
theorem Mv.outw (mv : Mv L H0 fp0 R0 H fp R) (h0 : H0 A = none) (hA : ∀ t, H A ≠ some (.tup t)) (ho : Pl o := by exact ⟨fun _ z => (by cases z), fun _ z => (by cases z)⟩) : Mv L H0 fp0 R0 (upd H A o) fp R where
  keep := fun a ha hi => by rw [upd_ne fun z => ha (by rw [z]; exact h0)]; exact mv.keep a ha hi
  tup := mv.tup.trans (tups_at hA)
  lock := mv.lock
  reg := mv.reg
  nf := mv.nf
  nR := mv.nR
  som := fun a q => by
    by_cases z : a = A
    · subst z; rw [upd_same]; simp
    · rw [upd_ne z]; exact mv.som a q
  sn := fun a q => by
    by_cases z : a = A
    · subst z; exact ho.nt upd_same
    · exact (mv.sn a q).eq (upd_ne z)
/-- a list or a dict that grows -/
structure Acc (K : PySem.W.Frag) (H : Hp) (fp : Nat → List Addr) (R : Addr → Prop) (A : Addr) (w : Bool) (e : D) (f : List Addr) : Prop where
  ex : ∃ u vs, H A = some u ∧ Sh e u vs ∧ HoldL K H fp R w (valsOf e) vs f
  tm : Tmp H fp R (A :: f)
theorem Acc.step (g1 : Gd K σ H1 ρ1 fp1 R1) (b : Mv L H1 fp1 R1 H2 fp2 R2) (h : Acc K H1 fp1 R1 A w e f) : Acc K H2 fp2 R2 A w e f := by
  obtain ⟨u, vs, h1, h2, h3⟩ := h.ex
  obtain ⟨t, kf⟩ := h.tm.step b
  exact ⟨⟨u, vs, (kf A List.mem_cons_self).trans h1, h2, h3.step g1 b⟩, t⟩
theorem Acc.put (h : Acc K H fp R A w e f) {e' : D} {vs' : List V} {f' : List Addr} {w' : Bool} (hs : Sh e' u vs') (hl : HoldL K H fp R w' (valsOf e') vs' f') (hA : A ∉ f') : Acc K (upd H A u) fp R A w' e' f' := by
  obtain ⟨u0, vs, h1, h2, h3⟩ := h.ex
  have ht : ∀ t, H A ≠ some (.tup t) := fun t z => by rw [h1] at z; exact h2.tup t (Option.some.inj z)
  have nR : ∀ a, R a → a ≠ A := fun a q z => h.tm.dR A List.mem_cons_self (z ▸ q)
  have nf : ∀ a, a ∈ f' → a ≠ A := fun a q z => hA (z ▸ q)
  have tm : Tmp (upd H A u) fp R f' := ⟨hl.1.nd, hl.1.dj, hl.1.dR, fun a q => (hl.1.tr a q).eq (upd_ne (nf a q))⟩
  refine ⟨⟨u, vs', upd_same, hs, tm, ?_⟩, ⟨List.nodup_cons.mpr ⟨hA, tm.nd⟩, fun i a q => ?_, fun a q => ?_, fun a q => ?_⟩⟩
  · cases w' with
    | true => exact RpOs.stay (tups_at ht) (fun a q => upd_ne (nf a q)) hl.2
    | false => exact RpSs.stay (tups_at ht) (fun a q => upd_ne (q.elim (nR a) (nf a))) (fun _ q => q) hl.2
  · rcases List.mem_cons.mp q with rfl | q
    · exact h.tm.dj i a List.mem_cons_self
    · exact tm.dj i a q
  · rcases List.mem_cons.mp q with rfl | q
    · exact h.tm.dR a List.mem_cons_self
    · exact tm.dR a q
  · rcases List.mem_cons.mp q with rfl | q
    · exact hs.pl.nt upd_same
    · exact tm.tr a q
theorem Acc.hold (h : Acc K H fp R A w e f) (t : Tmp H fp' R (A :: f)) : Hold K H fp' R (ownM w) e (.ref A) (A :: f) := by
  obtain ⟨u, vs, h1, h2, h3⟩ := h.ex
  refine ⟨?_, t⟩
  have na : A ∉ f := (List.nodup_cons.mp t.nd).1
  cases w with
  | true => exact own_box' h2 h1 h3.2
  | false =>
    have up : RpSs K H (fun x => R x ∨ (x ∈ A :: f ∧ x ≠ A)) (valsOf e) vs := RpSs.to (fun a q => q.imp id fun z => ⟨List.mem_cons_of_mem _ z, fun y => na (y ▸ z)⟩) h3.2
    show RpU K H R e _ _
    cases e with
    | list xs => cases h2; exact ⟨A, vs, rfl, h1, List.mem_cons_self, up⟩
    | dict kvs => exact ⟨A, u, vs, rfl, h1, h2, List.mem_cons_self, RpSk_iff.mpr up⟩
    | _ => exact h2.elim
theorem Acc.list (h : Acc K H fp R A w (.list acc) f) : ∃ vs, H A = some (.lst vs) ∧ acc.length = vs.length ∧ HoldL K H fp R w acc vs f := by
  obtain ⟨u, vs, h1, h2, h3⟩ := h.ex
  cases h2
  exact ⟨vs, h1, h3.len, h3⟩
theorem wM_true : wM true = .own := rfl
theorem Hold.one (o : Hold K H fp R (wM w) d v f) : HoldL K H fp R w [d] [v] f := by
  have := HoldL.cons o HoldL.nil fun _ _ => by simp
  rwa [Bool.and_true, List.append_nil] at this
theorem Acc.push (h : Acc K H fp R A w (.list acc) f) (hA : H A = some (.lst vs)) (o : Hold K H fp R (wM w1) d y f2) (ap : ∀ x ∈ A :: f, x ∉ f2) : Acc K (upd H A (.lst (vs ++ [y]))) fp R A (w && w1) (.list (acc ++ [d])) (f ++ f2) := by
  obtain ⟨vs', h1, h2, h3⟩ := h.list
  rw [hA] at h1; cases h1
  refine h.put rfl (h3.app o.one fun x hx => ap x (List.mem_cons_of_mem _ hx)) fun z => ?_
  rcases List.mem_append.mp z with q | q
  · exact (List.nodup_cons.mp h.tm.nd).1 q
  · exact ap A List.mem_cons_self q
/-- the tests of a clause -/
def tts (K : PySem.W.Frag) (C : Ctx) (x : Ex) : TT := fun σ H Q => ∃ L ρ fp R, Gd K σ H ρ fp R ∧ ∃ b ρ', evts C L x ρ = .ok b ρ' ∧ ∀ H' fp' R', Gd K σ H' ρ' fp' R' → Mv L H fp R H' fp' R' → Q b H'
end
def PTsv (X : Cx) (C : Ctx) (x : Ex) (es : List Expr) : Prop := PTs X es (tts X.K C x)
section
variable {X : Cx} {C : Ctx} {a b c it ifs elt : Ex} {ea eb ec elte tge iter : Expr} {ifse : List Expr} {pos : Pos} {tg : Tg}
theorem ptsI {X : Cx} {e : List Expr} {t t' : TT} (h : PTs X e t) (w : ∀ σ H Q, t' σ H Q → t σ H Q) : PTs X e t' := ⟨fun pins s σ H Q I q => h.run pins s σ H Q I (w σ H Q q)⟩
theorem ts_nil : PTsv X C .nil [] := ptsI pts_nil fun σ H Q ⟨L, ρ, fp, R, g, b, ρ', e, q⟩ => by cases e; exact q H fp R g .refl
theorem ts_one (h : PTv X C c ec) : PTsv X C (.cons c .nil) [ec] := ptsI (pts_one h) fun σ H Q ⟨L, ρ, fp, R, g, b, ρ', e, q⟩ => by
  obtain ⟨b1, ρ1, e1, e2⟩ := bind_ok e
  refine ⟨L, ρ, fp, R, g, b1, ρ1, e1, fun H' fp' R' g' v' => ?_⟩
  cases b1 with
  | true => cases e2; exact q H' fp' R' g' v'
  | false => cases e2; exact q H' fp' R' g' v'
theorem loopC_cons {L own : List Nat} {tg : Tg} {test : Env → PV.R Bool} {el : Env → PV.R (Bool × List D)} {w : Bool} {x : D} {r : List (Bool × D)} {ρ ρ' : Env} {w2 : Bool} {ds : List D} (h : loopC L own tg test el ((w, x) :: r) ρ = .ok (w2, ds) ρ') :
    ∃ ρ1, asgT L tg (ownK w) x (PV.wipe ρ own) = some ρ1 ∧ ∃ c ρ2, test ρ1 = .ok c ρ2 ∧ ((c = false ∧ loopC L own tg test el r ρ2 = .ok (w2, ds) ρ') ∨ (c = true ∧ ∃ w3 ys ρ3, el ρ2 = .ok (w3, ys) ρ3 ∧ ∃ w4 zs, loopC L own tg test el r ρ3 = .ok (w4, zs) ρ' ∧ w2 = (w3 && w4) ∧ ds = ys ++ zs)) := by
  have h : (match asgT L tg (ownK w) x (PV.wipe ρ own) with
    | none => PV.R.bad
    | some ρ1 => (test ρ1).bind fun c ρ2 =>
      if c then (el ρ2).bind fun (w1, ys) ρ3 => (loopC L own tg test el r ρ3).bind fun (w2, zs) ρ4 => .ok (w1 && w2, ys ++ zs) ρ4
      else loopC L own tg test el r ρ2) = .ok (w2, ds) ρ' := h
  cases ha : asgT L tg (ownK w) x (PV.wipe ρ own) with
  | none => rw [ha] at h; cases h
  | some ρ1 =>
    rw [ha] at h
    obtain ⟨c, ρ2, h1, h⟩ := bind_ok h
    refine ⟨ρ1, rfl, c, ρ2, h1, ?_⟩
    cases c with
    | false => exact .inl ⟨rfl, h⟩
    | true =>
      obtain ⟨⟨w3, ys⟩, ρ3, h2, h⟩ := bind_ok (show ((el ρ2).bind fun (x : Bool × List D) ρ3 => (loopC L own tg test el r ρ3).bind fun (w2, zs) ρ4 => .ok (x.1 && w2, x.2 ++ zs) ρ4) = _ from h)
      obtain ⟨⟨w4, zs⟩, ρ4, h3, h⟩ := bind_ok h
      cases h
      exact .inr ⟨rfl, w3, ys, ρ3, h2, w4, zs, h3, rfl, rfl⟩
end
end PV
end

section
set_option Elab.async false
set_option linter.all false
set_option autoImplicit false
set_option maxRecDepth 100000
namespace PV
open PySem PySem.Spec PyProof.Rows L2
variable [Tbs]
section
variable {X : Cx} {C : Ctx} {a b c it ifs elt kx vx : Ex} {ea eb ec elte tge iter kxe vxe : Expr} {ifse : List Expr} {pos : Pos} {tg : Tg}
mutual
theorem asgT_len : ∀ {tg : Tg} {L : List Nat} {k : CK} {d : D} {ρ ρ' : Env}, asgT L tg k d ρ = some ρ' → ρ'.length = ρ.length
  | .nm i, L, k, d, ρ, ρ', h => by obtain ⟨_, _, rfl⟩ := setv_ok h; simp
  | .tp ts, L, k, d, ρ, ρ', h => by
    cases d with
    | tuple xs => exact asgTs_ln (show asgTs L ts (if k = .top then .shr else k) xs ρ = some ρ' from h)
    | _ => cases h
  | .nil, L, k, d, ρ, ρ', h => by cases h
  | .cons _ _, L, k, d, ρ, ρ', h => by cases h
theorem asgTs_ln : ∀ {tg : Tg} {L : List Nat} {k : CK} {ds : List D} {ρ ρ' : Env}, asgTs L tg k ds ρ = some ρ' → ρ'.length = ρ.length
  | .nil, L, k, [], ρ, ρ', h => by cases h; rfl
  | .nil, L, k, d :: ds, ρ, ρ', h => by cases h
  | .cons t ts, L, k, [], ρ, ρ', h => by cases h
  | .cons t ts, L, k, d :: ds, ρ, ρ', h => by
    obtain ⟨ρ1, h1, h2⟩ := Option.bind_eq_some_iff.mp h
    rw [asgTs_ln h2, asgT_len h1]
  | .nm _, L, k, ds, ρ, ρ', h => by cases ds <;> cases h
  | .tp _, L, k, ds, ρ, ρ', h => by cases ds <;> cases h
end
/-- within a comprehension, between two turns -/
def Turn (K : PySem.W.Frag) (C : Ctx) (ow Lx : List Nat) (tg : Tg) (test : Env → PV.R Bool) (el : Env → PV.R (Bool × List D)) (σ : L2.St) (H1 : Hp) (fpr : Nat → List Addr) (R1 : Addr → Prop) (A : Addr) (mk : List D → D) (wf : Bool) (dsf : List D) (ρf : Env) (rest : List (Bool × D)) (H : Hp) : Prop :=
  ∃ ρ fp R w acc f w2 ds2, Gd K (L2.wipe σ ow) H (PV.wipe ρ ow) fp R ∧ Mv Lx H1 fpr R1 H fp R ∧ Acc K H fp R A w (mk acc) f ∧ New Lx H1 fpr f ∧ loopC Lx ow tg test el rest ρ = .ok (w2, ds2) ρf ∧ wf = (w && w2) ∧ dsf = acc ++ ds2
theorem mem_fn {l : List Nat} {T : List Nat} (h : T.all l.contains = true) : ∀ j ∈ T, j ∈ l := fun j hj => by simpa using List.all_eq_true.mp h j hj
theorem not_any {ow l : List Nat} (h : ¬ ow.any l.contains = true) : ∀ i ∈ ow, i ∉ l := fun i hi hl => h (List.any_eq_true.mpr ⟨i, hi, by simpa using hl⟩)
/-- the comprehension's end -/
theorem lc_end {K : PySem.W.Frag} {σ : L2.St} {L ls ow : List Nat} {H0 H1 H : Hp} {fp0 fp1 fp : Nat → List Addr} {R0 R1 R : Addr → Prop} {ρ1 ρ : Env} {A : Addr} {w : Bool} {e : D} {f : List Addr} {Q : VK} (hd : ∀ i ∈ ow, i ∉ ls ++ L) (g1 : Gd K σ H1 ρ1 fp1 R1) (v1 : Mv L H0 fp0 R0 H1 fp1 R1) (hA : H1 A = none)
    (gw : Gd K (L2.wipe σ ow) H (PV.wipe ρ ow) fp R) (mv : Mv (ls ++ L) H1 (fpW ow fp1) R1 H fp R) (ac : Acc K H fp R A w e f) (n : New (ls ++ L) H1 (fpW ow fp1) f) (q : Got K σ L H0 fp0 R0 (PV.back ρ1 ρ ow) (ownM w) e Q) : Q (.ref A) H := by
  have hdL : ∀ i ∈ ow, i ∉ L := fun i hi z => hd i hi (List.mem_append_right _ z)
  have mvL : Mv L H1 (fpW ow fp1) R1 H fp R := mv.mono fun i hi => List.mem_append_right _ hi
  have apart : ∀ a ∈ A :: f, ∀ i, i ∈ ow → a ∉ fp1 i := fun a ha i hi z => by
    rcases List.mem_cons.mp ha with rfl | ha
    · exact g1.tr i a z hA
    · rcases n a ha with h | ⟨j, _, h⟩
      · exact g1.tr i a z h
      · exact (mem_fpW h).1 (g1.dj j i a (mem_fpW h).2 z ▸ hi)
  refine q _ H _ R (A :: f) (g1.back gw mvL) (v1.trans g1 (Mv.back hdL mvL)) (ac.hold ⟨ac.tm.nd, fun i a ha z => ?_, ac.tm.dR, ac.tm.tr⟩) fun a ha => ?_
  · unfold fpB at z
    split at z
    · rename_i hi; exact apart a ha i hi z
    · exact ac.tm.dj i a ha z
  · rcases List.mem_cons.mp ha with rfl | ha
    · exact .inl (Classical.byContradiction fun z => v1.som a z hA)
    · have n1 : New L H1 fp1 f := fun x hx => (n x hx).imp id fun ⟨j, hj, z⟩ => ⟨j, fun y => hj (List.mem_append_right _ y), (mem_fpW z).2⟩
      exact n1.back g1 v1 a ha
/-- the heap with the new thing in it -/
theorem lc_start {K : PySem.W.Frag} {C : Ctx} {σ : L2.St} {Lx ow : List Nat} {H1 : Hp} {fp1 : Nat → List Addr} {R1 : Addr → Prop} {ρ1 ρ' : Env} {A : Addr} {u : HO} {mk : List D → D} {items : List (Bool × D)} {test : Env → PV.R Bool} {el : Env → PV.R (Bool × List D)} {wf : Bool} {dsf : List D} (g1 : Gd K σ H1 ρ1 fp1 R1) (hd : ∀ i ∈ ow, i ∉ Lx) (hA : H1 A = none) (hs : Sh (mk []) u []) (hv : valsOf (mk []) = [])
    (e : loopC Lx ow tg test el items ρ1 = .ok (wf, dsf) ρ') : Turn K C ow Lx tg test el σ H1 (fpW ow fp1) R1 A mk wf dsf ρ' items (upd H1 A u) := by
  have gw := (g1.wipe ow).laid (o := u) hA
  refine ⟨ρ1, fpW ow fp1, R1, true, [], [], wf, dsf, gw, .laid hA, ⟨⟨u, [], upd_same, hs, .nil, by rw [hv]; simp [RpOs]⟩, ⟨by simp, fun i a ha z => ?_, fun a ha z => ?_, fun a ha => ?_⟩⟩, .nil, e, by simp, by simp⟩
  · rw [List.mem_singleton.mp ha] at z; exact g1.tr i A (mem_fpW z).2 hA
  · rw [List.mem_singleton.mp ha] at z; exact g1.tR A z hA
  · rw [List.mem_singleton.mp ha]; exact hs.pl.nt upd_same
theorem lc_read {K : PySem.W.Frag} {ow : List Nat} {σ : L2.St} {H : Hp} {Q : VK} (hT : (tgT tg).all ow.contains = true) (h : tvx K C (.lc tg ow it ifs elt) σ H Q) : tLc (tiv K C it) (tgv K tg) (tts K C ifs) (tvx K C elt) ow σ H Q := by
  obtain ⟨L, ρ, fp, R, g, m, d, ρ', e, q⟩ := h
  obtain ⟨⟨items, ls⟩, ρ1, e1, e⟩ := bind_ok e
  dsimp only at e
  split at e
  · cases e
  rename_i hd
  have hd := not_any hd
  obtain ⟨⟨wf, dsf⟩, ρf, e2, e⟩ := bind_ok e
  dsimp only at e
  split at e
  case isFalse => cases e
  rename_i hsz
  cases e
  refine ⟨L, ρ, fp, R, g, items, ls, ρ1, e1, fun J H1 fp1 R1 g1 v1 jok A hA => ?_⟩
  let test : Env → PV.R Bool := fun r => evts C (ls ++ L) ifs r
  let el : Env → PV.R (Bool × List D) := fun r => (ev C (ls ++ L) elt r).bind fun (m, d) r1 => PV.R.of ((use m d r1).map fun (w, r2) => ((w, [d]), r2))
  have mvr : Mv (ls ++ L) H1 fp1 R1 H1 (fpW ow fp1) R1 := Mv.wipe hd
  refine ⟨fun i m H => i ≤ items.length ∧ m = items.length - i ∧ Turn K C ow (ls ++ L) tg test el σ H1 (fpW ow fp1) R1 A .list wf dsf ρf (items.drop i) H, ⟨items.length, Nat.zero_le _, by simp, lc_start g1 hd hA rfl rfl e2⟩, ?_⟩
  rintro i m H5 ⟨hi5, rfl, ρ5, fp5, R5, w5, acc, f5, w6, ds6, g5, mv5, ac5, n5, e5, hwf, hdf⟩
  have mvi : Mv ls H1 fp1 R1 H5 fp5 R5 := (mvr.trans (g1.wipe ow) mv5).mono fun i hi => List.mem_append_left _ hi
  cases hit : items[i]? with
  | none =>
    rw [List.drop_eq_nil_of_le (List.getElem?_eq_none_iff.mp hit)] at e5
    cases e5
    rw [Bool.and_true] at hwf
    rw [List.append_nil] at hdf
    subst hwf hdf
    exact .inl ⟨jok.stop _ H5 _ fp5 R5 g5 mvi i hit, lc_end hd g1 v1 hA g5 mv5 ac5 n5 q⟩
  | some p =>
    obtain ⟨wi, di⟩ := p
    obtain ⟨hlt, hge⟩ := List.getElem?_eq_some_iff.mp hit
    rw [List.drop_eq_getElem_cons hlt, hge] at e5
    obtain ⟨jg, jy⟩ := jok.go _ H5 _ fp5 R5 g5 mvi i wi di hit
    obtain ⟨ρ7, ha, c, ρ8, et, hcs⟩ := loopC_cons e5
    refine .inr ⟨jg, fun H' => Turn K C ow (ls ++ L) tg test el σ H1 (fpW ow fp1) R1 A .list wf dsf ρf (items.drop (i + 1)) H', fun H' h' => ⟨items.length - (i + 1), by omega, hlt, rfl, h'⟩, fun x H6 hy => ?_⟩
    obtain ⟨g6, mv6, rp6⟩ := jy x H6 hy
    have mvH : ∀ {L}, Mv L H5 fp5 R5 H6 fp5 R5 := fun {L} => mv6 L
    refine ⟨tgT tg, ls ++ L, PV.wipe ρ5 ow, fp5, R5, ownK wi, di, [], ρ7, fun j hj => hj, g6, (RpK.of_shr rp6).2, rp6, .nil, ha, fun σ7 fp7 g7 s7 k7 => ?_⟩
    have mv7 : Mv (ls ++ L) H5 fp5 R5 H6 fp7 R5 := s7.mv (mvH) .nil
    have hl7 : σ7.length = σ.length := by
      have h1 := g7.len; have h2 := g6.len
      have h3 : ρ7.length = (PV.wipe ρ5 ow).length := by
        have := asgT_len ha
        exact this
      rw [wipe_length] at h2
      omega
    have hw7 : L2.wipe σ7 ow = L2.wipe σ ow := lwipe_eq hl7 fun j hj => by
      rw [k7 j fun z => hj (mem_fn hT j z), lwipe_out hj]
    have hw7' : L2.wipe σ7 ow = L2.wipe (L2.wipe σ ow) ow := by
      rw [hw7]
      exact (lwipe_eq (wipe_length σ ow) fun j hj => lwipe_out hj).symm
    refine ⟨hw7, ls ++ L, ρ7, fp7, R5, g7, c, ρ8, et, fun H8 fp8 R8 g8 v8 => ?_⟩
    have mv8 : Mv (ls ++ L) H5 fp5 R5 H8 fp8 R8 := mv7.trans g7 v8
    have ac8 := ac5.step g5 mv8
    rcases hcs with ⟨rfl, er⟩ | ⟨rfl, w9, ys, ρ9, ee, w10, zs, er, ew, ed⟩
    · refine ⟨ρ8, fpW ow fp8, R8, w5, acc, f5, w6, ds6, ?_, ?_, ?_, n5, er, hwf, hdf⟩
      · have := g8.wipe ow
        rwa [hw7] at this
      · exact (mv5.trans g5 mv8).trans g8 (Mv.wipe hd)
      · exact ac8.step g8 (Mv.wipe (L := ls ++ L) hd)
    · obtain ⟨⟨m9, d9⟩, ρ10, e9, e10⟩ := bind_ok ee
      obtain ⟨⟨w11, ρ11⟩, hu, e11⟩ := Option.map_eq_some_iff.mp (of_ok e10)
      cases e11
      refine ⟨ls ++ L, ρ8, fp8, R8, g8, m9, d9, ρ10, e9, fun y H9 fp9 R9 f9 g9 v9 o9 n9 => ?_⟩
      obtain ⟨fp10, R10, f10, g10, s10, o10, sf⟩ := use_ok g9 o9 hu
      have mv10 : Mv (ls ++ L) H8 fp8 R8 H9 fp10 R10 := v9.trans g9 s10.mv
      have ac10 := ac8.step g8 mv10
      obtain ⟨vs, hat, hlen, _⟩ := ac10.list
      have ap : ∀ x ∈ A :: f5, x ∉ f10 := fun x hx hx2 => New.apart ac8.tm n9 x hx (sf x hx2)
      have ac11 := ac10.push hat o10 ap
      have hAt : ∀ t, H9 A ≠ some (.tup t) := fun t z => by rw [hat] at z; cases z
      have g11 := g10.outw (o := .lst (vs ++ [y])) ac10.tm hAt
      have n10 : New (ls ++ L) H1 (fpW ow fp1) f10 := ((n9.sub sf).back g8 mv8).back g5 mv5
      refine ⟨vs, hat, ?_, ρ9, fpW ow fp10, R10, w5 && w9, acc ++ [d9], f5 ++ f10, w10, zs, ?_, ?_, ?_, n5.app n10, er, by rw [hwf, ew, Bool.and_assoc], by rw [hdf, ed]; simp⟩
      · have : (acc ++ ds6).length ≤ SZ := by rw [← hdf]; exact hsz
        rw [ed] at this
        simp at this
        show vs.length < SZ
        omega
      · have := g11.wipe ow
        rwa [hw7] at this
      · exact (((mv5.trans g5 mv8).trans g8 mv10).outw hA hAt).trans g11 (Mv.wipe hd)
      · exact ac11.step g11 (Mv.wipe (L := ls ++ L) hd)
theorem sv_lc {scope : Scope} {own : List (Str × Nat)} {ow : List Nat} (hc : X.calm = true) (hN : X.N.Nodup) (ok : BlkOk X.N X.env.scope scope own) (hi : PIv X C tge it iter)
    (hg : ∀ (s : Shared) (H : Hp) (D : Addr) (cl : List (Str × Addr)) (fp : List Addr), PGv (X.blk s H scope (compEnvC scope cl D X.env) fp) tg tge)
    (ht : ∀ (s : Shared) (H : Hp) (D : Addr) (cl : List (Str × Addr)) (fp : List Addr), PTsv (X.blk s H scope (compEnvC scope cl D X.env) fp) C ifs ifse)
    (he : ∀ (s : Shared) (H : Hp) (D : Addr) (cl : List (Str × Addr)) (fp : List Addr), PEv (X.blk s H scope (compEnvC scope cl D X.env) fp) C elt elte)
    (how : own.map (·.2) = ow := by rfl) (hT : (tgT tg).all ow.contains = true := by rfl) (hs : ∀ x, foldedSetIterable iter X.env x = pure x := by intro _; rfl) :
    PEv X C (.lc tg ow it ifs elt) (.ListComp elte [⟨tge, iter, ifse, 0⟩] scope pos) := by
  subst how
  exact peI (pe_lc (g := tgv X.K tg) (tt := tts X.K C ifs) (te := tvx X.K C elt) hc hN hi ok hg ht he hs) fun σ H Q h => lc_read hT h
/-! ### dicts -/
theorem Acc.putd {K : PySem.W.Frag} {H : Hp} {fp : Nat → List Addr} {R : Addr → Prop} {A : Addr} {w w1 : Bool} {kvs : List (D × D)} {f f2 : List Addr} {l : List (Key × V)} {d : D} {y : V} (key : Key) (h : Acc K H fp R A w (.dict kvs) f) (hA : H A = some (.dK l)) (o : Hold K H fp R (wM w1) d y f2) (ap : ∀ x ∈ A :: f, x ∉ f2) :
    ∃ f', Acc K (upd H A (.dK (putK l key y))) fp R A (w && w1) (.dict (putKV kvs (kD key) d)) f' ∧ ∀ b ∈ f', b ∈ f ∨ b ∈ f2 := by
  obtain ⟨u, vs, h1, ⟨l', rfl, k1, rfl, nd⟩, h3⟩ := h.ex
  rw [hA] at h1; cases h1
  have apf : ∀ x ∈ f, x ∉ f2 := fun x hx => ap x (List.mem_cons_of_mem _ hx)
  have tf : Tmp H fp R (f ++ f2) := h3.1.app o.tm apf
  have nAf : A ∉ f := (List.nodup_cons.mp h.tm.nd).1
  have nA2 : A ∉ f2 := ap A List.mem_cons_self
  have fin : ∀ {ds' : List D} {ws : List V}, valsOf (.dict (putKV kvs (kD key) d)) = ds' → DcA (.dK (putK l key y)) ((putKV kvs (kD key) d).map (·.1)) ws →
      (w1 = true → ∀ g, RpOs K H (kvs.map (·.2)) (l.map (·.2)) g → g.Nodup → (∀ b ∈ g, b ∉ f2) → ∃ (g' gx : List Addr), RpOs K H ds' ws g' ∧ g'.Nodup ∧ (∀ b ∈ g', b ∈ g ∨ b ∈ f2) ∧ (∀ b ∈ gx, b ∈ g ∧ b ∉ g') ∧ True) →
      (∀ S : Addr → Prop, (∀ b, R b → S b) → (∀ b ∈ f2, S b) → RpSs K H S (kvs.map (·.2)) (l.map (·.2)) → RpSs K H S ds' ws) →
      ∃ f', Acc K (upd H A (.dK (putK l key y))) fp R A (w && w1) (.dict (putKV kvs (kD key) d)) f' ∧ ∀ b ∈ f', b ∈ f ∨ b ∈ f2 := by
    intro ds' ws hv hs p1 p2
    subst hv
    cases hw : w && w1 with
    | true =>
      rw [Bool.and_eq_true] at hw
      obtain ⟨rfl, rfl⟩ := hw
      obtain ⟨g', _, q1, q2, q3, _⟩ := p1 rfl f h3.2 h3.1.nd apf
      refine ⟨g', h.put hs ⟨tf.sub (fun a ha => List.mem_append.mpr (q3 a ha)) q2, q1⟩ fun z => (q3 A z).elim nAf nA2, q3⟩
    | false =>
      refine ⟨f ++ f2, h.put hs ⟨tf, ?_⟩ fun z => (List.mem_append.mp z).elim nAf nA2, fun b hb => List.mem_append.mp hb⟩
      exact p2 _ (fun b => .inl) (fun b hb => .inr (List.mem_append_right _ hb)) (RpSs.to (fun a q => q.imp id (List.mem_append_left _)) h3.weak)
  rcases put_at key d y k1 nd with ⟨z1, z2, z3, z4, z5⟩ | ⟨n, d0, v00, z1, z2, z3, z4, z5, z6, z7, z8⟩
  · refine fin (ws := l.map (·.2) ++ [y]) (ds' := kvs.map (·.2) ++ [d]) (by show (putKV kvs (kD key) d).map (·.2) = _; rw [z3]; simp) ⟨_, rfl, ?_, by rw [z4]; simp, ?_⟩ (fun hw => push_own hw o o.tm.nd) (push_top o)
    · rw [z3, z4]; simp [k1]
    · rw [z4, List.map_append]
      exact List.nodup_append.mpr ⟨nd, by simp, fun b hb c hc e => z5 (by simp at hc; subst hc; exact e ▸ hb)⟩
  · have hlt : n < (kvs.map (·.2)).length := (List.getElem?_eq_some_iff.mp z2).1
    refine fin (ws := (l.map (fun p : Key × V => p.2)).set n y) (ds' := (kvs.map (fun p : D × D => p.2)).set n d) z6 ⟨_, rfl, ?_, z8, by rw [z7]; exact nd⟩ (fun hw => store_own hw o o.tm.nd hlt) (fun S s1 s2 h => h.set (store_top o s1 s2))
    rw [z5, ← k1]
    have := congrArg (List.map kD) z7
    rw [List.map_map, List.map_map] at this
    exact this
def mkD (ps : List D) : D :=
  match pairsOf ps with
  | some ps => .dict (ps.foldl (fun a p => putKV a p.1 p.2) [])
  | none => .none
theorem pairsOf_snoc {k v : D} (hk : keyOk k = true) : ∀ {acc : List D} {ps : List (D × D)}, pairsOf acc = some ps → pairsOf (acc ++ [.tuple [k, v]]) = some (ps ++ [(k, v)])
  | [], ps, h => by cases h; simp [pairsOf, hk]
  | x :: r, ps, h => by
    cases x with
    | tuple l =>
      match l, h with
      | [a, b], h =>
        have h : (if keyOk a then (pairsOf r).map fun l => (a, b) :: l else none) = some ps := h
        split at h
        · rename_i ha
          obtain ⟨l, h1, h2⟩ := Option.map_eq_some_iff.mp h
          subst h2
          show (if keyOk a then (pairsOf (r ++ [.tuple [k, v]])).map fun l => (a, b) :: l else none) = _
          rw [if_pos ha, pairsOf_snoc hk h1]
          rfl
        · cases h
      | [], h => cases h
      | [_], h => cases h
      | _ :: _ :: _ :: _, h => cases h
    | _ => cases h
theorem mkD_snoc {k v : D} {acc : List D} {kvs : List (D × D)} (hk : keyOk k = true) (h : mkD acc = .dict kvs) : mkD (acc ++ [.tuple [k, v]]) = .dict (putKV kvs k v) := by
  unfold mkD at h ⊢
  cases hp : pairsOf acc with
  | none => rw [hp] at h; cases h
  | some ps =>
    rw [hp] at h
    rw [pairsOf_snoc hk hp]
    simp only [PyData.dict.injEq] at h
    rw [← h]
    simp
theorem putKV_len (k v : D) : ∀ kvs : List (D × D), (putKV kvs k v).length ≤ kvs.length + 1
  | [] => by simp [putKV]
  | (a, u) :: r => by
    unfold putKV
    split
    · simp
    · have := putKV_len k v r
      simp only [List.length_cons]
      omega
theorem foldKV_len : ∀ (ps : List (D × D)) (kvs : List (D × D)), (ps.foldl (fun a p => putKV a p.1 p.2) kvs).length ≤ kvs.length + ps.length
  | [], kvs => by simp
  | p :: r, kvs => by
    have h1 := foldKV_len r (putKV kvs p.1 p.2)
    have h2 := putKV_len p.1 p.2 kvs
    simp only [List.foldl_cons, List.length_cons]
    omega
theorem pairsOf_len : ∀ {acc : List D} {ps : List (D × D)}, pairsOf acc = some ps → ps.length = acc.length
  | [], ps, h => by cases h; rfl
  | x :: r, ps, h => by
    cases x with
    | tuple l =>
      match l, h with
      | [a, b], h =>
        have h : (if keyOk a then (pairsOf r).map fun l => (a, b) :: l else none) = some ps := h
        split at h
        · obtain ⟨l, h1, h2⟩ := Option.map_eq_some_iff.mp h
          subst h2
          simp [pairsOf_len h1]
        · cases h
      | [], h => cases h
      | [_], h => cases h
      | _ :: _ :: _ :: _, h => cases h
    | _ => cases h
theorem mkD_len {acc : List D} {kvs : List (D × D)} (h : mkD acc = .dict kvs) : kvs.length ≤ acc.length := by
  unfold mkD at h
  cases hp : pairsOf acc with
  | none => rw [hp] at h; cases h
  | some ps =>
    rw [hp] at h
    simp only [PyData.dict.injEq] at h
    rw [← h, ← pairsOf_len hp]
    have := foldKV_len ps []
    simpa using this
theorem dc_read {K : PySem.W.Frag} {ow : List Nat} {σ : L2.St} {H : Hp} {Q : VK} (hT : (tgT tg).all ow.contains = true) (h : tvx K C (.dc tg ow it ifs kx vx) σ H Q) : tDc (tiv K C it) (tgv K tg) (tts K C ifs) (tvx K C kx) (tvx K C vx) ow σ H Q := by
  obtain ⟨L, ρ, fp, R, g, m, d, ρ', e, q⟩ := h
  obtain ⟨⟨items, ls⟩, ρ1, e1, e⟩ := bind_ok e
  dsimp only at e
  split at e
  · cases e
  rename_i hd
  have hd := not_any hd
  obtain ⟨⟨wf, dsf⟩, ρf, e2, e⟩ := bind_ok e
  dsimp only at e
  split at e
  case isFalse => cases e
  rename_i hsz
  cases hps : pairsOf dsf with
  | none => rw [hps] at e; cases e
  | some psf =>
  rw [hps] at e
  cases e
  have hmk : mkD dsf = .dict (psf.foldl (fun a p => putKV a p.1 p.2) []) := by unfold mkD; rw [hps]
  rw [← hmk] at q
  refine ⟨L, ρ, fp, R, g, items, ls, ρ1, e1, fun J H1 fp1 R1 g1 v1 jok A hA => ?_⟩
  let test : Env → PV.R Bool := fun r => evts C (ls ++ L) ifs r
  let el : Env → PV.R (Bool × List D) := fun r => (ev C (ls ++ L) kx r).bind fun (_, dk) r1 => if keyOk dk then (ev C (ls ++ L) vx r1).bind fun (m, d) r2 => PV.R.of ((use m d r2).map fun (w, r3) => ((w, [.tuple [dk, d]]), r3)) else .bad
  have mvr : Mv (ls ++ L) H1 fp1 R1 H1 (fpW ow fp1) R1 := Mv.wipe hd
  refine ⟨fun i m H => i ≤ items.length ∧ m = items.length - i ∧ Turn K C ow (ls ++ L) tg test el σ H1 (fpW ow fp1) R1 A mkD wf dsf ρf (items.drop i) H, ⟨items.length, Nat.zero_le _, by simp, lc_start g1 hd hA ⟨[], rfl, rfl, rfl, .nil⟩ rfl e2⟩, ?_⟩
  rintro i m H5 ⟨hi5, rfl, ρ5, fp5, R5, w5, acc, f5, w6, ds6, g5, mv5, ac5, n5, e5, hwf, hdf⟩
  have mvi : Mv ls H1 fp1 R1 H5 fp5 R5 := (mvr.trans (g1.wipe ow) mv5).mono fun i hi => List.mem_append_left _ hi
  cases hit : items[i]? with
  | none =>
    rw [List.drop_eq_nil_of_le (List.getElem?_eq_none_iff.mp hit)] at e5
    cases e5
    rw [Bool.and_true] at hwf
    rw [List.append_nil] at hdf
    subst hwf hdf
    exact .inl ⟨jok.stop _ H5 _ fp5 R5 g5 mvi i hit, lc_end hd g1 v1 hA g5 mv5 ac5 n5 q⟩
  | some p =>
    obtain ⟨wi, di⟩ := p
    obtain ⟨hlt, hge⟩ := List.getElem?_eq_some_iff.mp hit
    rw [List.drop_eq_getElem_cons hlt, hge] at e5
    obtain ⟨jg, jy⟩ := jok.go _ H5 _ fp5 R5 g5 mvi i wi di hit
    obtain ⟨ρ7, ha, c, ρ8, et, hcs⟩ := loopC_cons e5
    refine .inr ⟨jg, fun H' => Turn K C ow (ls ++ L) tg test el σ H1 (fpW ow fp1) R1 A mkD wf dsf ρf (items.drop (i + 1)) H', fun H' h' => ⟨items.length - (i + 1), by omega, hlt, rfl, h'⟩, fun x H6 hy => ?_⟩
    obtain ⟨g6, mv6, rp6⟩ := jy x H6 hy
    have mvH : ∀ {L}, Mv L H5 fp5 R5 H6 fp5 R5 := fun {L} => mv6 L
    refine ⟨tgT tg, ls ++ L, PV.wipe ρ5 ow, fp5, R5, ownK wi, di, [], ρ7, fun j hj => hj, g6, (RpK.of_shr rp6).2, rp6, .nil, ha, fun σ7 fp7 g7 s7 k7 => ?_⟩
    have mv7 : Mv (ls ++ L) H5 fp5 R5 H6 fp7 R5 := s7.mv (mvH) .nil
    have hl7 : σ7.length = σ.length := by
      have h1 := g7.len; have h2 := g6.len
      have h3 : ρ7.length = (PV.wipe ρ5 ow).length := by
        have := asgT_len ha
        exact this
      rw [wipe_length] at h2
      omega
    have hw7 : L2.wipe σ7 ow = L2.wipe σ ow := lwipe_eq hl7 fun j hj => by
      rw [k7 j fun z => hj (mem_fn hT j z), lwipe_out hj]
    refine ⟨hw7, ls ++ L, ρ7, fp7, R5, g7, c, ρ8, et, fun H8 fp8 R8 g8 v8 => ?_⟩
    have mv8 : Mv (ls ++ L) H5 fp5 R5 H8 fp8 R8 := mv7.trans g7 v8
    have ac8 := ac5.step g5 mv8
    rcases hcs with ⟨rfl, er⟩ | ⟨rfl, w9, ys, ρ9, ee, w10, zs, er, ew, ed⟩
    · refine ⟨ρ8, fpW ow fp8, R8, w5, acc, f5, w6, ds6, ?_, ?_, ?_, n5, er, hwf, hdf⟩
      · have := g8.wipe ow
        rwa [hw7] at this
      · exact (mv5.trans g5 mv8).trans g8 (Mv.wipe hd)
      · exact ac8.step g8 (Mv.wipe (L := ls ++ L) hd)
    · obtain ⟨⟨mk0, dk⟩, ρk, ek, ee⟩ := bind_ok ee
      dsimp only at ee
      split at ee
      case isFalse => cases ee
      rename_i hkey
      obtain ⟨⟨m9, d9⟩, ρ10, e9, e10⟩ := bind_ok ee
      obtain ⟨⟨w11, ρ11⟩, hu, e11⟩ := Option.map_eq_some_iff.mp (of_ok e10)
      cases e11
      refine ⟨ls ++ L, ρ8, fp8, R8, g8, mk0, dk, ρk, ek, fun yk Hk fpk Rk fk gk vk ok nk => ?_⟩
      obtain ⟨key, rfl⟩ := key_kD hkey
      have hyk : yk = kV key := by
        cases key with
        | inl i => exact ok.int
        | inr z => exact ok.str
      refine ⟨ls ++ L, ρk, fpk, Rk, gk, m9, d9, ρ10, e9, fun y H9 fp9 R9 f9 g9 v9 o9 n9 => ?_⟩
      obtain ⟨fp10, R10, f10, g10, s10, o10, sf⟩ := use_ok g9 o9 hu
      have ack := ac8.step g8 vk
      have mvk : Mv (ls ++ L) H5 fp5 R5 Hk fpk Rk := mv8.trans g8 vk
      have mv10 : Mv (ls ++ L) Hk fpk Rk H9 fp10 R10 := v9.trans g9 s10.mv
      have ac10 := ack.step gk mv10
      obtain ⟨u, vs, hat, hsh, hl⟩ := ac10.ex
      have hmd : ∃ kvs, mkD acc = .dict kvs := by
        cases hm : mkD acc with
        | dict kvs => exact ⟨kvs, rfl⟩
        | list kvs => unfold mkD at hm; split at hm <;> cases hm
        | _ => rw [hm] at hsh; exact hsh.elim
      obtain ⟨kvs, hmd⟩ := hmd
      rw [hmd] at ac10 hsh
      obtain ⟨l, rfl, k1, k2, nd⟩ := hsh
      have ap : ∀ x ∈ A :: f5, x ∉ f10 := fun x hx hx2 => New.apart ack.tm n9 x hx (sf x hx2)
      obtain ⟨f11, ac11, sf11⟩ := ac10.putd key hat o10 ap
      have hAt : ∀ t, H9 A ≠ some (.tup t) := fun t z => by rw [hat] at z; cases z
      have g11 := g10.outw (o := .dK (putK l key y)) ac10.tm hAt
      have n10 : New (ls ++ L) H1 (fpW ow fp1) f10 := ((n9.sub sf).back gk mvk).back g5 mv5
      refine ⟨l, key, hyk, hat, ?_, ρ11, fpW ow fp10, R10, w5 && w11, acc ++ [.tuple [kD key, d9]], f11, w10, zs, ?_, ?_, ?_, fun b hb => (sf11 b hb).elim (n5 b) (n10 b), er, by rw [hwf, ew, Bool.and_assoc], by rw [hdf, ed]; simp⟩
      · have h1 : (acc ++ ds6).length ≤ SZ := by rw [← hdf]; exact hsz
        rw [ed] at h1
        simp at h1
        have h2 := mkD_len hmd
        have h3 := congrArg List.length k1
        simp at h3
        show l.length < SZ
        omega
      · have := g11.wipe ow
        rwa [hw7] at this
      · exact (((mv5.trans g5 mvk).trans gk mv10).outw hA hAt).trans g11 (Mv.wipe hd)
      · rw [mkD_snoc hkey hmd]
        exact ac11.step g11 (Mv.wipe (L := ls ++ L) hd)
theorem sv_dc {scope : Scope} {own : List (Str × Nat)} {ow : List Nat} (hc : X.calm = true) (hN : X.N.Nodup) (ok : BlkOk X.N X.env.scope scope own) (hi : PIv X C tge it iter)
    (hg : ∀ (s : Shared) (H : Hp) (D : Addr) (cl : List (Str × Addr)) (fp : List Addr), PGv (X.blk s H scope (compEnvC scope cl D X.env) fp) tg tge)
    (ht : ∀ (s : Shared) (H : Hp) (D : Addr) (cl : List (Str × Addr)) (fp : List Addr), PTsv (X.blk s H scope (compEnvC scope cl D X.env) fp) C ifs ifse)
    (hk : ∀ (s : Shared) (H : Hp) (D : Addr) (cl : List (Str × Addr)) (fp : List Addr), PEv (X.blk s H scope (compEnvC scope cl D X.env) fp) C kx kxe)
    (he : ∀ (s : Shared) (H : Hp) (D : Addr) (cl : List (Str × Addr)) (fp : List Addr), PEv (X.blk s H scope (compEnvC scope cl D X.env) fp) C vx vxe)
    (how : own.map (·.2) = ow := by rfl) (hT : (tgT tg).all ow.contains = true := by rfl) (hs : ∀ x, foldedSetIterable iter X.env x = pure x := by intro _; rfl) :
    PEv X C (.dc tg ow it ifs kx vx) (.DictComp kxe vxe [⟨tge, iter, ifse, 0⟩] scope pos) := by
  subst how
  exact peI (pe_dc (g := tgv X.K tg) (tt := tts X.K C ifs) (tk := tvx X.K C kx) (tv := tvx X.K C vx) hc hN hi ok hg ht hk he hs) fun σ H Q h => dc_read hT h
/-! ### a name for it -/
variable {y : Str} {py spos : Pos} {i : Nat}
theorem sv_setLc {scope : Scope} {own : List (Str × Nat)} {ow : List Nat} (hc : X.calm = true) (hN : X.N.Nodup) (ok : BlkOk X.N X.env.scope scope own) (hi : PIv X C tge it iter)
    (hg : ∀ (s : Shared) (H : Hp) (D : Addr) (cl : List (Str × Addr)) (fp : List Addr), PGv (X.blk s H scope (compEnvC scope cl D X.env) fp) tg tge)
    (ht : ∀ (s : Shared) (H : Hp) (D : Addr) (cl : List (Str × Addr)) (fp : List Addr), PTsv (X.blk s H scope (compEnvC scope cl D X.env) fp) C ifs ifse)
    (he : ∀ (s : Shared) (H : Hp) (D : Addr) (cl : List (Str × Addr)) (fp : List Addr), PEv (X.blk s H scope (compEnvC scope cl D X.env) fp) C elt elte)
    (how : own.map (·.2) = ow := by rfl) (hT : (tgT tg).all ow.contains = true := by rfl) (hy : X.N[i]? = some y := by rfl) (hyl : X.env.scope.names.lookup y = some .local := by rfl)
    (hsw : swapsWith (.ListComp elte [⟨tge, iter, ifse, 0⟩] scope pos) (some (.Name y py)) spos.line X.env = pure true := by rfl) (hs : ∀ x, foldedSetIterable iter X.env x = pure x := by intro _; rfl) :
    PSv X C (.asg (.nm i) (.lc tg ow it ifs elt)) (.Assign [.Name y py] (.ListComp elte [⟨tge, iter, ifse, 0⟩] scope pos) spos) := by
  subst how
  exact psI (ps_setLc (g := tgv X.K tg) (tt := tts X.K C ifs) (te := tvx X.K C elt) hc hN hy hyl hsw hi ok hg ht he hs) fun D σ H h => by
    obtain ⟨L, ρ, fp, R, g, m, d, ρ1, e, q⟩ := asg_ok h
    exact lc_read hT ⟨L, ρ, fp, R, g, m, d, ρ1, e, fun v H1 fp1 R1 f1 g1 v1 o1 n1 => nm_ok (q v H1 fp1 R1 f1 g1 v1 o1 n1)⟩
end
end PV
end

section
set_option Elab.async false
set_option linter.all false
set_option autoImplicit false
set_option maxRecDepth 100000
namespace PV
open PySem PySem.Spec PyProof.Rows L2
variable [Tbs]
section
variable {X : Cx} {C : Ctx} {a b c es path : Ex} {s t : PV.St} {st : Stmt} {sts sts2 : List Stmt} {ea eb ec e tge eo : Expr} {eas : List Expr} {kws : List Keyword} {pos kpos tpos apos cpos : Pos} {nm : Option Str} {n : Str} {tg : Tg} {x : Nat} {op : Operator}
/-- o= on ints and texts -/
def rAugI (o : BO) : TIp := fun x y H Q => (∃ i j k, x = .int i ∧ y = .int j ∧ arithA o i j = some k ∧ Q (.int k) H) ∨ (∃ i j, o = .add ∧ x = .str i ∧ y = .str j ∧ i.length + j.length ≤ sizeLine ∧ Q (.str (i ++ j)) H) ∨ (o = .add ∧ rExt2 x y H Q)
structure AugOk (X : Cx) (o : BO) (op : Operator) : Prop where
  ip : PIp X op (rAugI o)
theorem sm_of {i : Int} (h : small i = true) : -(2 ^ 64) < i ∧ i < 2 ^ 64 := by
  unfold small at h
  simpa only [Bool.and_eq_true, decide_eq_true_eq] using h
theorem ag_add : AugOk X .add .Add := ⟨fun pins s σ H x y v u Q I rx ry h => by
  rcases h with ⟨i, j, k, rfl, rfl, e, q⟩ | ⟨i, j, _, rfl, rfl, hz, q⟩ | ⟨_, q⟩
  · cases e; exact iop_add pins s σ H _ _ v u Q I rx ry ⟨i, j, rfl, rfl, q⟩
  · exact iop_add_str pins s σ H _ _ v u Q I rx ry ⟨i, j, rfl, rfl, hz, q⟩
  · exact iop_ext pins s σ H _ _ v u Q I rx ry q⟩
theorem ag_sub : AugOk X .sub .Sub := ⟨fun pins s σ H x y v u Q I rx ry h => by
  rcases h with ⟨i, j, k, rfl, rfl, e, q⟩ | ⟨i, j, h, _⟩ | ⟨h, _⟩
  · cases e; exact iop_sub pins s σ H _ _ v u Q I rx ry ⟨i, j, rfl, rfl, q⟩
  · cases h
  · cases h⟩
theorem ag_mul : AugOk X .mul .Mult := ⟨fun pins s σ H x y v u Q I rx ry h => by
  rcases h with ⟨i, j, k, rfl, rfl, e, q⟩ | ⟨i, j, h, _⟩ | ⟨h, _⟩
  · have e : (if small i || small j then some (i * j) else none) = some k := e
    split at e
    · rename_i hs
      cases e
      rw [Bool.or_eq_true] at hs
      exact iop_mul pins s σ H _ _ v u Q I rx ry ⟨i, j, rfl, rfl, hs.imp sm_of sm_of, q⟩
    · cases e
  · cases h
  · cases h⟩
theorem sv_aug {o : BO} {pos' : Pos} (hN : X.N.Nodup) (k : AugOk X o op) (he : PEv X C a ea) (hi : X.N[x]? = some n := by rfl) (hx : Loc X.env.scope n := by first | exact Or.inl rfl | exact Or.inr rfl)
    (hf : X.fn n = true ∨ X.env.scope.names.lookup n = some .local := by first | exact .inl rfl | exact .inr rfl) : PSv X C (.aug x o a) (.AugAssign (.Name n pos') op ea pos) := by
  refine psI (ps_aug hN hi hx he k.ip hf) fun D σ H ⟨T, L, ρ, fp, R, hT, g, fl, ρ', e, q⟩ => ?_
  have e : (if (getc ρ x).isNone then PV.R.bad else (ev C (x :: L) a ρ).bind fun (mb, b) ρ1 => match getc ρ1 x with
    | none => .bad
    | some ⟨_, a⟩ => match a, b with
      | .int i, .int j => match arithA o i j with
        | none => .bad
        | some c => PV.R.of ((setv L ρ1 x .own (.int c)).map fun ρ2 => (.nx, ρ2))
      | .str y, .str z => if o = .add && decide (y.length + z.length ≤ SZ) then PV.R.of ((setv L ρ1 x .own (.str (y ++ z))).map fun ρ2 => (.nx, ρ2)) else .bad
      | .list _, .list zs => if o = .add && !L.contains x && isNew mb then (match use1 mb zs ρ1 with
        | none => .bad
        | some (w, ρ2) => match getc ρ2 x with
          | some ⟨k, .list xs⟩ => match stK k w true with
            | some k' => if xs.length + zs.length ≤ SZ then .ok .nx (ρ2.set x (some ⟨k', .list (xs ++ zs)⟩)) else .bad
            | none => .bad
          | _ => .bad) else .bad
      | _, _ => .bad) = .ok fl ρ' := e
  split at e
  · cases e
  rename_i hN0
  cases hc0 : getc ρ x with
  | none => rw [hc0] at hN0; exact absurd rfl hN0
  | some c0 =>
  obtain ⟨v0, hv0, _⟩ := g.cell x c0 hc0
  obtain ⟨⟨mb, b⟩, ρ1, e1, e⟩ := bind_ok e
  refine ⟨v0, hv0, x :: L, ρ, fp, R, g, mb, b, ρ1, e1, fun y H1 fp1 R1 f1 g1 v1 o1 n1 => ?_⟩
  have v1' : Mv L H fp R H1 fp1 R1 := v1.mono fun i hi => List.mem_cons_of_mem _ hi
  dsimp only at e
  have hx1 : x ∈ T := hT x List.mem_cons_self
  cases hc1 : getc ρ1 x with
  | none => rw [hc1] at e; cases e
  | some c1 =>
    obtain ⟨k1, a1⟩ := c1
    rw [hc1] at e
    obtain ⟨v0', hv0', rp⟩ := g1.cell x _ hc1
    rw [hv0] at hv0'; cases hv0'
    -- a new value for the name
    have fin : ∀ {d : PyData} {v : V}, im d = true → RpO X.K H1 d v [] → PV.R.of ((setv L ρ1 x .own d).map fun ρ2 => (Fl.nx, ρ2)) = .ok fl ρ' → D.nx (σ.set x (some v)) H1 := fun {d v} _ ro e => by
      obtain ⟨ρ2, h2, e⟩ := Option.map_eq_some_iff.mp (of_ok e)
      cases e
      obtain ⟨hL, hlt, rfl⟩ := setv_ok h2
      have g2 := g1.set (v := v) hlt (show RpK X.K H1 R1 .own d v [] from ro) .nil
      exact q _ H1 (fpS fp1 x []) R1 g2 (SetF.mv (f := []) ⟨fun j a h => by
        unfold fpS at h; split at h
        · cases h
        · exact .inl h, fun j hj => by unfold fpS; rw [if_neg fun e => hL (by rw [← e]; exact hj)]⟩ v1' .nil) (set_keep hx1)
    dsimp only at e
    split at e
    · rename_i i j
      have ev0 := (RpK.im (d := .int i) rfl rp).1
      simp only [RpO] at ev0
      cases ha : arithA o i j with
      | none => rw [ha] at e; cases e
      | some c =>
        rw [ha] at e
        exact .inl ⟨i, j, c, ev0.1, o1.int, ha, fin rfl (by simp [RpO]) e⟩
    · rename_i i j
      have ev0 := (RpK.im (d := .str i) rfl rp).1
      simp only [RpO] at ev0
      split at e
      · rename_i hz
        simp only [Bool.and_eq_true, decide_eq_true_eq] at hz
        exact .inr (.inl ⟨i, j, hz.1, ev0.1, o1.str, hz.2, fin rfl (by simp [RpO]) e⟩)
      · cases e
    · rename_i xs0 zs
      split at e
      case isFalse => cases e
      rename_i hc
      simp only [Bool.and_eq_true, decide_eq_true_eq, Bool.not_eq_true', List.contains_eq_mem, decide_eq_false_iff_not] at hc
      obtain ⟨⟨ho, hL⟩, hnew⟩ := hc
      cases hu1 : use1 mb zs ρ1 with
      | none => rw [hu1] at e; cases e
      | some p =>
      obtain ⟨w, ρ2⟩ := p
      rw [hu1] at e
      dsimp only at e
      cases hc2 : getc ρ2 x with
      | none => rw [hc2] at e; cases e
      | some c2 =>
      obtain ⟨k2, d2⟩ := c2
      rw [hc2] at e
      cases d2 with
      | list xs =>
        dsimp only at e
        cases hk : stK k2 w true with
        | none => rw [hk] at e; cases e
        | some k' =>
        rw [hk] at e
        dsimp only at e
        split at e
        case isFalse => cases e
        rename_i hsz
        cases e
        obtain ⟨a2, vs2, rfl, hb2, i2⟩ : ∃ a vs, y = .ref a ∧ H1 a = some (.lst vs) ∧ RpI X.K H1 fp1 R1 mb zs vs f1 := by
          cases mb with
          | own =>
            have rp : RpO X.K H1 (.list zs) y f1 := o1.rp
            simp only [RpO] at rp
            obtain ⟨a, vs, g, e, hl, rfl, hs⟩ := rp
            exact ⟨a, vs, e, hl, ⟨g, fun x q => List.mem_cons_of_mem _ q, (List.nodup_cons.mp o1.tm.nd).2, hs⟩⟩
          | top =>
            obtain ⟨a0, us, e, hl, _, hs⟩ := (show RpU X.K H1 R1 (.list zs) y f1 from o1.rp)
            exact ⟨a0, us, e, hl, RpSs.to (fun b hb => hb.imp id And.left) hs⟩
          | shr => cases hnew
          | bor i => cases hnew
          | bort i => cases hnew
        obtain ⟨fp2, R2, f2, g2, s2, l2, sf2⟩ := use1_ok g1 o1.tm i2 hu1
        have hup : updD (.list xs) [] (fun y => extD y zs) = some (.list (xs ++ zs)) := by
          show (if xs.length + zs.length ≤ SZ then some (PyData.list (xs ++ zs)) else none) = _
          rw [if_pos hsz]
        obtain ⟨e0, e1', a0, u, vs, q1, q2, q3, q4, q5, q6, q7, q8⟩ := box_chg (Ext := fun _ => True) g2 hc2 hv0 hup (ps := []) hk l2.1 fun e e' h => by
          cases e with
          | list ys =>
            have h : (if ys.length + zs.length ≤ SZ then some (PyData.list (ys ++ zs)) else none) = some e' := h
            split at h
            · cases h; exact ⟨rfl, rfl⟩
            · cases h
          | _ => cases h
        cases q1
        have q2 : (if xs.length + zs.length ≤ SZ then some (PyData.list (xs ++ zs)) else none) = some e1' := q2
        rw [if_pos hsz] at q2
        cases q2
        cases q4
        have eobj : V.ref a0 = v0 := q5
        subst eobj
        have mv2 : Mv L H fp R H1 fp2 R2 := v1'.trans g1 s2.mv
        have nf2 : New L H fp f2 := (n1.sub sf2).mono fun i hi => List.mem_cons_of_mem _ hi
        obtain ⟨f', R', ch, _, _⟩ := q8 (.lst (vs ++ vs2)) (vs ++ vs2) rfl (fun hw g hg ng ap => by
            subst hw
            have hz : RpOs X.K H1 zs vs2 f2 := l2.2
            exact ⟨g ++ f2, [], RpOs.app hg hz, List.nodup_append.mpr ⟨ng, l2.1.nd, fun b hb c hc z => ap b hb (z ▸ hc)⟩, fun b hb => List.mem_append.mp hb, fun b hb => absurd hb (by simp), trivial⟩)
          (fun S s1 s2' h => RpSs.app h (RpSs.to (fun b hb => hb.elim (s1 b) (s2' b)) l2.weak))
        have es : σ.set x (some (.ref a0)) = σ := by
          refine List.ext_getElem? fun i => ?_
          rw [List.getElem?_set]
          split
          · rename_i h
            subst h
            have hlt := (List.getElem?_eq_some_iff.mp hv0).1
            rw [if_pos hlt, hv0]
          · rfl
        refine .inr (.inr ⟨ho, a0, a2, vs, vs2, rfl, rfl, q3, hb2, ?_, ?_⟩)
        · rw [← q6, ← l2.len]; exact hsz
        · show D.nx (σ.set x (some (.ref a0))) _
          rw [es]
          exact q σ _ _ R' ch.gd (ch.mv mv2 hL nf2) .refl
      | _ => cases e
    · cases e
/-- d[i] -/
def rGetD : V → V → Hp → VK → Prop := fun o i H Q => ∃ a v, o = .ref a ∧ DGet H a i (some v) ∧ Q v H
theorem get_d (hu : X.A.units + 1 < cLine) : PGet X rGetD := by
  intro pins s σ H o i ov iv Q I ro ri h
  obtain ⟨a, v, rfl, g, q⟩ := h
  cases ro
  exact d_getItem hu I g ri fun w' s' I' r' => ⟨v, H, I', r', q⟩
theorem sv_augp {o : BO} {pos' : Pos} (hu : X.A.units + 1 < cLine) (k : AugOk X o op) (hi : PEv X C b eb) (he : PEv X C a ea) (hN : X.N[x]? = some n := by rfl) (hv : Vis X.env.scope n := by first | exact Or.inl rfl | exact Or.inr (Or.inl rfl) | exact Or.inr (Or.inr rfl)) (hd : (n == ("__debug__" : Str)) = false := by decide) (hcd : (n == ("__classdict__" : Str)) = false := by decide)
    (ha : ∀ ov iv new, augStore eb ov iv new = (do holding [new, ov, iv] (setItem ov iv new); release [new, ov, iv] []; pure .next) := by intros; rfl) :
    PSv X C (.augp x b o a) (.AugAssign (.Subscript (.Name n pos') eb tpos) op ea pos) := by
  refine psI (ps_augS (pe_var hN hv hd hcd) hi (get_d hu) he k.ip (set_dict hu) ha) fun D σ H ⟨T, L, ρ, fp, R, hT, g, fl, ρ', e, q⟩ => ?_
  have e : (if (getc ρ x).isNone then PV.R.bad else (ev C (x :: L) b ρ).bind fun (_, di) ρ1 => match getc ρ1 x with
    | none => .bad
    | some ⟨_, d⟩ => if !isDict d then .bad else match atD d di with
      | some (.int a1) => (ev C (x :: L) a ρ1).bind fun (_, b) ρ2 => match b with
        | .int b => match arithA o a1 b with
          | none => .bad
          | some c => if L.contains x then .bad else match getc ρ2 x with
            | some ⟨k, d2⟩ => match (if isDict d2 then stK k true true else none) with
              | none => .bad
              | some k' => match putD d2 di (.int c) with
                | some d' => .ok .nx (ρ2.set x (some ⟨k', d'⟩))
                | none => .bad
            | none => .bad
        | _ => .bad
      | _ => .bad) = .ok fl ρ' := e
  split at e
  · cases e
  rename_i hN0
  cases hc0 : getc ρ x with
  | none => rw [hc0] at hN0; exact absurd rfl hN0
  | some c0 =>
  obtain ⟨v0, hv0, _⟩ := g.cell x c0 hc0
  obtain ⟨⟨mi, di⟩, ρ1, e1, e⟩ := bind_ok e
  dsimp only at e
  refine ⟨v0, hv0, x :: L, ρ, fp, R, g, mi, di, ρ1, e1, fun idx H1 fp1 R1 f1 g1 v1 o1 n1 => ?_⟩
  cases hc1 : getc ρ1 x with
  | none => rw [hc1] at e; cases e
  | some c1 =>
    obtain ⟨k1, d1⟩ := c1
    rw [hc1] at e
    dsimp only at e
    split at e
    · cases e
    rename_i hdict
    cases d1 with
    | dict kvs =>
      split at e
      · rename_i a1 hat
        obtain ⟨⟨mb, b1⟩, ρ2, e2, e⟩ := bind_ok e
        dsimp only at e
        have hat : (if keyOk di then look kvs di else none) = some (.int a1) := hat
        split at hat
        case isFalse => cases hat
        rename_i hkey
        obtain ⟨m1, ho1⟩ : ∃ m1, ld ρ1 x = some (m1, .dict kvs) := by
          unfold ld; rw [hc1]; cases k1 <;> exact ⟨_, rfl⟩
        obtain ⟨v0', hv0', oh⟩ := ld_hold g1 ho1
        rw [hv0] at hv0'; cases hv0'
        obtain ⟨aA, l, rfl, hl, ke, ri, _⟩ := oh.itemsD
        obtain ⟨S, q2⟩ := o1.read
        obtain ⟨key, rfl, rfl⟩ := key_of hkey q2
        rcases look_ix key ke with ⟨h3, h4⟩ | ⟨nn, dd, vv, h3, h4, h5, h6⟩
        · rw [h3] at hat; cases hat
        · rw [h3] at hat
          cases hat
          obtain ⟨vr, fr, hr1, hr2, _⟩ := ri.at .nil h4
          rw [h6] at hr1; cases hr1
          have evv := hr2.int
          subst evv
          refine ⟨aA, _, rfl, .inl ⟨l, key, hl, rfl, h5.symm⟩, x :: L, ρ1, fp1, R1, g1, mb, b1, ρ2, e2, fun y H2 fp2 R2 f2 g2 v2 o2 n2 => ?_⟩
          cases b1 with
          | int j =>
            dsimp only at e
            cases hA : arithA o a1 j with
            | none => rw [hA] at e; cases e
            | some cc =>
              rw [hA] at e
              dsimp only at e
              split at e
              · cases e
              rename_i hL
              have hL : x ∉ L := by simpa using hL
              refine .inl ⟨a1, j, cc, rfl, o2.int, hA, ?_⟩
              cases hc2 : getc ρ2 x with
              | none => rw [hc2] at e; cases e
              | some c2 =>
                obtain ⟨k2, d2⟩ := c2
                rw [hc2] at e
                dsimp only at e
                cases hk' : (if isDict d2 then stK k2 true true else none) with
                | none => rw [hk'] at e; cases e
                | some k' =>
                  rw [hk'] at e
                  dsimp only at e
                  split at hk'
                  case isFalse => cases hk'
                  rename_i hdd
                  have hk := hk'
                  cases hp : putD d2 (kD key) (.int cc) with
                  | none => rw [hp] at e; cases e
                  | some d' =>
                    rw [hp] at e
                    cases e
                    have hup : updD d2 [] (fun y => putD y (kD key) (.int cc)) = some d' := hp
                    obtain ⟨e0, e1', a0, u, vs, q1, q2, q3, q4, q5, q6, q7, q8⟩ := box_chg (Ext := fun _ => True) (fv := []) g2 hc2 hv0 hup (ps := []) hk .nil fun _ _ h => putD_box h
                    have eobj : V.ref aA = .ref a0 := (show V.ref a0 = V.ref aA from q5).symm
                    cases eobj
                    cases q1
                    have mv2 : Mv L H fp R H2 fp2 R2 := (v1.mono fun i hi => List.mem_cons_of_mem _ hi).trans g1 (v2.mono fun i hi => List.mem_cons_of_mem _ hi)
                    have oc : Hold X.K H2 fp2 R2 (wM true) (.int cc) (.int cc) [] := .ofI
                    have fin : ∀ {u' : HO} {ws : List V}, Sh e1' u' ws → (true = true → ∀ g, RpOs X.K H2 (valsOf d2) vs g → g.Nodup → (∀ b ∈ g, b ∉ ([] : List Addr)) → ∃ (g' gx : List Addr), RpOs X.K H2 (valsOf e1') ws g' ∧ g'.Nodup ∧ (∀ b ∈ g', b ∈ g ∨ b ∈ ([] : List Addr)) ∧ (∀ b ∈ gx, b ∈ g ∧ b ∉ g') ∧ True) →
                        (∀ S : Addr → Prop, (∀ b, R2 b → S b) → (∀ b ∈ ([] : List Addr), S b) → RpSs X.K H2 S (valsOf d2) vs → RpSs X.K H2 S (valsOf e1') ws) → D.nx σ (upd H2 aA u') := fun {u' ws} h1 h2 h3 => by
                      obtain ⟨f', R', ch, _, _⟩ := q8 u' ws h1 h2 h3
                      exact q σ _ _ R' ch.gd (ch.mv mv2 hL .nil) .refl
                    rw [hp] at q2; cases q2
                    cases d2 with
                    | dict kvs2 =>
                      have hp : (if keyOk (kD key) && decide (kvs2.length < SZ) then some (PyData.dict (putKV kvs2 (kD key) (.int cc))) else none) = some d' := hp
                      split at hp
                      · rename_i hkk
                        cases hp
                        rw [Bool.and_eq_true, decide_eq_true_eq] at hkk
                        obtain ⟨l2, rfl, k1', k2', nd⟩ := q4
                        subst k2'
                        have hl2 : l2.length < sizeLine := by
                          have := congrArg List.length k1'
                          simp at this
                          rw [this]; exact hkk.2
                        refine ⟨aA, _, rfl, .k q3 hl2, ?_⟩
                        rcases put_at key (.int cc) (.int cc) k1' nd with ⟨z1, z2, z3, z4, z5⟩ | ⟨n, d0, v00, z1, z2, z3, z4, z5, z6, z7, z8⟩
                        · rw [z4]
                          refine fin (ws := l2.map (fun p : Key × V => p.2) ++ [.int cc]) ?_ (fun hw => ?_) ?_
                          · show DcA _ _ _
                            refine ⟨_, rfl, ?_, by simp, ?_⟩
                            · rw [z3]; simp [k1']
                            · rw [List.map_append]
                              exact List.nodup_append.mpr ⟨nd, by simp, fun b hb c hc ee => z5 (by simp at hc; rw [hc] at ee; exact ee ▸ hb)⟩
                          · show ∀ g, RpOs X.K H2 (kvs2.map (·.2)) _ g → g.Nodup → _ → ∃ (g' gx : List Addr), RpOs X.K H2 ((putKV kvs2 (kD key) (.int cc)).map (·.2)) _ g' ∧ _
                            rw [z3, List.map_append]
                            exact push_own hw oc .nil
                          · show ∀ S : Addr → Prop, (∀ b, R2 b → S b) → _ → RpSs X.K H2 S (kvs2.map (·.2)) _ → RpSs X.K H2 S ((putKV kvs2 (kD key) (.int cc)).map (·.2)) _
                            rw [z3, List.map_append]
                            exact push_top oc
                        · have hlt : n < (kvs2.map (·.2)).length := (List.getElem?_eq_some_iff.mp z2).1
                          refine fin (ws := (l2.map (fun p : Key × V => p.2)).set n (.int cc)) ?_ (fun hw => ?_) ?_
                          · show DcA _ _ _
                            refine ⟨_, rfl, ?_, z8, by rw [z7]; exact nd⟩
                            rw [z5, ← k1']
                            have := congrArg (List.map kD) z7
                            rw [List.map_map, List.map_map] at this
                            exact this
                          · show ∀ g, RpOs X.K H2 (kvs2.map (·.2)) _ g → g.Nodup → _ → ∃ (g' gx : List Addr), RpOs X.K H2 ((putKV kvs2 (kD key) (.int cc)).map (·.2)) _ g' ∧ _
                            rw [z6]
                            exact store_own hw oc .nil hlt
                          · show ∀ S : Addr → Prop, (∀ b, R2 b → S b) → _ → RpSs X.K H2 S (kvs2.map (·.2)) _ → RpSs X.K H2 S ((putKV kvs2 (kD key) (.int cc)).map (·.2)) _
                            rw [z6]
                            exact fun S s1 s2 h => h.set (store_top oc s1 s2)
                      · cases hp
                    | _ => cases hdd
          | _ => cases e
      · cases e
    | _ => exact absurd rfl hdict
end
end PV
end

section
set_option Elab.async false
set_option linter.all false
set_option autoImplicit false
set_option maxRecDepth 100000
namespace PV
open PySem PySem.Spec PyProof.Rows L2
variable [Tbs]
section
variable {K : PySem.W.Frag} {σ σ1 σ2 σ' : L2.St} {H H0 H1 H2 H' : Hp} {ρ ρ1 ρ2 ρ' : Env} {fp fp0 fp1 fp2 fp' : Nat → List Addr} {R R0 R1 R2 R' S : Addr → Prop} {L L' T T' ls ow : List Nat} {f g f2 : List Addr} {i : Nat}
theorem Gd.hide (g : Gd K σ H ρ fp R) (i : Nat) : Gd K σ H (ρ.set i none) (fpS fp i []) R where
  len := by simpa using g.len
  tb := g.tb
  cell := fun j c h => by
    rw [getc_setn] at h
    unfold fpS
    split at h
    · cases h
    · rename_i e; rw [if_neg e]; exact g.cell j c h
  non := fun j h => by
    rw [getc_setn] at h
    unfold fpS
    split at h
    · rename_i e; rw [if_pos e]
    · rename_i e; rw [if_neg e]; exact g.non j h
  nd := fun j => by unfold fpS; split; exact .nil; exact g.nd j
  dj := fun j l a h1 h2 => by
    unfold fpS at h1 h2
    split at h1
    · cases h1
    · split at h2
      · cases h2
      · exact g.dj j l a h1 h2
  dR := fun j a h => by
    unfold fpS at h
    split at h
    · cases h
    · exact g.dR j a h
  tr := fun j a h => by
    unfold fpS at h
    split at h
    · cases h
    · exact g.tr j a h
  tR := g.tR
theorem SetF.hide (hL : i ∉ L) : SetF L [] fp (fpS fp i []) := ⟨fun j a h => by
  unfold fpS at h; split at h
  · cases h
  · exact .inl h, fun j hj => by unfold fpS; rw [if_neg fun e => hL (by rw [← e]; exact hj)]⟩
theorem SetF.put (hL : i ∉ L) : SetF L f fp (fpS fp i f) := ⟨fun j a h => by
  unfold fpS at h; split at h
  · exact .inr h
  · exact .inl h, fun j hj => by unfold fpS; rw [if_neg fun e => hL (by rw [← e]; exact hj)]⟩
theorem Mv.hide (hL : i ∉ L) (mv : Mv L H0 fp0 R0 H fp R) : Mv L H0 fp0 R0 H (fpS fp i []) R := SetF.mv (SetF.hide hL) mv .nil
theorem Tmp.hide (t : Tmp H fp R f) : Tmp H (fpS fp i []) R f := ⟨t.nd, fun j a h z => by
  unfold fpS at z; split at z
  · cases z
  · exact t.dj j a h z, t.dR, t.tr⟩
end
section
variable {X : Cx} {C : Ctx} {s t : PV.St} {sts : List Stmt} {pos pi px : Pos} {ni nx : Str} {i x : Nat}
theorem sv_forio (hp : PassesOwn (model X.prog X.w) X.A X.env X.xe) (hc : X.calm = true) (hN : X.N.Nodup) (hb : PBv X C s sts)
    (hx : X.N[x]? = some nx := by rfl) (hv : Vis X.env.scope nx := by first | exact Or.inl rfl | exact Or.inr (Or.inl rfl) | exact Or.inr (Or.inr rfl)) (hd : (nx == ("__debug__" : Str)) = false := by decide) (hcd : (nx == ("__classdict__" : Str)) = false := by decide)
    (hi : X.N[i]? = some ni := by rfl) (hil : Loc X.env.scope ni := by first | exact Or.inl rfl | exact Or.inr rfl) (hf : X.fn ni = true ∨ X.env.scope.names.lookup ni = some .local := by first | exact .inl rfl | exact .inr rfl)
    (hs : ∀ v, foldedSetIterable (.Name nx px) X.env v = pure v := by intro _; rfl) : PSv X C (.forio i x s) (.For (.Name ni pi) (.Name nx px) sts [] pos) := by
  refine psI (ps_for hp hc (pi_list (pe_var hx hv hd hcd)) (pg_name hN hi hil hf) hb hs) fun D σ H ⟨T, L, ρ, fp, R, hT, g, fl, ρf, e, q⟩ => ?_
  have e : (if L.contains x || L.contains i || decide (i = x) || (tgs s).contains i || (tgs s).contains x || !decide (i < ρ.length) then PV.R.bad else match getc ρ i with
    | some ⟨.io, _⟩ => .bad
    | some ⟨.iot, _⟩ => .bad
    | _ => match getc ρ x with
      | some ⟨k, .list xs⟩ => if isOwn k then loopIO i x k (fun r => exec C (x :: L) s r) [] xs ((ρ.set i none).set x none) else .bad
      | _ => .bad) = .ok fl ρf := e
  split at e
  · cases e
  rename_i hcnd
  simp only [Bool.or_eq_true, not_or, decide_eq_true_eq, Bool.not_eq_true', decide_eq_false_iff_not, Classical.not_not, List.contains_iff_mem] at hcnd
  obtain ⟨⟨⟨⟨⟨hLx, hLi⟩, hix⟩, hti⟩, htx⟩, hil'⟩ := hcnd
  have hiT : i ∈ T := hT i List.mem_cons_self
  have hsT : ∀ j ∈ tgs s, j ∈ T := fun j hj => hT j (List.mem_cons_of_mem _ hj)
  have e : (match getc ρ x with
      | some ⟨k, .list xs⟩ => if isOwn k then loopIO i x k (fun r => exec C (x :: L) s r) [] xs ((ρ.set i none).set x none) else .bad
      | _ => .bad) = PV.R.ok fl ρf := by
    split at e
    · cases e
    · cases e
    · exact e
  split at e
  case h_2 => cases e
  rename_i k xs hcx
  split at e
  case isFalse => cases e
  rename_i hk
  obtain ⟨v0, hv0, rp0⟩ := g.ownCell hcx hk
  have rp0' := rp0
  simp only [RpO] at rp0'
  obtain ⟨a0, vs, f0, rfl, hl0, hfx, hs0⟩ := rp0'
  have hxl := getc_lt hcx
  have len0 := hs0.length
  refine ⟨_, hv0, a0, rfl, ⟨vs, .of hl0⟩, ?_⟩
  -- both names are taken away
  have g1 := (g.hide i).hide x
  have hcx1 : ∀ {ρ' : Env}, getc (ρ'.set x none) x = none := fun {ρ'} => by rw [getc_setn, if_pos rfl]
  have t0 : Tmp H (fpS (fpS fp i []) x []) R (a0 :: f0) := by
    rw [← hfx]
    refine ⟨g.nd x, fun j a ha z => ?_, g.dR x, g.tr x⟩
    unfold fpS at z
    split at z
    · cases z
    · rename_i hj
      split at z
      · cases z
      · exact hj (g.dj j x a z ha)
  refine ⟨fun n m σ' H' => ∃ ρ' fp' R' done fd ft, Gd X.K σ' H' ρ' fp' R' ∧ getc ρ' x = none ∧ getc ρ' i = none ∧ Mv L H fp R H' fp' R' ∧ Keep T σ σ' ∧ σ'[x]? = some (some (.ref a0)) ∧ Tmp H' fp' R' (a0 :: (fd ++ ft)) ∧ New L H fp (a0 :: (fd ++ ft)) ∧ H' a0 = some (.lst vs) ∧ RpOs X.K H' done (vs.take n) fd ∧ RpOs X.K H' (xs.drop n) (vs.drop n) ft ∧ m = xs.length - n ∧ n ≤ xs.length ∧ loopIO i x k (fun r => exec C (x :: L) s r) done (xs.drop n) ρ' = .ok fl ρf,
    ⟨xs.length, (ρ.set i none).set x none, _, R, [], [], f0, g1, hcx1, by rw [getc_setn, if_neg hix, getc_setn, if_pos rfl], (Mv.hide hLx (Mv.hide hLi .refl)), .refl, hv0, t0, fun b hb => .inr ⟨x, hLx, by rw [hfx]; simpa using hb⟩, hl0, by simp [RpOs], by simpa using hs0, by simp, Nat.zero_le _, e⟩, ?_⟩
  rintro n m σ2 H2 ⟨ρ2, fp2, R2, done, fd, ft, g2, hc2x, hc2i, mv, kp, hvx, t2, nw, hl2, rd, rt, hm, hn, e⟩
  cases hit : xs[n]? with
  | none =>
    have hle := List.getElem?_eq_none_iff.mp hit
    refine .inl ⟨⟨vs, .of hl2, by omega⟩, ?_⟩
    rw [List.drop_eq_nil_of_le hle] at e rt
    cases e
    rw [List.drop_eq_nil_of_le (by omega)] at rt
    simp only [RpOs] at rt
    obtain ⟨_, rfl⟩ := rt
    rw [List.append_nil] at t2 nw
    rw [List.take_of_length_le (by omega)] at rd
    have ro : RpO X.K H2 (.list done) (.ref a0) (a0 :: fd) := by simp only [RpO]; exact ⟨a0, vs, fd, rfl, hl2, rfl, rd⟩
    have hlx2 : x < ρ2.length := by
      have h1 := g2.len; have h2 := g.len
      have : x < σ2.length := (List.getElem?_eq_some_iff.mp hvx).1
      omega
    have g3 := g2.set (v := .ref a0) hlx2 (show RpK X.K H2 R2 k (.list done) (.ref a0) (a0 :: fd) by rcases isOwn_iff.mp hk with rfl | rfl <;> exact ro) t2
    rw [set_same hvx] at g3
    exact q σ2 H2 _ R2 g3 (SetF.mv (SetF.put hLx) mv nw) kp
  | some d =>
    obtain ⟨hlt, hge⟩ := List.getElem?_eq_some_iff.mp hit
    rw [List.drop_eq_getElem_cons hlt, hge] at e
    have hv : n < vs.length := by omega
    rw [List.drop_eq_getElem_cons hlt, List.drop_eq_getElem_cons hv, hge] at rt
    simp only [RpOs] at rt
    obtain ⟨v', r', fa, fb, ev, rfl, ra, rb⟩ := rt
    simp only [List.cons.injEq] at ev
    obtain ⟨rfl, rfl⟩ := ev
    refine .inr ⟨⟨vs, vs[n], .of hl2, List.getElem?_eq_getElem hv⟩, ?_⟩
    have e : (if ρ2.length ≤ i then PV.R.bad else (exec C (x :: L) s (ρ2.set i (some ⟨.own, d⟩))).bind fun f ρ2 => match f with
      | .nx => match getc ρ2 i, getc ρ2 x with
        | some ⟨.own, d'⟩, none => loopIO i x k (fun r => exec C (x :: L) s r) (done ++ [d']) (xs.drop (n + 1)) (ρ2.set i none)
        | _, _ => .bad
      | .ret m d => .ok (.ret m d) ρ2
      | _ => .bad) = PV.R.ok fl ρf := e
    split at e
    · cases e
    rename_i hil3
    obtain ⟨f5, ρ5, e5, e6⟩ := bind_ok e
    have nd := List.nodup_cons.mp t2.nd
    have nd1 := List.nodup_append.mp nd.2
    have nd2 := List.nodup_append.mp nd1.2.1
    have ta : Tmp H2 fp2 R2 fa := t2.sub (fun a h => by simp [h]) nd2.1
    have tb : Tmp H2 fp2 R2 (a0 :: (fd ++ fb)) := t2.sub (fun a h => by
      simp at h
      rcases h with h | h | h <;> simp [h]) (List.nodup_cons.mpr ⟨fun h => nd.1 (by simp at h; rcases h with h | h <;> simp [h]), List.nodup_append.mpr ⟨nd1.1, nd2.2.1, fun a ha b hb => nd1.2.2 a ha b (by simp [hb])⟩⟩)
    have hil2 : i < ρ2.length := by omega
    refine ⟨fun σ' H' => ∃ ρ' fp' R' done fd ft, Gd X.K σ' H' ρ' fp' R' ∧ getc ρ' x = none ∧ getc ρ' i = none ∧ Mv L H fp R H' fp' R' ∧ Keep T σ σ' ∧ σ'[x]? = some (some (.ref a0)) ∧ Tmp H' fp' R' (a0 :: (fd ++ ft)) ∧ New L H fp (a0 :: (fd ++ ft)) ∧ H' a0 = some (.lst vs) ∧ RpOs X.K H' done (vs.take (n + 1)) fd ∧ RpOs X.K H' (xs.drop (n + 1)) (vs.drop (n + 1)) ft ∧ loopIO i x k (fun r => exec C (x :: L) s r) done (xs.drop (n + 1)) ρ' = .ok fl ρf,
      fun σ' H' ⟨ρ', fp', R', done, fd, ft, h1, h2, h3, h4, h5, h6, h7, h8, h9, h10, h11, h12⟩ => ⟨m - 1, by omega, ρ', fp', R', done, fd, ft, h1, h2, h3, h4, h5, h6, h7, h8, h9, h10, h11, by omega, by omega, h12⟩, fun y H3 hy => ?_⟩
    obtain ⟨eH, hy⟩ := hy
    subst eH
    have := hy vs (.of hl2)
    rw [List.getElem?_eq_getElem hv] at this
    cases this
    have g3 := g2.set (v := vs[n]) hil2 (show RpK X.K H3 R2 .own d vs[n] fa from ra) ta
    have nwa : New L H fp fa := nw.sub fun a h => by simp [h]
    have mv3 : Mv L H fp R H3 (fpS fp2 i fa) R2 := SetF.mv (SetF.put hLi) mv nwa
    have tb3 : Tmp H3 (fpS fp2 i fa) R2 (a0 :: (fd ++ fb)) := ⟨tb.nd, fun j a h z => by
      unfold fpS at z
      split at z
      · simp at h
        rcases h with rfl | h | h
        · exact nd.1 (by simp [z])
        · exact nd1.2.2 a h a (by simp [z]) rfl
        · exact nd2.2.2 a z a h rfl
      · exact tb.dj j a h z, tb.dR, tb.tr⟩
    refine ⟨tgs s, x :: L, _, _, R2, fun j hj => hj, g3, f5, ρ5, e5, fun σ5 H5 fp5 R5 g5 v5 k5 => ?_⟩
    have v5' : Mv L H3 (fpS fp2 i fa) R2 H5 fp5 R5 := v5.mono fun j hj => List.mem_cons_of_mem _ hj
    have mv5 : Mv L H fp R H5 fp5 R5 := mv3.trans g3 v5'
    have kp5 : Keep T σ σ5 := (kp.trans (set_keep hiT)).trans (k5.mono hsT)
    cases f5 with
    | nx =>
      dsimp only at e6
      split at e6
      case h_2 => cases e6
      rename_i d' hc5i hc5x
      obtain ⟨tb5, kb5⟩ := tb3.step v5
      obtain ⟨w5, hw5, rp5⟩ := g5.cell i _ hc5i
      have hw5' : σ5[i]? = some (some vs[n]) := by
        rw [k5 i hti, List.getElem?_set_self (by rw [← g2.len]; exact hil2)]
      rw [hw5'] at hw5; cases hw5
      have rp5 : RpO X.K H5 d' vs[n] (fp5 i) := rp5
      have hx5 : σ5[x]? = some (some (.ref a0)) := by
        rw [k5 x htx, List.getElem?_set_ne hix]; exact hvx
      have n5 : New L H fp (fp5 i) := fun b hb => (mv5.nf i b hb).imp id fun ⟨j, h⟩ => ⟨j, fun hj => (mv5.lock j hj b h).elim (fun z => hLi (g5.dj i j b hb z ▸ hj)) (g5.dR i b hb), h⟩
      have ntb := List.nodup_cons.mp tb5.nd
      have ntb1 := List.nodup_append.mp ntb.2
      have inb : ∀ a, a ∈ fp5 i → a ∉ a0 :: (fd ++ fb) := fun a h z => tb5.dj i a z h
      refine ⟨ρ5.set i none, fpS fp5 i [], R5, done ++ [d'], fd ++ fp5 i, fb, g5.hide i, by rw [getc_setn]; split; rfl; exact hc5x, by rw [getc_setn, if_pos rfl], Mv.hide hLi mv5, kp5, hx5, ?_, ?_, (kb5 a0 List.mem_cons_self).trans hl2, ?_, RpOs.stay v5.tup (fun a h => kb5 a (by simp [h])) rb, e6⟩
      · refine ⟨List.nodup_cons.mpr ⟨fun h => ?_, List.nodup_append.mpr ⟨List.nodup_append.mpr ⟨ntb1.1, g5.nd i, fun a ha b hb e => inb b hb (by subst e; simp [ha])⟩, ntb1.2.1, fun a ha b hb e => ?_⟩⟩, fun j a h z => ?_, fun a h z => ?_, fun a h => ?_⟩
        · simp only [List.mem_append] at h
          rcases h with (h | h) | h
          · exact ntb.1 (by simp [h])
          · exact inb a0 h (by simp)
          · exact ntb.1 (by simp [h])
        · subst e
          rcases List.mem_append.mp ha with h | h
          · exact ntb1.2.2 a h a hb rfl
          · exact inb a h (by simp [hb])
        · unfold fpS at z
          split at z
          · cases z
          rename_i hj
          simp only [List.mem_cons, List.mem_append] at h
          rcases h with h | (h | h) | h
          · exact tb5.dj j a (by simp [h]) z
          · exact tb5.dj j a (by simp [h]) z
          · exact hj (g5.dj j i a z h)
          · exact tb5.dj j a (by simp [h]) z
        · simp only [List.mem_cons, List.mem_append] at h
          rcases h with h | (h | h) | h
          · exact tb5.dR a (by simp [h]) z
          · exact tb5.dR a (by simp [h]) z
          · exact g5.dR i a h z
          · exact tb5.dR a (by simp [h]) z
        · simp only [List.mem_cons, List.mem_append] at h
          rcases h with h | (h | h) | h
          · exact tb5.tr a (by simp [h])
          · exact tb5.tr a (by simp [h])
          · exact g5.tr i a h
          · exact tb5.tr a (by simp [h])
      · intro a h
        simp only [List.mem_cons, List.mem_append] at h
        rcases h with h | (h | h) | h
        · exact nw a (by simp [h])
        · exact nw a (by simp [h])
        · exact n5 a h
        · exact nw a (by simp [h])
      · rw [List.take_succ_eq_append_getElem hv]
        refine RpOs.app (RpOs.stay v5.tup (fun a h => kb5 a (by simp [h])) rd) ?_
        simp only [RpOs]
        exact ⟨vs[n], [], fp5 i, [], rfl, by simp, rp5, rfl, rfl⟩
    | brk => cases e6
    | ct => cases e6
    | ret m d =>
      cases e6
      exact fun v f o n => q σ5 H5 fp5 R5 g5 mv5 kp5 v f o ((n.mono fun j hj => List.mem_cons_of_mem _ hj).back g3 mv3)
end
end PV
end

section
set_option Elab.async false
set_option linter.all false
set_option autoImplicit false
set_option maxRecDepth 100000
namespace PVX
open PySem PySem.Spec PyProof.Rows L2
def tListVals (te : TE) : TE := fun σ H Q => te σ H fun x H1 => ∃ (d : Addr) (kvs : List (Key × V)), x = .ref d ∧ Rd H1 d (.dK kvs) ∧ ∀ p, H1 p = none → Q (.ref p) (upd H1 p (.lst (kvs.map (·.2))))
section
variable {X : Cx} {e : Expr} {te : TE} {p apos cpos pos : Pos}
theorem vals_of {kvs : List (Key × V)} {vs : List (Key × Value)} (r : KV kvs vs) {acc : List Value} (hl : acc.length = vs.length) (h : ∀ (i : Nat) (v : Value), acc[i]? = some v → ∃ k, vs[i]? = some (k, v)) : Vals (kvs.map (·.2)) acc := by
  unfold KV at r
  induction r generalizing acc with
  | nil =>
    have : acc = [] := List.length_eq_zero_iff.mp (by simpa using hl)
    subst this; exact .nil
  | cons r t ih =>
    cases acc with
    | nil => simp at hl
    | cons x acc =>
      obtain ⟨k, hk⟩ := h 0 x rfl
      simp at hk
      rename_i a b _ _
      refine .cons ?_ (ih (by simpa using hl) fun i v hv => by simpa using h (i + 1) v (by simpa using hv))
      rw [hk] at r
      exact r.2
/-- list(e.values()) -/
theorem pe_listVals (hc : X.calm = true) (he : PE X e te) (hg : Gl X "list") (hm : X.mg "list" = none) (hv : bootBuiltins "list" = some (.type "list")) (hbase : attributeBase e "values" X.env (eval e X.env) = eval e X.env := by rfl) (hline : (apos.endLine == cpos.line) = true := by rfl)
    (hs : starEach [.Call (.Attribute e "values" apos) [] [] cpos] X.env = (false, eval (.Call (.Attribute e "values" apos) [] [] cpos) X.env) :: starEach [] X.env := by rfl) :
    PE X (.Call (.Name "list" p) [.Call (.Attribute e "values" apos) [] [] cpos] [] pos) (tListVals te) := by
  refine ⟨fun pins s σ H Q I hq => ?_⟩
  refine wpAny_Call_Name_kw (ld_blt I hg hm hv ?_)
  refine PyProof.Rows.callWith_type1 ?_ hs rfl
  rw [hs]
  show wpAny _ _ (spliced ((false, eval (.Call (.Attribute e "values" apos) [] [] cpos) X.env) :: backTo pos (starEach [] X.env))) _ _ s
  refine Calls.spliced_cons ?_
  refine wpAny_Call_method (T := "dict") (id := "dict.values") hbase rfl hline F.plainAttrs_dict F.slot_dict_values F.type_dict_values (thn (he.run pins s σ H _ I hq) fun u s1 ⟨x, H1, I1, rx, d, kvs, ex, hd, q⟩ => ?_)
  subst ex
  obtain rfl : u = Value.ref d := rx
  obtain ⟨hz, hs0, vs, kv, hdo⟩ := dk_rd I1.hok hd
  obtain ⟨ep, hat⟩ := hdo.dictAt
  have lk : kvs.length = vs.length := Paired.length kv
  have I2 : Inv X pins σ H1 { s1 with heap := s1.heap.push { cls := .type "dict_values", data := .fields #[.ref d] } } := I1.kept (t' := s1.toks) fun b ob q => Heap.get?_push_of_some _ q
  refine ⟨hdo.typeIs, hdo.mapOf.noDict, ?_⟩
  show wpAny _ _ (callWith cpos (.builtin "dict.values") [.ref d] [] []) _ X.xe s1
  refine method_meetsIn F.slot_dict_values F.entry_dict_values rfl (PySem.evalArgs_none ⟨rfl, hdo.typeIs, F.args_dict_values_1 _, _, meets_dict_values (mixKind X.prog X.w) d hs0, ⟨vs, hdo⟩, ?_⟩)
  refine Calls.spliced_nil ?_
  refine PySem.W.kdl_call (PySem.W.kdl_values (knd := mixKind X.prog X.w) (kvs := vs) (ep := ep) (r := s1.heap.objs.size) (d := d)) (I1.ok.hd hc) ⟨⟨_, Heap.get?_push_size _ rfl, rfl, rfl⟩, hat.push _⟩ (by omega) fun h' tk acc c hk hS hacc => ?_
  have rv : Vals (kvs.map (·.2)) acc.toList := vals_of kv (by simpa using hacc.1) fun i v hv => hacc.2 i v (by simpa using hv)
  refine ⟨.ref _, _, I2.laid (t' := tk) hk (Nat.le_refl _) (o := .lst (kvs.map (·.2))) ⟨by rw [List.length_map]; omega, acc.toList, c, rv, by rw [Array.toArray_toList]; exact hS⟩, rfl, q _ (I2.hok.fresh (Nat.le_refl _))⟩
end
end PVX
end

section
set_option Elab.async false
set_option linter.all false
set_option autoImplicit false
set_option maxRecDepth 100000
namespace PV
open PySem PySem.Spec PyProof.Rows L2
variable [Tbs]
section
variable {X : Cx} {C : Ctx} {a b c es : Ex} {ea eb ec e call : Expr} {pos p : Pos} {x : Str} {r : List V → Hp → VK → Prop}
/-- what may be handed on from a state -/
def Goon (K : PySem.W.Frag) (σ : L2.St) (L : List Nat) (H : Hp) (fp : Nat → List Addr) (R : Addr → Prop) (f : List Addr) (ρ' : Env) (m : M) (d : D) (Q : VK) : Prop :=
  ∀ v' H' fp' R' f', Gd K σ H' ρ' fp' R' → Mv L H fp R H' fp' R' → Hold K H' fp' R' m d v' f' → (∀ a ∈ f', a ∈ f ∨ H a = none) → Q v' H'
theorem Got.goon {K : PySem.W.Frag} {σ : L2.St} {L : List Nat} {H0 H : Hp} {fp0 fp : Nat → List Addr} {R0 R : Addr → Prop} {f : List Addr} {ρ ρ' : Env} {m : M} {d : D} {Q : VK} (q : Got K σ L H0 fp0 R0 ρ' m d Q) (g : Gd K σ H ρ fp R) (v1 : Mv L H0 fp0 R0 H fp R) (n : New L H0 fp0 f) : Goon K σ L H fp R f ρ' m d Q :=
  fun v' H' fp' R' f' g' mv o s => q v' H' fp' R' f' g' (v1.trans g mv) o fun a ha => (s a ha).elim (n a) fun e => .inl (Classical.byContradiction fun z => v1.som a z e)
theorem Goon.imm {K : PySem.W.Frag} {σ : L2.St} {L : List Nat} {H : Hp} {fp : Nat → List Addr} {R : Addr → Prop} {f : List Addr} {ρ' : Env} {m : M} {d : D} {Q : VK} {v : V} (q : Goon K σ L H fp R f ρ' m d Q) (g : Gd K σ H ρ' fp R) (o : Hold K H fp R m d v []) : Q v H := q v H fp R [] g .refl o fun _ h => absurd h (by simp)
theorem Goon.lst {K : PySem.W.Frag} {σ : L2.St} {L : List Nat} {H : Hp} {fp fp2 : Nat → List Addr} {R R2 : Addr → Prop} {f f2 : List Addr} {ρ' : Env} {w : Bool} {xs : List D} {vs : List V} {Q : VK} (q : Goon K σ L H fp R f ρ' (ownM w) (.list xs) Q) (g2 : Gd K σ H ρ' fp2 R2) (v2 : Mv L H fp R H fp2 R2) (l : HoldL K H fp2 R2 w xs vs f2) (s : ∀ a ∈ f2, a ∈ f) : ∀ p, H p = none → Q (.ref p) (upd H p (.lst vs)) := fun p hp =>
  q _ _ fp2 R2 (p :: f2) (g2.laid hp) (v2.trans g2 (.laid hp)) (.lst g2 hp l) fun a ha => by
    rcases List.mem_cons.mp ha with rfl | ha
    · exact .inr hp
    · exact .inl (s a ha)
/-- a built-in function of one value -/
theorem bi_1 {bb : BI} (h : PE X call (tCB r (tes X.K C (.cons a .nil))))
    (w : ∀ {σ : L2.St} {L : List Nat} {H : Hp} {fp : Nat → List Addr} {R : Addr → Prop} {ρ ρ' : Env} {m m' : M} {d d' : D} {v : V} {f : List Addr} {Q : VK}, Gd X.K σ H ρ fp R → Hold X.K H fp R m d v f → bi bb [(m, d)] ρ = some ((m', d'), ρ') → Goon X.K σ L H fp R f ρ' m' d' Q → r [v] H Q) : PEv X C (.bi bb (.cons a .nil)) call := by
  refine peI h fun σ H Q ⟨L, ρ, fp, R, g, m, d, ρ', e, q⟩ => ?_
  obtain ⟨ws, ρ1, e1, e2⟩ := bind_ok e
  obtain ⟨m1, d1, rfl, _⟩ := evs1 e1
  exact tes1 g e1 fun v H1 fp1 R1 f g1 v1 o n => w g1 o (of_ok e2) (q.goon g1 v1 n)
/-- of two -/
theorem bi_2 {bb : BI} (h : PE X call (tCB r (tes X.K C (.cons a (.cons b .nil)))))
    (w : ∀ {σ : L2.St} {L : List Nat} {H : Hp} {fp : Nat → List Addr} {R : Addr → Prop} {ρ ρ' : Env} {m m2 m' : M} {d d2 d' : D} {v u : V} {f f2 : List Addr} {Q : VK}, Gd X.K σ H ρ fp R → Hold X.K H fp R m d v f → Hold X.K H fp R m2 d2 u f2 → bi bb [(m, d), (m2, d2)] ρ = some ((m', d'), ρ') → Goon X.K σ L H fp R (f ++ f2) ρ' m' d' Q → r [v, u] H Q) : PEv X C (.bi bb (.cons a (.cons b .nil))) call := by
  refine peI h fun σ H Q ⟨L, ρ, fp, R, g, m, d, ρ', e, q⟩ => ?_
  obtain ⟨ws, ρ1, e1, e2⟩ := bind_ok e
  obtain ⟨m1, d1, m2, d2, rfl⟩ := evs2 e1
  exact tes2 g e1 fun v u H1 fp1 R1 f f2 g1 v1 o o2 n n2 _ => w g1 o o2 (of_ok e2) (q.goon g1 v1 (n.app n2))
theorem CallR.or {f : Value} {r r' : List V → Hp → VK → Prop} (h : CallR X f r) (h' : CallR X f r') : CallR X f (fun xs H Q => r xs H Q ∨ r' xs H Q) := fun pins s σ H xs us Q I v q => q.elim (h pins s σ H xs us Q I v) (h' pins s σ H xs us Q I v)
theorem sv_len (ha : PEv X C a ea) (hg : Gl X "len" := by rfl) (hm : X.mg "len" = none := by rfl) (hs : starEach [ea] X.env = (false, eval ea X.env) :: starEach [] X.env := by rfl) (hpl : (backTo pos (starEach [] X.env)).any (·.1) = false := by rfl) : PEv X C (.bi .len (.cons a .nil)) (.Call (.Name "len" p) [ea] [] pos) := by
  refine bi_1 (pe_callB (CallR.or call_len_seq call_len_str) hg hm PyProof.Rows.Boot.«len» (pav_cons ha pav_nil hs) (by decide) (by decide) hs hpl) fun {σ L H fp R ρ ρ' m m' d d' v f Q} g o e q => ?_
  cases d with
  | list xs =>
    cases e
    obtain ⟨a1, us, rfl, hs1, i1, _⟩ := o.items
    refine .inl ⟨a1, us, rfl, .inl hs1, ?_⟩
    rw [← i1.len]; exact q.imm g .ofI
  | tuple xs =>
    cases e
    obtain ⟨a1, us, rfl, hs1, i1, _⟩ := o.itemsT
    refine .inl ⟨a1, us, rfl, .inr hs1.sq, ?_⟩
    rw [← i1.len]; exact q.imm g .ofI
  | str z =>
    have e : (if z.length ≤ SZ then some ((M.own, PyData.int z.length), ρ) else none) = some ((m', d'), ρ') := e
    split at e
    · rename_i hz
      cases e
      exact .inr ⟨z, by rw [o.str], hz, q.imm g .ofI⟩
    · cases e
  | _ => cases e
theorem sv_int_ (ha : PEv X C a ea) (hg : Gl X "int" := by rfl) (hm : X.mg "int" = none := by rfl) (hs : starEach [ea] X.env = (false, eval ea X.env) :: starEach [] X.env := by rfl) (hpl : (backTo pos (starEach [] X.env)).any (·.1) = false := by rfl) : PEv X C (.bi .int (.cons a .nil)) (.Call (.Name "int" p) [ea] [] pos) := by
  refine bi_1 (pe_callTy call_int1 hg hm PyProof.Rows.Boot.«int» (pav_cons ha pav_nil hs) (by decide) (by decide) hs hpl) fun {σ L H fp R ρ ρ' m m' d d' v f Q} g o e q => ?_
  cases d with
  | int i => cases e; exact .inl ⟨i, by rw [o.int], q.imm g .ofI⟩
  | bool k => cases e; exact .inr ⟨k, by rw [o.bl], q.imm g .ofI⟩
  | _ => cases e
theorem call_reprD {d : D} (hgu : X.A.guards = some []) (hu : X.A.units + 64 < cLine) : CallR X (.builtin "repr") (fun xs H Q => ∃ (a : Addr) (d : D), xs = [.ref a] ∧ Dp X.K H (.ref a) d ∧ d.canLay0 = true ∧ d.showable = true ∧ d.shown.length ≤ sizeLine ∧ d.depth ≤ 60 ∧ Q (.str d.shown) H) := by
  intro pins s σ H xs us Q I r h
  obtain ⟨a, d, rfl, dp, h1, h2, h3, h4, q⟩ := h
  obtain ⟨u, rfl, ru⟩ := vals1 r
  cases ru
  obtain ⟨as, rd⟩ := Dp.reads I d _ _ dp rfl
  exact repr_of_reads' rd h2 (PyData.noDict_hsm (PyData.hasDict_of_canLay d h1)) hgu (by omega) (fun _ _ e => e) (fun h' u tk hk => ⟨.str d.shown, H, I.kept hk, ⟨u, rfl⟩, q⟩) h3
theorem sv_repr (hgu : X.A.guards = some []) (hu : X.A.units + 64 < cLine) (ha : PEv X C a ea) (hg : Gl X "repr" := by rfl) (hm : X.mg "repr" = none := by rfl) (hs : starEach [ea] X.env = (false, eval ea X.env) :: starEach [] X.env := by rfl) (hpl : (backTo pos (starEach [] X.env)).any (·.1) = false := by rfl) : PEv X C (.bi .repr (.cons a .nil)) (.Call (.Name "repr" p) [ea] [] pos) := by
  have rs : CallR X (.builtin "repr") (fun xs H Q => ∃ z : Str, xs = [.str z] ∧ (reprText z).length ≤ sizeLine ∧ Q (.str (reprText z)) H) := by
    intro pins s σ H xs us Q I r h
    obtain ⟨z, rfl, hz, q⟩ := h
    obtain ⟨u, rfl, t, rfl⟩ := vals1 r
    exact PySem.P.repr_of_str ⟨.str _, H, I.tok _, ⟨_, rfl⟩, q⟩ hz
  have rI : CallR X (.builtin "repr") (fun xs H Q => ∃ i, xs = [.int i] ∧ i.natAbs.log2 < 1920 ∧ Q (.str (toString i)) H) := by
    intro pins s σ H xs us Q I r h
    obtain ⟨i, rfl, hz, q⟩ := h
    obtain ⟨u, rfl, t, rfl⟩ := vals1 r
    exact PySem.P.repr_of_int hz ⟨.str _, H, I.tok _, ⟨_, rfl⟩, q⟩
  refine bi_1 (pe_callB (CallR.or (call_reprD (d := .none) hgu hu) (CallR.or rI rs)) hg hm PyProof.Rows.Boot.«repr» (pav_cons ha pav_nil hs) (by decide) (by decide) hs hpl) fun {σ L H fp R ρ ρ' m m' d d' v f Q} g o e q => ?_
  have big : ∀ {a1 : Addr}, v = .ref a1 → (if d.canLay0 && d.showable && decide (d.shown.length ≤ SZ) && decide (d.depth ≤ 60) then some ((M.own, PyData.str d.shown), ρ) else none) = some ((m', d'), ρ') → (∃ (a : Addr) (d : D), [v] = [V.ref a] ∧ Dp X.K H (.ref a) d ∧ d.canLay0 = true ∧ d.showable = true ∧ d.shown.length ≤ sizeLine ∧ d.depth ≤ 60 ∧ Q (.str d.shown) H) := fun {a1} hv e => by
    subst hv
    split at e
    · rename_i hc
      cases e
      simp only [Bool.and_eq_true, decide_eq_true_eq] at hc
      obtain ⟨S, rd⟩ := o.read
      exact ⟨a1, d, rfl, rd.dp hc.1.1.1, hc.1.1.1, hc.1.1.2, hc.1.2, hc.2, q.imm g .ofS⟩
    · cases e
  cases d with
  | int i =>
    have e : (if decide (i.natAbs.log2 < 1920) then some ((M.own, PyData.str (toString i)), ρ) else none) = some ((m', d'), ρ') := e
    split at e
    · rename_i hz
      cases e
      exact .inr (.inl ⟨i, by rw [o.int], of_decide_eq_true hz, q.imm g .ofS⟩)
    · cases e
  | str z =>
    have e : (if (reprText z).length ≤ SZ then some ((M.own, PyData.str (reprText z)), ρ) else none) = some ((m', d'), ρ') := e
    split at e
    · rename_i hz
      cases e
      exact .inr (.inr ⟨z, by rw [o.str], hz, q.imm g .ofS⟩)
    · cases e
  | list xs => obtain ⟨a1, us, hv, _⟩ := o.items; exact .inl (big hv e)
  | tuple xs => obtain ⟨a1, us, hv, _⟩ := o.itemsT; exact .inl (big hv e)
  | dict kvs => simp [bi, PyData.canLay0] at e
  | none => cases e
  | bool k => cases e
theorem sv_max2 (hc : X.calm = true) (ha : PEv X C a ea) (hb : PEv X C b eb) (hg : Gl X "max" := by rfl) (hm : X.mg "max" = none := by rfl) (hs : starEach [ea, eb] X.env = (false, eval ea X.env) :: starEach [eb] X.env := by rfl) (hs2 : starEach [eb] X.env = (false, eval eb X.env) :: starEach [] X.env := by rfl) (hpl : (backTo pos (starEach [eb] X.env)).any (·.1) = false := by rfl) : PEv X C (.bi .max (.cons a (.cons b .nil))) (.Call (.Name "max" p) [ea, eb] [] pos) := by
  refine bi_2 (pe_callB (call_max2 hc) hg hm PyProof.Rows.Boot.«max» (pav_cons ha (pav_cons hb pav_nil hs2) hs) (by decide) (by decide) hs hpl) fun {σ L H fp R ρ ρ' m m2 m' d d2 d' v u f f2 Q} g o o2 e q => ?_
  cases d <;> cases d2 <;> first | (cases e; done) | skip
  rename_i i j
  cases e
  exact ⟨i, j, by rw [o.int, o2.int], q.imm g .ofI⟩
theorem sv_min2 (hc : X.calm = true) (ha : PEv X C a ea) (hb : PEv X C b eb) (hg : Gl X "min" := by rfl) (hm : X.mg "min" = none := by rfl) (hs : starEach [ea, eb] X.env = (false, eval ea X.env) :: starEach [eb] X.env := by rfl) (hs2 : starEach [eb] X.env = (false, eval eb X.env) :: starEach [] X.env := by rfl) (hpl : (backTo pos (starEach [eb] X.env)).any (·.1) = false := by rfl) : PEv X C (.bi .min (.cons a (.cons b .nil))) (.Call (.Name "min" p) [ea, eb] [] pos) := by
  refine bi_2 (pe_callB (call_min2 hc) hg hm PyProof.Rows.Boot.«min» (pav_cons ha (pav_cons hb pav_nil hs2) hs) (by decide) (by decide) hs hpl) fun {σ L H fp R ρ ρ' m m2 m' d d2 d' v u f f2 Q} g o o2 e q => ?_
  cases d <;> cases d2 <;> first | (cases e; done) | skip
  rename_i i j
  cases e
  exact ⟨i, j, by rw [o.int, o2.int], q.imm g .ofI⟩
theorem intsOf_vals {K : PySem.W.Frag} {H : Hp} {S : Addr → Prop} : ∀ {xs : List D} {l : List Int} {vs : List V}, intsOf xs = some l → RpSs K H S xs vs → vs = l.map V.int
  | [], l, vs, h, r => by cases h; simp only [RpSs] at r; subst r; rfl
  | d :: xs, l, vs, h, r => by
    cases d with
    | int i =>
      have h : (intsOf xs).map (fun l => i :: l) = some l := h
      obtain ⟨l2, h2, rfl⟩ := Option.map_eq_some_iff.mp h
      simp only [RpSs, RpS] at r
      obtain ⟨v, q, rfl, rfl, r2⟩ := r
      rw [intsOf_vals h2 r2]; rfl
    | _ => cases h
theorem Hold.ints {K : PySem.W.Frag} {H : Hp} {fp : Nat → List Addr} {R : Addr → Prop} {m : M} {xs : List D} {v : V} {f : List Addr} {l : List Int} (o : Hold K H fp R m (.list xs) v f) (h : intsOf xs = some l) : ∃ a, v = .ref a ∧ SqL K H a (l.map V.int) := by
  obtain ⟨S, rd⟩ := o.read
  simp only [RpS] at rd
  obtain ⟨a, vs, rfl, hl, hs⟩ := rd
  rw [intsOf_vals h hs] at hl
  exact ⟨a, rfl, hl.sq⟩
theorem maxI_spec : ∀ {l : List Int} {k m : Int}, maxI l = some k → m ∈ l → (∀ y ∈ l, y ≤ m) → m = k := by
  have key : ∀ (l : List Int) (x : Int), (x ∈ x :: l → True) ∧ (l.foldl (fun m y => if m < y then y else m) x ∈ x :: l) ∧ ∀ y ∈ x :: l, y ≤ l.foldl (fun m y => if m < y then y else m) x := by
    intro l
    induction l with
    | nil => intro x; simp
    | cons z l ih =>
      intro x
      refine ⟨fun _ => trivial, ?_⟩
      simp only [List.foldl_cons]
      by_cases h : x < z
      · rw [if_pos h]
        obtain ⟨_, h1, h2⟩ := ih z
        refine ⟨List.mem_cons_of_mem _ h1, fun y hy => ?_⟩
        rcases List.mem_cons.mp hy with rfl | hy
        · have := h2 z List.mem_cons_self; omega
        · exact h2 y hy
      · rw [if_neg h]
        obtain ⟨_, h1, h2⟩ := ih x
        refine ⟨?_, fun y hy => ?_⟩
        · rcases List.mem_cons.mp h1 with h1 | h1
          · rw [h1]; exact List.mem_cons_self
          · exact List.mem_cons_of_mem _ (List.mem_cons_of_mem _ h1)
        · rcases List.mem_cons.mp hy with rfl | hy
          · exact h2 y List.mem_cons_self
          · rcases List.mem_cons.mp hy with rfl | hy
            · have := h2 x List.mem_cons_self; omega
            · exact h2 y (List.mem_cons_of_mem _ hy)
  intro l k m h hm hall
  cases l with
  | nil => cases h
  | cons x l =>
    cases h
    obtain ⟨_, h1, h2⟩ := key l x
    have := h2 m hm
    have := hall _ h1
    omega
theorem sv_max1 (hc : X.calm = true) (ha : PEv X C a ea) (hg : Gl X "max" := by rfl) (hm : X.mg "max" = none := by rfl) (hs : starEach [ea] X.env = (false, eval ea X.env) :: starEach [] X.env := by rfl) (hpl : (backTo pos (starEach [] X.env)).any (·.1) = false := by rfl) : PEv X C (.bi .max (.cons a .nil)) (.Call (.Name "max" p) [ea] [] pos) := by
  refine bi_1 (pe_callB (cr_max hc) hg hm PyProof.Rows.Boot.«max» (pav_cons ha pav_nil hs) (by decide) (by decide) hs hpl) fun {σ L H fp R ρ ρ' m m' d d' v f Q} g o e q => ?_
  cases d with
  | list xs =>
    obtain ⟨l, hl, e⟩ := Option.bind_eq_some_iff.mp (show ((intsOf xs).bind fun l => (maxI l).map fun k => ((M.own, PyData.int k), ρ)) = _ from e)
    obtain ⟨k, hk, e⟩ := Option.map_eq_some_iff.mp e
    cases e
    obtain ⟨a1, rfl, hs1⟩ := o.ints hl
    refine ⟨a1, l, rfl, hs1, by cases l; cases hk; simp, fun mm h1 h2 => ?_⟩
    rw [maxI_spec hk h1 h2]
    exact q.imm g .ofI
  | _ => cases e
/-! list(..) -/
theorem sv_lvals (hc : X.calm = true) (ha : PEv X C a ea) (hg : Gl X "list" := by rfl) (hm : X.mg "list" = none := by rfl) {apos cpos : Pos} (hbase : attributeBase ea "values" X.env (eval ea X.env) = eval ea X.env := by rfl) (hline : (apos.endLine == cpos.line) = true := by rfl)
    (hs : starEach [.Call (.Attribute ea "values" apos) [] [] cpos] X.env = (false, eval (.Call (.Attribute ea "values" apos) [] [] cpos) X.env) :: starEach [] X.env := by rfl) : PEv X C (.lvals a) (.Call (.Name "list" p) [.Call (.Attribute ea "values" apos) [] [] cpos] [] pos) := by
  refine peI (PVX.pe_listVals hc ha hg hm PyProof.Rows.Boot.«list» hbase hline hs) fun σ H Q ⟨L, ρ, fp, R, g, m, d, ρ', e, q⟩ => ?_
  obtain ⟨⟨m1, d1⟩, ρ1, e1, e2⟩ := bind_ok e
  refine ⟨L, ρ, fp, R, g, m1, d1, ρ1, e1, fun v H1 fp1 R1 f1 g1 v1 o1 n1 => ?_⟩
  dsimp only at e2
  cases d1 with
  | dict kvs =>
    obtain ⟨⟨w, ρ2⟩, hu, e3⟩ := Option.map_eq_some_iff.mp (of_ok e2)
    cases e3
    obtain ⟨a1, l, rfl, hl, k1, ri, t⟩ := o1.itemsD
    obtain ⟨fp2, R2, f2, g2, s2, l2, sf⟩ := use1_ok g1 t ri hu
    exact ⟨a1, l, rfl, hl, (q.goon g1 v1 n1).lst g2 s2.mv l2 sf⟩
  | _ => cases e2
theorem rgV_ints {K : PySem.W.Frag} {H : Hp} : ∀ (lo hi : Int), RpOs K H (rangeD lo hi) (rgV lo hi) [] := by
  have key : ∀ (lo : Int) (l : List Nat), RpOs K H (l.map fun (k : Nat) => PyData.int (lo + (k : Int))) (l.map fun i => V.int (lo + (i : Nat))) [] := by
    intro lo l
    induction l with
    | nil => simp [RpOs]
    | cons a l ih =>
      simp only [List.map_cons, RpOs]
      exact ⟨_, _, [], [], rfl, rfl, by simp [RpO], ih⟩
  exact fun lo hi => key lo _
theorem lrng_end {K : PySem.W.Frag} {σ : L2.St} {L : List Nat} {H : Hp} {fp : Nat → List Addr} {R : Addr → Prop} {f : List Addr} {ρ : Env} {lo hi : Int} {Q : VK} (g : Gd K σ H ρ fp R) (q : Goon K σ L H fp R f ρ .own (.list (rangeD lo hi)) Q) : ∀ p, H p = none → Q (.ref p) (upd H p (.lst (rgV lo hi))) :=
  q.lst (w := true) g .refl ⟨.nil, rgV_ints lo hi⟩ fun _ h => absurd h (by simp)
theorem tcons1 {K : PySem.W.Frag} {C : Ctx} {a : Ex} {σ : L2.St} {H : Hp} {L : List Nat} {ρ ρ' : Env} {fp : Nat → List Addr} {R : Addr → Prop} {m : M} {d : D} {Q : V → Hp → Prop} (g : Gd K σ H ρ fp R) (e : evs C L (.cons a .nil) ρ = .ok [(m, d)] ρ')
    (q : ∀ v H' fp' R' f, Gd K σ H' ρ' fp' R' → Mv L H fp R H' fp' R' → Hold K H' fp' R' m d v f → New L H fp f → Q v H') : tvx K C a σ H Q := by
  obtain ⟨m1, d1, h1, h2⟩ := evs1 e
  cases h1
  exact ⟨L, ρ, fp, R, g, m, d, ρ', h2, fun v H' fp' R' f g' v' o n => q v H' fp' R' f g' v' o n⟩
theorem rngO_1 {m : M} {d : D} {xs : List D} (hx : rngO [d] = some xs) : ∃ hi, d = .int hi ∧ xs = rangeD 0 hi ∧ -(2 ^ 62) ≤ hi ∧ hi < 2 ^ 62 := by
  unfold rngO at hx
  split at hx
  · rename_i hi hI
    cases hx
    obtain ⟨h1, h2, h3⟩ := ints62_1 hI
    cases h1
    exact ⟨hi, rfl, rfl, h2, h3⟩
  · rename_i lo hi hI
    obtain ⟨h1, _⟩ := ints62_2 hI
    cases h1
  · cases hx
theorem rngO_2 {d d2 : D} {xs : List D} (hx : rngO [d, d2] = some xs) : ∃ lo hi, d = .int lo ∧ d2 = .int hi ∧ xs = rangeD lo hi ∧ -(2 ^ 62) ≤ lo ∧ lo < 2 ^ 62 ∧ -(2 ^ 62) ≤ hi ∧ hi < 2 ^ 62 := by
  unfold rngO at hx
  split at hx
  · rename_i hi hI
    obtain ⟨h1, _⟩ := ints62_1 hI
    cases h1
  · rename_i lo hi hI
    cases hx
    obtain ⟨h1, h2⟩ := ints62_2 hI
    cases h1
    exact ⟨lo, hi, rfl, rfl, rfl, h2⟩
  · cases hx
theorem rangeD_len (lo hi : Int) : (rangeD lo hi).length = (hi - lo).toNat := by simp [rangeD]
theorem sv_lrng2 {p2 pos2 : Pos} (hc : X.calm = true) (ha : PEv X C a ea) (hb : PEv X C b eb) (hg : Gl X "list" := by rfl) (hm : X.mg "list" = none := by rfl) (hg2 : Gl X "range" := by rfl) (hm2 : X.mg "range" = none := by rfl)
    (n1 : starEach [ea, eb] X.env = (false, eval ea X.env) :: starEach [eb] X.env := by rfl) (n2 : starEach [eb] X.env = (false, eval eb X.env) :: starEach [] X.env := by rfl) (n3 : (backTo pos2 (starEach [eb] X.env)).any (·.1) = false := by rfl)
    (na : starEach [.Call (.Name "range" p2) [ea, eb] [] pos2] X.env = (false, eval (.Call (.Name "range" p2) [ea, eb] [] pos2) X.env) :: starEach [] X.env := by rfl) : PEv X C (.lrng (.cons a (.cons b .nil))) (.Call (.Name "list" p) [.Call (.Name "range" p2) [ea, eb] [] pos2] [] pos) := by
  refine peI (pe_listRg hc hg hm (prg_2 hg2 hm2 ha hb n1 n2 n3) na) fun σ H Q ⟨L, ρ, fp, R, g, m, d, ρ', e, q⟩ => ?_
  obtain ⟨ws, ρ1, e1, e2⟩ := bind_ok e
  obtain ⟨⟨m1, d1⟩, ρa, ha1, e1⟩ := bind_ok e1
  obtain ⟨ws2, ρb, hb1, e1⟩ := bind_ok e1
  obtain ⟨m2, d2, rfl, hb2⟩ := evs1 hb1
  cases e1
  refine ⟨L, ρ, fp, R, g, m1, d1, ρa, ha1, fun v H1 fp1 R1 f1 g1 v1 o1 k1 => ?_⟩
  refine ⟨lk m1 ++ L, ρa, fp1, R1, g1, m2, d2, ρ1, hb2, fun u H2 fp2 R2 f2 g2 v2 o2 k2 => ?_⟩
  have mv : Mv L H fp R H2 fp2 R2 := v1.trans g1 (v2.mono fun i hi => List.mem_append_right _ hi)
  split at e2
  · rename_i xs hx
    split at e2
    · rename_i hz
      cases e2
      obtain ⟨lo, hi, rfl, rfl, rfl, h1, h2, h3, h4⟩ := rngO_2 hx
      refine ⟨lo, hi, o1.int, o2.int, ⟨h1, h2, h3, h4, ?_⟩, lrng_end (f := []) g2 (q.goon g2 mv .nil)⟩
      rw [rangeD_len] at hz
      exact hz
    · cases e2
  · cases e2
theorem sv_lrng1 {p2 pos2 : Pos} (hc : X.calm = true) (ha : PEv X C a ea) (hg : Gl X "list" := by rfl) (hm : X.mg "list" = none := by rfl) (hg2 : Gl X "range" := by rfl) (hm2 : X.mg "range" = none := by rfl)
    (n1 : starEach [ea] X.env = (false, eval ea X.env) :: starEach [] X.env := by rfl)
    (na : starEach [.Call (.Name "range" p2) [ea] [] pos2] X.env = (false, eval (.Call (.Name "range" p2) [ea] [] pos2) X.env) :: starEach [] X.env := by rfl) : PEv X C (.lrng (.cons a .nil)) (.Call (.Name "list" p) [.Call (.Name "range" p2) [ea] [] pos2] [] pos) := by
  refine peI (pe_listRg hc hg hm (prg_1 hg2 hm2 ha n1) na) fun σ H Q ⟨L, ρ, fp, R, g, m, d, ρ', e, q⟩ => ?_
  obtain ⟨ws, ρ1, e1, e2⟩ := bind_ok e
  obtain ⟨m1, d1, rfl, ha1⟩ := evs1 e1
  refine ⟨L, ρ, fp, R, g, m1, d1, ρ1, ha1, fun v H1 fp1 R1 f1 g1 v1 o1 k1 => ?_⟩
  split at e2
  · rename_i xs hx
    split at e2
    · rename_i hz
      cases e2
      obtain ⟨hi, rfl, rfl, h1, h2⟩ := rngO_1 (m := m1) hx
      refine ⟨hi, o1.int, ⟨by decide, by decide, h1, h2, ?_⟩, lrng_end (f := []) g1 (q.goon g1 v1 .nil)⟩
      rw [rangeD_len] at hz
      exact hz
    · cases e2
  · cases e2
theorem sv_list (ha : PEv X C a ea) (hg : Gl X "list" := by rfl) (hm : X.mg "list" = none := by rfl) (hcalm : X.calm = true) (hs : starEach [ea] X.env = (false, eval ea X.env) :: starEach [] X.env := by rfl) (hpl : (backTo pos (starEach [] X.env)).any (·.1) = false := by rfl) : PEv X C (.bi .list (.cons a .nil)) (.Call (.Name "list" p) [ea] [] pos) := by
  refine bi_1 (pe_callTy (CallR.or call_list_of (call_listD hcalm)) hg hm PyProof.Rows.Boot.«list» (pav_cons ha pav_nil hs) (by decide) (by decide) hs hpl) fun {σ L H fp R ρ ρ' m m' d d' v f Q} g o e q => ?_
  cases d with
  | list xs =>
    obtain ⟨⟨w, ρ2⟩, hu, e3⟩ := Option.map_eq_some_iff.mp (show ((use1 m xs ρ).map fun (x : Bool × Env) => ((ownM x.1, PyData.list xs), x.2)) = _ from e)
    cases e3
    obtain ⟨a1, us, rfl, hs1, i1, t1⟩ := o.items
    obtain ⟨fp2, R2, f2, g2, s2, l2, sf⟩ := use1_ok g t1 i1 hu
    exact .inl ⟨a1, us, rfl, .inl hs1, q.lst g2 s2.mv l2 sf⟩
  | tuple xs =>
    obtain ⟨⟨w, ρ2⟩, hu, e3⟩ := Option.map_eq_some_iff.mp (show ((use1 m xs ρ).map fun (x : Bool × Env) => ((ownM x.1, PyData.list xs), x.2)) = _ from e)
    cases e3
    obtain ⟨a1, us, rfl, hs1, i1, t1⟩ := o.itemsT
    obtain ⟨fp2, R2, f2, g2, s2, l2, sf⟩ := use1_ok g t1 i1 hu
    exact .inl ⟨a1, us, rfl, .inr hs1.sq, q.lst g2 s2.mv l2 sf⟩
  | dict kvs =>
    cases e
    obtain ⟨a1, l, rfl, hl, k1, ri, t⟩ := o.itemsD
    refine .inr ⟨a1, l, rfl, hl, q.lst (w := true) (f2 := []) g .refl ⟨.nil, ?_⟩ fun _ h => absurd h (by simp)⟩
    rw [← k1]
    clear k1 hl ri t
    induction l with
    | nil => simp [RpOs]
    | cons p l ih =>
      obtain ⟨key, z⟩ := p
      simp only [List.map_cons, RpOs]
      refine ⟨_, _, [], [], rfl, rfl, ?_, ih⟩
      cases key <;> simp [kD, kV, RpO]
  | _ => cases e
end
end PV
end

section
set_option Elab.async false
set_option linter.all false
set_option autoImplicit false
set_option maxRecDepth 100000
namespace PV
open PySem PySem.Spec PyProof.Rows L2
variable [Tbs]
section
variable {X : Cx} {C : Ctx} {a b c es lo hi : Ex} {ea eb ec e call : Expr} {elo ehi : Option Expr} {pos p p2 p3 : Pos} {n : Str} {x : Nat}
/-! ### kinds -/
def tyN : D → String
  | .none => "NoneType"
  | .bool _ => "bool"
  | .int _ => "int"
  | .str _ => "str"
  | .list _ => "list"
  | .tuple _ => "tuple"
  | .dict _ => "dict"
theorem RpS.ty {K : PySem.W.Frag} {H : Hp} {S : Addr → Prop} {d : D} {v : V} (h : RpS K H S d v) : TyX K H v (.type (tyN d)) := by
  cases d with
  | none => simp only [RpS] at h; subst h; exact .base .non
  | bool b => simp only [RpS] at h; subst h; exact .base (.bl b)
  | int b => simp only [RpS] at h; subst h; exact .base (.int b)
  | str b => simp only [RpS] at h; subst h; exact .base (.str b)
  | list ds =>
    simp only [RpS] at h
    obtain ⟨a, vs, rfl, hl, _⟩ := h
    rcases hl with ⟨_, h | ⟨o, h⟩⟩ | ⟨o, its, n, h1, h2, _⟩
    · exact .base (.lst h)
    · exact .base (.frz h)
    · exact .kList h1 h2
  | tuple ds =>
    simp only [RpS] at h
    obtain ⟨a, vs, rfl, hl, _⟩ := h
    exact .base (.tup hl)
  | dict kvs =>
    simp only [RpS] at h
    obtain ⟨a, u, vs, rfl, _, hl, ⟨l, rfl, _⟩, _⟩ := h
    rcases hl with h | ⟨o, h⟩
    · exact .base (.dK h)
    · exact .fDict h
structure IsB (bb : BI) (T : String) : Prop where
  bi : ∀ (m : M) (d : D) (ρ : Env), ∃ k, PV.bi bb [(m, d)] ρ = some ((.own, .bool k), ρ) ∧ ∀ K, PySem.W.kitOne K (.type (tyN d)) (.type T) = some k
theorem is_int : IsB .isInt "int" := ⟨fun m d ρ => by cases d <;> exact ⟨_, rfl, fun K => by rfl⟩⟩
theorem is_bool : IsB .isBool "bool" := ⟨fun m d ρ => by cases d <;> exact ⟨_, rfl, fun K => by rfl⟩⟩
theorem is_list : IsB .isList "list" := ⟨fun m d ρ => by cases d <;> exact ⟨_, rfl, fun K => by rfl⟩⟩
theorem is_tuple : IsB .isTuple "tuple" := ⟨fun m d ρ => by cases d <;> exact ⟨_, rfl, fun K => by rfl⟩⟩
theorem is_str : IsB .isStr "str" := ⟨fun m d ρ => by cases d <;> exact ⟨_, rfl, fun K => by rfl⟩⟩
theorem sv_isi {bb : BI} {T : String} (k : IsB bb T) (ha : PEv X C a ea) (hb : bootBuiltins n = some (.type T)) (hg : Gl X "isinstance" := by rfl) (hm : X.mg "isinstance" = none := by rfl) (hg2 : Gl X n := by rfl) (hm2 : X.mg n = none := by rfl) (hn : n ≠ "__name__" := by decide) (hdb : (n == ("__debug__" : Str)) = false := by decide)
    (hs : starEach [ea, .Name n p2] X.env = (false, eval ea X.env) :: starEach [.Name n p2] X.env := by rfl) (hs2 : starEach [.Name n p2] X.env = (false, eval (.Name n p2) X.env) :: starEach [] X.env := by rfl) (hpl : (backTo pos (starEach [.Name n p2] X.env)).any (·.1) = false := by rfl) :
    PEv X C (.bi bb (.cons a .nil)) (.Call (.Name "isinstance" p) [ea, .Name n p2] [] pos) := by
  refine peI (pe_callB call_isi hg hm PyProof.Rows.Boot.«isinstance» (pa_cons ha (pa_cons (pe_bltn (v := .ty T) hg2 hm2 hb rfl hn hdb) pa_nil hs2) hs) (by decide) (by decide) hs hpl) fun σ H Q ⟨L, ρ, fp, R, g, m, d, ρ', e, q⟩ => ?_
  obtain ⟨ws, ρ1, e1, e2⟩ := bind_ok e
  obtain ⟨m1, d1, rfl, ha1⟩ := evs1 e1
  refine ⟨L, ρ, fp, R, g, m1, d1, ρ1, ha1, fun v H1 fp1 R1 f1 g1 v1 o1 n1 => ?_⟩
  obtain ⟨kk, hk1, hk2⟩ := k.bi m1 d1 ρ1
  have e2 := of_ok e2
  rw [hk1] at e2
  cases e2
  obtain ⟨S, rd⟩ := o1.read
  exact ⟨v, .ty T, _, _, kk, rfl, .ty T, rd.ty, hk2 _, q.imm g1 v1 .ofB⟩
/-! ### where a thing stands -/
theorem sv_index (hu : X.A.units + 65 < cLine) (ho : PEv X C a ea) (ha : PEv X C b eb) {apos cpos : Pos} (hbase : attributeBase ea "index" X.env (eval ea X.env) = eval ea X.env := by rfl)
    (hfew : ((backTo cpos (starEach [eb] X.env)).all (fun x => !x.1) && (backToKw cpos (keywordEach [] X.env)).all (fun x => x.1.isSome)
      && decide ([eb].length + ([] : List Keyword).length + (if ([] : List Keyword).isEmpty then 0 else 1) < 30)) = true := by rfl)
    (hline : (apos.endLine == cpos.line) = true := by rfl) (hs : starEach [eb] X.env = (false, eval eb X.env) :: starEach [] X.env := by rfl) (hplain : (backTo cpos (starEach [] X.env)).any (·.1) = false := by rfl) :
    PEv X C (.me .index a (.cons b .nil)) (.Call (.Attribute ea "index" apos) [eb] [] cpos) := by
  refine peI (pe_bm PySem.F.plainAttrs_list PySem.F.slot_list_index PySem.F.type_list_index (mt_indexD hu) ho (pa_cons ha pa_nil hs) hbase hfew hline hs hplain) fun σ H Q ⟨L, ρ, fp, R, g, m, d, ρ', e, q⟩ => ?_
  obtain ⟨⟨m1, d1⟩, ρ1, e1, e⟩ := bind_ok e
  obtain ⟨ws, ρ2, e2, e⟩ := bind_ok e
  obtain ⟨m2, d2, rfl, e3⟩ := evs1 e2
  have e := of_ok e
  refine ⟨L, ρ, fp, R, g, m1, d1, ρ1, e1, fun v H1 fp1 R1 f1 g1 v1 o1 n1 => ?_⟩
  cases d1 with
  | list xs =>
    dsimp only [me] at e
    split at e
    case isFalse => cases e
    rename_i hsh
    rw [Bool.and_eq_true] at hsh
    obtain ⟨nn, hn, e⟩ := Option.map_eq_some_iff.mp e
    cases e
    obtain ⟨a1, us, rfl, hs1, i1, _⟩ := o1.items
    refine ⟨.inl ⟨rfl, us, hs1⟩, lk m1 ++ L, ρ1, fp1, R1, g1, m2, d2, ρ', e3, fun y H2 fp2 R2 f2 g2 v2 o2 n2 => ?_⟩
    have o1' := o1.step g1 v2 fun i hi => List.mem_append_left _ hi
    obtain ⟨hlt, hp, hall⟩ := List.findIdx?_eq_some_iff_getElem.mp hn
    refine ⟨a1, y, d2, xs, nn, xs[nn], rfl, rfl, o1'.dp hsh.1, o2.dp hsh.2, hsh.1, hsh.2, List.getElem?_eq_getElem hlt, hp, fun mm z' hmm hz => ?_, q.imm g2 (v1.trans g1 (v2.mono fun i hi => List.mem_append_right _ hi)) .ofI⟩
    obtain ⟨hl, rfl⟩ := List.getElem?_eq_some_iff.mp hz
    simpa using hall mm hmm
  | tuple xs => cases e
  | _ => cases e
/-! ### parts -/
def tOv (K : PySem.W.Frag) (C : Ctx) (x : Ex) : TO := fun σ H Q => ∃ L ρ fp R, Gd K σ H ρ fp R ∧ ∃ o ρ', evo C L x ρ = .ok o ρ' ∧ ∀ H' fp' R', Gd K σ H' ρ' fp' R' → Mv L H fp R H' fp' R' → Q o H'
def POv (X : Cx) (C : Ctx) (x : Ex) (oe : Option Expr) : Prop := PO X oe (tOv X.K C x)
theorem poI {oe : Option Expr} {t t' : TO} (h : PO X oe t) (w : ∀ σ H Q, t' σ H Q → t σ H Q) : PO X oe t' := ⟨fun pins s σ H Q I q => h.run pins s σ H Q I (w σ H Q q)⟩
theorem po_nv : POv X C .nil none := poI po_none fun σ H Q ⟨L, ρ, fp, R, g, o, ρ', e, q⟩ => by cases e; exact q H fp R g .refl
theorem po_sv (ha : PEv X C a ea) : POv X C (.cons a .nil) (some ea) := poI (po_some ha) fun σ H Q ⟨L, ρ, fp, R, g, o, ρ', e, q⟩ => by
  obtain ⟨⟨m, d⟩, ρ1, e1, e2⟩ := bind_ok e
  refine ⟨L, ρ, fp, R, g, m, d, ρ1, e1, fun v H1 fp1 R1 f1 g1 v1 o1 n1 => ?_⟩
  cases d with
  | int i => cases e2; exact ⟨i, o1.int, q H1 fp1 R1 g1 v1⟩
  | _ => cases e2
theorem clip_sIx (n d : Nat) (o : Option Int) : clip n d o = HT.sIx n d o := by cases o <;> rfl
theorem cut_cutV (vs : List V) (lo hi : Option Int) : cutV vs lo hi = cut vs lo hi := by unfold cutV cut; simp only [clip_sIx]
theorem RpSs.drop {K : PySem.W.Frag} {H : Hp} {S : Addr → Prop} : ∀ {xs : List D} {vs : List V} (n : Nat), RpSs K H S xs vs → RpSs K H S (xs.drop n) (vs.drop n)
  | xs, vs, 0, h => h
  | [], vs, n + 1, h => by simp only [RpSs] at h; subst h; simp [RpSs]
  | x :: xs, vs, n + 1, h => by
    simp only [RpSs] at h
    obtain ⟨v, r, rfl, h1, h2⟩ := h
    exact RpSs.drop n h2
theorem RpSs.take {K : PySem.W.Frag} {H : Hp} {S : Addr → Prop} : ∀ {xs : List D} {vs : List V} (n : Nat), RpSs K H S xs vs → RpSs K H S (xs.take n) (vs.take n)
  | xs, vs, 0, h => by simp [RpSs]
  | [], vs, n + 1, h => by simp only [RpSs] at h; subst h; simp [RpSs]
  | x :: xs, vs, n + 1, h => by
    simp only [RpSs] at h
    obtain ⟨v, r, rfl, h1, h2⟩ := h
    simp only [List.take_succ_cons, RpSs]
    exact ⟨v, _, rfl, h1, RpSs.take n h2⟩
theorem RpSs.cut {K : PySem.W.Frag} {H : Hp} {S : Addr → Prop} {xs : List D} {vs : List V} {lo hi : Option Int} (h : RpSs K H S xs vs) : RpSs K H S (PV.cut xs lo hi) (PV.cut vs lo hi) := by
  unfold PV.cut
  rw [h.length]
  exact (h.drop _).take _
theorem RpOs.drop {K : PySem.W.Frag} {H : Hp} : ∀ {xs : List D} {vs : List V} {f : List Addr} (n : Nat), RpOs K H xs vs f → ∃ g, RpOs K H (xs.drop n) (vs.drop n) g ∧ g.Sublist f
  | xs, vs, f, 0, h => ⟨f, h, List.Sublist.refl _⟩
  | [], vs, f, n + 1, h => by simp only [RpOs] at h; obtain ⟨rfl, rfl⟩ := h; exact ⟨[], by simp [RpOs], List.Sublist.refl _⟩
  | x :: xs, vs, f, n + 1, h => by
    simp only [RpOs] at h
    obtain ⟨v, r, g, h', rfl, rfl, h1, h2⟩ := h
    obtain ⟨g2, h3, h4⟩ := RpOs.drop n h2
    exact ⟨g2, h3, h4.trans (List.sublist_append_right _ _)⟩
theorem RpOs.take {K : PySem.W.Frag} {H : Hp} : ∀ {xs : List D} {vs : List V} {f : List Addr} (n : Nat), RpOs K H xs vs f → ∃ g, RpOs K H (xs.take n) (vs.take n) g ∧ g.Sublist f
  | xs, vs, f, 0, h => ⟨[], by simp [RpOs], List.nil_sublist _⟩
  | [], vs, f, n + 1, h => by simp only [RpOs] at h; obtain ⟨rfl, rfl⟩ := h; exact ⟨[], by simp [RpOs], List.Sublist.refl _⟩
  | x :: xs, vs, f, n + 1, h => by
    simp only [RpOs] at h
    obtain ⟨v, r, g, h', rfl, rfl, h1, h2⟩ := h
    obtain ⟨g2, h3, h4⟩ := RpOs.take n h2
    refine ⟨g ++ g2, ?_, List.Sublist.append (List.Sublist.refl _) h4⟩
    simp only [List.take_succ_cons, RpOs]
    exact ⟨v, _, g, g2, rfl, rfl, h1, h3⟩
theorem RpOs.cut {K : PySem.W.Frag} {H : Hp} {xs : List D} {vs : List V} {f : List Addr} {lo hi : Option Int} (h : RpOs K H xs vs f) : ∃ g, RpOs K H (PV.cut xs lo hi) (PV.cut vs lo hi) g ∧ g.Sublist f := by
  unfold PV.cut
  rw [h.length]
  obtain ⟨g, h1, h2⟩ := h.drop (clip vs.length 0 lo)
  obtain ⟨g2, h3, h4⟩ := h1.take (clip vs.length vs.length hi - clip vs.length 0 lo)
  exact ⟨g2, h3, h4.trans h2⟩
theorem RpI.cut {K : PySem.W.Frag} {H : Hp} {fp : Nat → List Addr} {R : Addr → Prop} {m : M} {xs : List D} {vs : List V} {f : List Addr} {lo hi : Option Int} (h : RpI K H fp R m xs vs f) : RpI K H fp R m (PV.cut xs lo hi) (PV.cut vs lo hi) f := by
  cases m with
  | own =>
    obtain ⟨g, s, nd, r⟩ := h
    obtain ⟨g2, h1, h2⟩ := r.cut (lo := lo) (hi := hi)
    exact ⟨g2, fun a ha => s a (h2.subset ha), nd.sublist h2, h1⟩
  | top => exact RpSs.cut h
  | shr => exact RpSs.cut h
  | bor i => exact RpSs.cut h
  | bort i => exact RpSs.cut h
theorem sv_slc (ho : PEv X C a ea) (hl : POv X C lo elo) (hh : POv X C hi ehi) : PEv X C (.slc a lo hi) (.Subscript ea (.Slice elo ehi none p2) pos) := by
  have orR : ∀ {r r' : V → Option Int → Option Int → Hp → VK → Prop}, SlR X r → SlR X r' → SlR X (fun x l u H Q => r x l u H Q ∨ r' x l u H Q) := fun h h' pins s σ H x v vl vu l u sl Q I rx hs pl pu q => q.elim (h pins s σ H x v vl vu l u sl Q I rx hs pl pu) (h' pins s σ H x v vl vu l u sl Q I rx hs pl pu)
  refine peI (pe_slice (orR sl_list (orR sl_tupA sl_str)) ho hl hh) fun σ H Q ⟨L, ρ, fp, R, g, m, d, ρ', e, q⟩ => ?_
  obtain ⟨⟨m1, d1⟩, ρ1, e1, e⟩ := bind_ok e
  obtain ⟨l, ρ2, e2, e⟩ := bind_ok e
  obtain ⟨u, ρ3, e3, e⟩ := bind_ok e
  refine ⟨L, ρ, fp, R, g, m1, d1, ρ1, e1, fun v H1 fp1 R1 f1 g1 v1 o1 n1 => ?_⟩
  refine ⟨lk m1 ++ L, ρ1, fp1, R1, g1, l, ρ2, e2, fun H2 fp2 R2 g2 v2 => ?_⟩
  refine ⟨lk m1 ++ L, ρ2, fp2, R2, g2, u, ρ3, e3, fun H3 fp3 R3 g3 v3 => ?_⟩
  have vm := v2.trans g2 v3
  have o3 := o1.step g1 vm fun i hi => List.mem_append_left _ hi
  have mv := v1.trans g1 (vm.mono fun i hi => List.mem_append_right _ hi)
  have q3 := q.goon (f := f1) g3 mv (by exact n1)
  dsimp only at e
  cases d1 with
  | list xs =>
    obtain ⟨⟨w, ρ4⟩, hu, e⟩ := Option.map_eq_some_iff.mp (of_ok e)
    cases e
    obtain ⟨a1, us, rfl, hs1, i1, t1⟩ := o3.items
    obtain ⟨fp4, R4, f4, g4, s4, l4, sf⟩ := use1_ok g3 t1 i1.cut hu
    refine .inl ⟨a1, us, rfl, hs1, ?_⟩
    rw [cut_cutV]
    exact q3.lst g4 s4.mv l4 sf
  | tuple xs =>
    obtain ⟨⟨w, ρ4⟩, hu, e⟩ := Option.map_eq_some_iff.mp (of_ok e)
    cases e
    obtain ⟨a1, us, rfl, hs1, i1, t1⟩ := o3.itemsT
    obtain ⟨fp4, R4, f4, g4, s4, l4, sf⟩ := use1_ok g3 t1 i1.cut hu
    refine .inr (.inl ⟨a1, us, rfl, hs1.sq, fun hw => ?_, fun _ => ?_⟩)
    · have e1 : cut us l u = us := by
        unfold cut
        rw [clip_sIx, clip_sIx, hw.1, hw.2]
        simp
      rw [e1] at l4
      exact Got.tupAt (fun v' H' fp' R' f' g' mv' o' s => q v' H' fp' R' f' g' mv' o' s) (.inr rfl) g4 (mv.trans g3 s4.mv) hs1 l4 (n1.sub sf)
    · rw [cut_cutV]
      exact Got.tup (fun v' H' fp' R' f' g' mv' o' s => q v' H' fp' R' f' g' mv' o' s) (.inr rfl) g4 (mv.trans g3 s4.mv) l4 (n1.sub sf)
  | str z =>
    have e : (if z.length ≤ SZ then PV.R.ok (M.own, PyData.str ⟨(cut z.cps.toList l u).toArray⟩) ρ3 else .bad) = .ok (m, d) ρ' := e
    split at e
    · rename_i hz
      cases e
      refine .inr (.inr ⟨z, o3.str, hz, ?_⟩)
      have e1 : cutS z l u = ⟨(cut z.cps.toList l u).toArray⟩ := by
        unfold cutS cut
        simp only [clip_sIx]
        have hl : z.length = z.cps.toList.length := by simp [Str.length]
        rw [hl]
      rw [e1]
      exact q3.imm g3 .ofS
    · cases e
  | _ => cases e
/-! ### the module's names -/
theorem sv_globI {i : Int} {t : Tok} (hC : C.glob x = some (.int i)) (hm : X.mg n = some (.int i t) := by rfl) (hg : Gl X n := by rfl) (hdb : (n == ("__debug__" : Str)) = false := by decide) : PEv X C (.glob x) (.Name n pos) :=
  peI (pe_glob (v := .int i) hg hm ⟨t, rfl⟩ hdb) fun σ H Q ⟨L, ρ, fp, R, g, m, d, ρ', e, q⟩ => by
    have e : (match C.glob x with
      | some (.int i) => PV.R.ok (M.own, PyData.int i) ρ
      | some (.str z) => .ok (.own, .str z) ρ
      | _ => .bad) = .ok (m, d) ρ' := e
    rw [hC] at e
    cases e
    exact q.imm g .refl .ofI
end
end PV
end

section
set_option Elab.async false
set_option linter.all false
set_option autoImplicit false
set_option maxRecDepth 100000
namespace PV
open PySem PySem.Spec PyProof.Rows L2
variable [Tbs]
section
variable {K : PySem.W.Frag} {σ σ1 σ2 σ' : L2.St} {H H0 H1 H2 H' : Hp} {ρ ρ1 ρ2 ρ' : Env} {fp fp0 fp1 fp2 fp' : Nat → List Addr} {R R0 R1 R2 R' S : Addr → Prop} {L L' T T' : List Nat} {f g f2 : List Addr} {m m' : M} {d d' : D} {v : V} {vs : List V} {args : List (CK × D)} {ios : List (Option D)}
theorem getc_app {k i : Nat} : getc (ρ ++ List.replicate k none) i = getc ρ i := by
  unfold getc
  by_cases h : i < ρ.length
  · rw [List.getElem?_append_left h]
  · rw [List.getElem?_append_right (by omega), List.getElem?_eq_none (l := ρ) (by omega)]
    by_cases h2 : i - ρ.length < k
    · rw [List.getElem?_replicate_of_lt h2]; rfl
    · rw [List.getElem?_eq_none (by simpa using h2)]
theorem Gd.start {N : List Str} (g : Gd K (vs.map some) H (inE args) fp R) (hl : args.length ≤ N.length) : Gd K (start N vs) H (inE args ++ List.replicate (N.length - args.length) none) fp R where
  len := by
    have h := g.len
    simp [inE] at h
    simp [L2.start, inE, h]
  cell := fun i c h => by
    rw [getc_app] at h
    obtain ⟨v, h1, h2⟩ := g.cell i c h
    refine ⟨v, ?_, h2⟩
    unfold L2.start
    rw [List.getElem?_append_left (List.getElem?_eq_some_iff.mp h1).1]
    exact h1
  non := fun i h => by rw [getc_app] at h; exact g.non i h
  nd := g.nd
  dj := g.dj
  dR := g.dR
  tr := g.tr
  tR := g.tR
  tb := g.tb
def ioK : CK → Bool
  | .io => true
  | .iot => true
  | _ => false
/-- what iosOf tells -/
theorem iosOf_at : ∀ {args : List (CK × D)} {j0 : Nat} {ios : List (Option D)}, iosOf T args j0 ρ = some ios → ios.length = args.length ∧ ∀ (j : Nat) (k : CK) (d0 : D), args[j]? = some (k, d0) →
    (ioK k = true → ∃ d, getc ρ (j0 + j) = some ⟨k, d⟩ ∧ (j0 + j) ∉ T ∧ ios[j]? = some (some d)) ∧ (ioK k = false → ios[j]? = some none)
  | [], j0, ios, h => by cases h; exact ⟨rfl, fun j k d0 h => by simp at h⟩
  | (k, d0) :: r, j0, ios, h => by
    have nxt : ∀ {l : List (Option D)} {x : Option D}, iosOf T r (j0 + 1) ρ = some l → ios = x :: l → ((ioK k = true → ∃ d, getc ρ j0 = some ⟨k, d⟩ ∧ j0 ∉ T ∧ x = some d) ∧ (ioK k = false → x = none)) → ios.length = ((k, d0) :: r).length ∧ ∀ (j : Nat) (k' : CK) (d0' : D), ((k, d0) :: r)[j]? = some (k', d0') →
        (ioK k' = true → ∃ d, getc ρ (j0 + j) = some ⟨k', d⟩ ∧ (j0 + j) ∉ T ∧ ios[j]? = some (some d)) ∧ (ioK k' = false → ios[j]? = some none) := fun {l x} h1 h2 h3 => by
      subst h2
      obtain ⟨i1, i2⟩ := iosOf_at h1
      refine ⟨by simp [i1], fun j k' d0' hj => ?_⟩
      cases j with
      | zero =>
        simp at hj
        obtain ⟨rfl, rfl⟩ := hj
        refine ⟨fun hk => ?_, fun hk => by simp [h3.2 hk]⟩
        obtain ⟨d, a1, a2, a3⟩ := h3.1 hk
        exact ⟨d, a1, a2, by simp [a3]⟩
      | succ j =>
        have := i2 j k' d0' (by simpa using hj)
        rw [Nat.add_assoc, Nat.add_comm 1 j] at this
        exact this
    have plain : (iosOf T r (j0 + 1) ρ).map (fun l => (none : Option D) :: l) = some ios → ioK k = false → ios.length = ((k, d0) :: r).length ∧ ∀ (j : Nat) (k' : CK) (d0' : D), ((k, d0) :: r)[j]? = some (k', d0') →
        (ioK k' = true → ∃ d, getc ρ (j0 + j) = some ⟨k', d⟩ ∧ (j0 + j) ∉ T ∧ ios[j]? = some (some d)) ∧ (ioK k' = false → ios[j]? = some none) := fun h hk => by
      obtain ⟨l, h1, h2⟩ := Option.map_eq_some_iff.mp h
      exact nxt h1 h2.symm ⟨fun z => (by rw [hk] at z; cases z), fun _ => rfl⟩
    cases k with
    | own => exact plain h rfl
    | top => exact plain h rfl
    | shr => exact plain h rfl
    | io =>
      have h : (match getc ρ j0 with
        | some ⟨.io, d⟩ => if T.contains j0 then none else (iosOf T r (j0 + 1) ρ).map fun l => some d :: l
        | _ => none) = some ios := h
      split at h
      · rename_i d hg
        split at h
        · cases h
        · rename_i hT
          obtain ⟨l, h1, h2⟩ := Option.map_eq_some_iff.mp h
          exact nxt h1 h2.symm ⟨fun _ => ⟨d, hg, (by simpa using hT), rfl⟩, fun z => (by cases z)⟩
      · cases h
    | iot =>
      have h : (match getc ρ j0 with
        | some ⟨.iot, d⟩ => if T.contains j0 then none else (iosOf T r (j0 + 1) ρ).map fun l => some d :: l
        | _ => none) = some ios := h
      split at h
      · rename_i d hg
        split at h
        · cases h
        · rename_i hT
          obtain ⟨l, h1, h2⟩ := Option.map_eq_some_iff.mp h
          exact nxt h1 h2.symm ⟨fun _ => ⟨d, hg, (by simpa using hT), rfl⟩, fun z => (by cases z)⟩
      · cases h
def fpO (args : List (CK × D)) (fp : Nat → List Addr) (j : Nat) : List Addr := match args[j]? with
  | some (k, _) => if ioK k then fp j else []
  | none => []
theorem mem_fpO {j : Nat} {a : Addr} (h : a ∈ fpO args fp j) : a ∈ fp j ∧ ∃ k d, args[j]? = some (k, d) ∧ ioK k = true := by
  unfold fpO at h
  split at h
  · rename_i k d0 e
    split at h
    · rename_i hk; exact ⟨h, k, d0, e, hk⟩
    · cases h
  · cases h
theorem Gd.out {σ0 : L2.St} (g : Gd K σ' H' ρ' fp' R') (hi : iosOf T args 0 ρ' = some ios) (k : Keep T σ0 σ') (hσ : ∀ j, j < args.length → σ0[j]? = (vs.map some)[j]?) (hv : vs.length = args.length) : Gd K (vs.map some) H' (outE args ios) (fpO args fp') R' := by
  obtain ⟨l1, at_⟩ := iosOf_at hi
  refine ⟨by simp [outE, hv], fun i c h => ?_, fun i h => ?_, fun i => ?_, fun i j a h1 h2 => g.dj i j a (mem_fpO h1).1 (mem_fpO h2).1, fun i a h => g.dR i a (mem_fpO h).1, fun i a h => g.tr i a (mem_fpO h).1, g.tR, g.tb⟩
  · rw [getc_outE] at h
    cases ha : args[i]? with
    | none => rw [ha] at h; simp at h
    | some p =>
      obtain ⟨k0, d0⟩ := p
      have hlt : i < args.length := (List.getElem?_eq_some_iff.mp ha).1
      obtain ⟨a1, a2⟩ := at_ i k0 d0 ha
      have go : ioK k0 = true → ∀ {d : D}, c = ⟨k0, d⟩ → (ios[i]?).join = some d → ∃ v, (vs.map some)[i]? = some (some v) ∧ RpK K H' R' c.k c.d v (fpO args fp' i) := fun hk {d} hc hd => by
        obtain ⟨d2, b1, b2, b3⟩ := a1 hk
        rw [Nat.zero_add] at b1 b2
        rw [b3] at hd
        simp at hd
        subst hd hc
        obtain ⟨v, h1, h2⟩ := g.cell i _ b1
        refine ⟨v, ?_, ?_⟩
        · rw [← hσ i hlt, ← k i b2]; exact h1
        · unfold fpO; rw [ha]; simp only [hk, if_true]; exact h2
      rw [ha] at h
      cases k0 with
      | io =>
        cases hd : (ios[i]?).join with
        | none => rw [hd] at h; cases h
        | some d => rw [hd] at h; cases h; exact go rfl rfl hd
      | iot =>
        cases hd : (ios[i]?).join with
        | none => rw [hd] at h; cases h
        | some d => rw [hd] at h; cases h; exact go rfl rfl hd
      | own => simp at h
      | top => simp at h
      | shr => simp at h
  · unfold fpO
    cases ha : args[i]? with
    | none => rfl
    | some p =>
      obtain ⟨k0, d0⟩ := p
      dsimp only
      split
      · rename_i hk
        obtain ⟨d2, b1, b2, b3⟩ := (at_ i k0 d0 ha).1 hk
        rw [getc_outE, ha, b3] at h
        cases k0 <;> first | (cases hk; done) | (cases h; done)
      · rfl
  · unfold fpO
    split
    · split
      · exact g.nd i
      · exact .nil
    · exact .nil
theorem Mv.out' (mv : Mv [] H fp R H' fp' R') : Mv [] H fp R H' (fpO args fp') R' :=
  ⟨mv.keep, mv.tup, fun _ h => absurd h (by simp), mv.reg, fun i a h => mv.nf i a (mem_fpO h).1, mv.nR, mv.som, mv.sn⟩
theorem Tmp.out (t : Tmp H' fp' R' f) : Tmp H' (fpO args fp') R' f := ⟨t.nd, fun i a h z => t.dj i a h (mem_fpO z).1, t.dR, t.tr⟩
/-- the called one's exit -/
theorem finish_ok {σ0 : L2.St} {Q : VK} (hf : finish T args m' d' ρ' = .ret m d ios) (g : Gd K σ' H' ρ' fp' R') (mv : Mv [] H fp R H' fp' R') (k : Keep T σ0 σ') (hσ : ∀ j, j < args.length → σ0[j]? = (vs.map some)[j]?) (hv : vs.length = args.length) (o : Hold K H' fp' R' m' d' v f) (n : New [] H fp f)
    (q : ∀ v H' fp' R' f, Gd K (vs.map some) H' (outE args ios) fp' R' → Mv [] H fp R H' fp' R' → Hold K H' fp' R' m d v f → New [] H fp f → Q v H') : Q v H' := by
  unfold finish at hf
  cases hi : iosOf T args 0 ρ' with
  | none => rw [hi] at hf; cases hf
  | some ios' =>
    rw [hi] at hf
    dsimp only at hf
    obtain ⟨f1, o1, s1⟩ := o.nrm
    generalize PV.nrm m' d' = m1 at hf o1
    have gout : ios' = ios → Gd K (vs.map some) H' (outE args ios) (fpO args fp') R' := fun e => by subst e; exact g.out hi k hσ hv
    have slot : ∀ {i : Nat} {c : CK} {d0 : D}, getc ρ' i = some ⟨c, d0⟩ → ioK c = false → RpS K H' (fun x => R' x ∨ x ∈ fp' i) d' v → CR.ret .shr d' ios' = .ret m d ios → Q v H' := fun {i c d0} hc hk rd e => by
      cases e
      refine q v H' (fpO args fp') R' (fp' i) (gout rfl) mv.out' ⟨rd, ⟨g.nd i, fun j a h z => ?_, g.dR i, g.tr i⟩⟩ fun a h => (mv.nf i a h).imp id fun ⟨j, z⟩ => ⟨j, by simp, z⟩
      obtain ⟨z1, k0, d1, z2, z3⟩ := mem_fpO z
      have := g.dj j i a z1 h
      subst this
      obtain ⟨d2, b1, _, _⟩ := ((iosOf_at hi).2 j k0 d1 z2).1 z3
      rw [Nat.zero_add, hc] at b1
      cases b1
      rw [hk] at z3; cases z3
    cases m1 with
    | own => cases hf; exact q v H' (fpO args fp') R' f1 (gout rfl) mv.out' ⟨o1.rp, o1.tm.out⟩ (n.sub s1)
    | top => cases hf; exact q v H' (fpO args fp') R' f1 (gout rfl) mv.out' ⟨o1.rp, o1.tm.out⟩ (n.sub s1)
    | shr => cases hf; exact q v H' (fpO args fp') R' f1 (gout rfl) mv.out' ⟨o1.rp, o1.tm.out⟩ (n.sub s1)
    | bor i =>
      dsimp only at hf
      split at hf
      · rename_i d0 hc; exact slot hc rfl o1.rp.1 hf
      · cases hf
    | bort i =>
      dsimp only at hf
      split at hf
      · rename_i d0 hc; exact slot hc rfl (RpW.shr (fun _ => .inl) o1.rp.1) hf
      · cases hf
end
/-! ### defs -/
section
variable {P : Program} {w : World} {K : PySem.W.Frag} {mg : Str → Option Value} {base : Heap} {f : Addr} {fd : FuncData} {N ps : List Str} {x qual : Str} {st : Stmt} {defs : List Def} {globs : List D} {ww n fi : Nat} {df : Def}
theorem def_0 : PVX.FnG P w K mg base 0 f fd ps (spD K (callD defs globs ww 0 fi)) :=
  ⟨fun vs H Q E ⟨_, _, _, _, _, _, _, e, _⟩ => (by cases e), fun A outer s H args us vs Q E _ _ _ _ _ ⟨_, _, _, _, _, _, _, e, _⟩ => by cases e⟩
theorem def_sT {k : Nat} (F : L2.Fun K x qual st f fd) (S : FnScope N ps (defScope st)) (hdf : defs[fi]? = some df) (hnp : df.np = ps.length) (hns : df.ns = N.length) (hle : ps.length ≤ N.length)
    (hb : ∀ (cdv : Value) (A : Around) (outer : List PySem.Env) (s : Shared) (H : Hp) (E : XK), fd.code = cdv → Room k (A.deeper (envOfC qual (defScope st) s.heap.objs.size f cdv)) → A.guards = some [] →
      PBv (cxOf CX0 P w K mg base N qual (defScope st) f cdv A outer s H E).nox (⟨callD defs globs ww n, fun x => globs[x]?, ww⟩ : PV.Ctx) df.body (defBody st)) :
    PVX.FnG P w K mg base (k + 1) f fd ps (spD K (callD defs globs ww (n + 1) fi)) := by
  have key : ∀ {args : List (CK × D)} {m : M} {d : D} {ios : List (Option D)}, callD defs globs ww (n + 1) fi args = .ret m d ios → args.length = ps.length ∧ ∃ fl ρ', exec (⟨callD defs globs ww n, fun x => globs[x]?, ww⟩ : PV.Ctx) [] df.body (inE args ++ List.replicate (N.length - args.length) none) = .ok fl ρ' ∧
      ((fl = .nx ∧ finish (tgs df.body) args .own .none ρ' = .ret m d ios) ∨ ∃ m' d', fl = .ret m' d' ∧ finish (tgs df.body) args m' d' ρ' = .ret m d ios) := fun {args m d ios} h => by
    have h : (match defs[fi]? with
      | none => CR.bad
      | some df => if args.length = df.np then
          match exec ⟨callD defs globs ww n, fun x => globs[x]?, ww⟩ [] df.body (args.map (fun (a : CK × D) => some (Cell.mk a.1 a.2)) ++ List.replicate (df.ns - df.np) none) with
          | .ok .nx ρ => finish (tgs df.body) args .own .none ρ
          | .ok (.ret m d) ρ => finish (tgs df.body) args m d ρ
          | .ok _ _ => .bad
          | .exc c fs _ => .exc c fs
          | .bad => .bad
        else .bad) = .ret m d ios := h
    rw [hdf] at h
    dsimp only at h
    split at h
    case isFalse => cases h
    rename_i hl
    rw [hnp] at hl
    refine ⟨hl, ?_⟩
    rw [hns, hnp, ← hl] at h
    split at h
    · rename_i ρ' he; exact ⟨_, ρ', he, .inl ⟨rfl, h⟩⟩
    · rename_i m' d' ρ' he; exact ⟨_, ρ', he, .inr ⟨m', d', rfl, h⟩⟩
    · cases h
    · cases h
    · cases h
  refine PVX.FnG.of F S (fun vs H Q E ⟨args, fp, R, g, m, d, ios, e, q⟩ => ?_) fun cdv A outer s H vs Q E hc hr hg hsp => ?_
  · have h1 := g.len
    simp [inE] at h1
    rw [← h1, (key e).1]
  · refine ⟨_, hb cdv A outer s H E hc hr hg, ?_⟩
    obtain ⟨args, fp, R, g, m, d, ios, e, q⟩ := hsp
    obtain ⟨hl, fl, ρ', he, hfin⟩ := key e
    have hv : vs.length = args.length := by
      have h1 := g.len
      simp [inE] at h1
      exact h1.symm
    have hσ : ∀ j, j < args.length → (L2.start N vs)[j]? = (vs.map some)[j]? := fun j hj => by
      unfold L2.start
      rw [List.getElem?_append_left (by simpa [hv] using hj)]
    refine ⟨tgs df.body, [], _, fp, R, fun j hj => hj, Gd.start (N := N) g (by omega), fl, ρ', he, fun σ' H' fp' R' g' mv kp => ?_⟩
    rcases hfin with ⟨rfl, hf⟩ | ⟨m', d', rfl, hf⟩
    · exact finish_ok (v := .non) (f := []) hf g' mv kp hσ hv .ofN .nil q
    · exact fun v f o nn => finish_ok hf g' mv kp hσ hv o nn q
theorem def_s (F : L2.Fun K x qual st f fd) (S : FnScope N ps (defScope st)) (hdf : defs[fi]? = some df) (hnp : df.np = ps.length) (hns : df.ns = N.length) (hle : ps.length ≤ N.length)
    (hb : ∀ (cdv : Value) (A : Around) (outer : List PySem.Env) (s : Shared) (H : Hp) (E : XK), Room n (A.deeper (envOfC qual (defScope st) s.heap.objs.size f cdv)) → A.guards = some [] →
      PBv (cxOf CX0 P w K mg base N qual (defScope st) f cdv A outer s H E).nox (⟨callD defs globs ww n, fun x => globs[x]?, ww⟩ : PV.Ctx) df.body (defBody st)) :
    PVX.FnG P w K mg base (n + 1) f fd ps (spD K (callD defs globs ww (n + 1) fi)) :=
  def_sT F S hdf hnp hns hle fun cdv A outer s H E _ hr hg => hb cdv A outer s H E hr hg
end
end PV
end

section
set_option Elab.async false
set_option linter.all false
set_option autoImplicit false
set_option maxRecDepth 100000
namespace PVX
open PySem PySem.Spec PyProof.Rows L2
section
variable {X : Cx}
/-- a name for a dict comprehension, on one line -/
theorem ps_setDc {i : Nat} {y : Str} {py : Pos} {kx vx tg iter : Expr} {ifs : List Expr} {scope : Scope} {own : List (Str × Nat)} {pos spos : Pos} {wi : TI} {g : TG} {tt : TT} {tk tv : TE} (hc : X.calm = true) (hN : X.N.Nodup) (hy : X.N[i]? = some y) (hyl : X.env.scope.names.lookup y = some .local)
    (hsw : swapsWith (.DictComp kx vx [⟨tg, iter, ifs, 0⟩] scope pos) (some (.Name y py)) spos.line X.env = pure true) (hi : PI X tg iter wi) (ok : BlkOk X.N X.env.scope scope own)
    (hg : ∀ (s : Shared) (H : Hp) (C : Addr) (cl : List (Str × Addr)) (fp : List Addr), PG (X.blk s H scope (compEnvC scope cl C X.env) fp) tg g)
    (ht : ∀ (s : Shared) (H : Hp) (C : Addr) (cl : List (Str × Addr)) (fp : List Addr), PTs (X.blk s H scope (compEnvC scope cl C X.env) fp) ifs tt)
    (hk : ∀ (s : Shared) (H : Hp) (C : Addr) (cl : List (Str × Addr)) (fp : List Addr), PE (X.blk s H scope (compEnvC scope cl C X.env) fp) kx tk)
    (he : ∀ (s : Shared) (H : Hp) (C : Addr) (cl : List (Str × Addr)) (fp : List Addr), PE (X.blk s H scope (compEnvC scope cl C X.env) fp) vx tv)
    (hs : ∀ x, foldedSetIterable iter X.env x = pure x := by intro _; rfl) :
    PS X (.Assign [.Name y py] (.DictComp kx vx [⟨tg, iter, ifs, 0⟩] scope pos) spos) (tAsg (tDc wi g tt tk tv (own.map (·.2))) (gName i)) := ⟨fun pins s σ H D I h => by
  rw [exec_Assign_Name_used _ _ _ _ hsw]
  refine wpAny_bind (wpAny_standAt (wpAny_bind ?_))
  show wpAny _ X.A (comprehension (.DictComp kx vx [⟨tg, iter, ifs, 0⟩] scope pos) scope X.env (firstIterPos [⟨tg, iter, ifs, 0⟩] pos) newDict false (eval iter X.env) (some (assign (.Name y py) X.env)) >>= fun _ => pure ()) _ _ s
  have h2 : tDc wi g tt tk tv (own.map (·.2)) σ H (fun x H1 => gName i x σ H1 D.nx) := h
  refine wpAny_bind (thn (dc_core (Qf := fun _ s' => SP X pins D .next s') hc hN I hi ok hg ht hk he hs h2 fun A C s' m H' I' q hn f => ?_) fun _ s' hq => wpAny_pure (wpAny_pure hq))
  show wpAny _ _ (assign (.Name y py) X.env (.ref A)) _ _ _
  obtain ⟨f0, f1, f2, f3, f4, f5⟩ := f
  refine wpAny_assign_Name (store_ok2 (v := V.ref A) I' hN hy (.inl hyl) rfl (fun s2 I2 ⟨a, sb, ha⟩ => ⟨m, hn.sameBut sb (ha.elim (fun z => by rw [z]; exact f1) fun z e => f4 y a z e.symm), fun h3 sb3 => ⟨_, H', I2.turned (t' := s2.toks) (fun b o hb e => (sb3.2 b hb).trans e) f0 f1 f3 f4 f5, q⟩⟩) (.inr hyl))⟩
end
end PVX
namespace PV
open PySem PySem.Spec PyProof.Rows L2
variable [Tbs]
section
variable {X : Cx} {C : Ctx} {a b c it ifs elt kx vx : Ex} {ea eb ec elte tge iter kxe vxe : Expr} {ifse : List Expr} {pos spos py : Pos} {tg : Tg} {y x : Str} {i : Nat}
theorem sv_setDc {scope : Scope} {own : List (Str × Nat)} {ow : List Nat} (hc : X.calm = true) (hN : X.N.Nodup) (ok : BlkOk X.N X.env.scope scope own) (hi : PIv X C tge it iter)
    (hg : ∀ (s : Shared) (H : Hp) (D : Addr) (cl : List (Str × Addr)) (fp : List Addr), PGv (X.blk s H scope (compEnvC scope cl D X.env) fp) tg tge)
    (ht : ∀ (s : Shared) (H : Hp) (D : Addr) (cl : List (Str × Addr)) (fp : List Addr), PTsv (X.blk s H scope (compEnvC scope cl D X.env) fp) C ifs ifse)
    (hk : ∀ (s : Shared) (H : Hp) (D : Addr) (cl : List (Str × Addr)) (fp : List Addr), PEv (X.blk s H scope (compEnvC scope cl D X.env) fp) C kx kxe)
    (he : ∀ (s : Shared) (H : Hp) (D : Addr) (cl : List (Str × Addr)) (fp : List Addr), PEv (X.blk s H scope (compEnvC scope cl D X.env) fp) C vx vxe)
    (how : own.map (·.2) = ow := by rfl) (hT : (tgT tg).all ow.contains = true := by rfl) (hy : X.N[i]? = some y := by rfl) (hyl : X.env.scope.names.lookup y = some .local := by rfl)
    (hsw : swapsWith (.DictComp kxe vxe [⟨tge, iter, ifse, 0⟩] scope pos) (some (.Name y py)) spos.line X.env = pure true := by rfl) (hs : ∀ x, foldedSetIterable iter X.env x = pure x := by intro _; rfl) :
    PSv X C (.asg (.nm i) (.dc tg ow it ifs kx vx)) (.Assign [.Name y py] (.DictComp kxe vxe [⟨tge, iter, ifse, 0⟩] scope pos) spos) := by
  subst how
  exact psI (PVX.ps_setDc (g := tgv X.K tg) (tt := tts X.K C ifs) (tk := tvx X.K C kx) (tv := tvx X.K C vx) hc hN hy hyl hsw hi ok hg ht hk he hs) fun D σ H h => by
    obtain ⟨L, ρ, fp, R, g, m, d, ρ1, e, q⟩ := asg_ok h
    exact dc_read hT ⟨L, ρ, fp, R, g, m, d, ρ1, e, fun v H1 fp1 R1 f1 g1 v1 o1 n1 => nm_ok (q v H1 fp1 R1 f1 g1 v1 o1 n1)⟩
/-- a name's value, taken -/
theorem sv_mv (i : Nat) (hN : X.N[i]? = some x := by rfl) (hv : Vis X.env.scope x := by first | exact Or.inl rfl | exact Or.inr (Or.inl rfl) | exact Or.inr (Or.inr rfl)) (hd : (x == ("__debug__" : Str)) = false := by decide)
    (hcd : (x == ("__classdict__" : Str)) = false := by decide) : PEv X C (.mv i) (.Name x pos) := by
  refine peI (pe_var hN hv hd hcd) fun σ H Q ⟨L, ρ, fp, R, g, m, d, ρ', e, q⟩ => ?_
  have e : (if L.contains i then PV.R.bad else match getc ρ i with
    | some ⟨.own, d⟩ => .ok (.own, d) (ρ.set i none)
    | some ⟨.top, d⟩ => .ok (.top, d) (ρ.set i none)
    | some ⟨.shr, d⟩ => .ok (PV.nrm .shr d, d) ρ
    | _ => .bad) = .ok (m, d) ρ' := e
  split at e
  · cases e
  rename_i hL
  have hL : i ∉ L := by simpa using hL
  have t : ∀ {fp' : Nat → List Addr}, fp' = fpS fp i [] → Tmp H fp' R (fp i) := fun {fp'} e => by
    subst e
    refine ⟨g.nd i, fun j a h z => ?_, g.dR i, g.tr i⟩
    unfold fpS at z
    split at z
    · cases z
    · rename_i hj; exact hj (g.dj j i a z h)
  have nn : New L H fp (fp i) := fun a h => .inr ⟨i, hL, h⟩
  split at e
  · rename_i d0 hc
    cases e
    obtain ⟨v, h1, h2⟩ := g.cell i _ hc
    exact ⟨v, h1, q v H _ R (fp i) (g.hide i) (Mv.hide hL .refl) ⟨h2, t rfl⟩ nn⟩
  · rename_i d0 hc
    cases e
    obtain ⟨v, h1, h2⟩ := g.cell i _ hc
    refine ⟨v, h1, q v H _ R (fp i) (g.hide i) (Mv.hide hL .refl) ⟨?_, t rfl⟩ nn⟩
    have h2 : RpT X.K H R d v (fp i) := h2
    show RpU X.K H R d v (fp i)
    generalize fp i = f at h2
    cases d with
    | list ds => obtain ⟨a, vs, e, hl, rfl, hs⟩ := h2; exact ⟨a, vs, e, hl, List.mem_cons_self, hs.to fun _ => .inl⟩
    | dict kvs => obtain ⟨a, u, vs, e, hl, hd, rfl, hs⟩ := h2; exact ⟨a, u, vs, e, hl, hd, List.mem_cons_self, RpSk_iff.mpr ((RpSk_iff.mp hs).to fun _ => .inl)⟩
    | none => exact RpS.stay (.refl _) (fun _ _ => rfl) (fun _ => .inl) h2.1
    | bool b => exact RpS.stay (.refl _) (fun _ _ => rfl) (fun _ => .inl) h2.1
    | int b => exact RpS.stay (.refl _) (fun _ _ => rfl) (fun _ => .inl) h2.1
    | str b => exact RpS.stay (.refl _) (fun _ _ => rfl) (fun _ => .inl) h2.1
    | tuple b => exact RpS.stay (.refl _) (fun _ _ => rfl) (fun _ => .inl) h2.1
  · rename_i d0 hc
    cases e
    have hl : ld ρ i = some (PV.nrm .shr d, d) := by unfold ld; rw [hc]
    obtain ⟨v, h1, h2⟩ := ld_hold g hl
    exact ⟨v, h1, q v H fp R [] g .refl h2 .nil⟩
  · cases e
theorem sv_globX {n : Nat} {i : Int} (hC : C.glob n = some (.int i)) (hm : ∃ t, X.mg x = some (.int i t)) (hg : Gl X x := by rfl) (hdb : (x == ("__debug__" : Str)) = false := by decide) : PEv X C (.glob n) (.Name x pos) := hm.elim fun t ht => sv_globI hC ht hg hdb
theorem hu1 {k : Nat} {A : Around} (hr : Room k A) : A.units + 1 < cLine := by have := hr.un; omega
theorem hu64 {k : Nat} {A : Around} (hr : Room k A) : A.units + 64 < cLine := by have := hr.un; omega
theorem hu65 {k : Nat} {A : Around} (hr : Room k A) : A.units + 65 < cLine := by have := hr.un; omega
end
/-! ### the end -/
section
variable {P : Program} {w : World} {K : PySem.W.Frag} {mg mb : Str → Option Value} {n li : Nat} {fa a : Addr} {fd : FuncData} {x : Str} {s₁ : Shared} {vs : List Value} {ns : List Int} {defs : List Def} {globs : List D} {ww : Nat}
theorem ints_rp {H : Hp} {S : Addr → Prop} : ∀ ns : List Int, RpSs K H S (ns.map PyData.int) (ns.map V.int)
  | [] => by simp [RpSs]
  | i :: r => by simp only [List.map_cons, RpSs, RpS]; exact ⟨_, _, rfl, rfl, ints_rp r⟩
/-- what the plain law says is what the def is asked -/
theorem law_sp {H : Hp} {E : XK} {m : M} {ios : List (Option D)} (hT : LamX.Tabs Tbs.T H) (hS : SqL K H a (ns.map V.int)) (h : callD defs globs ww n li [(.shr, .list (ns.map .int))] = .ret m (.bool true) ios) : spD K (callD defs globs ww n li) [.ref a] H (fun v _ => v = .bl true) E := by
  refine ⟨[(.shr, .list (ns.map .int))], fun _ => [], fun b => nt H b, ⟨rfl, fun i c hc => ?_, fun _ _ => rfl, fun _ => .nil, fun _ _ _ h => (by simp at h), fun _ _ h => (by simp at h), fun _ _ h => (by simp at h), fun _ h => h, hT⟩, m, .bool true, ios, h, fun v H' fp' R' f g' mv o nn => o.bl⟩
  cases i with
  | zero =>
    rw [getc_inE] at hc
    simp at hc
    subst hc
    refine ⟨.ref a, rfl, ?_, rfl⟩
    simp only [RpS]
    refine ⟨a, ns.map V.int, rfl, ?_, ints_rp ns⟩
    rcases hS with h | h
    · exact .inl ⟨h.elim nt.lst fun ⟨_, h⟩ => nt.frz h, h⟩
    · exact .inr h
  | succ i => rw [getc_inE] at hc; simp at hc
/-- the law's call behind the top -/
theorem lawG (hT0 : Tbs.T = []) (KX : K.In s₁.heap) (hns : s₁.heap.Ns mainGlobals mg) (hb : s₁.heap.Ns builtinsNs mb) (hbb : ∀ x : Str, x ≠ "__name__" → mb x = bootBuiltins x) (hlim : s₁.heap.NoLimit) (hg : s₁.gens = #[])
    (ha : s₁.heap.get? a = some { cls := .type "list", data := .seq vs.toArray }) (hi : IntsAre vs ns) (hl : ns.length ≤ sizeLine) (hr : Room n callerA)
    (F : ∀ base : Heap, K.In base → base.Ns mainGlobals mg → PVX.FnG P w K mg base n fa fd [x] (spD K (callD defs globs ww n li))) (hbind : ∀ (s : Shared) (u : Value), BindsTo s fd ⟨[u], []⟩ [(x, u)])
    (h : ∃ m ios, callD defs globs ww n li [(.shr, .list (ns.map .int))] = .ret m (.bool true) ios) :
    codeAny (model P w) callerA (.call (.ref fa) ⟨[.ref a], []⟩) (fun r s' => r = .ok (.ret (.bool true)) ∧ OldK s₁.heap s'.heap ∧ s'.os = s₁.os ∧ AllBare s'.gens) s₁ := by
  obtain ⟨m, ios, h⟩ := h
  have rv : Vals (ns.map V.int) vs := vals_ints hi
  have len := hi.length
  -- H tells of the script alone, or of nothing
  have core : ∀ H : Hp, (∀ b u, H b = some u → b = a ∧ u = .frz { cls := .type "list", data := .seq vs.toArray } (.lst (ns.map V.int))) → SqL K H a (ns.map V.int) → (H a ≠ none → K.lookup a = none) →
      codeAny (model P w) callerA (.call (.ref fa) ⟨[.ref a], []⟩) (fun r s' => r = .ok (.ret (.bool true)) ∧ OldK s₁.heap s'.heap ∧ s'.os = s₁.os ∧ AllBare s'.gens) s₁ := by
    intro H hH hS hK
    have hok : HOk P w H s₁.heap := fun b u z => by
      obtain ⟨rfl, rfl⟩ := hH b u z
      exact ⟨ha, by rw [List.length_map]; exact hl, vs, _, rv, ha⟩
    have dic : ∀ {b : Addr} {o : Obj} {es : Array DictEntry} {ep : Nat}, s₁.heap.get? b = some o → o.data = .dict es ep → H b = none := fun {b o es ep} e d => Option.eq_none_iff_forall_ne_some.mpr fun u z => by
      obtain ⟨rfl, _⟩ := hH b u z
      rw [ha] at e; cases e
      cases (show Data.seq vs.toArray _ = Data.dict es ep from d)
    have ns' : ∀ {b : Addr} {m : Str → Option Value}, s₁.heap.Ns b m → (hidT s₁.heap H).Ns b m := fun {b m} ⟨o, es, ep, e, d, r⟩ => ⟨o, es, ep, hidT_get e (dic e d), d, r⟩
    have KB : K.In (hidT s₁.heap H) := fun b o e => hidT_get (KX b o e) (Option.eq_none_iff_forall_ne_some.mpr fun u z => by
      obtain ⟨rfl, _⟩ := hH b u z
      rw [hK (by rw [z]; simp)] at e; cases e)
    obtain ⟨ml, l1, l2⟩ := hlim
    have e0 : Env0 P w K mg (hidT s₁.heap H) callerA [] s₁ H := ⟨rfl, ⟨KB, ns' hns, ⟨mb, ns' hb, hbb⟩, ⟨ml, ns' l1, l2⟩⟩, fun b o e => of_hidT e, Nat.le_of_eq (hidT_size _ _), trivial, fun b z => (nomatch z), hok, .of_eq hg⟩
    refine codeAny_mono ((F _ KB (ns' hns)).run callerA [] s₁ H ⟨[.ref a], []⟩ [.ref a] [.ref a] _ (fun _ _ _ => False) hr rfl e0 (hbind s₁ (.ref a)) (.cons rfl .nil) (law_sp (by rw [hT0]; exact fun _ h => nomatch h) hS h)) fun r s' hq => ?_
    match r, hq with
    | .ok (.ret u), ⟨v, H', h1, h2, un, hok', rr, q⟩ =>
      have q : v = .bl true := q
      subst q
      have rr : u = Value.bool true := rr
      subst rr
      refine ⟨rfl, OldK.of_keep fun b o e => ?_, h1, h2⟩
      cases hb' : H b with
      | none => exact un.keep b o e hb' (fun z => by cases z) (by simp)
      | some u =>
        obtain ⟨rfl, rfl⟩ := hH b u hb'
        obtain ⟨e2, _⟩ := hok' b _ (un.frzs b _ _ hb')
        rw [ha] at e; cases e
        exact e2
  cases hk : K.lookup a with
  | some o =>
    have e := KX a o hk
    rw [ha] at e; cases e
    exact core (fun _ => none) (fun b u z => by cases z) (.inr ⟨_, vs.toArray, _, hk, rfl, rfl, rfl, by rw [List.size_toArray, len]; exact hl, by simpa using rv⟩) fun z => absurd rfl z
  | none =>
    refine core (fun b => if b = a then some (.frz { cls := .type "list", data := .seq vs.toArray } (.lst (ns.map V.int))) else none) (fun b u z => ?_) (.inl (.inr ⟨_, if_pos rfl⟩)) fun _ => hk
    by_cases e : b = a
    · rw [if_pos e] at z; cases z; exact ⟨e, rfl⟩
    · rw [if_neg e] at z; cases z
end
section
theorem walkG {l : PySem.W.OpenLaw} {n nm li ww : Nat} {q : Program} {loose : List Str} {XP : (Str → Option Value) → Heap → Prop} {YP : World → Heap → Prop} {d : DefRec} {K : Params → PySem.W.Frag} {x : Str} {defs : List Def} {globs : List D} (hT0 : Tbs.T = [])
    (hn : l.most = some nm) (hn2 : nm ≤ sizeLine) (hdf : d.params.defaults = []) (hr : Room n callerA) (hY : ∀ (w : World) (h : Heap), YP w h → (K w.params).In h)
    (F : ∀ (w : World) (mg : Str → Option Value) (fa : Addr) (h : Heap), (K w.params).In h → h.Ns mainGlobals mg → mg d.name = some (.ref fa) →
      ∃ fd : FuncData, (∀ (s : Shared) (u : Value), BindsTo s fd ⟨[u], []⟩ [(x, u)]) ∧ ∀ base : Heap, (K w.params).In base → base.Ns mainGlobals mg → PVX.FnG l.prog w (K w.params) mg base n fa fd [x] (spD (K w.params) (callD defs globs ww n li)))
    (h : ∀ ns : List Int, ns.length ≤ nm → (∀ z ∈ ns, Builtin.Int.intBits z ≤ 1048576) → ∃ m ios, callD defs globs ww n li [(.shr, .list (ns.map .int))] = .ret m (.bool true) ios) :
    PySem.W.WalkO q loose XP YP l.row.toRowW d [] (fun f vs => PySem.call f vs) := by
  refine Att.attach_callB hn hdf fun w s₀ s₁ mg mb fa o pm cd doc a vs ns G Y ho hd hcd hmg hobj hints hlen hbits hg => ?_
  obtain ⟨fd, hb, hF⟩ := F w mg fa _ (hY w _ Y) G.T.g hmg
  exact lawG hT0 (hY w _ Y) G.T.g G.T.b G.T.builtins G.T.nolimit hg hobj hints (Nat.le_trans hlen hn2) hr hF hb (h ns hlen hbits)
end
end PV
namespace PV
open PySem PySem.Spec PyProof.Rows L2
theorem kw_mk {K : PySem.W.Frag} {x qual : Str} {st : Stmt} {f : Addr} {fd : FuncData} {ps ks : List Str} {n : Nat} {perm : List Nat} (F : L2.Fun K x qual st f fd)
    (h : ∀ (kV doc pm : Value) (an : Option Addr) (cdv ct : Value) (us ws : List Value), us.length = n → ws.length = ks.length → bindArgs (PySem.W.fnOf x qual (defArgs st) (defBody st) (defScope st) .none kV doc pm an cdv ct) ⟨us, ks.zip ws⟩ = pure (ps.zip (perm.filterMap fun j => (us ++ ws)[j]?))) : PVX.KwB K fd ps ks n perm := by
  obtain ⟨oc, od, kV, doc, pm, an, cdv, ct, osl, rfl, lk, hcd⟩ := F.ex
  exact ⟨fun s us ws _ h1 h2 => .of_eq (h kV doc pm an cdv ct us ws h1 h2)⟩
end PV
end

section
set_option linter.all false
set_option autoImplicit false
namespace PV
open PySem L2
variable [Tbs]
/-! ### a table at the module's top: a tuple of flat things -/
def flVs : List V → List D → Prop
  | [], [] => True
  | v :: vs, d :: ds => flV v d ∧ flVs vs ds
  | _, _ => False
theorem flVs.all : ∀ {vs : List V} {ds : List D}, flVs vs ds → vs.all flatV = true ∧ ∀ {x : V} {d : D}, flV x d → inV x vs = ds.any fun y => PyData.eqv y d
  | [], [], _ => ⟨rfl, fun _ => rfl⟩
  | v :: vs, d :: ds, h => by
    obtain ⟨h1, h2⟩ := h
    obtain ⟨i1, i2⟩ := flVs.all h2
    refine ⟨by simp only [List.all_cons, Bool.and_eq_true]; exact ⟨h1.flat, i1⟩, fun {x e} hx => ?_⟩
    have e1 := i2 hx
    unfold inV at e1 ⊢
    rw [List.any_cons, List.any_cons, e1, h1.eqv hx]
def TabT (K : PySem.W.Frag) (u : Value) (ds : List D) : Prop := ∃ p, u = .ref p ∧ ∃ (o : Obj) (its : Array Value) (n : Nat), K.lookup p = some o ∧ o.cls = .type "tuple" ∧ o.data = .seq its n ∧ its.size ≤ sizeLine ∧ ∃ vs, Vals vs its.toList ∧ flVs vs ds
section
variable {X : Cx} {C : Ctx} {a : Ex} {ea : Expr} {x : Nat} {n : Str} {pos pos2 : Pos} {ds : List D}
theorem tab_w {H : Hp} {fp : Nat → List Addr} {R : Addr → Prop} {m : M} {d : D} {v : V} {f : List Addr} {vs : List V} {k : Bool} (o1 : Hold X.K H fp R m d v f) (hf : flVs vs ds) (hk : inG d (.tuple ds) = some k) : flatV v = true ∧ vs.all flatV = true ∧ inV v vs = k := by
  have hk : (if PV.flat d && ds.all PV.flat then some (ds.any fun y => PyData.eqv y d) else none) = some k := hk
  split at hk
  · rename_i h
    simp only [Bool.and_eq_true] at h
    cases hk
    obtain ⟨S, hr⟩ := o1.read
    have hx := hr.fl h.1
    obtain ⟨i1, i2⟩ := hf.all
    exact ⟨hx.flat, i1, i2 hx⟩
  · cases hk
theorem ev_inG {neg : Bool} {L : List Nat} {ρ ρ' : Env} {m : M} {d : D} (hC : C.glob x = some (.tuple ds)) (e : ev C L (.inG neg a x) ρ = .ok (m, d) ρ') : ∃ ma da k, ev C L a ρ = .ok (ma, da) ρ' ∧ inG da (.tuple ds) = some k ∧ m = .own ∧ d = .bool (if neg then !k else k) := by
  obtain ⟨⟨ma, da⟩, ρ1, h1, e⟩ := bind_ok e
  dsimp only at e
  rw [hC] at e
  dsimp only at e
  split at e
  · rename_i b hk
    cases e
    exact ⟨ma, da, b, h1, hk, rfl, rfl⟩
  · cases e
theorem sv_inG (hC : C.glob x = some (.tuple ds)) (ha : PEv X C a ea) (hm : ∃ u, X.mg n = some u ∧ TabT X.K u ds) (hg : Gl X n := by rfl) (hdb : (n == ("__debug__" : Str)) = false := by decide) : PEv X C (.inG false a x) (.Compare ea [.In] [.Name n pos2] pos) := by
  obtain ⟨u, hu, p, rfl, o, its, nn, k1, k2, k3, k4, vs, k5, k6⟩ := hm
  refine peI (pe_cmpR op_in_seq ha (pe_glob (v := .ref p) hg hu rfl hdb) rfl) fun σ H Q ⟨L, ρ, fp, R, g, m, d, ρ', e, q⟩ => ?_
  obtain ⟨ma, da, k, h1, hk, rfl, rfl⟩ := ev_inG hC e
  refine ⟨L, ρ, fp, R, g, ma, da, ρ', h1, fun v H1 fp1 R1 f1 g1 v1 o1 n1 => ?_⟩
  obtain ⟨w1, w2, w3⟩ := tab_w o1 k6 hk
  exact ⟨p, vs, rfl, .inr (.inr ⟨o, its, nn, k1, k2, k3, k4, k5⟩), w1, w2, by rw [w3]; exact q.imm g1 v1 .ofB⟩
theorem sv_ninG (hC : C.glob x = some (.tuple ds)) (ha : PEv X C a ea) (hm : ∃ u, X.mg n = some u ∧ TabT X.K u ds) (hg : Gl X n := by rfl) (hdb : (n == ("__debug__" : Str)) = false := by decide) : PEv X C (.inG true a x) (.Compare ea [.NotIn] [.Name n pos2] pos) := by
  obtain ⟨u, hu, p, rfl, o, its, nn, k1, k2, k3, k4, vs, k5, k6⟩ := hm
  refine peI (pe_cmpR op_notIn_seq ha (pe_glob (v := .ref p) hg hu rfl hdb) rfl) fun σ H Q ⟨L, ρ, fp, R, g, m, d, ρ', e, q⟩ => ?_
  obtain ⟨ma, da, k, h1, hk, rfl, rfl⟩ := ev_inG hC e
  refine ⟨L, ρ, fp, R, g, ma, da, ρ', h1, fun v H1 fp1 R1 f1 g1 v1 o1 n1 => ?_⟩
  obtain ⟨w1, w2, w3⟩ := tab_w o1 k6 hk
  exact ⟨p, vs, rfl, .inr (.inr ⟨o, its, nn, k1, k2, k3, k4, k5⟩), w1, w2, by rw [w3]; exact q.imm g1 v1 .ofB⟩
theorem st_inG (hC : C.glob x = some (.tuple ds)) (ha : PEv X C a ea) (hm : ∃ u, X.mg n = some u ∧ TabT X.K u ds) (hg : Gl X n := by rfl) (hdb : (n == ("__debug__" : Str)) = false := by decide) : PTv X C (.tv (.inG false a x)) (.Compare ea [.In] [.Name n pos2] pos) := by
  obtain ⟨u, hu, p, rfl, o, its, nn, k1, k2, k3, k4, vs, k5, k6⟩ := hm
  refine ptI (pt_cmpR op_in_seq ha (pe_glob (v := .ref p) hg hu rfl hdb) rfl) fun σ H Q ⟨L, ρ, fp, R, g, t, ρ', e, q⟩ => ?_
  obtain ⟨⟨m0, d0⟩, ρ0, h0, e⟩ := bind_ok e
  obtain ⟨ma, da, k, h1, hk, rfl, rfl⟩ := ev_inG hC h0
  cases e
  refine ⟨L, ρ, fp, R, g, ma, da, ρ', h1, fun v H1 fp1 R1 f1 g1 v1 o1 n1 => ?_⟩
  obtain ⟨w1, w2, w3⟩ := tab_w o1 k6 hk
  exact ⟨p, vs, rfl, .inr (.inr ⟨o, its, nn, k1, k2, k3, k4, k5⟩), w1, w2, _, rfl, by rw [w3]; exact q H1 fp1 R1 g1 v1⟩
theorem st_ninG (hC : C.glob x = some (.tuple ds)) (ha : PEv X C a ea) (hm : ∃ u, X.mg n = some u ∧ TabT X.K u ds) (hg : Gl X n := by rfl) (hdb : (n == ("__debug__" : Str)) = false := by decide) : PTv X C (.tv (.inG true a x)) (.Compare ea [.NotIn] [.Name n pos2] pos) := by
  obtain ⟨u, hu, p, rfl, o, its, nn, k1, k2, k3, k4, vs, k5, k6⟩ := hm
  refine ptI (pt_cmpR op_notIn_seq ha (pe_glob (v := .ref p) hg hu rfl hdb) rfl) fun σ H Q ⟨L, ρ, fp, R, g, t, ρ', e, q⟩ => ?_
  obtain ⟨⟨m0, d0⟩, ρ0, h0, e⟩ := bind_ok e
  obtain ⟨ma, da, k, h1, hk, rfl, rfl⟩ := ev_inG hC h0
  cases e
  refine ⟨L, ρ, fp, R, g, ma, da, ρ', h1, fun v H1 fp1 R1 f1 g1 v1 o1 n1 => ?_⟩
  obtain ⟨w1, w2, w3⟩ := tab_w o1 k6 hk
  exact ⟨p, vs, rfl, .inr (.inr ⟨o, its, nn, k1, k2, k3, k4, k5⟩), w1, w2, _, rfl, by rw [w3]; exact q H1 fp1 R1 g1 v1⟩
end
end PV
end

section
set_option linter.all false
set_option autoImplicit false
namespace PV
open PySem L2
variable [Tbs]
/-! ### texts joined -/
theorem strsOf_vals {K : PySem.W.Frag} {H : Hp} {S : Addr → Prop} : ∀ {xs : List D} {l : List Str} {vs : List V}, strsOf xs = some l → RpSs K H S xs vs → vs = l.map V.str
  | [], l, vs, h, r => by cases h; simp only [RpSs] at r; subst r; rfl
  | d :: xs, l, vs, h, r => by
    cases d with
    | str i =>
      have h : (strsOf xs).map (fun l => i :: l) = some l := h
      obtain ⟨l2, h2, rfl⟩ := Option.map_eq_some_iff.mp h
      simp only [RpSs, RpS] at r
      obtain ⟨v, q, rfl, rfl, r2⟩ := r
      rw [strsOf_vals h2 r2]; rfl
    | _ => cases h
theorem Hold.strs {K : PySem.W.Frag} {H : Hp} {fp : Nat → List Addr} {R : Addr → Prop} {m : M} {xs : List D} {v : V} {f : List Addr} {l : List Str} (o : Hold K H fp R m (.list xs) v f) (h : strsOf xs = some l) : ∃ a, v = .ref a ∧ SqL K H a (l.map V.str) := by
  obtain ⟨S, rd⟩ := o.read
  simp only [RpS] at rd
  obtain ⟨a, vs, rfl, hl, hs⟩ := rd
  rw [strsOf_vals h hs] at hl
  exact ⟨a, rfl, hl.sq⟩
section
variable {X : Cx} {C : Ctx} {a b : Ex} {ea eb : Expr} {x : Nat} {n : Str} {pos pos2 : Pos}
theorem sv_join (ho : PEv X C a ea) (ha : PEv X C b eb) {apos cpos : Pos} (hs : starEach [eb] X.env = [(false, eval eb X.env)] := by rfl) (hbase : attributeBase ea "join" X.env (eval ea X.env) = eval ea X.env := by rfl) (hline : (apos.endLine == cpos.line) = true := by rfl) :
    PEv X C (.me .join a (.cons b .nil)) (.Call (.Attribute ea "join" apos) [eb] [] cpos) := by
  refine peI (pe_join ho ha hs hbase hline) fun σ H Q ⟨L, ρ, fp, R, g, m, d, ρ', e, q⟩ => ?_
  obtain ⟨⟨m1, d1⟩, ρ1, e1, e⟩ := bind_ok e
  obtain ⟨ws, ρ2, e2, e⟩ := bind_ok e
  obtain ⟨m2, d2, rfl, e3⟩ := evs1 e2
  have e := of_ok e
  refine ⟨L, ρ, fp, R, g, m1, d1, ρ1, e1, fun v H1 fp1 R1 f1 g1 v1 o1 n1 => ?_⟩
  cases d1 with
  | str z =>
    cases d2 with
    | list xs =>
      obtain ⟨ys, hy, e⟩ := Option.bind_eq_some_iff.mp (show ((strsOf xs).bind fun ys => if (ys.map (·.length)).sum + ys.length * z.length ≤ SZ then some ((M.own, PyData.str (Txt.join z ys)), ρ2) else none) = some ((m, d), ρ') from e)
      split at e
      case isFalse => cases e
      rename_i hz
      cases e
      refine ⟨⟨z, o1.str⟩, lk m1 ++ L, ρ1, fp1, R1, g1, m2, .list xs, ρ', e3, fun y H2 fp2 R2 f2 g2 v2 o2 n2 => ?_⟩
      obtain ⟨p, rfl, hl⟩ := o2.strs hy
      exact ⟨z, p, ys, o1.str, rfl, .inl hl, hz, q.imm g2 (v1.trans g1 (v2.mono fun i hi => List.mem_append_right _ hi)) .ofS⟩
    | _ => cases e
  | _ => cases e
end
end PV
end

section
set_option linter.all false
set_option autoImplicit false
namespace PV
open PySem L2
variable [Tbs]
/-! ### a table at the module's top: a dict with texts as keys, flat values -/
def EsD : List DictEntry → List (D × D) → Prop
  | [], [] => True
  | e :: es, (k, d) :: r => (∃ z t, e.key = .str z t ∧ k = .str z ∧ ∃ v, flV v d ∧ RelV v e.val) ∧ EsD es r
  | _, _ => False
theorem EsD.find {z : Str} {d : D} : ∀ {es : List DictEntry} {kvs : List (D × D)}, EsD es kvs → look kvs (.str z) = some d → ∃ e v, es.find? (·.key.isStr z) = some e ∧ flV v d ∧ RelV v e.val
  | [], [], _, h => by cases h
  | e :: es, (k, d0) :: r, h, hl => by
    obtain ⟨⟨y, t, h1, h2, v, h3, h4⟩, h5⟩ := h
    subst h2
    have hl : (if PyData.eqv (.str y) (.str z) then some d0 else look r (.str z)) = some d := hl
    have he : e.key.isStr z = PyData.eqv (.str y) (.str z) := by rw [h1]; rfl
    rw [List.find?_cons]
    by_cases c : PyData.eqv (.str y) (.str z) = true
    · rw [if_pos c] at hl
      cases hl
      rw [he, c]
      exact ⟨e, v, rfl, h3, h4⟩
    · rw [if_neg c] at hl
      rw [he, Bool.eq_false_iff.mpr c]
      exact EsD.find h5 hl
  | [], _ :: _, h, _ => h.elim
  | _ :: _, [], h, _ => h.elim
def TabD (K : PySem.W.Frag) (w : World) (u : Value) (kvs : List (D × D)) : Prop := ∃ p es n, u = .ref p ∧ K.lookup p = some ⟨.type "dict", none, .dict es n, #[]⟩ ∧ PySem.W.KeysLit w.params es.toList ∧ EsD es.toList kvs
theorem TabD.at {K : PySem.W.Frag} {w : World} {u : Value} {kvs : List (D × D)} {z : Str} {d : D} (h : TabD K w u kvs) (hl : look kvs (.str z) = some d) : ∃ p v, u = .ref p ∧ flV v d ∧ KDct K w p z v := by
  obtain ⟨p, es, n, rfl, h1, h2, h3⟩ := h
  obtain ⟨e, v, e1, e2, e3⟩ := h3.find hl
  refine ⟨p, v, rfl, e2, es, n, e.val, h1, h2, ?_, e3⟩
  unfold PySem.W.nsIn
  rw [h1]
  dsimp only
  rw [e1]
section
variable {X : Cx} {C : Ctx} {a : Ex} {ea : Expr} {x : Nat} {n : Str} {pos pos2 : Pos} {kvs : List (D × D)}
theorem sv_subG (hC : C.glob x = some (.dict kvs)) (ha : PEv X C a ea) (hm : ∃ u, X.mg n = some u ∧ TabD X.K X.w u kvs) (hg : Gl X n := by rfl) (hs : PlainIx ea := by exact fun _ _ => rfl) (hdb : (n == ("__debug__" : Str)) = false := by decide) : PEv X C (.subG x a) (.Subscript (.Name n pos2) ea pos) := by
  obtain ⟨u, hu, T⟩ := hm
  obtain ⟨p, es, nn, rfl, k1, k2, k3⟩ := T
  have T : TabD X.K X.w (.ref p) kvs := ⟨p, es, nn, rfl, k1, k2, k3⟩
  refine peI (pe_ix ix_kdict (pe_glob (v := .ref p) hg hu rfl hdb) ha hs) fun σ H Q ⟨L, ρ, fp, R, g, m, d, ρ', e, q⟩ => ?_
  obtain ⟨⟨ma, da⟩, ρ1, h1, e⟩ := bind_ok e
  dsimp only at e
  rw [hC] at e
  dsimp only at e
  refine ⟨L, ρ, fp, R, g, ma, da, ρ1, h1, fun v H1 fp1 R1 f1 g1 v1 o1 n1 => ?_⟩
  cases da with
  | str z =>
    dsimp only at e
    split at e
    · rename_i i hk
      cases e
      obtain ⟨p', v', hp, hv, hd⟩ := T.at hk
      cases hp
      cases hv
      exact ⟨p, z, _, rfl, o1.str, hd, q.imm g1 v1 .ofI⟩
    · rename_i i hk
      cases e
      obtain ⟨p', v', hp, hv, hd⟩ := T.at hk
      cases hp
      cases hv
      exact ⟨p, z, _, rfl, o1.str, hd, q.imm g1 v1 .ofS⟩
    · cases e
  | _ => cases e
end
end PV
end

section
set_option linter.all false
set_option autoImplicit false
namespace PV
open PySem L2
variable [Tbs]
/-! ### pop -/
theorem popD_box {n : Nat} {e e' : D} (h : popD n e = some e') : isBox e = true ∧ isBox e' = true := by
  cases e with
  | list xs => cases h; exact ⟨rfl, rfl⟩
  | _ => cases h
def vOf : D → V
  | .bool b => .bl b
  | .int i => .int i
  | .str x => .str x
  | _ => .non
theorem RpO.flat {K : PySem.W.Frag} {H : Hp} {d : D} {v : V} {f : List Addr} (hf : PV.flat d = true) (h : RpO K H d v f) : v = vOf d ∧ f = [] := by
  cases d <;> first | (simp only [RpO] at h; exact h) | (simp [PV.flat] at hf)
theorem RpS.flatv {K : PySem.W.Frag} {H : Hp} {S : Addr → Prop} {d : D} {v : V} (hf : PV.flat d = true) (h : RpS K H S d v) : v = vOf d := by
  cases d <;> first | (simp only [RpS] at h; exact h) | (simp [PV.flat] at hf)
theorem RpOs.erase {K : PySem.W.Frag} {H : Hp} : ∀ {xs : List D} {vs : List V} {g : List Addr} {n : Nat} {y : D}, xs[n]? = some y → PV.flat y = true → RpOs K H xs vs g → RpOs K H (xs.eraseIdx n) (vs.eraseIdx n) g
  | [], vs, g, n, y, h, _, _ => by simp at h
  | d :: r, vs, g, 0, y, h, hf, hr => by
    simp at h
    subst h
    simp only [RpOs] at hr
    obtain ⟨v, r', g1, g2, rfl, rfl, h1, h2⟩ := hr
    obtain ⟨-, rfl⟩ := h1.flat hf
    simpa using h2
  | d :: r, vs, g, n + 1, y, h, hf, hr => by
    simp only [RpOs] at hr
    obtain ⟨v, r', g1, g2, rfl, rfl, h1, h2⟩ := hr
    have h' : r[n]? = some y := by simpa using h
    simp only [List.eraseIdx_cons_succ, RpOs]
    exact ⟨v, _, g1, g2, rfl, rfl, h1, RpOs.erase h' hf h2⟩
theorem RpSs.erase {K : PySem.W.Frag} {H : Hp} {S : Addr → Prop} : ∀ {xs : List D} {vs : List V} {n : Nat}, RpSs K H S xs vs → RpSs K H S (xs.eraseIdx n) (vs.eraseIdx n)
  | [], vs, n, h => by simp only [RpSs] at h; subst h; simp [RpSs]
  | d :: r, vs, 0, h => by
    simp only [RpSs] at h
    obtain ⟨v, r', rfl, h1, h2⟩ := h
    simpa using h2
  | d :: r, vs, n + 1, h => by
    simp only [RpSs] at h
    obtain ⟨v, r', rfl, h1, h2⟩ := h
    simp only [List.eraseIdx_cons_succ, RpSs]
    exact ⟨v, _, rfl, h1, RpSs.erase h2⟩
theorem RpSs.getF {K : PySem.W.Frag} {H : Hp} {S : Addr → Prop} : ∀ {xs : List D} {vs : List V} {n : Nat} {y : D}, xs[n]? = some y → PV.flat y = true → RpSs K H S xs vs → vs[n]? = some (vOf y)
  | [], vs, n, y, h, _, _ => by simp at h
  | d :: r, vs, 0, y, h, hf, hr => by
    simp at h
    subst h
    simp only [RpSs] at hr
    obtain ⟨v, r', rfl, h1, h2⟩ := hr
    rw [h1.flatv hf]; rfl
  | d :: r, vs, n + 1, y, h, hf, hr => by
    simp only [RpSs] at hr
    obtain ⟨v, r', rfl, h1, h2⟩ := hr
    have h' : r[n]? = some y := by simpa using h
    simpa using RpSs.getF h' hf h2
theorem Hold.ofF {K : PySem.W.Frag} {H : Hp} {fp : Nat → List Addr} {R : Addr → Prop} {d : D} (hf : PV.flat d = true) : Hold K H fp R .own d (vOf d) [] := by
  cases d <;> first | (simp [PV.flat] at hf; done) | exact ⟨by simp [RpM, RpO, vOf], .nil⟩
section
variable {X : Cx} {C : Ctx} {a : Ex} {path : Ex} {ea eo : Expr} {x : Nat} {apos cpos pos : Pos}
theorem box_vals {K : PySem.W.Frag} {σ : L2.St} {H : Hp} {ρ : Env} {fp : Nat → List Addr} {R : Addr → Prop} {x : Nat} {k k' : CK} {d : D} {v0 : V} {ps : List D} {xs : List D} {a : Addr} {vs : List V} (g : Gd K σ H ρ fp R) (hc : getc ρ x = some ⟨k, d⟩) (hv : σ[x]? = some (some v0)) (hk : stK k true ps.isEmpty = some k') (ha : atP d ps = some (.list xs)) (hp : HPath H (fp x) v0 ps (.ref a)) (hh : H a = some (.lst vs)) : ∃ S, RpSs K H S xs vs := by
  obtain ⟨v1, hv1, rp⟩ := g.cell x _ hc
  rw [hv] at hv1; cases hv1
  have own : RpO K H d v0 (fp x) → ∃ S, RpSs K H S xs vs := fun rp => by
    obtain ⟨v, fe, h1, h2, -⟩ := rp.path ha (fun s z => by cases z)
    have := h1.fn hp
    subst this
    simp only [RpO] at h2
    obtain ⟨a', vs', g', e, hl, -, hs⟩ := h2
    cases e
    rw [hh] at hl
    cases hl
    exact ⟨fun _ => True, RpOs.shr (fun _ _ => trivial) hs⟩
  have top : RpT K H R d v0 (fp x) → ps.isEmpty = true → ∃ S, RpSs K H S xs vs := fun rp he => by
    have he := List.isEmpty_iff.mp he
    subst he
    cases ha
    obtain ⟨a', vs', rfl, hl, -, hs⟩ := rp
    cases hp
    rw [hh] at hl
    cases hl
    exact ⟨R, hs⟩
  cases k with
  | own => exact own rp
  | io => exact own rp
  | top => exact top rp (by cases hps : ps.isEmpty with | true => rfl | false => rw [hps] at hk; cases hk)
  | iot => exact top rp (by cases hps : ps.isEmpty with | true => rfl | false => rw [hps] at hk; cases hk)
  | shr => cases hk
theorem seq_nth {n k : Nat} {i : Int} (h : nth n i = some k) : seqIndex? i n = some k := by
  unfold nth at h
  unfold seqIndex?
  dsimp only
  by_cases c : 0 ≤ i
  · rw [if_pos c] at h
    split at h
    · rename_i c2
      rw [if_neg (show ¬ i < 0 by omega), if_pos (by rw [Bool.and_eq_true, decide_eq_true_eq, decide_eq_true_eq]; omega)]
      exact h
    · cases h
  · rw [if_neg c] at h
    split at h
    · rename_i c2
      rw [if_pos (show i < 0 by omega), if_pos (by rw [Bool.and_eq_true, decide_eq_true_eq, decide_eq_true_eq]; omega)]
      exact h
    · cases h
theorem sv_pop0 (ho : PPl X C x path eo) (hbase : attributeBase eo "pop" X.env (eval eo X.env) = eval eo X.env := by rfl) (hline : (apos.endLine == cpos.line) = true := by rfl) :
    PEv X C (.pop x path .nil) (.Call (.Attribute eo "pop" apos) [] [] cpos) := by
  refine peI (pe_bm0 PySem.F.plainAttrs_list PySem.F.slot_list_pop PySem.F.type_list_pop mt_pop ho hbase hline) fun σ H Q ⟨L, ρ, fp, R, g, m, y, ρ', e, q⟩ => ?_
  obtain ⟨ps, ρ1, e1, e⟩ := bind_ok e
  split at e
  · cases e
  · rename_i hla
    have hla : listAt ρ1 x ps = true := by simpa using hla
    obtain ⟨i, ρ2, e2, e⟩ := bind_ok e
    cases e2
    refine ⟨x :: L, ρ, fp, R, g, List.mem_cons_self, ps, ρ1, e1, fun obj v0 H1 fp1 R1 g1 v1 hv0 hp => ?_⟩
    obtain ⟨a1, us, rfl, hsq⟩ := listAt_ok g1 hla hv0 hp
    split at e
    · cases e
    · rename_i hL
      have hL : x ∉ L := by simpa using hL
      have mv1 : Mv L H fp R H1 fp1 R1 := v1.mono fun i hi => List.mem_cons_of_mem _ hi
      cases hc : getc ρ1 x with
      | none => rw [hc] at e; cases e
      | some c =>
        obtain ⟨k, d⟩ := c
        rw [hc] at e
        dsimp only at e
        cases hk : stK k true ps.isEmpty with
        | none => rw [hk] at e; cases e
        | some k' =>
          rw [hk] at e
          dsimp only at e
          cases hpa : popAt none d ps with
          | none => rw [hpa] at e; cases e
          | some np =>
            obtain ⟨n, y0⟩ := np
            rw [hpa] at e
            dsimp only at e
            cases hup : updD d ps (popD n) with
            | none => rw [hup] at e; cases e
            | some d' =>
              rw [hup] at e
              cases e
              obtain ⟨e0, e1', a0, u, vs, q1, q2, q3, q4, q5, q6, q7, q8⟩ := box_chg (Ext := fun _ => True) (fv := []) g1 hc hv0 hup hk .nil fun _ _ h => popD_box h
              have eobj := HPath.fn hp q5
              cases eobj
              cases e0 with
              | list xs =>
                cases q2
                cases q4
                have hpa : (if SZ < xs.length then none else (nth xs.length (-1)).bind fun n => (xs[n]?).bind fun y => if PV.flat y then some (n, y) else none) = some (n, y) := by
                  unfold popAt at hpa
                  rw [q1] at hpa
                  exact hpa
                split at hpa
                · cases hpa
                obtain ⟨n', hn, hpa⟩ := Option.bind_eq_some_iff.mp hpa
                obtain ⟨y', hy, hpa⟩ := Option.bind_eq_some_iff.mp hpa
                split at hpa
                case isFalse => cases hpa
                rename_i hf
                cases hpa
                have hlen : 0 < xs.length := by
                  cases xs with
                  | nil => simp at hy
                  | cons z r => simp
                have hn' : nth xs.length (-1) = some (xs.length - 1) := by
                  unfold nth
                  rw [if_neg (by decide), if_pos (by omega)]
                  congr 1
                  omega
                rw [hn'] at hn
                cases hn
                have q6 : xs.length = vs.length := q6
                obtain ⟨S, hS⟩ := box_vals g1 hc hv0 hk q1 q5 q3
                have hvn := RpSs.getF hy hf hS
                have hdl : vs.dropLast = vs.eraseIdx (xs.length - 1) := by rw [q6, List.eraseIdx_length_sub_one]
                refine ⟨.inl ⟨rfl, us, hsq⟩, _, vs, vOf y, rfl, rfl, q3, by rw [← q6]; exact hvn, ?_⟩
                rw [hdl]
                obtain ⟨f', R', ch, _, _⟩ := q8 (.lst (vs.eraseIdx (xs.length - 1))) (vs.eraseIdx (xs.length - 1)) rfl (fun hw g hg ng _ => ⟨g, [], RpOs.erase hy hf hg, ng, fun b hb => .inl hb, fun b hb => absurd hb (by simp), trivial⟩) (fun S _ _ hs => RpSs.erase hs)
                exact q.imm ch.gd (ch.mv mv1 hL .nil) (.ofF hf)
              | _ => cases q2
theorem sv_pop1 (ho : PPl X C x path eo) (he : PEv X C a ea) (hbase : attributeBase eo "pop" X.env (eval eo X.env) = eval eo X.env := by rfl) 
    (hfew : ((backTo cpos (starEach [ea] X.env)).all (fun x => !x.1) && (backToKw cpos (keywordEach [] X.env)).all (fun x => x.1.isSome)
      && decide ([ea].length + ([] : List Keyword).length + (if ([] : List Keyword).isEmpty then 0 else 1) < 30)) = true := by rfl)
    (hline : (apos.endLine == cpos.line) = true := by rfl) (hs : starEach [ea] X.env = (false, eval ea X.env) :: starEach [] X.env := by rfl) (hplain : (backTo cpos (starEach [] X.env)).any (·.1) = false := by rfl) :
    PEv X C (.pop x path (.cons a .nil)) (.Call (.Attribute eo "pop" apos) [ea] [] cpos) := by
  refine peI (pe_bm PySem.F.plainAttrs_list PySem.F.slot_list_pop PySem.F.type_list_pop mt_popAt ho (pa_cons he pa_nil hs) hbase hfew hline hs hplain) fun σ H Q ⟨L, ρ, fp, R, g, m, y, ρ', e, q⟩ => ?_
  obtain ⟨ps, ρ1, e1, e⟩ := bind_ok e
  split at e
  · cases e
  · rename_i hla
    have hla : listAt ρ1 x ps = true := by simpa using hla
    obtain ⟨i, ρ2, e2, e⟩ := bind_ok e
    obtain ⟨⟨mi, di⟩, ρ2', e3, e4⟩ := bind_ok e2
    refine ⟨x :: L, ρ, fp, R, g, List.mem_cons_self, ps, ρ1, e1, fun obj v0 H1 fp1 R1 g1 v1 hv0 hp => ?_⟩
    obtain ⟨a1, us, rfl, hsq⟩ := listAt_ok g1 hla hv0 hp
    refine ⟨.inl ⟨rfl, us, hsq⟩, x :: L, ρ1, fp1, R1, g1, mi, di, ρ2', e3, fun val H2 fp2 R2 f2 g2 v2 o2 n2 => ?_⟩
    have hp2 := hp.step g1 v2 List.mem_cons_self
    dsimp only at e4
    split at e4
    case h_2 => cases e4
    rename_i ii
    cases e4
    have hval := o2.int
    subst hval
    split at e
    · cases e
    · rename_i hL
      have hL : x ∉ L := by simpa using hL
      have mv1 : Mv L H fp R H2 fp2 R2 := (v1.mono fun i hi => List.mem_cons_of_mem _ hi).trans g1 (v2.mono fun i hi => List.mem_cons_of_mem _ hi)
      cases hc : getc ρ2 x with
      | none => rw [hc] at e; cases e
      | some c =>
        obtain ⟨k, d⟩ := c
        rw [hc] at e
        dsimp only at e
        cases hk : stK k true ps.isEmpty with
        | none => rw [hk] at e; cases e
        | some k' =>
          rw [hk] at e
          dsimp only at e
          cases hpa : popAt (some ii) d ps with
          | none => rw [hpa] at e; cases e
          | some np =>
            obtain ⟨n, y0⟩ := np
            rw [hpa] at e
            dsimp only at e
            cases hup : updD d ps (popD n) with
            | none => rw [hup] at e; cases e
            | some d' =>
              rw [hup] at e
              cases e
              obtain ⟨e0, e1', a0, u, vs, q1, q2, q3, q4, q5, q6, q7, q8⟩ := box_chg (Ext := fun _ => True) (fv := []) g2 hc hv0 hup hk .nil fun _ _ h => popD_box h
              have eobj := HPath.fn hp2 q5
              cases eobj
              cases e0 with
              | list xs =>
                cases q2
                cases q4
                have hpa : (if SZ < xs.length then none else (nth xs.length ii).bind fun n => (xs[n]?).bind fun y => if PV.flat y then some (n, y) else none) = some (n, y) := by
                  unfold popAt at hpa
                  rw [q1] at hpa
                  exact hpa
                split at hpa
                · cases hpa
                rename_i hsz
                obtain ⟨n', hn, hpa⟩ := Option.bind_eq_some_iff.mp hpa
                obtain ⟨y', hy, hpa⟩ := Option.bind_eq_some_iff.mp hpa
                split at hpa
                case isFalse => cases hpa
                rename_i hf
                cases hpa
                have q6 : xs.length = vs.length := q6
                obtain ⟨S, hS⟩ := box_vals g2 hc hv0 hk q1 q5 q3
                have hvn := RpSs.getF hy hf hS
                have hb : -(2 ^ 63) ≤ ii ∧ ii < 2 ^ 63 := by
                  unfold nth at hn
                  have hz : ¬ SZ < xs.length := hsz
                  unfold SZ at hz
                  split at hn
                  · split at hn
                    · omega
                    · cases hn
                  · split at hn
                    · omega
                    · cases hn
                refine ⟨_, vs, ii, n, vOf y, rfl, rfl, q3, hb.1, hb.2, by rw [← q6]; exact seq_nth hn, hvn, ?_⟩
                obtain ⟨f', R', ch, _, _⟩ := q8 (.lst (vs.eraseIdx n)) (vs.eraseIdx n) rfl (fun hw g hg ng _ => ⟨g, [], RpOs.erase hy hf hg, ng, fun b hb => .inl hb, fun b hb => absurd hb (by simp), trivial⟩) (fun S _ _ hs => RpSs.erase hs)
                exact q.imm ch.gd (ch.mv mv1 hL .nil) (.ofF hf)
              | _ => cases q2
end
end PV
end

section
set_option linter.all false
set_option autoImplicit false
namespace PV
open PySem PySem.Spec PyProof.Rows L2
theorem leS_iff {a b : Str} : leS a b = true ↔ a.cps.toList ≤ b.cps.toList := by
  unfold leS
  simp [List.not_lt]
theorem leS_trans {a b c : Str} (h1 : leS a b = true) (h2 : leS b c = true) : leS a c = true := by
  rw [leS_iff] at h1 h2 ⊢; exact List.le_trans h1 h2
theorem leS_tot (a b : Str) : leS a b = true ∨ leS b a = true := by
  rw [leS_iff, leS_iff]; exact List.le_total _ _
theorem insS_perm (x : Str) : ∀ r : List Str, (insS x r).Perm (x :: r)
  | [] => .refl _
  | y :: r => by
    unfold insS
    split
    · exact .refl _
    · exact ((insS_perm x r).cons y).trans (.swap x y r)
theorem sortS_perm : ∀ r : List Str, (sortS r).Perm r
  | [] => .refl _
  | x :: r => (insS_perm x _).trans ((sortS_perm r).cons x)
theorem insS_pw (x : Str) : ∀ {r : List Str}, r.Pairwise (fun a b => leS a b = true) → (insS x r).Pairwise (fun a b => leS a b = true)
  | [], _ => by simp [insS]
  | y :: r, h => by
    obtain ⟨h1, h2⟩ := List.pairwise_cons.mp h
    unfold insS
    split
    · rename_i hx
      refine List.pairwise_cons.mpr ⟨fun z hz => ?_, h⟩
      rcases List.mem_cons.mp hz with rfl | hz
      · exact hx
      · exact leS_trans hx (h1 z hz)
    · rename_i hx
      refine List.pairwise_cons.mpr ⟨fun z hz => ?_, insS_pw x h2⟩
      rcases List.mem_cons.mp ((insS_perm x r).mem_iff.mp hz) with rfl | hz
      · exact (leS_tot _ _).resolve_left hx
      · exact h1 z hz
theorem sortS_pw : ∀ ys : List Str, (sortS ys).Pairwise (fun a b => leS a b = true)
  | [] => .nil
  | x :: r => insS_pw x (sortS_pw r)
theorem leS_anti {a b : Str} (h1 : leS a b = true) (h2 : leS b a = true) : a = b := by
  rw [leS_iff] at h1 h2
  have := List.le_antisymm h1 h2
  cases a; cases b
  simp only [Array.toList_inj] at this
  rw [this]
theorem sortS_eq {xs ys : List Str} (hp : xs.Perm ys) : sortS xs = sortS ys :=
  List.Perm.eq_of_pairwise (le := fun a b => leS a b = true) (fun _ _ _ _ h1 h2 => leS_anti h1 h2) (sortS_pw xs) (sortS_pw ys) (((sortS_perm xs).trans hp).trans (sortS_perm ys).symm)
theorem rising_pw : ∀ (l : List Str) (p : Str), risingS p l = true → (p :: l).Pairwise (fun a b => leS a b = true)
  | [], p, _ => by simp
  | x :: r, p, h => by
    have h : (!ltCps x.cps.toList p.cps.toList && risingS x r) = true := h
    rw [Bool.and_eq_true] at h
    have ih := rising_pw r x h.2
    have hpx : leS p x = true := by
      unfold leS
      have := h.1
      rwa [ltCps_eq] at this
    refine List.pairwise_cons.mpr ⟨fun y hy => ?_, ih⟩
    rcases List.mem_cons.mp hy with rfl | hy
    · exact hpx
    · have := (List.pairwise_cons.mp ih).1 y hy
      rw [leS_iff] at this hpx ⊢
      exact List.le_trans hpx this
theorem sorted_pw : ∀ {l : List Str}, sortedS l = true → l.Pairwise (fun a b => leS a b = true)
  | [], _ => .nil
  | x :: r, h => rising_pw r x h
theorem sortS_of {ys zs : List Str} (hp : zs.Perm ys) (hs : sortedS zs = true) : zs = sortS ys :=
  List.Perm.eq_of_pairwise (le := fun a b => leS a b = true) (fun _ _ _ _ h1 h2 => leS_anti h1 h2) (sorted_pw hs) (sortS_pw ys) (hp.trans (sortS_perm ys).symm)
variable [Tbs]
theorem RpOs_strs {K : PySem.W.Frag} {H : Hp} : ∀ ys : List Str, RpOs K H (ys.map .str) (ys.map V.str) []
  | [] => by simp [RpOs]
  | y :: r => by
    simp only [List.map_cons, RpOs]
    exact ⟨_, _, [], [], rfl, rfl, by simp [RpO], RpOs_strs r⟩
section
variable {X : Cx} {C : Ctx} {a : Ex} {ea : Expr} {pos p : Pos}
theorem sv_sortedS (ha : PEv X C a ea) (hg : Gl X "sorted" := by rfl) (hm : X.mg "sorted" = none := by rfl) (hs : starEach [ea] X.env = (false, eval ea X.env) :: starEach [] X.env := by rfl) (hpl : (backTo pos (starEach [] X.env)).any (·.1) = false := by rfl) : PEv X C (.bi .sorted (.cons a .nil)) (.Call (.Name "sorted" p) [ea] [] pos) := by
  refine bi_1 (pe_callB cr_sortedS hg hm PyProof.Rows.Boot.«sorted» (pav_cons ha pav_nil hs) (by decide) (by decide) hs hpl) fun {σ L H fp R ρ ρ' m m' d d' v f Q} g o e q => ?_
  cases d with
  | list xs =>
    obtain ⟨ys, hy, e⟩ := Option.bind_eq_some_iff.mp (show ((strsOf xs).bind fun ys => if ys.length < 64 then some ((M.own, PyData.list ((sortS ys).map .str)), ρ) else none) = some ((m', d'), ρ') from e)
    split at e
    case isFalse => cases e
    rename_i hl
    cases e
    obtain ⟨a1, rfl, hs1⟩ := o.strs hy
    refine ⟨a1, ys, rfl, hs1, hl, fun zs p hp hz hH => ?_⟩
    rw [sortS_of hp hz]
    exact q.lst (w := true) (f2 := []) g .refl ⟨.nil, RpOs_strs _⟩ (fun _ h => absurd h (by simp)) p hH
  | _ => cases e
end
end PV
end

section
set_option Elab.async false
set_option linter.all false
set_option autoImplicit false
set_option maxRecDepth 100000
/-! defs that raise -/
namespace PVX
open PySem PySem.Spec PyProof.Rows L2
/-- as FnG, for a def that may raise -/
structure FnX (P : Program) (w : World) (K : PySem.W.Frag) (mg : Str → Option Value) (base : Heap) (k : Nat) (f : Addr) (fd : FuncData) (ps : List Str) (sp : Sp) : Prop where
  len : ∀ vs H Q E, sp vs H Q E → vs.length = ps.length
  run : ∀ (A : Around) (outer : List Env) (s : Shared) (H : Hp) (args : Args) (us : List Value) (vs : List V) (Q : VK) (E : XK),
    Room k A → A.guards = some [] → Env0 P w K mg base A outer s H → BindsTo s fd args (ps.zip us) → Vals vs us → sp vs H Q E →
    codeAny (model P w) A (.call (.ref f) args) (CR (L2.CX P w) outer P w H s Q E) s
section
variable {P : Program} {w : World} {K : PySem.W.Frag} {mg : Str → Option Value} {base : Heap} {k : Nat} {f : Addr} {fd : FuncData} {ps : List Str} {sp : Sp}
theorem FnX.of {x qual : Str} {st : Stmt} {N : List Str} (F : Fun K x qual st f fd) (S : FnScope N ps (defScope st)) (len : ∀ vs H Q E, sp vs H Q E → vs.length = ps.length)
    (hbody : ∀ (cdv : Value) (A : Around) (outer : List Env) (s : Shared) (H : Hp) (vs : List V) (Q : VK) (E : XK),
      Room k (A.deeper (envOfC qual (defScope st) s.heap.objs.size f cdv)) → A.guards = some [] → sp vs H Q E →
      ∃ t, PSs (cxOf (L2.CX P w) P w K mg base N qual (defScope st) f cdv A outer s H E) (defBody st) t ∧ t { nx := fun _ H' => Q .non H', rt := Q } (start N vs) H) :
    FnX P w K mg base (k + 1) f fd ps sp := by
  obtain ⟨oc, od, kV, doc, pm, an, cdv, ct, osl, rfl, lk, hcd⟩ := F.ex
  refine ⟨len, fun A outer s H args us vs Q E hr hgu e0 hb r hsp => ?_⟩
  have inK : K.In s.heap := e0.mod.kin.keeps fun b o e => (e0.bs b o e).1
  have noL : s.heap.NoLimit := e0.mod.nolimit.keeps fun b o e => (e0.bs b o e).1
  obtain ⟨t, ht, hq⟩ := hbody cdv A outer s H vs Q E (hr.deeper _) hgu hsp
  have hl := len vs H Q E hsp
  have kinds : ∀ y ∈ ps.zip us, (defScope st).names.lookup y.1 = some .local ∨ ((defScope st).names.lookup y.1 = some .cell ∧ ((cellsFrom (s.heap.objs.size + 1) (defScope st).names []).lookup y.1).isSome = true) := by
    intro y hy
    obtain ⟨n, v⟩ := y
    exact (S.par n (List.of_mem_zip hy).1).imp id fun q => ⟨q, PySem.W.cellsFrom_some _ _ _ (.inl q)⟩
  refine codeAny_call_function hr.depth (inK _ _ lk) rfl S.co S.gen rfl (PySem.W.codeRec_of inK hcd) (hb _ _ _ _ (wpAny_newFunctionEnv_cells S.kind kinds fun env he s1 x => ?_))
  subst he
  refine ⟨noL.keeps x.toInCall.keep, codeAny_func ?_⟩
  have I : L2.Inv (cxOf (L2.CX P w) P w K mg base N qual (defScope st) f cdv A outer s H E) [] (start N vs) H s1 := inv_start S hr.hd e0 hl r x
  have back : ∀ {σ' : L2.St} {H' : Hp} {s' : Shared} {v : V} {u : Value}, L2.Inv (cxOf (L2.CX P w) P w K mg base N qual (defScope st) f cdv A outer s H E) [] σ' H' s' → RelV v u → Q v H' → CE outer P w H s Q u s' :=
    fun J rv q => ⟨_, _, J.os, J.bare, J.base, J.hok, rv, q⟩
  refine wpAny_mono (ht.run [] s1 (start N vs) H _ I hq) (fun fl s' hs => ?_) fun e s' hs => hs
  cases fl with
  | ret u => obtain ⟨v, σ', H', J, rv, q⟩ := hs; exact back J rv q
  | next => obtain ⟨σ', H', J, q⟩ := hs; exact back (v := V.non) (u := Value.none) J rfl q
  | brk => obtain ⟨_, _, _, q⟩ := hs; exact q.elim
  | cont => obtain ⟨_, _, _, q⟩ := hs; exact q.elim
/-- where it doesn't raise -/
theorem FnX.toG {sp' : Sp} (F : FnX P w K mg base k f fd ps sp) (h : ∀ vs H Q E, sp' vs H Q E → sp vs H Q fun _ _ _ => False) : FnG P w K mg base k f fd ps sp' := by
  refine ⟨fun vs H Q E q => F.len _ _ _ _ (h _ _ _ _ q), fun A outer s H args us vs Q E hr hg e0 hb r q => codeAny_mono (F.run A outer s H args us vs Q _ hr hg e0 hb r (h _ _ _ _ q)) fun r' s' z => ?_⟩
  cases r' with
  | ok fl => cases fl <;> exact z
  | error e =>
    obtain ⟨_, _, _, _, _, _, _, _, _, _, _, _, z⟩ := z
    exact z.elim
end
section
variable {X : Cx} {k : Nat} {f : Addr} {fd : FuncData} {ps ks : List Str} {sp : Sp} {E : XK} {x : Str} {p pos : Pos} {e : Expr} {es : List Expr} {kws : List Keyword} {t tk : TA}
theorem pe_callX (F : FnX X.prog X.w X.K X.mg X.base k f fd ps sp) (hr : Room k X.A) (hgu : X.A.guards = some []) (tkE : Takes X fun cls d _ H => E cls d H) (hg : Gl X x) (hm : X.mg x = some (.ref f)) (hk : PySem.W.keepIn X.K (.ref f) = true) (hb : Binds X.K fd ps [])
    (ha : PA X (e :: es) t) (hdb : (x == ("__debug__" : Str)) = false) (he : starEach (e :: es) X.env = (false, eval e X.env) :: starEach es X.env) (hpl : (backTo pos (starEach es X.env)).any (·.1) = false) :
    PE X (.Call (.Name x p) (e :: es) [] pos) (fun σ H Q => t σ H fun vs H1 => sp vs H1 Q E) := by
  refine ⟨fun pins s σ H Q I h => wpAny_Call_Name_kw (ld_glob I hg hm ?_ hdb)⟩
  refine PySem.W.callWith_K (h₀ := X.base) I.ok.mod.kin hk (thn (ha.run pos pins s σ H _ I h) fun us s1 ⟨vs, H1, I1, r, q⟩ => ⟨I1.kIn, ?_⟩) he hpl
  have hl : us.length = ps.length := by rw [← r.length]; exact F.len _ _ _ _ q
  have b := hb s1 us I1.kIn (by rw [List.append_nil]; exact hl)
  rw [List.append_nil] at b
  have hx : Passes (L2.CX X.prog X.w) X E := passes_call tkE fun _ _ _ _ h => h
  refine wpAny_call (codeAny_mono (F.run X.A X.stack s1 H1 ⟨us, []⟩ us vs Q E hr hgu I1.env0 b r q) fun r' s' hq => ?_)
  cases r' with
  | error er => exact hx pins σ H1 s1 er s' I1 hq
  | ok fl =>
    cases fl with
    | ret u => exact I1.after hq
    | next => exact False.elim hq
    | brk => exact False.elim hq
    | cont => exact False.elim hq
end
end PVX
namespace PV
open PySem PySem.Spec PyProof.Rows L2
variable [Tbs]
/-- the error classes: where each lies, the names of its fields -/
class Exs where
  cls : Nat → Addr
  fld : Nat → List Str
variable [Exs]
/-- what stays where a call has raised -/
structure Frm (H : Hp) (fp : Nat → List Addr) (H' : Hp) : Prop where
  keep : ∀ a, nt H a → (∀ i, a ∉ fp i) → H' a = H a
  tup : TupS H H'
  som : ∀ a, H a ≠ none → H' a ≠ none
  sn : ∀ a, nt H a → nt H' a
  tb : LamX.Tabs Tbs.T H'
/-- what is wanted of an error of the class c with the fields fs -/
def ExA (K : PySem.W.Frag) (H : Hp) (fp : Nat → List Addr) (c : Nat) (fs : List D) (E : XK) : Prop :=
  ∀ H' d vs S, Frm H fp H' → H' d = some (.xd ((Exs.fld c).zip vs)) → (∀ a, S a → nt H' a) → RpSs K H' S fs vs → E (.ref (Exs.cls c)) (some d) H'
section
variable {K : PySem.W.Frag} {σ σ1 σ2 σ' : L2.St} {H H0 H1 H2 H' : Hp} {ρ ρ1 ρ2 ρ' : Env} {fp fp0 fp1 fp2 fp' : Nat → List Addr} {R R0 R1 R2 R' S : Addr → Prop} {L L' T T' ls : List Nat} {f g f2 : List Addr} {m m' : M} {d d' : D} {v : V} {vs : List V} {args : List (CK × D)} {ios : List (Option D)} {c : Nat} {es : List D} {E : XK} {D : Ends} {as : List Arg} {fs : Nat → List Addr}
theorem Mv.frm (g : Gd K σ H1 ρ1 fp1 R1) (v : Mv L H fp R H1 fp1 R1) : Frm H fp H1 := ⟨fun a n h => v.keep a n fun i _ => h i, v.tup, v.som, v.sn, g.tb⟩
theorem Frm.back (v : Mv L H fp R H1 fp1 R1) (a : Frm H1 fp1 H2) : Frm H fp H2 where
  keep := fun x n h => by
    obtain ⟨e, h1⟩ := v.out n h
    exact (a.keep x (v.sn x n) h1).trans e
  tup := v.tup.trans a.tup
  som := fun x n => a.som x (v.som x n)
  sn := fun x n => a.sn x (v.sn x n)
  tb := a.tb
theorem ExA.after (a : ExA K H fp c es E) (v : Mv L H fp R H1 fp1 R1) : ExA K H1 fp1 c es E := fun H' d vs S f => a H' d vs S (f.back v)
/-- the called one's places are new, or slots' -/
theorem Frm.call (v : Mv L H fp R H1 fp1 R1) (n : ∀ j, New L H fp (fs j)) (a : Frm H1 (fpC as fp1 fs) H2) : Frm H fp H2 where
  keep := fun x nx h => by
    obtain ⟨e, h1⟩ := v.out nx h
    refine (a.keep x (v.sn x nx) fun j z => ?_).trans e
    rcases mem_fpC z with ⟨_, i, _, _, _, q⟩ | ⟨_, _, _, q⟩
    · exact h1 i q
    · exact (n j x q).elim nx.so fun ⟨i, _, q⟩ => h i q
  tup := v.tup.trans a.tup
  som := fun x n => a.som x (v.som x n)
  sn := fun x n => a.sn x (v.sn x n)
  tb := a.tb
/-- what a call asks, of a def that may raise -/
def spX (K : PySem.W.Frag) (cf : List (CK × PV.D) → PV.CR) : Sp := fun vs H Q E => ∃ args fp R, Gd K (vs.map some) H (inE args) fp R ∧
  ((∃ m d ios, cf args = .ret m d ios ∧ ∀ v H' fp' R' f, Gd K (vs.map some) H' (outE args ios) fp' R' → Mv [] H fp R H' fp' R' → Hold K H' fp' R' m d v f → New [] H fp f → Q v H') ∨
    ∃ c fs, cf args = .exc c fs ∧ ExA K H fp c fs E)
theorem spX_of {cf : List (CK × PV.D) → PV.CR} {Q : VK} (h : spD K cf vs H Q E) : spX K cf vs H Q fun _ _ _ => False := by
  obtain ⟨args, fp, R, g, q⟩ := h
  exact ⟨args, fp, R, g, .inl q⟩
/-! ### statements -/
def AftX (K : PySem.W.Frag) (T L : List Nat) (σ : L2.St) (H : Hp) (fp : Nat → List Addr) (R : Addr → Prop) (D : Ends) (E : XK) : PV.R Fl → Prop
  | .ok fl ρ' => Aft K T L σ H fp R D fl ρ'
  | .exc c fs _ => ExA K H fp c fs E
  | .bad => False
def tsx (K : PySem.W.Frag) (C : Ctx) (E : XK) (s : PV.St) : TS := fun D σ H => ∃ T L ρ fp R, (∀ j ∈ tgs s, j ∈ T) ∧ Gd K σ H ρ fp R ∧ AftX K T L σ H fp R D E (exec C L s ρ)
def PSx (X : Cx) (C : Ctx) (E : XK) (s : PV.St) (st : Stmt) : Prop := PS X st (tsx X.K C E s)
def PBx (X : Cx) (C : Ctx) (E : XK) (s : PV.St) (sts : List Stmt) : Prop := PSs X sts (tsx X.K C E s)
theorem AftX.after {r : PV.R Fl} (a : AftX K T L σ H fp R D E r) (g1 : Gd K σ1 H1 ρ1 fp1 R1) (v1 : Mv L H fp R H1 fp1 R1) (k1 : Keep T σ σ1) : AftX K T L σ1 H1 fp1 R1 D E r := by
  cases r with
  | ok fl ρ' => exact Aft.after a g1 v1 k1
  | exc c fs ρ' => exact ExA.after a v1
  | bad => exact a
theorem AftX.mono {r : PV.R Fl} (a : AftX K T L σ H fp R D E r) (s : ∀ j ∈ T', j ∈ T) : AftX K T' L σ H fp R D E r := by
  cases r with
  | ok fl ρ' => exact fun σ' H' fp' R' g' v' k' => a σ' H' fp' R' g' v' (k'.mono s)
  | exc c fs ρ' => exact a
  | bad => exact a
end
section
variable {X : Cx} {C : Ctx} {E : XK} {a b c es : Ex} {s t : PV.St} {st : Stmt} {sts sts2 : List Stmt} {ea eb ec e tge : Expr} {eas : List Expr} {pos p : Pos} {tg : Tg} {x : Str}
theorem safe_bind {α β : Type} {r : PV.R α} {f : α → Env → PV.R β} {P : PV.R β → Prop} (h : P (r.safe.bind f)) (hb : ¬ P .bad) : ∃ a ρ, r = .ok a ρ ∧ P (f a ρ) := by
  cases r with
  | ok a ρ => exact ⟨a, ρ, rfl, h⟩
  | exc c fs ρ => exact absurd h hb
  | bad => exact absurd h hb
theorem bx_nil : PBx X C E .nil [] := ⟨fun pins s σ H D I h => pss_nil.run pins s σ H D I (by
  obtain ⟨T, L, ρ, fp, R, hT, g, q⟩ := h
  exact q σ H fp R g .refl .refl)⟩
theorem bx_cons (h1 : PSx X C E s st) (h2 : PBx X C E t sts) : PBx X C E (.cons s t) (st :: sts) := ⟨fun pins s0 σ H D I h => (pss_cons h1 h2).run pins s0 σ H D I (by
  obtain ⟨T, L, ρ, fp, R, hT, g, q⟩ := h
  refine ⟨T, L, ρ, fp, R, fun j hj => hT j (List.mem_append_left _ hj), g, ?_⟩
  have e : exec C L (.cons s t) ρ = (exec C L s ρ).bind fun f ρ1 => match f with
    | .nx => exec C L t ρ1
    | .brk => .ok .brk ρ1
    | .ct => .ok .ct ρ1
    | .ret m d => .ok (.ret m d) ρ1 := rfl
  rw [e] at q
  cases h1 : exec C L s ρ with
  | bad => rw [h1] at q; exact q
  | exc c fs ρ1 => rw [h1] at q; exact q
  | ok f1 ρ1 =>
    rw [h1] at q
    intro σ1 H1 fp1 R1 g1 v1 k1
    cases f1 with
    | nx => exact ⟨T, L, ρ1, fp1, R1, fun j hj => hT j (List.mem_append_right _ hj), g1, AftX.after q g1 v1 k1⟩
    | brk => exact q σ1 H1 fp1 R1 g1 v1 k1
    | ct => exact q σ1 H1 fp1 R1 g1 v1 k1
    | ret m d => exact q σ1 H1 fp1 R1 g1 v1 k1)⟩
/-- a statement that raises nothing -/
theorem sx_safe (h : PSv X C s st) : PSx X C E (.safe s) st := psI h fun D σ H ⟨T, L, ρ, fp, R, hT, g, q⟩ => by
  have e : exec C L (.safe s) ρ = (exec C L s ρ).safe := rfl
  rw [e] at q
  cases h1 : exec C L s ρ with
  | ok fl ρ' => rw [h1] at q; exact ⟨T, L, ρ, fp, R, hT, g, fl, ρ', h1, q⟩
  | exc c fs ρ' => rw [h1] at q; exact q.elim
  | bad => rw [h1] at q; exact q.elim
theorem sx_itx (hc : PTv X C c ec) (ha : PBx X C E s sts) (hb : PBx X C E t sts2) : PSx X C E (.itx c s t) (.If ec sts sts2 pos) := psI (ps_if hc ha hb) fun D σ H ⟨T, L, ρ, fp, R, hT, g, q⟩ => by
  obtain ⟨b, ρ1, e1, q⟩ := safe_bind (P := AftX X.K T L σ H fp R D E) (show AftX X.K T L σ H fp R D E ((evt C L c ρ).safe.bind fun t' ρ1 => if t' then exec C L s ρ1 else exec C L t ρ1) from q) id
  refine ⟨L, ρ, fp, R, g, b, ρ1, e1, fun H1 fp1 R1 g1 v1 => ?_⟩
  cases b with
  | true => exact ⟨T, L, ρ1, fp1, R1, fun j hj => hT j (List.mem_append_left _ hj), g1, AftX.after q g1 v1 .refl⟩
  | false => exact ⟨T, L, ρ1, fp1, R1, fun j hj => hT j (List.mem_append_right _ hj), g1, AftX.after q g1 v1 .refl⟩
theorem sx_forx {it : Ex} (hp : PassesOwn (model X.prog X.w) X.A X.env X.xe) (hc : X.calm = true) (hi : PIv X C tge it e) (hg : PGv X tg tge) (hb : PBx X C E s sts) (hs : ∀ x, foldedSetIterable e X.env x = pure x := by intro _; rfl) : PSx X C E (.forx tg it s) (.For tge e sts [] pos) := psI (ps_for hp hc hi hg hb hs) fun D σ H ⟨T, L, ρ, fp, R, hT, g, q⟩ => by
  obtain ⟨⟨items, ls⟩, ρ1, e1, q⟩ := safe_bind (P := AftX X.K T L σ H fp R D E) (f := fun (p : List (Bool × PV.D) × List Nat) ρ1 => loopF (p.2 ++ L) tg (fun r => exec C (p.2 ++ L) s r) p.1 ρ1) q id
  dsimp only at q
  refine ⟨L, ρ, fp, R, g, items, ls, ρ1, e1, fun J H1 fp1 R1 g1 v1 ok => ?_⟩
  refine ⟨fun i m σ H => ∃ ρ fp R, Gd X.K σ H ρ fp R ∧ Mv (ls ++ L) H1 fp1 R1 H fp R ∧ m = items.length - i ∧ i ≤ items.length ∧ AftX X.K T L σ H fp R D E (loopF (ls ++ L) tg (fun r => exec C (ls ++ L) s r) (items.drop i) ρ), ⟨items.length, ρ1, fp1, R1, g1, .refl, by simp, Nat.zero_le _, AftX.after q g1 v1 .refl⟩, ?_⟩
  rintro i m σ H ⟨ρ, fp, R, g, mv, hm, hi, q⟩
  have mvl : Mv ls H1 fp1 R1 H fp R := mv.mono fun i hi => List.mem_append_left _ hi
  cases hit : items[i]? with
  | none =>
    refine .inl ⟨ok.stop σ H ρ fp R g mvl i hit, ?_⟩
    rw [List.drop_eq_nil_of_le (List.getElem?_eq_none_iff.mp hit)] at q
    exact q σ H fp R g .refl .refl
  | some p =>
    obtain ⟨w, d⟩ := p
    obtain ⟨hlt, hge⟩ := List.getElem?_eq_some_iff.mp hit
    rw [List.drop_eq_getElem_cons hlt, hge] at q
    obtain ⟨jg, jy⟩ := ok.go σ H ρ fp R g mvl i w d hit
    refine .inr ⟨jg, ?_⟩
    have q : AftX X.K T L σ H fp R D E (match asgT (ls ++ L) tg (ownK w) d ρ with
      | none => PV.R.bad
      | some ρ1 => (exec C (ls ++ L) s ρ1).bind fun f ρ2 => match f with
        | .nx => loopF (ls ++ L) tg (fun r => exec C (ls ++ L) s r) (items.drop (i + 1)) ρ2
        | .ct => loopF (ls ++ L) tg (fun r => exec C (ls ++ L) s r) (items.drop (i + 1)) ρ2
        | .brk => .ok .nx ρ2
        | .ret m d => .ok (.ret m d) ρ2) := q
    cases ha : asgT (ls ++ L) tg (ownK w) d ρ with
    | none => rw [ha] at q; exact q.elim
    | some ρ2 =>
      rw [ha] at q
      dsimp only at q
      refine ⟨fun σ' H' => ∃ ρ fp R, Gd X.K σ' H' ρ fp R ∧ Mv (ls ++ L) H1 fp1 R1 H' fp R ∧ AftX X.K T L σ' H' fp R D E (loopF (ls ++ L) tg (fun r => exec C (ls ++ L) s r) (items.drop (i + 1)) ρ), fun σ' H' ⟨ρ, fp, R, h1, h2, h4⟩ => ⟨m - 1, by omega, ρ, fp, R, h1, h2, by omega, by omega, h4⟩, fun x H3 hy => ?_⟩
      obtain ⟨g3, mv3, rp⟩ := jy x H3 hy
      refine ⟨T, ls ++ L, ρ, fp, R, ownK w, d, [], ρ2, fun j hj => hT j (List.mem_append_left _ hj), g3, by cases w <;> simp [ownK, OkK], rp, .nil, ha, fun σ4 fp4 g4 s4 k4 => ?_⟩
      have mv4 : Mv (ls ++ L) H fp R H3 fp4 R := s4.mv (mv3 _) .nil
      have q4 := AftX.after q g4 (mv4.mono fun i hi => List.mem_append_right _ hi) k4
      have mv5 : Mv (ls ++ L) H1 fp1 R1 H3 fp4 R := mv.trans g mv4
      refine ⟨T, ls ++ L, ρ2, fp4, R, fun j hj => hT j (List.mem_append_right _ hj), g4, ?_⟩
      cases e2 : exec C (ls ++ L) s ρ2 with
      | bad => rw [e2] at q4; exact q4
      | exc c fs ρ3 => rw [e2] at q4; exact q4
      | ok f2 ρ3 =>
        rw [e2] at q4
        intro σ5 H5 fp5 R5 g5 v5 k5
        have q5 := AftX.after q4 g5 (v5.mono fun i hi => List.mem_append_right _ hi) k5
        cases f2 with
        | nx => exact ⟨ρ3, fp5, R5, g5, mv5.trans g4 v5, q5⟩
        | ct => exact ⟨ρ3, fp5, R5, g5, mv5.trans g4 v5, q5⟩
        | brk => exact q4 σ5 H5 fp5 R5 g5 (v5.mono fun i hi => List.mem_append_right _ hi) k5
        | ret m d =>
          intro v f o n
          exact q4 σ5 H5 fp5 R5 g5 (v5.mono fun i hi => List.mem_append_right _ hi) k5 v f o (n.mono fun i hi => List.mem_append_right _ hi)
/-! ### a call of a def that may raise, as a statement -/
theorem doCall_x {K : PySem.W.Frag} {σ : L2.St} {H H0 : Hp} {ρ : Env} {fp fp0 fs : Nat → List Addr} {R R0 : Addr → Prop} {L T : List Nat} {as : List Arg} {vs : List V} {fi : Nat} {D : Ends} (g : Gd K σ H ρ fp R) (v1 : Mv L H0 fp0 R0 H fp R) (A : HoldA K L σ H ρ fp R as vs fs) (n : ∀ j, New L H0 fp0 (fs j))
    (q : AftX K T L σ H0 fp0 R0 D E (if noIo as then (doCall C fi as ρ).bind fun _ ρ2 => .ok .nx ρ2 else .bad)) : spX K (C.call fi) vs H (fun _ H' => D.nx σ H') E := by
  split at q
  case isFalse => exact q.elim
  cases h : doCall C fi as ρ with
  | bad => rw [h] at q; exact q.elim
  | ok p ρ2 =>
    obtain ⟨m, d⟩ := p
    rw [h] at q
    obtain ⟨args, fp', R', g', z⟩ := call_ok (Q := fun _ H' => D.nx σ H') (E := E) g v1 A n h fun v H' fp' R' f g' v' o' n' => q σ H' fp' R' g' v' .refl
    exact ⟨args, fp', R', g', .inl z⟩
  | exc c es ρ2 =>
    rw [h] at q
    unfold doCall at h
    split at h
    case isFalse => cases h
    rename_i ok
    split at h
    · split at h <;> cases h
    · rename_i c' es' hc
      cases h
      exact ⟨_, _, _, call_in g A ok, .inr ⟨c, es, hc, fun H' d vs S f => q H' d vs S (f.call v1 n)⟩⟩
    · cases h
variable {k fi : Nat} {fa : Addr} {fd : FuncData} {ps : List Str}
theorem sx_callx (F : PVX.FnX X.prog X.w X.K X.mg X.base k fa fd ps (spX X.K (C.call fi))) (hr : Room k X.A) (hgu : X.A.guards = some []) (tkE : Takes X fun cls d _ H => E cls d H) (hb : Binds X.K fd ps []) (ha : PAa X C es (ea :: eas)) (hg : Gl X x := by rfl) (hm : X.mg x = some (.ref fa) := by rfl) (hk : PySem.W.keepIn X.K (.ref fa) = true := by rfl)
    (hdb : (x == ("__debug__" : Str)) = false := by decide) (he : starEach (ea :: eas) X.env = (false, eval ea X.env) :: starEach eas X.env := by rfl) (hpl : (backTo pos (starEach eas X.env)).any (·.1) = false := by rfl)
    {spos : Pos} (hs : swapsWith (.Call (.Name x p) (ea :: eas) [] pos) none spos.line X.env = pure false := by rfl) : PSx X C E (.callx fi es) (.Expr (.Call (.Name x p) (ea :: eas) [] pos) spos) := by
  refine psI (ps_expr (PVX.pe_callX F hr hgu tkE hg hm hk hb ha hdb he hpl) hs) fun D σ H ⟨T, L, ρ, fp, R, hT, g, q⟩ => ?_
  obtain ⟨as, ρ1, e1, q⟩ := safe_bind (P := AftX X.K T L σ H fp R D E) (show AftX X.K T L σ H fp R D E ((eva C L es ρ).safe.bind fun as ρ1 => if noIo as then (doCall C fi as ρ1).bind fun _ ρ2 => .ok .nx ρ2 else .bad) from q) id
  exact ⟨L, ρ, fp, R, g, as, ρ1, e1, fun vs H1 fp1 R1 fs g1 v1 A1 n1 => doCall_x g1 v1 A1 n1 q⟩
end
/-! ### defs -/
section
variable {P : Program} {w : World} {K : PySem.W.Frag} {mg : Str → Option Value} {base : Heap} {f : Addr} {fd : FuncData} {N ps : List Str} {x qual : Str} {st : Stmt} {defs : List Def} {globs : List PV.D} {ww n fi : Nat} {df : Def}
theorem defx_0 : PVX.FnX P w K mg base 0 f fd ps (spX K (callD defs globs ww 0 fi)) := by
  refine ⟨fun vs H Q E h => ?_, fun A outer s H args us vs Q E _ _ _ _ _ h => ?_⟩ <;>
  · obtain ⟨_, _, _, _, ⟨_, _, _, e, _⟩ | ⟨_, _, e, _⟩⟩ := h <;> cases e
theorem def_x (F : L2.Fun K x qual st f fd) (S : FnScope N ps (defScope st)) (hdf : defs[fi]? = some df) (hnp : df.np = ps.length) (hns : df.ns = N.length) (hle : ps.length ≤ N.length)
    (hb : ∀ (cdv : Value) (A : Around) (outer : List PySem.Env) (s : Shared) (H : Hp) (E : XK), Room n (A.deeper (envOfC qual (defScope st) s.heap.objs.size f cdv)) → A.guards = some [] →
      PBx (cxOf (L2.CX P w) P w K mg base N qual (defScope st) f cdv A outer s H E) (⟨callD defs globs ww n, fun x => globs[x]?, ww⟩ : PV.Ctx) E df.body (defBody st)) :
    PVX.FnX P w K mg base (n + 1) f fd ps (spX K (callD defs globs ww (n + 1) fi)) := by
  -- what the def's answer tells of its body's run
  have key : ∀ {args : List (CK × PV.D)} {r : PV.CR}, callD defs globs ww (n + 1) fi args = r → r ≠ .bad → args.length = ps.length ∧ ∃ z, exec (⟨callD defs globs ww n, fun x => globs[x]?, ww⟩ : PV.Ctx) [] df.body (inE args ++ List.replicate (N.length - args.length) none) = z ∧
      ((∃ m d ios, r = .ret m d ios ∧ ((∃ ρ', z = .ok .nx ρ' ∧ finish (tgs df.body) args .own .none ρ' = r) ∨ ∃ m' d' ρ', z = .ok (.ret m' d') ρ' ∧ finish (tgs df.body) args m' d' ρ' = r)) ∨ ∃ c fs ρ', r = .exc c fs ∧ z = .exc c fs ρ') := fun {args r} h nb => by
    have h : (match defs[fi]? with
      | none => PV.CR.bad
      | some df => if args.length = df.np then
          match exec ⟨callD defs globs ww n, fun x => globs[x]?, ww⟩ [] df.body (args.map (fun (a : CK × PV.D) => some (Cell.mk a.1 a.2)) ++ List.replicate (df.ns - df.np) none) with
          | .ok .nx ρ => finish (tgs df.body) args .own .none ρ
          | .ok (.ret m d) ρ => finish (tgs df.body) args m d ρ
          | .ok _ _ => .bad
          | .exc c fs _ => .exc c fs
          | .bad => .bad
        else .bad) = r := h
    rw [hdf] at h
    dsimp only at h
    split at h
    case isFalse => exact absurd h.symm nb
    rename_i hl
    rw [hnp] at hl
    refine ⟨hl, _, rfl, ?_⟩
    rw [hns, hnp, ← hl] at h
    have fin : ∀ {m d ρ'}, finish (tgs df.body) args m d ρ' = r → ∃ m d ios, r = .ret m d ios := fun {m d ρ'} e => by
      unfold finish at e
      split at e
      · exact absurd e.symm nb
      · split at e <;> first | exact ⟨_, _, _, e.symm⟩ | (split at e <;> first | exact ⟨_, _, _, e.symm⟩ | exact absurd e.symm nb)
    split at h
    · rename_i ρ' he
      obtain ⟨m, d, ios, e⟩ := fin h
      exact .inl ⟨m, d, ios, e, .inl ⟨ρ', he, h⟩⟩
    · rename_i m' d' ρ' he
      obtain ⟨m, d, ios, e⟩ := fin h
      exact .inl ⟨m, d, ios, e, .inr ⟨m', d', ρ', he, h⟩⟩
    · exact absurd h.symm nb
    · rename_i c fs ρ' he
      exact .inr ⟨c, fs, ρ', h.symm, he⟩
    · exact absurd h.symm nb
  have len : ∀ vs H Q E, spX K (callD defs globs ww (n + 1) fi) vs H Q E → vs.length = ps.length := fun vs H Q E h => by
    obtain ⟨args, fp, R, g, h⟩ := h
    have h1 := g.len
    simp [inE] at h1
    rw [← h1]
    rcases h with ⟨_, _, _, e, _⟩ | ⟨_, _, e, _⟩ <;> exact (key e fun z => by cases z).1
  refine PVX.FnX.of F S len fun cdv A outer s H vs Q E hr hg hsp => ⟨_, hb cdv A outer s H E hr hg, ?_⟩
  have hvl := len _ _ _ _ hsp
  obtain ⟨args, fp, R, g, hsp⟩ := hsp
  have hv : vs.length = args.length := by
    have h1 := g.len
    simp [inE] at h1
    exact h1.symm
  have hσ : ∀ j, j < args.length → (L2.start N vs)[j]? = (vs.map some)[j]? := fun j hj => by
    unfold L2.start
    rw [List.getElem?_append_left (by simpa [hv] using hj)]
  refine ⟨tgs df.body, [], _, fp, R, fun j hj => hj, Gd.start (N := N) g (by omega), ?_⟩
  rcases hsp with ⟨m, d, ios, e, q⟩ | ⟨c, fs, e, q⟩
  · obtain ⟨_, z, hz, h | ⟨_, _, _, h, _⟩⟩ := key e fun z => by cases z
    · obtain ⟨_, _, _, _, h⟩ := h
      rcases h with ⟨ρ', e2, hf⟩ | ⟨m', d', ρ', e2, hf⟩
      · rw [hz, e2]
        exact fun σ' H' fp' R' g' mv kp => finish_ok (v := .non) (f := []) hf g' mv kp hσ hv .ofN .nil q
      · rw [hz, e2]
        exact fun σ' H' fp' R' g' mv kp v f o nn => finish_ok hf g' mv kp hσ hv o nn q
    · cases h
  · obtain ⟨_, z, hz, h | ⟨c', fs', ρ', h, e2⟩⟩ := key e fun z => by cases z
    · obtain ⟨_, _, _, h, _⟩ := h; cases h
    · cases h
      rw [hz, e2]
      exact q
/-- .. where it doesn't raise -/
theorem fnx_g (F : PVX.FnX P w K mg base n f fd ps (spX K (callD defs globs ww n fi))) : PVX.FnG P w K mg base n f fd ps (spD K (callD defs globs ww n fi)) := F.toG fun _ _ _ _ h => spX_of h
end
end PV
end

section
set_option Elab.async false
set_option linter.all false
set_option autoImplicit false
set_option maxRecDepth 100000
set_option maxHeartbeats 2000000
/-! own errors with one field: self.f = f -/
namespace PVE
open PySem PySem.W PySem.Calls PyProof.Rows
theorem store_LE : StoreFacts "LookupError" [.type "LookupError", .type "Exception", .type "BaseException", .type "object"] "object.__setattr__" "object" where
  mro := by kernel_rfl
  slot := .of (owner := "object") (n := "__setattr__") (by rw [typeLookup_type, builtinLookup_eq_fast]; kernel_rfl) (by decide +kernel) (by decide +kernel) (by decide +kernel)
    (by first | exact .inl (by decide +kernel) | exact .inr (by decide +kernel)) (by rw [isSubtype_type]; kernel_rfl)
  entry := F.entry_object_sa
  kind := by decide +kernel
  split := by decide +kernel
  hasOwner := by decide +kernel
  args := fun a b c => by unfold argsOk; kernel_rfl
  passes := fun self => by kernel_rfl
abbrev tailVE : List Value := [.type "ValueError", .type "Exception", .type "BaseException", .type "object"]
abbrev tailLE : List Value := [.type "LookupError", .type "Exception", .type "BaseException", .type "object"]
/-! ### the text of __init__ -/
def iA (f : Str) (p1 p2 : Pos) : Arguments := { posonlyargs := [], args := [{ arg := "self", annotation := none, pos := p1 }, { arg := f, annotation := none, pos := p2 }], vararg := none, kwonlyargs := [], kw_defaults := [], kwarg := none, defaults := [] }
def iB (f : Str) (q1 q2 q3 q4 : Pos) : List Stmt := [.Assign [.Attribute (.Name "self" q1) f q2] (.Name f q3) q4]
def iS (f : Str) : Scope := { kind := .function, names := [(PySem.Str.ofString "self", .local), (f, .local)], isGenerator := false, isCoroutine := false, more := [] }
/-- what the program's text says of the class x at C and of its __init__ at fI -/
structure ClsE (K : Frag) (mg : Str → Option Value) (x f : Str) (B newId initId : String) (bm : List Value) (C fI : Addr) : Prop where
  F : ExcBaseFacts B newId initId bm
  S : StoreFacts B bm "object.__setattr__" "object"
  nB : typeLookup (.type B) f = pure none
  gC : mg x = some (.ref C)
  cls : ∃ nm q N bs sn sub ab col dd k0 k1 k2 k3 k5, K.lookup C = some (excClassObj nm q C N bs bm true sn sub ab col dd k0 k1 k2 k3 k5 newId) ∧ nsOkIn K N = true ∧ nsIn K N f = some none
  sa : findIn K (.ref C) "__setattr__" = some (some (.builtin "object.__setattr__"))
  iC : findIn K (.ref C) "__init__" = some (some (.ref fI))
  tC : typeIn K (.ref fI) = some (.type "function")
  kC : keepIn K (.ref C) = true
  exC : subIn K (.ref C) (.type "BaseException") = some true
  tyC : typeIn K (.ref C) = some (.type "type")
  fn : ∃ (q : Str) (oc : Value) (od : Option Addr) (doc pm : Value) (an : Option Addr) (cdv ct : Value) (osl : Array (Option Value)) (p1 p2 q1 q2 q3 q4 : Pos),
    K.lookup fI = some ⟨oc, od, .func (fnOf "__init__" q (iA f p1 p2) (iB f q1 q2 q3 q4) (iS f) .none .none doc pm an cdv ct), osl⟩ ∧ codeIn K cdv q = true
  bind : ∀ (q : Str) (p1 p2 q1 q2 q3 q4 : Pos) (doc pm : Value) (an : Option Addr) (cdv ct a v : Value), bindArgs (fnOf "__init__" q (iA f p1 p2) (iB f q1 q2 q3 q4) (iS f) .none .none doc pm an cdv ct) ⟨[a, v], []⟩ = pure [(PySem.Str.ofString "self", a), (f, v)]
  fs : (f == ("self" : Str)) = false
  fd : (f == ("__debug__" : Str)) = false
theorem size1 (v : Value) : [v].length ≤ sizeLine := by
  rw [sizeLine_eq]
  exact (by decide : 1 ≤ 16777216)
theorem ldE {M : Model} {s : Shared} {name : Str} {scope : Scope} {L a : Addr} {cd : Value} {m : Str → Option Value} {x : Str} {pos : Pos} {v : Value} {Q : Value → Shared → Prop} {A : Around} {E : Value → Shared → Prop} (hn : s.heap.Ns L m) (hv : m x = some v) (h : Q v s)
    (hk : scope.kind = .function) (hl : (envOfC name scope L a cd).kindOf x = some .local) (hd : (x == ("__debug__" : Str)) = false) :
    wpAny M A (eval (.Name x pos) (envOfC name scope L a cd)) Q E s := wpAny_Name (wpAny_loadName_local hk hl hn hv h) hd
/-- what __init__ leaves of the fresh error at x -/
structure InitE (h h' : Heap) (x C dx : Addr) (f : Str) (v : Value) : Prop where
  keep : ∀ b o, b ≠ x → h.get? b = some o → h'.get? b = some o
  obj : ∃ oe t1, h'.get? x = some oe ∧ oe.cls = .ref C ∧ oe.dict = some dx ∧ oe.data = .fields #[.ref t1, .none, .none, .none, .bool false, .none]
  dbig : h.objs.size ≤ dx
  dne : dx ≠ x
  ns : h'.Ns1 dx (fun y => if y = f then some v else none)
/-- a made error -/
structure MadeE (h h' : Heap) (e C d : Addr) (f : Str) (v : Value) : Prop where
  keep : ∀ b o, h.get? b = some o → h'.get? b = some o
  new : h.objs.size ≤ e
  obj : ∃ oe vs, h'.get? e = some oe ∧ oe.cls = .ref C ∧ oe.dict = some d ∧ oe.data = .fields vs ∧ vs[1]? = some .none
  dbig : h.objs.size ≤ d
  dne : d ≠ e
  ns : h'.Ns1 d (fun y => if y = f then some v else none)
section
variable {prog : Program} {w : World} {A : Around} {E : Value → Shared → Prop} {R : Result → Shared → Prop} {s : Shared} {K : Frag} {mg : Str → Option Value} {C fI : Addr} {x f : Str} {B newId initId : String} {bm : List Value}
/-- self.f = v on an error that has no dict yet: the dict is new -/
theorem store_first {h : Heap} {g : Array GenState} {d : Drawn} {t : Nat} {os : OsState} {nm q : Str} {N a : Addr} {bs : List Value} {sn : List Str} {sub : List Value} {ab : Bool} {col : Option Bool} {dd : Option Addr} {k0 k1 k2 k3 k5 : Option Value} {sa owner : String} {mN : Str → Option Value} {v : Value} {tk : Tok} {fv : Array Value}
    (SF : StoreFacts B bm sa owner) (hC : h.get? C = some (excClassObj nm q C N bs bm true sn sub ab col dd k0 k1 k2 k3 k5 newId)) (hn : h.Ns N mN) (hna : mN f = none) (hB : typeLookup (.type B) f = pure none) (ha : h.get? a = some { cls := .ref C, data := .fields fv })
    (hq : ∀ h' tk' dx, (∀ b o, b ≠ a → h.get? b = some o → h'.get? b = some o) → h.objs.size ≤ dx → dx ≠ a → h'.get? a = some { cls := .ref C, dict := some dx, data := .fields fv } → h'.Ns1 dx (fun y => if y = f then some v else none) → R (.ok (.ret .none)) ⟨h', g, d, tk', os⟩) :
    codeAny (model prog w) A (.call (.builtin sa) ⟨[.ref a, .str f tk, v], []⟩) R ⟨h, g, d, t, os⟩ := by
  have pass := SF.passes (.ref a)
  have old : (h.push { cls := .type "dict", data := .dict #[] }).get? a = some { cls := .ref C, data := .fields fv } := Heap.get?_push_of_some _ ha
  have new : a ≠ h.objs.size := Nat.ne_of_lt (Heap.lt_size ha)
  refine codeAny_call_builtin SF.slot.plain SF.entry (wpAny_check_sa SF hC ha rfl ?_)
  unfold Builtin.«object.__setattr__»
  repeat (first | with_reducible refine HandSPX.store_in_new ?_ ?_ | rw [refuse_eq] | (rw [refuseLoop_ref, pass]) | with_reducible refine wpAny_loadPart_at ha ?_ | with_reducible refine wpAny_mroOf_exc hC ?_ | (with_reducible refine wpAny_typeLookup_exc hC hn SF.mro hB ?_; rw [hna]) | wp_step)
  · exact ⟨_, #[], _, (Heap.get?_update_ne _ _ _ _ new.symm).trans (Heap.get?_push_at rfl rfl), rfl, fun e he => absurd he (by simp), fun _ => rfl⟩
  · intro h' tk' ns' same
    refine hq h' tk' h.objs.size (fun b o hb ho => ?_) (Nat.le_refl _) new.symm ?_ ns'
    · have z := same.2 b (Nat.ne_of_lt (Heap.lt_size ho))
      rw [z, Heap.get?_update_ne _ _ _ _ hb]
      exact Heap.get?_push_of_some _ ho
    · rw [same.2 a new]
      exact Heap.get?_update_self _ old rfl
theorem initE (T : ClsE K mg x f B newId initId bm C fI) {a t0 : Addr} {v : Value} (X : K.In s.heap) (hlim : s.heap.NoLimit) (hx : s.heap.get? a = some (HandSPX.excO C t0)) (hroom : A.depth < recursionLimit)
    (hq : ∀ h' tk dx, InitE s.heap h' a C dx f v → R (.ok (.ret .none)) { s with heap := h', toks := tk }) :
    codeAny (model prog w) A (.call (.ref fI) ⟨[.ref a, v], []⟩) R s := by
  obtain ⟨q0, oc, od, doc, pm, an, cdv, ct, osl, p1, p2, q1, q2, q3, q4, ho, hcd⟩ := T.fn
  obtain ⟨nm, q, N, bs, sn, sub, ab, col, dd, k0, k1, k2, k3, k5, hC, hN, hNf⟩ := T.cls
  have es : (f == PySem.Str.ofString "self") = false := T.fs
  have ne : f ≠ PySem.Str.ofString "self" := by simpa using es
  have lf : (iS f).names.lookup f = some .local := by
    show List.lookup f [(PySem.Str.ofString "self", NameKind.local), (f, .local)] = _
    simp [List.lookup, es]
  refine Att.call_fn (binds := [(PySem.Str.ofString "self", .ref a), (f, v)]) X hlim ho hcd hroom (BindsTo.of_eq (T.bind _ _ _ _ _ _ _ _ _ _ _ _ _ _)) ?_ (fun s₁ IC => ?_) rfl rfl rfl
  · simp [lf]
    exact .inl rfl
  obtain ⟨h₁, tk₁, rfl⟩ := IC.toInCall.same
  have k : ∀ b o, s.heap.get? b = some o → h₁.get? b = some o := IC.toInCall.keep
  have hn := IC.toInCall.ns
  have X₁ : K.In h₁ := X.keeps k
  have hx₁ := k _ _ hx
  have kf : ∀ {q : Str} {L c : Addr} {cd : Value}, (envOfC q (iS f) L c cd).kindOf f = some .local := lf
  have ks : ∀ {q : Str} {L c : Addr} {cd : Value}, (envOfC q (iS f) L c cd).kindOf (PySem.Str.ofString "self") = some .local := rfl
  show wpAny _ _ (execs _ _) _ _ _
  refine wpAny_execs_cons (plainObj_wpAny_Assign_Attribute ?_)
  refine ldE (v := v) hn ?_ (ldE (v := .ref a) hn ?_ ?_ rfl ks (by decide)) rfl kf T.fd
  · simp [bindL, kf, ks, ne]
  · simp [bindL, kf, ks, Ne.symm ne]
  refine set_plain X₁ (ox := HandSPX.excO C t0) (od := none) ⟨hx₁, rfl, rfl, trivial⟩ T.sa ?_
  refine store_first T.S (X₁ _ _ hC) (.of_isNs (isNs_of_in X₁ hN)) (nsMap_none_of_in X₁ hN hNf) T.nB hx₁ fun h₃ tk₃ dx k₃ dn dne hx₃ hn₃ => ?_
  show wpAny _ _ (execs _ _) _ _ _
  have z : s.heap.objs.size < h₁.objs.size := hn.lt
  exact wpAny_execs_nil (hq h₃ tk₃ dx ⟨fun b o hb e => k₃ b o hb (k b o e), ⟨_, t0, hx₃, rfl, rfl, rfl⟩, Nat.le_of_lt (Nat.lt_of_lt_of_le z dn), dne, hn₃⟩)
theorem madeE (T : ClsE K mg x f B newId initId bm C fI) {v : Value} (X : K.In s.heap) (hlim : s.heap.NoLimit) (hroom : A.depth + 1 < recursionLimit)
    (hq : ∀ h' tk e d, MadeE s.heap h' e C d f v → R (.ok (.ret (.ref e))) { s with heap := h', toks := tk }) :
    codeAny (model prog w) A (.call (.ref C) ⟨[v], []⟩) R s := by
  obtain ⟨nm, q, N, bs, sn, sub, ab, col, dd, k0, k1, k2, k3, k5, hC, hN, hNf⟩ := T.cls
  obtain ⟨hp, g, dr, tk, os⟩ := s
  have k : ∀ b o, hp.get? b = some o → ((hp.push (kdv_tup [v])).push (HandSPX.excO C hp.objs.size)).get? b = some o := fun b o e => Heap.get?_push_of_some _ (Heap.get?_push_of_some _ e)
  have hget : ((hp.push (kdv_tup [v])).push (HandSPX.excO C hp.objs.size)).get? (hp.objs.size + 1) = some (HandSPX.excO C hp.objs.size) := by heap_get
  refine HandSPX.call_own T.F (fun X => rfl) (X _ _ hC) (looks_findIn X T.iC) (fun self => bind_fn X self T.tC) (size1 v) ?_
  refine initE (s := ⟨(hp.push (kdv_tup [v])).push (HandSPX.excO C hp.objs.size), g, dr, tk, os⟩) T (X.keeps k) (hlim.keeps k) hget ?_ fun h' tk' dx ⟨k', ⟨oe, t1, hx, oc, od, odt⟩, dn, dne, hns⟩ => ?_
  · show A.depth + 1 < recursionLimit
    exact hroom
  · have old : ∀ b o, hp.get? b = some o → h'.get? b = some o := fun b o e => k' b o (Nat.ne_of_lt (Nat.lt_succ_of_lt (Heap.lt_size e))) (k b o e)
    have z : hp.objs.size + 1 + 1 ≤ dx := by
      first
        | (simpa only [Heap.size_push] using dn)
        | exact dn
        | (have q := dn; rw [Heap.size_push, Heap.size_push] at q; exact q)
    exact ⟨rfl, hq h' tk' (hp.objs.size + 1) dx ⟨old, Nat.le_succ _, ⟨oe, _, hx, oc, od, odt, rfl⟩, Nat.le_trans (Nat.le_trans (Nat.le_succ _) (Nat.le_succ _)) z, dne, hns⟩⟩
end
end PVE
namespace PV
open PySem PySem.Spec PyProof.Rows L2
variable [Tbs] [Exs]
/-- whatever it is, it can be read, where things stand -/
theorem Hold.readN {K : PySem.W.Frag} {σ : L2.St} {H : Hp} {ρ : PV.Env} {fp : Nat → List Addr} {R : Addr → Prop} {m : M} {d : PV.D} {v : V} {f : List Addr} (g : Gd K σ H ρ fp R) (h : Hold K H fp R m d v f) : ∃ S : Addr → Prop, (∀ a, S a → nt H a) ∧ RpS K H S d v := by
  have rp := h.rp
  cases m with
  | own => exact ⟨fun a => a ∈ f, h.tm.tr, RpO.shr (fun a q => q) rp⟩
  | top => exact ⟨_, fun a q => q.elim (g.tR a) (h.tm.tr a), RpU.shr rp⟩
  | shr => exact ⟨_, fun a q => q.elim (g.tR a) (h.tm.tr a), rp⟩
  | bor i => exact ⟨_, fun a q => q.elim (g.tR a) (g.tr i a), rp.1⟩
  | bort i => exact ⟨_, fun a q => q.elim (g.tR a) (g.tr i a), RpW.shr (fun _ => .inl) rp.1⟩
theorem relO_one {f : Str} {v : V} {v' : Value} (r : RelV v v') (g : Str) : RelO (List.lookup g [(f, v)]) (if g = f then some v' else none) := by
  by_cases h : g = f
  · subst h
    simp only [List.lookup, beq_self_eq_true, if_true]
    exact r
  · have e : (g == f) = false := by simpa using h
    simp only [List.lookup, e, if_neg h]
    trivial
section
variable {X : Cx} {C : Ctx} {E : XK} {a : Ex} {ea : Expr} {c k : Nat} {x f : Str} {B newId initId : String} {bm : List Value} {fI : Addr} {p pos pos2 : Pos}
def tMkE (C : Addr) (f : Str) (ta : TA) : L2.St → Hp → XK → Prop := fun σ H Q => ta σ H fun vs H1 => ∃ v, vs = [v] ∧ ∀ d, H1 d = none → Q (.ref C) (some d) (upd H1 d (.xd [(f, v)]))
theorem pmk_e {C : Addr} {ta : TA} (T : PVE.ClsE X.K X.mg x f B newId initId bm C fI) (hr : Room k X.A) (ha : PA X [ea] ta) (hg : Gl X x) (hd : (x == ("__debug__" : Str)) = false)
    (he : starEach (ea :: []) X.env = (false, eval ea X.env) :: starEach [] X.env) (hpl : (backTo pos (starEach [] X.env)).any (·.1) = false) :
    PMk X (.Call (.Name x p) [ea] [] pos) (tMkE C f ta) := by
  intro pins s σ H Q I h
  refine wpAny_Call_Name_kw (ld_glob I hg T.gC ?_ hd)
  refine PySem.W.callWith_K (h₀ := X.base) I.ok.mod.kin T.kC (thn (ha.run pos pins s σ H _ I h) fun us s1 ⟨vs, H1, I1, r1, v, ev, q1⟩ => ⟨I1.kIn, ?_⟩) he hpl
  subst ev
  cases r1 with
  | @cons _ v' _ us' rv rn =>
    cases rn
    show wpAny _ _ (call (.ref C) [v']) _ _ _
    have lim := I1.nolimit
    obtain ⟨hp, g, dr, tk, os⟩ := s1
    refine wpAny_call (PVE.madeE T I1.kIn lim (by have := hr.dp; omega) fun h' tk' e d M => ?_)
    show MkP X pins σ Q (.ref e) ⟨h', g, dr, tk', os⟩
    obtain ⟨oe, fv, hoe, hc, hd, hdat, h1⟩ := M.obj
    -- the heap without the error itself
    obtain ⟨G', g1, g2⟩ := restrict h' fun b => decide (b ≠ e)
    have gk : ∀ b, b ≠ e → G'.get? b = h'.get? b := fun b hb => g1 b (decide_eq_true hb)
    have ge : G'.get? e = none := g2 e (by simp)
    have old : ∀ b o, hp.get? b = some o → G'.get? b = some o := fun b o q => (gk b (Nat.ne_of_lt (Nat.lt_of_lt_of_le (Heap.lt_size q) M.new))).trans (M.keep b o q)
    have ob : ObjOk X.prog X.w (upd H1 d (.xd [(f, v)])) G' d (.xd [(f, v)]) := ⟨_, M.ns.at (fun o q => (gk d M.dne).trans q), fun g => relO_one rv g⟩
    have J : L2.Inv X pins σ (upd H1 d (.xd [(f, v)])) ⟨G', g, dr, tk', os⟩ := I1.laid (t' := tk') old M.dbig ob
    have up : ∀ b o, G'.get? b = some o → h'.get? b = some o := fun b o q => by
      by_cases hb : b = e
      · rw [hb, ge] at q; cases q
      · exact (gk b hb).symm.trans q
    have no : upd H1 d (.xd [(f, v)]) e = none := by
      rw [upd_ne (Ne.symm M.dne)]
      exact I1.hok.fresh M.new
    exact ⟨e, oe, fv, ⟨G', g, dr, tk', os⟩, _, .ref C, some d, rfl, J, up, ge, hoe, ⟨hc, hd⟩, hdat, h1, no, rfl, I1.bare, raises_own T.exC T.tyC, q1 d (I1.hok.fresh M.dbig)⟩
/-- raise X(a) -/
theorem sx_raise (T : PVE.ClsE X.K X.mg x f B newId initId bm (Exs.cls c) fI) (hf : Exs.fld c = [f]) (hc : X.calm = true) (hr : Room k X.A) (tkE : Takes X fun cls d _ H => E cls d H) (ha : PEv X C a ea) (hg : Gl X x := by rfl) (hd : (x == ("__debug__" : Str)) = false := by decide)
    (he : starEach (ea :: []) X.env = (false, eval ea X.env) :: starEach [] X.env := by rfl) (hpl : (backTo pos (starEach [] X.env)).any (·.1) = false := by rfl) :
    PSx X C E (.raise c (.cons a .nil)) (.Raise (some (.Call (.Name x p) [ea] [] pos)) none pos2) := by
  refine psI (ps_raise hc tkE (pmk_e T hr (pa_cons ha pa_nil he) hg hd he hpl)) fun D σ H ⟨U, L, ρ, fp, R, hT, g, q⟩ => ?_
  obtain ⟨vs, ρ1, e1, q⟩ := safe_bind (P := AftX X.K U L σ H fp R D E) (show AftX X.K U L σ H fp R D E ((evs C L (.cons a .nil) ρ).safe.bind fun vs ρ1 => .exc c (vs.map (·.2)) ρ1) from q) id
  obtain ⟨⟨m, d⟩, ρ2, e2, e3⟩ := bind_ok e1
  cases e3
  refine ⟨L, ρ, fp, R, g, m, d, _, e2, fun v H1 fp1 R1 f1 g1 v1 o1 n1 => ⟨v, rfl, fun dx hn => ?_⟩⟩
  have o2 := o1.step (L := lk m) g1 (Mv.laid (o := .xd [(f, v)]) hn) fun _ h => h
  obtain ⟨S, sn, rd⟩ := o2.readN (g1.laid hn)
  refine q _ dx [v] S ((v1.trans g1 (.laid hn)).frm (g1.laid hn)) ?_ sn ?_
  · rw [hf]; exact upd_same
  · simp only [List.map_cons, List.map_nil, RpSs]
    exact ⟨v, [], rfl, rd, rfl⟩
end
end PV
end

section
set_option Elab.async false
set_option linter.all false
set_option autoImplicit false
set_option maxRecDepth 100000
set_option maxHeartbeats 2000000
/-! try .. except (A, B, ..) as n: y = n, the error known behind the suite -/
namespace PVE
open PySem PySem.Spec PyProof.Rows L2
/-- at a: an error of the class cls with the dict d -/
def ErrO (a : Addr) (cls : Value) (d : Option Addr) : HO := .ext fun h => ∃ oe vs, h.get? a = some oe ∧ Zc cls d oe ∧ oe.data = .fields vs
theorem ErrO.ok {P : Program} {w : World} {H : Hp} {h : Heap} {a : Addr} {cls : Value} {d : Option Addr} {oe : Obj} {vs : Array Value} (he : h.get? a = some oe) (hz : Zc cls d oe) (hd : oe.data = .fields vs) : ObjOk P w H h a (ErrO a cls d) :=
  ⟨⟨oe, vs, he, hz, hd⟩, ⟨_, he⟩, fun _ _ ⟨oe, vs, e, z, f⟩ k => ⟨oe, vs, k _ e, z, f⟩⟩
theorem ErrO.at {P : Program} {w : World} {H : Hp} {h : Heap} {a : Addr} {cls : Value} {d : Option Addr} (hok : HOk P w H h) (e : H a = some (ErrO a cls d)) : ∃ oe vs, h.get? a = some oe ∧ Zc cls d oe ∧ oe.data = .fields vs := by
  have x : ObjOk P w H h a (.ext fun h => ∃ oe vs, h.get? a = some oe ∧ Zc cls d oe ∧ oe.data = .fields vs) := hok a _ e
  exact x.1
section
variable {X : Cx} {pins : List (Addr × Obj)} {σ : L2.St} {H : Hp} {s : Shared} {a : Addr} {oe : Obj} {o : HO}
/-- a pinned object is tracked from now on -/
theorem track (I : L2.Inv X ((a, oe) :: pins) σ H s) (h0 : X.s_0.heap.get? a = none) (hp : ∀ p ∈ X.pn ++ pins, p.1 ≠ a) (ob : ObjOk X.prog X.w (upd H a o) s.heap a o) : L2.Inv X pins σ (upd H a o) s := by
  obtain ⟨ha, nh, nl, nf, nc⟩ := I.pin (a, oe) (List.mem_append_right _ List.mem_cons_self)
  dsimp only at ha nh nl nf nc
  have ne : ∀ {b : Addr} {u : HO}, H b = some u → b ≠ a := fun {b u} e z => by rw [z, nh] at e; cases e
  have in0 : ∀ {b : Addr} {ob : Obj}, X.s_0.heap.get? b = some ob → b ≠ a := fun {b ob} e z => by rw [z, h0] at e; cases e
  have B := I.base
  refine ⟨I.ok, I.os, I.bare, ⟨B.keep, B.slot, fun b o e n x => ?_, B.there, fun b xs e => ?_, fun b o u e => ?_, fun b ps e => ?_⟩, I.loc, I.cell, ?_, fun y c e => ?_, fun p hpp => ?_, fun b u e => ?_, I.len⟩
  · rw [upd_ne (in0 e)]; exact B.free b o e n x
  · have z := B.tups b xs e; rw [upd_ne (ne z)]; exact z
  · have z := B.frzs b o u e; rw [upd_ne (ne z)]; exact z
  · obtain ⟨more, z⟩ := B.tbls b ps e; exact ⟨more, by rw [upd_ne (ne z)]; exact z⟩
  · rw [upd_ne (Ne.symm nl)]; exact I.free
  · have hca : c ≠ a := fun z => by
      obtain ⟨v, o, ho, hd⟩ := I.cell y c e
      rw [z, ha] at ho; cases ho
      exact nc v hd
    rw [upd_ne hca]; exact I.freeC y c e
  · obtain ⟨h1, h2, h3⟩ := I.pin p ((List.mem_append.mp hpp).elim (fun z => List.mem_append_left _ z) fun z => List.mem_append_right _ (List.mem_cons_of_mem _ z))
    exact ⟨h1, by rw [upd_ne (hp p hpp)]; exact h2, h3⟩
  · by_cases hb : b = a
    · subst hb
      rw [upd_same] at e
      cases e
      exact ob
    · rw [upd_ne hb] at e
      exact (I.hok b u e).stay (fun c v _ q => q) (fun c q => by rw [upd_ne (ne q)]; exact q) fun c xs q => by rw [upd_ne (ne q)]; exact q
end
theorem FlyingZ.keeps {B h h' : Heap} {l : List PySem.Env} {e : Addr} {Z : Obj → Prop} (x : HandSPX.FlyingZ B l e Z h) (k : ∀ b o, h.get? b = some o → h'.get? b = some o) : HandSPX.FlyingZ B l e Z h' := by
  obtain ⟨h1, h2, h3, oe, vs, T, oT, ts, a1, a2, a3, a4, a5, a6, a7, a8, a9⟩ := x
  exact ⟨fun b o e => k b o (h1 b o e), h2, h3.of_keeps fun b o e _ => ⟨o, k b o e, rfl⟩, oe, vs, T, oT, ts, k _ _ a1, a2, a3, a4, a5, a6, k _ _ a7, a8, a9⟩
/-- an error of the class cls is one of cs -/
def Mt (K : PySem.W.Frag) (cls : Value) (cs : List Value) : Prop := ∀ (M : Model) (h : Heap) (tp e : Addr), K.In h → PySem.W.Looks M h (typeOf (.ref e)) cls → h.get? tp = some { cls := .type "tuple", data := .seq cs.toArray } → PySem.W.Looks M h (excMatches (.ref e) (.ref tp)) true
theorem mt2 {K : PySem.W.Frag} {cls c1 c2 : Value} (h : PySem.W.exmAny K cls [c1, c2] = some true) : Mt K cls [c1, c2] := fun _ _ _ _ X L g => PySem.W.exm_tup2 X L g h
theorem mt3 {K : PySem.W.Frag} {cls c1 c2 c3 : Value} (h : PySem.W.exmAny K cls [c1, c2, c3] = some true) : Mt K cls [c1, c2, c3] := fun _ _ _ _ X L g => PySem.W.exm_tup3 X L g h
theorem mt4 {K : PySem.W.Frag} {cls c1 c2 c3 c4 : Value} (h : PySem.W.exmAny K cls [c1, c2, c3, c4] = some true) : Mt K cls [c1, c2, c3, c4] := fun _ _ _ _ X L g => PySem.W.exm_tup4 X L g h
/-- the names of classes in a tuple -/
inductive NmT (X : Cx) : List Expr → List Value → Prop
  | nil : NmT X [] []
  | cons {x : Str} {p : Pos} {c : Value} {es : List Expr} {cs : List Value} (h : Gl X x) (hd : (x == ("__debug__" : Str)) = false) (hm : X.mg x = some c) (r : NmT X es cs) : NmT X (.Name x p :: es) (c :: cs)
theorem NmT.len {X : Cx} {es : List Expr} {cs : List Value} (n : NmT X es cs) : cs.length = es.length := by
  induction n with
  | nil => rfl
  | cons _ _ _ _ ih => simp [ih]
theorem NmT.run {X : Cx} {pins : List (Addr × Obj)} {σ : L2.St} {H : Hp} {s : Shared} {E : Value → Shared → Prop} {es : List Expr} {cs : List Value} (n : NmT X es cs) (I : L2.Inv X pins σ H s) {pos : Pos} : ∀ {Q : List Value → Shared → Prop}, Q cs s → wpAny (model X.prog X.w) X.A (spliced (backTo pos (starEach es X.env))) Q E s := by
  induction n with
  | nil => intro Q q; exact wpAny_items_nil q
  | cons h hd hm _ ih => intro Q q; refine wpAny_items_cons (ld_glob I h hm ?_ hd); exact ih q
section
variable {X : Cx} {n : Str} {i kk : Nat} {cs : List Value} {es : List Expr} {body suite : List Stmt} {b₀ : Stmt} {np pos pos' : Pos} {tb : WX → TS} {ts : Addr → Value → Option Addr → TS}
/-- what the clause wishes of an error of the body -/
def wK (K : PySem.W.Frag) (cs : List Value) (i : Nat) (ts : Addr → Value → Option Addr → TS) (D : Ends) : WX := fun cls d σ H =>
  Mt K cls cs ∧ ∀ a, H a = none → ts a cls d { nx := fun σ' H' => H' a = none → D.nx (σ'.set i none) (upd H' a (ErrO a cls d)), rt := fun _ _ => False } (σ.set i (some (.ref a))) H
theorem ps_tryK (hs : X.stack = X.env :: X.outer) (hf : X.env.frame = some X.env.locals) (hex : X.ex = []) (hN : X.N.Nodup) (hi : X.N[i]? = some n) (hln : X.env.kindOf n = some .local) (hc : ∀ a pn, NmT (X.suite a pn) es cs) (hcl : es.length ≤ sizeLine)
    (hb : ∀ (W : WX) (pn : List (Addr × Obj)) (xe : Value → Shared → Prop), Takes (X.tr pn xe) W → PassesOwn (model X.prog X.w) X.A X.env xe → PSs (X.tr pn xe) body (tb W))
    (hsu : ∀ (a : Addr) (oe : Obj) (cls : Value) (d : Option Addr) (pn : List (Addr × Obj)), Zc cls d oe → (∃ vs, oe.data = .fields vs) → PSs (X.suite a ((a, oe) :: pn)) (b₀ :: suite) (ts a cls d)) :
    PS X (.Try body [.ExceptHandler (some (.Tuple es kk np)) (some n) (b₀ :: suite) pos'] [] [] pos) (fun D σ H => tb (wK X.K cs i ts D) D σ H) := by
  refine ⟨fun pins s σ H D I h => wpAny_Try_except ?_⟩
  have ok := I.ok
  have hfr : X.A.frames = some (X.env :: X.outer) := by rw [ok.frames, hs]
  have hloc : Loc X.env.scope n := .inl hln
  refine wpAny_mono ((hb (wK X.K cs i ts D) (X.pn ++ pins) (fun e s₁ => wpAny (model X.prog X.w) X.A (noteFrame e X.env) (fun _ s₂ => wpAny (model X.prog X.w) X.A (setFlight e none) (fun _ s₃ =>
    wpAny (model X.prog X.w) X.A (handleBy e X.env [.ExceptHandler (some (.Tuple es kk np)) (some n) (b₀ :: suite) pos']) (SP X pins D) X.xe s₃) X.xe s₂) X.xe s₁) (fun u s' xx => ?_) PassesOwn.looking).run [] s σ H D (I.toTry _) h) (fun f s1 hsp => ?_) fun e s1 he => he
  · obtain ⟨a, B, sI, pins', σ', H', cls, d, rfl, J', nb, up, sky, na, os, ag, hm, hyes⟩ := xx
    have J : L2.Inv X pins σ' H' sI := J'.ofTry ok
    show wpAny (model X.prog X.w) X.A (noteFrame (.ref a) X.env) _ _ _
    refine Sky.land Zc.steady hfr hf (show Sky B (X.env :: X.outer) a (Zc cls d) X.env.locals s'.heap by rw [← hs]; exact sky) fun h3 fl3 up3 => ?_
    have J3 : L2.Inv X pins σ' H' { s' with heap := h3 } := J.landed nb fl3.1 (up.trans up3) os ag
    obtain ⟨oe3, vs3, he3, hz3, hd3⟩ := fl3.there
    -- where the error does not lie
    have nfr : a ∉ frs (X.env :: X.outer) := fun hm => by
      obtain ⟨_, o', e', hnf⟩ := fl3.2.2.1.mem hm
      rw [he3] at e'; cases e'
      exact hnf _ hd3
    have nL : a ≠ X.env.locals := fun z => nfr (List.mem_filterMap.mpr ⟨X.env, List.mem_cons_self, by rw [hf, z]⟩)
    have nF : a ∉ X.fs := fun hm => by
      obtain ⟨e, he, q⟩ := List.mem_filterMap.mp hm
      exact nfr (List.mem_filterMap.mpr ⟨e, List.mem_cons_of_mem _ he, q⟩)
    have noI : sI.heap.get? a = none := by
      cases q : sI.heap.get? a with
      | none => rfl
      | some o =>
        have z := nb a o q (by rw [hs]; exact nfr)
        rw [fl3.2.1] at z; cases z
    have h0 : X.s_0.heap.get? a = none := by
      cases q : X.s_0.heap.get? a with
      | none => rfl
      | some o =>
        obtain ⟨o', z⟩ := J.base.there a o q (by rw [hex]; exact fun z => nomatch z)
        rw [noI] at z; cases z
    have hp : ∀ p ∈ X.pn ++ pins, p.1 ≠ a := fun p hp z => by
      have q := (J.pin p hp).1
      rw [z, noI] at q; cases q
    have S3 := J3.suite he3 hd3 na nL nF
    refine wpAny_handleBy_cons (codeAny_handlers_test (wpAny_Tuple ((hc a _).run S3 ⟨by rw [(hc a []).len]; exact hcl, ?_⟩))) (by intro q; cases q)
    have kp : ∀ b o, h3.get? b = some o → (h3.push { cls := .type "tuple", data := .seq cs.toArray }).get? b = some o := fun b o e => Heap.get?_push_of_some _ e
    have LT : PySem.W.Looks (model X.prog X.w) (h3.push { cls := .type "tuple", data := .seq cs.toArray }) (typeOf (.ref a)) cls := fun A Q E s k q => wpAny_typeOf_ref (k _ _ (kp _ _ he3)) (by rw [hz3.1]; exact q)
    refine (hm _ _ _ _ (J3.kIn.keeps kp) LT (Heap.get?_push_size h3 rfl)).here ?_
    refine codeAny_handlers_suite_as ?_
    have fl3' := FlyingZ.keeps fl3 kp
    refine HandSPX.lands_againZ fl3' fun h4 fl4 up4 => ?_
    have J4 : L2.Inv X pins σ' H' { s' with heap := h4 } := J.landed nb fl4.1 (((up.trans up3).trans (Heap.UpToSlots.of_keeps kp)).trans up4) os ag
    obtain ⟨oe4, vs4, he4, hz4, hd4⟩ := fl4.there
    have S4 := J4.suite he4 hd4 na nL nF
    refine store_ok (X := X.suite a ((a, oe4) :: (X.pn ++ pins))) (v := .ref a) S4 hN hi hloc rfl (fun s5 S5 => ?_) (.inr hln)
    refine wpAny_mono ((hsu a oe4 cls d (X.pn ++ pins) hz4 ⟨_, hd4⟩).run [] s5 _ H' _ S5 (hyes a na)) (fun f s6 hsp => ?_) (fun _ _ z => False.elim z)
    cases f with
    | next =>
      obtain ⟨σ6, H6, S6, q6⟩ := hsp
      have nh := (S6.pin (a, oe4) (List.mem_append_left _ List.mem_cons_self)).2.1
      have U : L2.Inv X ((a, oe4) :: pins) σ6 H6 s6 := ⟨ok, S6.os, S6.bare, S6.base, S6.loc, S6.cell, S6.free, S6.freeC, fun p hp => S6.pin p (List.mem_append_left _ (by
        rcases List.mem_append.mp hp with z | z
        · exact List.mem_cons_of_mem _ (List.mem_append_left _ z)
        · rcases List.mem_cons.mp z with z | z
          · rw [z]; exact List.mem_cons_self
          · exact List.mem_cons_of_mem _ (List.mem_append_right _ z))), S6.hok, S6.len⟩
      refine gone_ok U hN hi hln fun s7 J7 => ?_
      have ha7 := (J7.pin (a, oe4) (List.mem_append_right _ List.mem_cons_self)).1
      exact ⟨_, _, track J7 h0 hp (ErrO.ok ha7 hz4 hd4), q6 nh⟩
    | brk => obtain ⟨σ6, H6, S6, q6⟩ := hsp; exact q6.elim
    | cont => obtain ⟨σ6, H6, S6, q6⟩ := hsp; exact q6.elim
    | ret u => obtain ⟨v6, σ6, H6, S6, r6, q6⟩ := hsp; exact q6.elim
  · cases f with
    | next => obtain ⟨σ', H', J', q⟩ := hsp; exact wpAny_execs_nil ⟨σ', H', J'.ofTry ok, q⟩
    | brk => obtain ⟨σ', H', J', q⟩ := hsp; exact ⟨σ', H', J'.ofTry ok, q⟩
    | cont => obtain ⟨σ', H', J', q⟩ := hsp; exact ⟨σ', H', J'.ofTry ok, q⟩
    | ret u => obtain ⟨v, σ', H', J', r, q⟩ := hsp; exact ⟨v, σ', H', J'.ofTry ok, r, q⟩
end
end PVE
end

section
set_option Elab.async false
set_option linter.all false
set_option autoImplicit false
set_option maxRecDepth 100000
set_option maxHeartbeats 4000000
/-! an error that a name holds: is it of a class, its field -/
namespace PVE
open PySem PySem.Spec PySem.Calls PyProof.Rows L2
section
open PySem.W
variable {prog : Program} {w : World} {A : Around} {E : Value → Shared → Prop} {s : Shared} {K : Frag} {x D : Addr} {ox : Obj} {od : Option Obj}
theorem find_bind {C : Addr} {name : Str} {a g : Value} (hc : (clsIn K C).isSome = true) (ha : findIn K (.ref C) name = some (some a)) (hg : specialIn K a "__get__" = some (some g)) (ht : takesIn K a = some true) : findObj K C od name = some (.bind g a) := by
  obtain ⟨cd, hc⟩ := Option.isSome_iff_exists.mp hc
  simp [findObj, hc, ha, hg, ht]
/-- x.__class__ where x is an own error, with or without a dict -/
theorem getClass {Q : Option Value → Shared → Prop} (T : ExcC K D) (X : K.In s.heap) (I : InstAt s.heap x ox D od) (h : Q (some (.ref D)) { s with toks := s.toks + 1 }) : wpAny (model prog w) A (getAttr? (.ref x) "__class__") Q E s := by
  have own : (clsIn K D).isSome = true := by obtain ⟨cd, hc, _⟩ := any_some T.hd; rw [hc]; rfl
  have fb : findObj K D od "__class__" = some (.bind (.builtin "getset_descriptor.__get__") (.builtin "object.__class__")) := find_bind own T.ha T.hn T.ht
  have n1 : (Value.builtin "BaseException.__getattribute__" == Value.builtin "object.__getattribute__") = false := by decide +kernel
  have n2 : (onTheHeap (Value.ref D) && Value.builtin "BaseException.__getattribute__" == Value.builtin "object.__getattribute__") = false := by rw [n1, Bool.and_false]
  obtain ⟨hp, g, d, t, os⟩ := s
  have lt := I.type (M := model prog w)
  have lg := looks_findIn (M := model prog w) X T.hg; have lk := looks_findIn (M := model prog w) X T.hk
  have lf := looks_find (M := model prog w) X I fb; have ls : Looks (model prog w) hp (isInstance (.ref x) (.type "BaseException")) true := lt.andThen (looks_subIn X T.hs)
  unfold getAttr? getAttrBy? getAttrBy; refine wpAny_bind (wpAny_mkText (wpAny_bind (wpAny_attempt (wpAny_holding (wpAny_bind (lt.at (wpAny_bind (lg.at ?_))))))))
  show wpAny _ _ (if (onTheHeap (Value.ref D) && Value.builtin "BaseException.__getattribute__" == Value.builtin "object.__getattribute__") = true then _ else _) _ _ _
  rw [n2, if_neg Bool.false_ne_true]; unfold getAttrByItsOwn hookBefore; refine wpAny_bind ?_
  rw [if_pos (show onTheHeap (Value.ref D) = true from rfl)]; refine lk.at (wpAny_bind (wpAny_attempt (wpAny_holding ?_)))
  unfold callGetattribute; rw [show (false && onTheHeap (Value.builtin "BaseException.__getattribute__")) = false from rfl, if_neg Bool.false_ne_true]; unfold boundAndCalled
  rw [PySem.F.excAttr_ValueError.ga.bind (.ref x)]; refine wpAny_bind (wpAny_pure (wpAny_call (codeAny_call_builtin PySem.F.excAttr_ValueError.ga.plain PySem.F.entry_bexc_ga ?_)))
  refine @check_slot (model prog w) _ _ ⟨hp, g, d, t + 1, os⟩ "BaseException.__getattribute__" "BaseException" "__getattribute__" (.ref x) [.str "__class__" t] [] _ (by decide +kernel) (by decide +kernel) ls (PySem.F.args_bexc_ga (.ref x) (.str "__class__" t)) ?_
  unfold Builtin.«object.__getattribute__»; refine wpAny_bind (wpAny_of_eq (a := ((Value.ref x : Value), [Value.str "__class__" t])) (by first | rfl | (simp only [slotArgs]; rfl)) (wpAny_bind (wpAny_pure (wpAny_bind (lt.at (wpAny_bind (lf.at ?_)))))))
  show wpAny _ _ (holding [Value.builtin "object.__class__"] (call (.builtin "getset_descriptor.__get__") [.builtin "object.__class__", .ref x, .ref D]) >>= ret) _ _ _
  refine wpAny_bind (wpAny_holding (wpAny_call (class_get (s := ⟨hp, g, d, t + 1, os⟩) (ox := ox) (od := od) X I T.hm (wpAny_pure ?_))))
  show wpAny _ _ (handedOut (.ref D)) _ _ _
  rw [handedOut_of (v := .ref D) rfl]
  first
    | exact wpAny_pure (wpAny_pure h)
    | exact wpAny_pure h
    | exact wpAny_pure (wpAny_bind (wpAny_pure (wpAny_pure h)))
theorem kitE (T : ExcC K D) : KitX K (.ref x) (.ref D) (fun h => InstAt h x ox D od) := by
  obtain ⟨cd, hc, _⟩ := any_some T.hd
  have there : ∃ dd c' sl, K.lookup D = some ⟨.type "type", dd, .cls cd, sl⟩ ∨ K.lookup D = some ⟨c', dd, .cls cd, sl⟩ := by
    unfold clsIn at hc
    split at hc
    · rename_i c' d' cd' sl' ho
      cases hc
      exact ⟨_, _, _, .inr ho⟩
    · cases hc
  obtain ⟨c', dd, sl, ho⟩ : ∃ c' dd sl, K.lookup D = some ⟨c', dd, .cls cd, sl⟩ := by
    obtain ⟨dd, c', sl, ho | ho⟩ := there <;> exact ⟨_, _, _, ho⟩
  refine ⟨fun _ _ _ I => I.type, fun _ _ X _ A' Q' E' s' k q => ?_, fun h tp d2 its n s2 X htp => Bool.eq_false_iff.mpr fun q => ?_, fun X I k => getClass T X I k⟩
  · unfold isType loadHead
    exact wpAny_bind (wpAny_loadPart (k _ _ (X _ _ ho)) (wpAny_pure q))
  · have e : D = tp := Value.ref.inj (beq_iff_eq.mp q)
    subst e
    have z := (X _ _ ho).symm.trans htp
    cases z
end
end PVE
end

section
set_option Elab.async false
set_option linter.all false
set_option autoImplicit false
set_option maxRecDepth 100000
set_option maxHeartbeats 2000000
/-! repr([..]) -/
namespace PV
open PySem PySem.Spec PyProof.Rows L2
variable [Tbs]
section
variable {X : Cx} {pins : List (Addr × Obj)} {σ : L2.St} {H : Hp} {s : Shared} {S : Addr → Prop}
theorem flat_reads (I : L2.Inv X pins σ H s) {d : D} {v : V} {u : Value} (hf : rpE d = true) (rp : RpS X.K H S d v) (r : RelV v u) : ∃ as, Reads s.heap u d as ∧ sysModules ∉ as := by
  have go : ∀ {d : D}, PyData.canLay0 d = true → (∀ {as u}, RelV v u → Reads s.heap u d as → sysModules ∉ as) → RpS X.K H S d v → ∃ as, Reads s.heap u d as ∧ sysModules ∉ as := fun {d} hc no rp => by
    obtain ⟨as, q⟩ := Dp.reads I d v u (rp.dp hc) r
    exact ⟨as, q, no r q⟩
  cases d with
  | none => exact go rfl (fun _ q => by cases q; simp) rp
  | bool b => exact go rfl (fun _ q => by cases q; simp) rp
  | int i => exact go rfl (fun _ q => by cases q; simp) rp
  | str x =>
    simp only [RpS] at rp
    subst rp
    obtain ⟨t, rfl⟩ := r
    exact ⟨_, .str x t, by simp⟩
  | list xs => cases hf
  | tuple xs => cases hf
  | dict kvs =>
    cases kvs with
    | cons a b => cases hf
    | nil =>
      simp only [RpS] at rp
      obtain ⟨a, w, vs, rfl, _, hr, ⟨l, rfl, e1, _, _⟩, _⟩ := rp
      have el : l = [] := by
        cases l with
        | nil => rfl
        | cons a b => simp at e1
      subst el
      obtain rfl : u = Value.ref a := r
      obtain ⟨_, hs, ws, kv, o, es, ep, ho, ex, hd, _, pr, _⟩ := dk_rd I.hok hr
      have ew : ws = [] := by
        unfold KV at kv
        cases kv; rfl
      subst ew
      have ee : es.toList = [] := by
        generalize es.toList = l at pr ⊢
        cases pr; rfl
      refine ⟨_, .dict (kvs := []) ho ex.1 hd (as := []) (bs := []) (by rw [ee]; exact .nil) (by rw [ee]; exact .nil), ?_⟩
      intro z
      simp at z
      rw [← z] at hs
      exact absurd hs (by decide)
theorem flats_reads (I : L2.Inv X pins σ H s) : ∀ {ds : List D} {vs : List V} {us : List Value}, ds.all rpE = true → RpSs X.K H S ds vs → Vals vs us → ∃ as, ReadsAll s.heap us ds as ∧ sysModules ∉ as
  | [], vs, us, _, rp, r => by
    simp only [RpSs] at rp
    subst rp
    cases r
    exact ⟨_, .nil, by simp⟩
  | d :: ds, vs, us, h, rp, r => by
    simp only [RpSs] at rp
    obtain ⟨v, q, rfl, h1, h2⟩ := rp
    simp only [List.all_cons, Bool.and_eq_true] at h
    cases r with
    | cons r1 r2 =>
      obtain ⟨as, a1, a2⟩ := flat_reads I h.1 h1 r1
      obtain ⟨bs, b1, b2⟩ := flats_reads I h.2 h2 r2
      exact ⟨_, .cons a1 b1, fun z => (List.mem_append.mp z).elim a2 b2⟩
end
section
variable {X : Cx} {C : Ctx} {es : Ex} {eas : List Expr} {ea : Expr} {t : TA} {p pos lpos : Pos}
/-- what repr tells of the list of these values -/
def tRpL (K : PySem.W.Frag) (t : TA) : TE := fun σ H Q => t σ H fun vs H1 => ∃ ds S x, RpSs K H1 S ds vs ∧ rpL ds = some x ∧ Q (.str x) H1
theorem pe_reprL (hgu : X.A.guards = some []) (hu : X.A.units + 64 < cLine) (ha : PA X eas t) (hg : Gl X "repr" := by rfl) (hm : X.mg "repr" = none := by rfl) (hs : starEach [.List eas lpos] X.env = (false, eval (.List eas lpos) X.env) :: starEach [] X.env := by rfl) (hpl : (backTo pos (starEach [] X.env)).any (·.1) = false := by rfl) :
    PE X (.Call (.Name "repr" p) [.List eas lpos] [] pos) (tRpL X.K t) := by
  refine ⟨fun pins s σ H Q I h => wpAny_Call_Name_kw (ld_blt I hg hm PyProof.Rows.Boot.«repr» ?_ (by decide) (by decide))⟩
  refine PyProof.Rows.callWith_builtin1 ?_ hs hpl
  rw [hs]
  show wpAny _ _ (spliced ((false, eval (.List eas lpos) X.env) :: backTo pos (starEach [] X.env))) _ _ s
  refine Calls.spliced_cons (wpAny_List_spliced (thn (ha.run lpos pins s σ H _ I h) fun us s1 ⟨vs, H1, I1, r, ds, S, x, rp, e, q⟩ => ?_))
  unfold rpL at e
  split at e
  case isFalse => cases e
  rename_i hc
  cases e
  simp only [Bool.and_eq_true, decide_eq_true_eq, Bool.or_eq_true] at hc
  obtain ⟨⟨⟨⟨hk, h1⟩, h2⟩, h3⟩, h4⟩ := hc
  have hl : us.length ≤ sizeLine := by rw [← r.length, ← rp.length]; exact h4
  refine ⟨hl, Calls.spliced_nil ?_⟩
  have kp : ∀ b o, s1.heap.get? b = some o → (s1.heap.push { cls := .type "list", data := .seq us.toArray }).get? b = some o := fun _ _ z => Heap.get?_push_of_some _ z
  have new := Heap.get?_push_size s1.heap (o := { cls := .type "list", data := .seq us.toArray }) rfl
  obtain ⟨as, rd, no⟩ : ∃ as, ReadsAll s1.heap us ds as ∧ ((PyData.list ds).hasDict = true → sysModules ∉ s1.heap.objs.size :: as) := by
    rcases hk with hk | hk
    · obtain ⟨as, z⟩ := Dp.readsAll I1 ds vs us (rp.dp hk) r
      exact ⟨as, z, PyData.noDict_hsm (PyData.hasDict_of_canLay (.list ds) (by simpa [PyData.canLay0] using hk))⟩
    · obtain ⟨as, z, n⟩ := flats_reads I1 hk rp r
      refine ⟨as, z, fun _ m => ?_⟩
      rcases List.mem_cons.mp m with m | m
      · exact absurd m (Nat.ne_of_lt I1.big)
      · exact n m
  exact repr_of_reads' (Reads.list new rfl rfl (ReadsAll.keeps kp rd)) h1 no hgu (by omega) (fun _ _ e => e) (fun h' u tk hk => ⟨.str (PyData.list ds).shown, H1, I1.kept fun b o z => hk b o (kp b o z), ⟨u, rfl⟩, q⟩) h2
end
end PV
namespace PV
open PySem PySem.Spec PyProof.Rows L2
variable [Tbs]
theorem RpSs.of_at {K : PySem.W.Frag} {H : Hp} {S : Addr → Prop} : ∀ {ds : List D} {vs : List V}, vs.length = ds.length → (∀ (j : Nat) d, ds[j]? = some d → ∃ v, vs[j]? = some v ∧ RpS K H S d v) → RpSs K H S ds vs
  | [], vs, hl, _ => by
    simp only [RpSs]
    exact List.length_eq_zero_iff.mp hl
  | d :: ds, [], hl, _ => by simp at hl
  | d :: ds, v :: vs, hl, h => by
    simp only [RpSs]
    obtain ⟨v', e, q⟩ := h 0 d rfl
    cases e
    exact ⟨v, vs, rfl, q, RpSs.of_at (by simpa using hl) fun j d e => by simpa using h (j + 1) d (by simpa using e)⟩
section
variable {X : Cx} {C : Ctx} {es : Ex} {eas : List Expr} {p pos lpos : Pos}
theorem sv_reprl (hgu : X.A.guards = some []) (hu : X.A.units + 64 < cLine) (ha : PAv X C es eas) (hg : Gl X "repr" := by rfl) (hm : X.mg "repr" = none := by rfl) (hs : starEach [.List eas lpos] X.env = (false, eval (.List eas lpos) X.env) :: starEach [] X.env := by rfl) (hpl : (backTo pos (starEach [] X.env)).any (·.1) = false := by rfl) :
    PEv X C (.bi .reprl es) (.Call (.Name "repr" p) [.List eas lpos] [] pos) := by
  refine peI (pe_reprL hgu hu ha hg hm hs hpl) fun σ H Q ⟨L, ρ, fp, R, g, m, d, ρ', e, q⟩ => ?_
  obtain ⟨ws, ρ1, e1, e2⟩ := bind_ok e
  have e2 : (rpL (ws.map (·.2))).map (fun x => ((M.own, PyData.str x), ρ1)) = some ((m, d), ρ') := of_ok e2
  obtain ⟨x, hx, e3⟩ := Option.map_eq_some_iff.mp e2
  cases e3
  refine ⟨L, ρ, fp, R, g, ws, ρ', e1, fun vs H1 fp1 R1 fs g1 v1 hl ho _ _ => ⟨ws.map (·.2), fun _ => True, x, RpSs.of_at (by simpa using hl) fun j d hd => ?_, hx, q (.str x) H1 fp1 R1 [] g1 v1 .ofS .nil⟩⟩
  rw [List.getElem?_map] at hd
  obtain ⟨p, hp, rfl⟩ := Option.map_eq_some_iff.mp hd
  obtain ⟨v, h1, o⟩ := ho j p hp
  obtain ⟨S, rd⟩ := o.read
  exact ⟨v, h1, RpS.stay (.refl _) (fun _ _ => rfl) (fun _ _ => trivial) rd⟩
end
/-! ### what a def tells of an error -/
inductive Cl where
  | own (c : Nat)
  | ty (n : String)
inductive Tr where
  | txt (x : Str)
  | rep (tag f : Str)
  | ite (k : Cl) (a b : Tr)
inductive Tb where
  | ifN (y n : Tb)
  | ifC (k : Cl) (y n : Tb)
  | ifNC (k : Cl) (y n : Tb)
  | ret (r : Tr)
variable [Exs]
abbrev Er := Option (Nat × List D)
def Tr.ev (is : Nat → Cl → Bool) : Tr → Er → Option Str
  | .txt x, _ => some x
  | .rep tag f, some (c, [d]) => if Exs.fld c = [f] then rpL [.str tag, d] else none
  | .rep _ _, _ => none
  | .ite k a b, some (c, fs) => if is c k then a.ev is (some (c, fs)) else b.ev is (some (c, fs))
  | .ite _ _ _, none => none
def Tb.ev (is : Nat → Cl → Bool) : Tb → Er → Option Str
  | .ifN y n, e => if e.isNone then y.ev is e else n.ev is e
  | .ifC k y n, some (c, fs) => if is c k then y.ev is (some (c, fs)) else n.ev is (some (c, fs))
  | .ifC _ _ _, none => none
  | .ifNC k y n, some (c, fs) => if is c k then n.ev is (some (c, fs)) else y.ev is (some (c, fs))
  | .ifNC _ _ _, none => none
  | .ret r, e => r.ev is e
def Cl.v : Cl → V
  | .own c => .ref (Exs.cls c)
  | .ty n => .ty n
def Cl.val : Cl → Value
  | .own c => .ref (Exs.cls c)
  | .ty n => .type n
/-- the slot j holds None, or an error of one of the classes cs -/
def ErS (K : PySem.W.Frag) (cs : List Nat) (j : Nat) (σ : L2.St) (H : Hp) : Er → Prop
  | none => σ[j]? = some (some .non)
  | some (c, fs) => ∃ a dx vs S, σ[j]? = some (some (.ref a)) ∧ H a = some (PVE.ErrO a (.ref (Exs.cls c)) (some dx)) ∧ H dx = some (.xd ((Exs.fld c).zip vs)) ∧ RpSs K H S fs vs ∧ c ∈ cs
/-- what the text says of the classes cs -/
structure ErC (K : PySem.W.Frag) (cs : List Nat) : Prop where
  ec : ∀ c ∈ cs, ExcC K (Exs.cls c)
  no : ∀ c ∈ cs, ∀ f ∈ Exs.fld c, PySem.W.findIn K (.ref (Exs.cls c)) f = some none
def ttr (K : PySem.W.Frag) (cs : List Nat) (is : Nat → Cl → Bool) (j : Nat) (r : Tr) : TE := fun σ H Q => ∃ e, ErS K cs j σ H e ∧ ∃ x, r.ev is e = some x ∧ Q (.str x) H
def ttb (K : PySem.W.Frag) (cs : List Nat) (is : Nat → Cl → Bool) (j : Nat) (b : Tb) : TS := fun D σ H => ∃ e, ErS K cs j σ H e ∧ ∃ x, b.ev is e = some x ∧ D.rt (.str x) H
section
variable {X : Cx} {cs : List Nat} {is : Nat → Cl → Bool} {j : Nat} {r a b : Tr} {y n : Tb} {k : Cl} {err x : Str} {p p2 p3 pos pos2 : Pos} {ys ns : List Stmt} {ea eb ec : Expr} {kk : Nat}
/-- an error where a name holds it: its object, its dict's -/
theorem er_inst {pins : List (Addr × Obj)} {σ : L2.St} {H : Hp} {s : Shared} (I : L2.Inv X pins σ H s) {a dx : Addr} {D : Addr} {fs : List (Str × V)} (e : H a = some (PVE.ErrO a (.ref D) (some dx))) (ed : H dx = some (.xd fs)) :
    ∃ oe od mA, PySem.W.InstAt s.heap a oe D (some od) ∧ s.heap.Ns1 dx mA ∧ (∀ f, RelO (fs.lookup f) (mA f)) ∧ ∀ nm, PySem.W.lookIn nm od = some (mA nm) := by
  obtain ⟨oe, vs, he, hz, hd⟩ := PVE.ErrO.at I.hok e
  obtain ⟨mA, hns, hr⟩ := (show ObjOk X.prog X.w H s.heap dx (.xd fs) from I.hok dx _ ed)
  obtain ⟨od, ho, hl⟩ := lookIn_ns hns
  exact ⟨oe, od, mA, ⟨he, hz.1, by unfold PySem.W.notCls; rw [hd] <;> rfl, by rw [hz.2]; exact ho⟩, hns, hr, hl⟩
/-- isinstance(err, k) -/
theorem pt_isE (T : ErC X.K cs) (hk : ∀ c ∈ cs, PySem.W.kitOne X.K (.ref (Exs.cls c)) k.val = some (is c k)) (hc : PE X ec (tC k.v)) (hj : X.N[j]? = some err := by rfl) (hv : Vis X.env.scope err := by exact Or.inl rfl) (hg : Gl X "isinstance" := by rfl) (hm : X.mg "isinstance" = none := by rfl)
    (hdb : (err == ("__debug__" : Str)) = false := by decide) (hcd : (err == ("__classdict__" : Str)) = false := by decide) (hs : starEach [.Name err p2, ec] X.env = (false, eval (.Name err p2) X.env) :: starEach [ec] X.env := by rfl) (hs2 : starEach [ec] X.env = (false, eval ec X.env) :: starEach [] X.env := by rfl) (hpl : (backTo pos (starEach [ec] X.env)).any (·.1) = false := by rfl)
    (he : ∀ whole, isTrue (.Call (.Name "isinstance" p) [.Name err p2, ec] [] pos) X.env whole = (do let v ← whole; standAt (Expr.Call (.Name "isinstance" p) [.Name err p2, ec] [] pos).pos; holding [v] (truthy v)) := by intro _; rfl) :
    PT X (.Call (.Name "isinstance" p) [.Name err p2, ec] [] pos) (fun σ H Q => ∃ c fs, ErS X.K cs j σ H (some (c, fs)) ∧ Q (is c k) H) := by
  have cr : CallR X (.builtin "isinstance") (fun xs H Q => ∃ c a dx fs, xs = [.ref a, k.v] ∧ c ∈ cs ∧ H a = some (PVE.ErrO a (.ref (Exs.cls c)) (some dx)) ∧ H dx = some (.xd fs) ∧ Q (.bl (is c k)) H) := by
    intro pins s σ H xs us Q I r h
    obtain ⟨c, a, dx, fs, rfl, hc, e1, e2, q⟩ := h
    obtain ⟨u1, u2, rfl, r1, r2⟩ := vals2 r
    obtain rfl : u1 = Value.ref a := r1
    have e3 : u2 = k.val := by cases k <;> exact r2
    subst e3
    obtain ⟨oe, od, mA, J, _⟩ := er_inst I e1 e2
    exact PySem.W.kia_one (PVE.kitE (T.ec c hc)) I.kIn J (hk c hc) (fun z => nomatch z) fun tk => ⟨.bl (is c k), H, I.tok tk, rfl, q⟩
  refine ptI (pt_val (pe_callB cr hg hm PyProof.Rows.Boot.«isinstance» (pa_cons (pe_var (pos := p2) hj hv hdb hcd) (pa_cons hc pa_nil hs2) hs) (by decide) (by decide) hs hpl) he) fun σ H Q ⟨c, fs, ⟨a, dx, vs, S, h1, h2, h3, _, h5⟩, q⟩ => ?_
  exact ⟨.ref a, h1, c, a, dx, _, rfl, h5, h2, h3, _, rfl, q⟩
/-- err.f -/
theorem pe_fldE {f : Str} (T : ErC X.K cs) (hj : X.N[j]? = some err := by rfl) (hv : Vis X.env.scope err := by exact Or.inl rfl) (hdb : (err == ("__debug__" : Str)) = false := by decide) (hcd : (err == ("__classdict__" : Str)) = false := by decide)
    (hb : attributeBase (.Name err p) f X.env (eval (.Name err p) X.env) = eval (.Name err p) X.env := by rfl) :
    PE X (.Attribute (.Name err p) f pos) (fun σ H Q => ∃ c d, ErS X.K cs j σ H (some (c, [d])) ∧ Exs.fld c = [f] ∧ ∀ v S, RpS X.K H S d v → Q v H) := by
  refine ⟨fun pins s σ H Q I h => ?_⟩
  obtain ⟨c, d, ⟨a, dx, vs, S, h1, h2, h3, h4, h5⟩, hf, q⟩ := h
  refine attr_of hb (thn ((pe_var (pos := p) hj hv hdb hcd).run pins s σ H (fun v H1 => v = .ref a ∧ H1 = H) I ⟨.ref a, h1, rfl, rfl⟩) fun u s1 ⟨x, H1, I1, rx, ex, eH⟩ => ?_)
  subst ex eH
  obtain rfl : u = Value.ref a := rx
  simp only [RpSs] at h4
  obtain ⟨v, r, rfl, h4, rfl⟩ := h4
  rw [hf] at h3
  obtain ⟨oe, od, mA, J, hns, hr, hl⟩ := er_inst I1 h2 h3
  have z := hr f
  have lk : List.lookup f (List.zip [f] [v]) = some v := by simp
  rw [lk] at z
  obtain ⟨w, hw, rw'⟩ := RelO.some_of z
  have E := T.ec c h5
  exact HandSPX.exc_get I1.kIn J E.hg E.hk E.hs (PySem.W.findObj_own E.hd (T.no c h5 f (by rw [hf]; exact List.mem_cons_self)) rfl (by rw [hl, hw])) (handed_of rw') ⟨v, H1, I1.tok _, rw', q v S h4⟩
def PTr (X : Cx) (cs : List Nat) (is : Nat → Cl → Bool) (j : Nat) (r : Tr) (e : Expr) : Prop := PE X e (ttr X.K cs is j r)
def PTb (X : Cx) (cs : List Nat) (is : Nat → Cl → Bool) (j : Nat) (b : Tb) (sts : List Stmt) : Prop := PSs X sts (ttb X.K cs is j b)
theorem tr_txt {x : Str} {jj : Nat} : PTr X cs is j (.txt x) (.Constant (.str x) jj pos) := peI pe_str fun σ H Q ⟨e, _, z, h, q⟩ => by
  cases h; exact q
theorem tr_rep {f tag : Str} {jj : Nat} {p4 p5 lpos : Pos} (T : ErC X.K cs) (hgu : X.A.guards = some []) (hu : X.A.units + 64 < cLine) (hj : X.N[j]? = some err := by rfl) (hv : Vis X.env.scope err := by exact Or.inl rfl) (hdb : (err == ("__debug__" : Str)) = false := by decide) (hcd : (err == ("__classdict__" : Str)) = false := by decide)
    (hb : attributeBase (.Name err p4) f X.env (eval (.Name err p4) X.env) = eval (.Name err p4) X.env := by rfl) (hg : Gl X "repr" := by rfl) (hm : X.mg "repr" = none := by rfl)
    (h1 : starEach [.Constant (.str tag) jj p2, .Attribute (.Name err p4) f p5] X.env = (false, eval (.Constant (.str tag) jj p2) X.env) :: starEach [.Attribute (.Name err p4) f p5] X.env := by rfl) (h2 : starEach [.Attribute (.Name err p4) f p5] X.env = (false, eval (.Attribute (.Name err p4) f p5) X.env) :: starEach [] X.env := by rfl)
    (hs : starEach [.List [.Constant (.str tag) jj p2, .Attribute (.Name err p4) f p5] lpos] X.env = (false, eval (.List [.Constant (.str tag) jj p2, .Attribute (.Name err p4) f p5] lpos) X.env) :: starEach [] X.env := by rfl) (hpl : (backTo pos (starEach [] X.env)).any (·.1) = false := by rfl) :
    PTr X cs is j (.rep tag f) (.Call (.Name "repr" p) [.List [.Constant (.str tag) jj p2, .Attribute (.Name err p4) f p5] lpos] [] pos) := by
  refine peI (pe_reprL hgu hu (pa_cons pe_str (pa_cons (pe_fldE (err := err) (p := p4) T hj hv hdb hcd hb) pa_nil h2) h1) hg hm hs hpl) fun σ H Q ⟨e, he, x, hx, q⟩ => ?_
  match e, he, hx with
  | none, he, hx => cases hx
  | some (c, []), he, hx => cases hx
  | some (c, _ :: _ :: _), he, hx => cases hx
  | some (c, [d]), he, hx =>
    have hx : (if Exs.fld c = [f] then rpL [.str tag, d] else none) = some x := hx
    split at hx
    case isFalse => cases hx
    rename_i hf
    refine ⟨c, d, he, hf, fun v S rp => ⟨[.str tag, d], S, x, ?_, hx, q⟩⟩
    simp only [RpSs, RpS]
    exact ⟨_, _, rfl, rfl, v, [], rfl, rp, rfl⟩
theorem tr_ite {pos3 : Pos} (hc : PT X ec (fun σ H Q => ∃ c fs, ErS X.K cs j σ H (some (c, fs)) ∧ Q (is c k) H)) (ha : PTr X cs is j a ea) (hb : PTr X cs is j b eb) : PTr X cs is j (.ite k a b) (.IfExp ec ea eb pos3) := by
  refine peI (pe_ifExp hc ha hb) fun σ H Q ⟨e, he, x, hx, q⟩ => ?_
  match e, he, hx with
  | none, he, hx => cases hx
  | some (c, fs), he, hx =>
    refine ⟨c, fs, he, ?_⟩
    have hx : (if is c k then a.ev is (some (c, fs)) else b.ev is (some (c, fs))) = some x := hx
    show if is c k = true then ttr X.K cs is j a σ H Q else ttr X.K cs is j b σ H Q
    split
    · rename_i h; rw [h] at hx; exact ⟨_, he, x, hx, q⟩
    · rename_i h; rw [if_neg h] at hx; exact ⟨_, he, x, hx, q⟩
theorem tb_ret {pos3 : Pos} (h : PTr X cs is j r ea) : PTb X cs is j (.ret r) [.Return (some ea) pos3] := ⟨fun pins s σ H D I h' => (pss_one (ps_ret h)).run pins s σ H D I (by
  obtain ⟨e, he, x, hx, q⟩ := h'
  exact ⟨e, he, x, hx, q⟩)⟩
theorem tb_if {T : TT} {y n b : Tb} {pos3 : Pos} (hc : PT X ec T) (hy : PTb X cs is j y ys) (hn : PTb X cs is j n ns)
    (w : ∀ σ H (Q : Bool → Hp → Prop) e x, ErS X.K cs j σ H e → b.ev is e = some x → (∀ c, (if c = true then y.ev is e = some x else n.ev is e = some x) → Q c H) → T σ H Q) : PTb X cs is j b (.If ec ys [] pos3 :: ns) := ⟨fun pins s σ H D I h' => by
  obtain ⟨e, he, x, hx, q⟩ := h'
  refine (pss_cons (ps_if hc (b := []) hy pss_nil) hn).run pins s σ H D I (w σ H _ e x he hx fun c hc => ?_)
  cases c with
  | true => exact ⟨e, he, x, hc, q⟩
  | false => exact ⟨e, he, x, hc, q⟩⟩
theorem tb_ifN {pos3 pos4 : Pos} {jj : Nat} (hy : PTb X cs is j y ys) (hn : PTb X cs is j n ns) (hj : X.N[j]? = some err := by rfl) (hv : Vis X.env.scope err := by exact Or.inl rfl) (hdb : (err == ("__debug__" : Str)) = false := by decide) (hcd : (err == ("__classdict__" : Str)) = false := by decide)
    (hmk : behindInMarks .Is (.Constant .none jj p2) = false := by rfl) : PTb X cs is j (.ifN y n) (.If (.Compare (.Name err p) [.Is] [.Constant .none jj p2] pos3) ys [] pos4 :: ns) := by
  refine tb_if (pt_cmpR op_isN (pe_var (pos := p) hj hv hdb hcd) pe_non hmk) hy hn fun σ H Q e x he hx q => ?_
  match e, he, hx with
  | none, he, hx =>
    refine ⟨.non, he, rfl, _, rfl, q _ ?_⟩
    exact hx
  | some (c, fs), he, hx =>
    obtain ⟨a, dx, vs, S, h1, h2⟩ := id he
    refine ⟨.ref a, h1, rfl, _, rfl, q _ ?_⟩
    exact hx
theorem tb_ifC {pos3 : Pos} (hc : PT X ec (fun σ H Q => ∃ c fs, ErS X.K cs j σ H (some (c, fs)) ∧ Q (is c k) H)) (hy : PTb X cs is j y ys) (hn : PTb X cs is j n ns) : PTb X cs is j (.ifC k y n) (.If ec ys [] pos3 :: ns) := by
  refine tb_if hc hy hn fun σ H Q e x he hx q => ?_
  match e, he, hx with
  | none, he, hx => cases hx
  | some (c, fs), he, hx =>
    refine ⟨c, fs, he, q _ ?_⟩
    have hx : (if is c k then y.ev is (some (c, fs)) else n.ev is (some (c, fs))) = some x := hx
    split <;> rename_i h
    · rw [h] at hx; exact hx
    · rw [if_neg h] at hx; exact hx
theorem tb_ifNC {pos3 pos4 : Pos} (hc : PT X ec (fun σ H Q => ∃ c fs, ErS X.K cs j σ H (some (c, fs)) ∧ Q (is c k) H)) (hy : PTb X cs is j y ys) (hn : PTb X cs is j n ns) : PTb X cs is j (.ifNC k y n) (.If (.UnaryOp .Not ec pos4) ys [] pos3 :: ns) := by
  refine tb_if (pt_not hc) hy hn fun σ H Q e x he hx q => ?_
  match e, he, hx with
  | none, he, hx => cases hx
  | some (c, fs), he, hx =>
    have hx : (if is c k then n.ev is (some (c, fs)) else y.ev is (some (c, fs))) = some x := hx
    refine ⟨c, fs, he, q _ ?_⟩
    cases h : is c k with
    | true => rw [h] at hx; exact hx
    | false => rw [h] at hx; exact hx
end
end PV
end

section
set_option Elab.async false
set_option linter.all false
set_option autoImplicit false
set_option maxRecDepth 100000
set_option maxHeartbeats 2000000
/-! told(lambda: f(..)) -/
namespace PVE
open PySem PySem.Spec PyProof.Rows L2 LamX
section
variable {X : Cx} {pins : List (Addr × Obj)} {σ : L2.St} {H : Hp} {s : Shared}
/-- what the making of a lambda leaves -/
structure Lmd (X : Cx) (pins : List (Addr × Obj)) (σ : L2.St) (T : List (Addr × Str)) (params : Arguments) (body : Expr) (scope : Scope) (H : Hp) (f c' : Addr) (pm ctv : Value) (H1 : Hp) (s' : Shared) : Prop where
  inv : L2.Inv X pins σ H1 s'
  ext : ExtN H H1
  som : ∀ b, H b ≠ none → H1 b ≠ none
  tab : Tabs T H1
  obj : s'.heap.get? f = some (PySem.W.kla_obj "<lambda>" (X.env.qual ++ "<lambda>") params body scope (cloFrom X.env.cells scope.names []) pm c' ctv)
  new : H1 f = none
  nfr : f ∉ frs X.stack
  code : H1 c' = some (CodeO c' (X.env.qual ++ "<lambda>"))
theorem lam_mk {T : List (Addr × Str)} {c P : Addr} {params : Arguments} {body : Expr} {scope : Scope} {pos : Pos} {E : Value → Shared → Prop} {Q : Value → Shared → Prop} (I : L2.Inv X pins σ H s) (TB : TabB X.base X.mg c P) (hcode : X.env.code = .ref c)
    (hm : (P, X.env.qual ++ "<lambda>") ∈ T) (hu : ∀ p ∈ T, p.1 = P → p.2 = X.env.qual ++ "<lambda>") (hT : Tabs T H) (hdef : defaultsOf params X.env = ([], [])) (hfree : ∀ y ∈ scope.names, y.2 = .free → ∃ c, X.env.cells.lookup y.1 = some c)
    (h : ∀ f c' pm ctv H1 s', Lmd X pins σ T params body scope H f c' pm ctv H1 s' → Q (.ref f) s') : wpAny (model X.prog X.w) X.A (eval (.Lambda params body scope pos) X.env) Q E s := by
  -- the table at P, as it stands
  obtain ⟨ps, tP, tOk, tAll⟩ := hT _ hm
  have atP : s.heap.get? P = some { cls := .none, data := .fields ps } := I.hok P _ tP
  have bltP := TB.bm.keeps I.bk
  -- a place behind the heap is no frame's
  have offr : ∀ g, s.heap.objs.size ≤ g → g ∉ frs X.stack := by
    intro g hg z
    rcases List.mem_cons.mp (I.stkSub _ z) with e | e
    · rw [e] at hg; exact absurd I.lt (Nat.not_lt.mpr hg)
    · exact I.nofs hg e
  refine PySem.W.kla_eval hdef ?_
  rcases hc : codeAmong pos ps.toList with _ | cv
  · -- no code object stands there yet
    refine PySem.W.kla_makeFunction (mg := X.mg) (c := c) (P := P) (ps := ps) (closure_ok hfree) I.ok.glob (I.mod.glob.keeps I.bk) hcode (TB.code.keeps I.bk) atP tOk hc TB.gP bltP fun c' ctv h' tk keepH big lt rec_ tabH => ?_
    obtain ⟨c2, oc, vs, t, e2, cGet, cDat, cNam⟩ := rec_
    cases e2
    have grown : s.heap.objs.size ≤ h'.objs.size := Nat.le_trans big (Nat.le_of_lt lt)
    have cNew : H c' = none := I.hok.fresh big
    have cP : P ≠ c' := ne_of_none tP cNew
    have J := inv_table (t' := tk) (more := #[rawInt pos.line, rawInt pos.col, .ref c']) (h' := h'.push (PySem.W.kla_obj "<lambda>" (X.env.qual ++ "<lambda>") params body scope (cloFrom X.env.cells scope.names []) ((X.mg "__name__").getD .none) c' ctv)) I tP
      (fun b o hb e => Heap.get?_push_of_some _ (keepH b o hb e)) (Heap.get?_push_of_some _ tabH) big ⟨oc, vs, t, Heap.get?_push_of_some _ cGet, cDat, cNam⟩
    -- what is told of the places now
    obtain ⟨H1, eH1⟩ : ∃ H1, H1 = upd (upd H P (.tbl (ps ++ #[rawInt pos.line, rawInt pos.col, .ref c']))) c' (CodeO c' (X.env.qual ++ "<lambda>")) := ⟨_, rfl⟩
    rw [← eH1] at J
    have nowC : H1 c' = some (CodeO c' (X.env.qual ++ "<lambda>")) := by rw [eH1]; exact upd_same
    have nowP : H1 P = some (.tbl (ps ++ #[rawInt pos.line, rawInt pos.col, .ref c'])) := by rw [eH1, upd_ne cP]; exact upd_same
    have nowO : ∀ b, b ≠ P → b ≠ c' → H1 b = H b := fun b h1 h2 => by rw [eH1, upd_ne h2, upd_ne h1]
    have ex : ExtN H H1 := fun b o e n => by
      rw [nowO b (fun z => by rw [z, tP] at e; exact n ps (Option.some.inj e).symm) (ne_of_none e cNew)]; exact e
    have so : ∀ b, H b ≠ none → H1 b ≠ none := fun b hb => by
      by_cases z : b = P
      · rw [z, nowP]; exact fun z => nomatch z
      · rw [nowO b z fun e => hb (by rw [e]; exact cNew)]; exact hb
    have app : (ps ++ #[rawInt pos.line, rawInt pos.col, .ref c']).toList = ps.toList ++ [rawInt pos.line, rawInt pos.col, .ref c'] := by simp
    have tabs : Tabs T H1 := by
      intro p hp
      by_cases hb : p.1 = P
      · rw [hu p hp hb, hb]
        refine ⟨_, nowP, by rw [app]; exact PySem.TriplesOk_snoc _ _ _ _ tOk, fun p' cv hcv => ?_⟩
        rw [app] at hcv
        rcases among_app _ tOk hcv with z | z
        · obtain ⟨c0, e1, e2⟩ := tAll p' cv z; exact ⟨c0, e1, ex _ _ e2 codeO_ne⟩
        · exact ⟨c', z, nowC⟩
      · obtain ⟨ps', a1, a2, a3⟩ := hT p hp
        refine ⟨ps', by rw [nowO _ hb (ne_of_none a1 cNew)]; exact a1, a2, fun p' cv hcv => ?_⟩
        obtain ⟨c0, e1, e2⟩ := a3 p' cv hcv
        exact ⟨c0, e1, ex _ _ e2 codeO_ne⟩
    have fNew : H1 h'.objs.size = none := by
      rw [nowO _ (Nat.ne_of_gt (Nat.lt_of_lt_of_le (Heap.lt_size atP) grown)) (Nat.ne_of_gt lt)]
      exact I.hok.fresh grown
    exact h h'.objs.size c' ((X.mg "__name__").getD .none) ctv H1 _ ⟨J, ex, so, tabs, Heap.get?_push_size _ rfl, fNew, offr _ grown, nowC⟩
  · -- it is found
    obtain ⟨c', rfl, hco⟩ := tAll pos cv hc
    refine PySem.W.kla_makeFunctionHit (mg := X.mg) (c := c) (P := P) (ps := ps) (closure_ok hfree) I.ok.glob (I.mod.glob.keeps I.bk) hcode (TB.code.keeps I.bk) atP tOk hc bltP fun ctv h' tk keepH grown => ?_
    exact h h'.objs.size c' ((X.mg "__name__").getD .none) ctv H _ ⟨I.kept (t' := tk) fun b o e => Heap.get?_push_of_some _ (keepH b o e), ExtN.refl H, fun _ z => z, hT, Heap.get?_push_size _ rfl, I.hok.fresh grown, offr _ grown, hco⟩
/-- what the told one's frame is -/
abbrev tCx (X : Cx) (Ng : List Str) (qg : Str) (sg : Scope) (g : Addr) (cdg : Value) (s : Shared) (H : Hp) : Cx := cxOf CX0 X.prog X.w X.K X.mg X.base Ng qg sg g cdg X.A X.stack s H fun _ _ _ => False
/-- ask(), ask the lambda f of the def whose frame X is -/
theorem pe_ask {Ng : List Str} {qg : Str} {sg : Scope} {g f c' : Addr} {cdg pm ctv : Value} {params : Arguments} {body : Expr} {scope : Scope} {k i : Nat} {a : Str} {pn : List (Addr × Obj)} {xe : Value → Shared → Prop} {W : WX} {tb : XK → TE} {p1 p2 : Pos}
    (I : L2.Inv X pins σ H s) (L : LamS X.env.scope scope) (hf : s.heap.get? f = some (PySem.W.kla_obj "<lambda>" (X.env.qual ++ "<lambda>") params body scope (cloFrom X.env.cells scope.names []) pm c' ctv)) (hfn : H f = none) (hfr : f ∉ frs X.stack)
    (hbind : bindArgs (PySem.W.kla_fn "<lambda>" (X.env.qual ++ "<lambda>") params body scope (cloFrom X.env.cells scope.names []) pm (.ref c') ctv) ⟨[], []⟩ = pure [])
    (tk : Takes ((tCx X Ng qg sg g cdg s H).tr pn xe) W) (hr : Room (k + 1) (X.A.deeper (envOfC qg sg s.heap.objs.size g cdg))) (hgu : X.A.guards = some [])
    (hbody : ∀ (A : Around) (outer : List PySem.Env) (s : Shared) (H : Hp) (E : XK), Room k (A.deeper (lamEnv X scope s.heap.objs.size f c')) → A.guards = some [] → PE (lamCx X A outer s H E scope f c') body (tb E))
    (hN : Ng[i]? = some a) (hv : Vis sg a) (hd : (a == ("__debug__" : Str)) = false) (hcd : (a == ("__classdict__" : Str)) = false) :
    PE ((tCx X Ng qg sg g cdg s H).tr pn xe) (.Call (.Name a p1) [] [] p2)
      (fun σZ HZ Q => ∃ E : XK, (∀ cls d H', E cls d H' → W cls d σZ H') ∧ σZ[i]? = some (some (.ref f)) ∧ HZ c' = some (CodeO c' (X.env.qual ++ "<lambda>")) ∧ tb E σ HZ Q) := by
  refine ⟨fun pinsZ sZ σZ HZ Q IZ ⟨E, hW, hs, hc, ht⟩ => ?_⟩
  refine wpAny_Call_Name_kw (thn ((pe_var (pos := p1) (i := i) hN hv hd hcd).run pinsZ sZ σZ HZ (fun v H1 => v = .ref f ∧ H1 = HZ) IZ ⟨.ref f, hs, rfl, rfl⟩) fun u s1 hu => ?_)
  obtain ⟨v, H1, I1, ru, rfl, rfl⟩ := hu
  obtain rfl : u = Value.ref f := ru
  have fAt : s1.heap.get? f = some (PySem.W.kla_obj "<lambda>" (X.env.qual ++ "<lambda>") params body scope (cloFrom X.env.cells scope.names []) pm c' ctv) := I1.base.keep f _ hf hfn hfr fun z => nomatch (show f ∈ ([] : List Addr) from z)
  have since : Un (frs X.stack) [] H H1 s.heap s1.heap := I1.base
  obtain ⟨⟨oc, vs, t, cGet, cDat, cNam⟩, _, _⟩ := I1.hok c' _ hc
  refine PySem.W.callWith_F0 ⟨_, _, _, _, fAt⟩ (wpAny_call (codeAny_mono (R := CR (L2.CX X.prog X.w) (envOfC qg sg s.heap.objs.size g cdg :: X.stack) X.prog X.w H1 s1 Q E) ?_ fun r s' hq => ?_))
  · refine PySem.W.kla_callFunE hr.depth fAt rfl L.co L.gen rfl ⟨c', oc, vs, t, rfl, cGet, cDat, cNam⟩ ?_
    show wpAny _ _ (bindArgs _ ⟨[], []⟩) _ _ _
    rw [hbind]
    refine wpAny_pure (wpAny_newFunctionEnv (fun y hy => (L.own y hy).2) (fun y hy => absurd hy (by simp)) (fun h₁ ns bare => ⟨I1.nolimit.fresh _ bare, ?_⟩) L.kind)
    show codeAny _ _ (.expr body (lamEnv X scope s1.heap.objs.size f c')) _ _
    have kept : ∀ b o, s1.heap.get? b = some o → h₁.get? b = some o := fun b o e => bare.extBut b o (Nat.ne_of_lt (Heap.lt_size e)) (Heap.get?_push_of_some _ e)
    have J : L2.Inv (lamCx X (X.A.deeper (envOfC qg sg s.heap.objs.size g cdg)) (envOfC qg sg s.heap.objs.size g cdg :: X.stack) s1 H1 E scope f c') [] σ H1 { s1 with heap := h₁, toks := s1.toks + ([] : List (Str × Value)).length } :=
      lam_start2 I L I1.env0 hr.hd since ns kept
    refine PySem.W.kla_codeExpr (wpAny_mono ((hbody _ _ s1 H1 E (hr.deeper _) hgu).run [] _ _ H1 Q J ht) (fun v s' ⟨w', H', J', rv, q⟩ => ⟨w', H', J'.os, J'.bare, J'.base, J'.hok, rv, q⟩) fun e s' hq => hq)
  · cases r with
    | error e => exact tk e s' (XE.of_call I1 hW hq)
    | ok fl =>
      cases fl with
      | ret u => exact I1.after hq
      | next => exact False.elim hq
      | brk => exact False.elim hq
      | cont => exact False.elim hq
end
end PVE
end

section
set_option Elab.async false
set_option linter.all false
set_option autoImplicit false
set_option maxRecDepth 100000
set_option maxHeartbeats 2000000
/-! a def that tells of the error of what it asks -/
namespace PV
open PySem PySem.Spec PyProof.Rows L2
variable [Tbs] [Exs]
/-- what is wanted of an error -/
def TellE (K : PySem.W.Frag) (cs : List Nat) (is : Nat → Cl → Bool) (b : Tb) (Q : VK) : XK := fun cls d H' => ∃ c fs dx vs S x, c ∈ cs ∧ cls = .ref (Exs.cls c) ∧ d = some dx ∧ H' dx = some (.xd ((Exs.fld c).zip vs)) ∧ (∀ a, S a → nt H' a) ∧ RpSs K H' S fs vs ∧ b.ev is (some (c, fs)) = some x ∧ ∀ a o, H' a = none → (∀ ps, o ≠ .tbl ps) → Q (.str x) (upd H' a o)
/-- what is told: tl is the reading of what is asked -/
def TTell (K : PySem.W.Frag) (cs : List Nat) (is : Nat → Cl → Bool) (b : Tb) (tl : XK → Hp → VK → Prop) (H : Hp) (Q : VK) : Prop :=
  tl (TellE K cs is b Q) H
    fun _ H' => ∃ x, b.ev is none = some x ∧ Q (.str x) H'
section
variable {Z : Cx} {cs : List Nat} {is : Nat → Cl → Bool} {i j kk j1 : Nat} {b : Tb} {arg err e : Str} {es : List Expr} {vals : List Value} {sts : List Stmt} {f c' : Addr} {q : Str} {tl : XK → Hp → VK → Prop} {p1 p2 p3 p4 p5 p6 p7 p8 p9 pa pb pc : Pos}
theorem told_s (T : ErC Z.K cs) (mt : ∀ c ∈ cs, PVE.Mt Z.K (.ref (Exs.cls c)) vals) (hst : Z.stack = Z.env :: Z.outer) (hf : Z.env.frame = some Z.env.locals) (hex : Z.ex = []) (hN : Z.N.Nodup)
    (ask : ∀ (W : WX) (pn : List (Addr × Obj)) (xe : Value → Shared → Prop), Takes (Z.tr pn xe) W → PE (Z.tr pn xe) (.Call (.Name arg p1) [] [] p2) (fun σZ HZ Q => ∃ E : XK, (∀ cls d H', E cls d H' → W cls d σZ H') ∧ σZ[0]? = some (some (.ref f)) ∧ HZ c' = some (LamX.CodeO c' q) ∧ tl E HZ Q))
    (mono : ∀ (E : XK) (H : Hp) (Q Q' : VK), (∀ v H', Q v H' → Q' v H') → tl E H Q → tl E H Q') (rest : PTb Z cs is j b sts) (hc : ∀ a pn, PVE.NmT (Z.suite a pn) es vals) (hcl : es.length ≤ sizeLine) (hj : Z.N[j]? = some err := by rfl) (hi : Z.N[i]? = some e := by rfl) (hji : j ≠ i := by decide) (h0 : j ≠ 0 := by decide)
    (hlj : Z.env.kindOf err = some .local := by rfl) (hln : Z.env.kindOf e = some .local := by rfl) (hde : (e == ("__debug__" : Str)) = false := by decide) (hce : (e == ("__classdict__" : Str)) = false := by decide)
    (hs1 : swapsWith (.Constant .none j1 p3) (some (.Name err p4)) p5.line Z.env = pure false := by rfl) (hs2 : ∀ pn xe, swapsWith (.Call (.Name arg p1) [] [] p2) none p6.line (Z.tr pn xe).env = pure false := by intro _ _; rfl) (hs3 : ∀ a pn, swapsWith (.Name e p7) (some (.Name err p8)) p9.line (Z.suite a pn).env = pure false := by intro _ _; rfl) :
    PSs Z (.Assign [.Name err p4] (.Constant .none j1 p3) p5 :: .Try [.Expr (.Call (.Name arg p1) [] [] p2) p6] [.ExceptHandler (some (.Tuple es kk pa)) (some e) [.Assign [.Name err p8] (.Name e p7) p9] pb] [] [] pc :: sts)
      (fun D σ H => σ.length = Z.N.length ∧ σ[0]? = some (some (.ref f)) ∧ H c' = some (LamX.CodeO c' q) ∧ TTell Z.K cs is b tl H D.rt) := by
  have jl : j < Z.N.length := (List.getElem?_eq_some_iff.mp hj).1
  have il : i < Z.N.length := (List.getElem?_eq_some_iff.mp hi).1
  refine ⟨fun pins s σ H D I h => ?_⟩
  refine (pss_cons (ps_set (i := j) hN hj (Or.inl hlj) pe_non hs1 (Or.inr hlj)) (pss_cons (PVE.ps_tryK (i := i) (cs := vals)
    (tb := fun W D σ H => σ.length = Z.N.length ∧ ∃ E : XK, (∀ cls d H', E cls d H' → W cls d σ H') ∧ σ[0]? = some (some (.ref f)) ∧ H c' = some (LamX.CodeO c' q) ∧ tl E H fun _ H' => D.nx σ H')
    (ts := fun a cls d => tAsg (tVar i) (gName j)) hst hf hex hN hi hln hc hcl (fun W pn xe tk _ => ?_) (fun a oe cls d pn _ _ => pss_one (ps_set (i := j) hN hj (Or.inl hlj) (pe_var (i := i) hi (Or.inl hln) hde hce) (hs3 a _) (Or.inr hlj)))) rest)).run pins s σ H D I ?_
  · refine pss_one ⟨fun pins s σ H D I ⟨hl, E, h1, h2, h3, h4⟩ => ?_⟩
    exact (ps_expr (ask W pn xe tk) (hs2 pn xe)).run pins s σ H D I ⟨E, h1, h2, h3, h4⟩
  · obtain ⟨hl, h0', hco, tt⟩ := h
    refine ⟨by simpa using hl, TellE Z.K cs is b D.rt, ?_, ?_, hco, mono _ _ _ _ ?_ tt⟩
    · rintro cls d H' ⟨c, fs, dx, vs, S, x, h1, rfl, rfl, h4, h5, h6, h7, h8⟩
      refine ⟨mt c h1, fun a na => ⟨.ref a, by rw [List.getElem?_set_self (by simpa [hl] using il)], fun na2 => ⟨some (c, fs), ⟨a, dx, vs, S, ?_, upd_same, ?_, ?_, h1⟩, x, h7, h8 a _ na fun ps z => ?_⟩⟩⟩
      · rw [List.getElem?_set_ne (Ne.symm hji), List.getElem?_set_self (by simpa [hl] using jl)]
      · rw [upd_ne (ne_of_none h4 na)]; exact h4
      · exact RpSs.stay (tups_upd na) (fun b hb => upd_new na (h5 b hb)) (fun _ z => z) h6
      · unfold PVE.ErrO at z; cases z
    · rw [List.getElem?_set_ne h0]; exact h0'
    · rintro v H' ⟨x, hx, hq⟩
      exact ⟨none, by show _ = _; rw [List.getElem?_set_self (by simpa [hl] using jl)], x, hx, hq⟩
end
end PV
end

section
set_option Elab.async false
set_option linter.all false
set_option autoImplicit false
set_option maxRecDepth 100000
set_option maxHeartbeats 2000000
/-! told(lambda: f(..)), as an expression -/
namespace PV
open PySem PySem.Spec PyProof.Rows L2 LamX
variable [Tbs] [Exs]
/-- the telling def x at g -/
structure TldG (P : Program) (w : World) (K : PySem.W.Frag) (mg : Str → Option Value) (base : Heap) (x : Str) (st : Stmt) (g : Addr) (fdg : FuncData) (arg : Str) (Ng : List Str) (cs : List Nat) (is : Nat → Cl → Bool) (b : Tb) : Prop where
  fn : L2.Fun K x x st g fdg
  sc : FnScope Ng [arg] (defScope st)
  bd : L2.Binds K fdg [arg] []
  n0 : Ng[0]? = some arg
  vis : Vis (defScope st) arg
  hd : (arg == ("__debug__" : Str)) = false
  hcd : (arg == ("__classdict__" : Str)) = false
  run : ∀ (cdv : Value) (A : Around) (outer : List PySem.Env) (s : Shared) (H : Hp) (f c' : Addr) (q : Str) (tl : XK → Hp → VK → Prop), Room 1 (A.deeper (envOfC x (defScope st) s.heap.objs.size g cdv)) → A.guards = some [] →
    (∀ (E : XK) (H : Hp) (Q Q' : VK), (∀ v H', Q v H' → Q' v H') → tl E H Q → tl E H Q') →
    (∀ (W : WX) (pn : List (Addr × Obj)) (xe : Value → Shared → Prop) (p1 p2 : Pos), Takes ((cxOf CX0 P w K mg base Ng x (defScope st) g cdv A outer s H fun _ _ _ => False).tr pn xe) W →
      PE ((cxOf CX0 P w K mg base Ng x (defScope st) g cdv A outer s H fun _ _ _ => False).tr pn xe) (.Call (.Name arg p1) [] [] p2) (fun σZ HZ Q => ∃ E : XK, (∀ cls d H', E cls d H' → W cls d σZ H') ∧ σZ[0]? = some (some (.ref f)) ∧ HZ c' = some (CodeO c' q) ∧ tl E HZ Q)) →
    PSs (cxOf CX0 P w K mg base Ng x (defScope st) g cdv A outer s H fun _ _ _ => False) (defBody st) (fun D σ H => σ.length = Ng.length ∧ σ[0]? = some (some (.ref f)) ∧ H c' = some (CodeO c' q) ∧ TTell K cs is b tl H D.rt)
section
variable {X : Cx} {st : Stmt} {g c P : Addr} {fdg : FuncData} {x arg : Str} {Ng : List Str} {cs : List Nat} {is : Nat → Cl → Bool} {b : Tb} {params : Arguments} {body : Expr} {scope : Scope} {lpos p pos : Pos} {tb : XK → TE} {k : Nat}
theorem pe_tell (TG : TldG X.prog X.w X.K X.mg X.base x st g fdg arg Ng cs is b) (hg : Gl X x) (hm : X.mg x = some (.ref g)) (hk : PySem.W.keepIn X.K (.ref g) = true) (TB : TabB X.base X.mg c P) (hcode : X.env.code = .ref c) (hmT : (P, X.env.qual ++ "<lambda>") ∈ Tbs.T) (hu : ∀ p ∈ Tbs.T, p.1 = P → p.2 = X.env.qual ++ "<lambda>")
    (hr : Room (k + 2) X.A) (hgu : X.A.guards = some []) (L : LamS X.env.scope scope) (hdef : defaultsOf params X.env = ([], []))
    (hbind : ∀ (q : Str) (cl : List (Str × Addr)) (pm cv ctv : Value), bindArgs (PySem.W.kla_fn "<lambda>" q params body scope cl pm cv ctv) ⟨[], []⟩ = pure [])
    (hbody : ∀ (A : Around) (outer : List PySem.Env) (s : Shared) (H : Hp) (E : XK) (f c' : Addr), Room k (A.deeper (lamEnv X scope s.heap.objs.size f c')) → A.guards = some [] → PE (lamCx X A outer s H E scope f c') body (tb E))
    (mono : ∀ (E : XK) (σ : L2.St) (H : Hp) (Q Q' : VK), (∀ v H', Q v H' → Q' v H') → tb E σ H Q → tb E σ H Q') (hdb : (x == ("__debug__" : Str)) = false) :
    PE X (.Call (.Name x p) [.Lambda params body scope lpos] [] pos) (fun σ H Q => Tabs Tbs.T H ∧ ∀ H1, ExtN H H1 → (∀ b, H b ≠ none → H1 b ≠ none) → Tabs Tbs.T H1 → TTell X.K cs is b (fun E H' Q' => tb E σ H' Q') H1 Q) := by
  refine ⟨fun pins s σ H Q I ⟨hT, h⟩ => ?_⟩
  obtain ⟨oc, od, kV, doc, pm0, an, cdv, ct, osl, rfl, lk, hcg⟩ := TG.fn.ex
  refine wpAny_Call_Name_kw (ld_glob I hg hm ?_ hdb)
  refine PySem.W.callWith_K (h₀ := X.base) I.ok.mod.kin hk ?_ (by rfl) (by rfl)
  show wpAny _ _ (spliced ((false, eval (.Lambda params body scope lpos) X.env) :: backTo pos (starEach [] X.env))) _ _ s
  refine Calls.spliced_cons (PVE.lam_mk I TB hcode hmT hu hT hdef (L.has I.ok) fun f c' pm' ctv H1 s' M => Calls.spliced_nil ⟨M.inv.kIn, ?_⟩)
  have rc : codeAny (model X.prog X.w) X.A (.call (.ref g) ⟨[.ref f], []⟩) (L2.CR CX0 X.stack X.prog X.w H1 s' Q fun _ _ _ => False) s' := by
    refine run_ofS (N := Ng) (ps := [arg]) (us := [.ref f]) (vs := [.ref f]) lk hcg TG.sc hr M.inv.env0 (TG.bd s' [.ref f] M.inv.kIn rfl) (.cons rfl .nil) rfl fun hr' => ?_
    refine ⟨_, TG.run cdv X.A X.stack s' H1 f c' (X.env.qual ++ "<lambda>") (fun E H' Q' => tb E σ H' Q') (hr'.mono (by omega)) hgu (fun E H Q Q' => mono E σ H Q Q') (fun W pn xe p1 p2 tk => ?_), ?_, ?_, M.code, h H1 M.ext M.som M.tab⟩
    · exact PVE.pe_ask (tb := tb) (i := 0) M.inv L M.obj M.new M.nfr (hbind _ _ _ _ _) tk hr' hgu (fun A outer s H E hr2 hg2 => hbody A outer s H E f c' (hr2.mono (by omega)) hg2) TG.n0 TG.vis TG.hd TG.hcd
    · have z := List.getElem?_eq_some_iff.mp TG.n0
      obtain ⟨z, _⟩ := z
      simp [L2.start]; omega
    · rfl
  refine wpAny_call (codeAny_mono rc fun r s2 hq => ?_)
  cases r with
  | error e => exact (show False from hq).elim
  | ok fl =>
    cases fl with
    | ret u => exact M.inv.after hq
    | next => exact False.elim hq
    | brk => exact False.elim hq
    | cont => exact False.elim hq
end
section
variable {K : PySem.W.Frag} {σ : L2.St} {H H1 H2 H' : Hp} {ρ ρ1 : PV.Env} {fp fp1 fp2 fs : Nat → List Addr} {R R1 R2 : Addr → Prop} {L : List Nat} {as : List Arg} {vs : List V}
theorem noIo_mem (nio : noIo as = true) {j : Nat} {a : Addr} (h : a ∈ fpC as fp2 fs j) : a ∈ fs j := by
  rcases mem_fpC h with ⟨b, i, e1, k1, _⟩ | ⟨_, _, _, q⟩
  · have := List.all_eq_true.mp nio b (List.mem_of_getElem? e1)
    rcases k1 with k1 | ⟨k1, _⟩ <;> (rw [k1] at this; cases this)
  · exact q
/-- a call that got nothing to be changed: the slots stay -/
theorem Gd.tld (g : Gd K σ H2 ρ1 fp2 R2) (A : HoldA K L σ H2 ρ1 fp2 R2 as vs fs) (nio : noIo as = true) (f : Frm H2 (fpC as fp2 fs) H') : Gd K σ H' ρ1 fp2 R2 := by
  have kf : ∀ i a, a ∈ fp2 i → H' a = H2 a := fun i a h => f.keep a (g.tr i a h) fun j z => A.sl j i a (noIo_mem nio z) h
  have kR : ∀ a, R2 a → H' a = H2 a := fun a h => f.keep a (g.tR a h) fun j z => A.dR j a (noIo_mem nio z) h
  exact ⟨g.len, fun i c e => let ⟨v, h1, h2⟩ := g.cell i c e; ⟨v, h1, h2.stay f.tup kR (fun _ q => q) (kf i)⟩, g.non, g.nd, g.dj, g.dR, fun i a h => (g.tr i a h).eq (kf i a h), fun a h => (g.tR a h).eq (kR a h), f.tb⟩
theorem Mv.tld (v : Mv L H fp R H2 fp2 R2) (n : ∀ j, New L H fp (fs j)) (nio : noIo as = true) (f : Frm H2 (fpC as fp2 fs) H') : Mv L H fp R H' fp2 R2 where
  keep := fun a na h => (f.keep a (v.sn a na) fun j z => (n j a (noIo_mem nio z)).elim na.so fun ⟨i, hi, q⟩ => h i hi q).trans (v.keep a na h)
  tup := v.tup.trans f.tup
  lock := v.lock
  reg := v.reg
  nf := v.nf
  nR := v.nR
  som := fun a h => f.som a (v.som a h)
  sn := fun a h => f.sn a (v.sn a h)
theorem ext_keep (e : ExtN H H1) {a : Addr} (n : nt H a) : H1 a = H a := by
  cases h : H a with
  | none => exact (n.so h).elim
  | some o => exact e a o h fun ps z => n.tb ps (by rw [h, z])
theorem ext_tup (e : ExtN H H1) : TupS H H1 := fun a xs h => e a _ h fun _ z => by cases z
end
theorem cx_qual {P : Program} {w : World} {K : PySem.W.Frag} {mg : Str → Option Value} {base : Heap} {N : List Str} {qual : Str} {sc : Scope} {f : Addr} {cd : Value} {A : Around} {outer : List PySem.Env} {s : Shared} {H : Hp} {E : XK} : (cxOf CX0 P w K mg base N qual sc f cd A outer s H E).nox.env.qual = qual ++ ".<locals>." := rfl
section
variable {X : Cx} {C : Ctx} {es : Ex} {ea : Expr} {eas : List Expr} {st : Stmt} {g c P fa : Addr} {fdg fd : FuncData} {x fn arg q0 : Str} {Ng ps : List Str} {cs : List Nat} {is : Nat → Cl → Bool} {b : Tb} {t : Tel} {params : Arguments} {scope : Scope} {lpos p p2 cpos pos : Pos} {k fi : Nat}
theorem sv_tld (TG : TldG X.prog X.w X.K X.mg X.base x st g fdg arg Ng cs is b) (ht0 : b.ev is none = some t.non) (ht : ∀ c fs x, t.ans c fs = some x → c ∈ cs ∧ b.ev is (some (c, fs)) = some x)
    (F : PVX.FnX X.prog X.w X.K X.mg X.base k fa fd ps (spX X.K (C.call fi))) (TB : TabB X.base X.mg c P) (hcode : X.env.code = .ref c) (hq : X.env.qual = q0) (hmT : (P, q0 ++ "<lambda>") ∈ Tbs.T) (hu : ∀ p ∈ Tbs.T, p.1 = P → p.2 = q0 ++ "<lambda>")
    (hr : Room (k + 2) X.A) (hgu : X.A.guards = some []) (hb : L2.Binds X.K fd ps [])
    (ha : ∀ (A : Around) (outer : List PySem.Env) (s : Shared) (H : Hp) (E : XK) (f c' : Addr), Room k (A.deeper (lamEnv X scope s.heap.objs.size f c')) → A.guards = some [] → PAa (lamCx X A outer s H E scope f c') C es (ea :: eas))
    (L : LamS X.env.scope scope) (hg : Gl X x := by rfl) (hm : X.mg x = some (.ref g) := by rfl) (hk : PySem.W.keepIn X.K (.ref g) = true := by rfl) (hdb : (x == ("__debug__" : Str)) = false := by decide) (hmf : X.mg fn = some (.ref fa) := by rfl) (hkf : PySem.W.keepIn X.K (.ref fa) = true := by rfl) (hdf : (fn == ("__debug__" : Str)) = false := by decide)
    (hgf : ∀ (A : Around) (outer : List PySem.Env) (s : Shared) (H : Hp) (E : XK) (f c' : Addr), Gl (lamCx X A outer s H E scope f c') fn := by intros; rfl)
    (he : ∀ (A : Around) (outer : List PySem.Env) (s : Shared) (H : Hp) (E : XK) (f c' : Addr), starEach (ea :: eas) (lamCx X A outer s H E scope f c').env = (false, eval ea (lamCx X A outer s H E scope f c').env) :: starEach eas (lamCx X A outer s H E scope f c').env := by intros; rfl)
    (hpl : ∀ (A : Around) (outer : List PySem.Env) (s : Shared) (H : Hp) (E : XK) (f c' : Addr), (backTo cpos (starEach eas (lamCx X A outer s H E scope f c').env)).any (·.1) = false := by intros; rfl)
    (hdef : defaultsOf params X.env = ([], []) := by rfl)
    (hbind : ∀ (q : Str) (cl : List (Str × Addr)) (pm cv ctv : Value), bindArgs (PySem.W.kla_fn "<lambda>" q params (.Call (.Name fn p2) (ea :: eas) [] cpos) scope cl pm cv ctv) ⟨[], []⟩ = pure [] := by intros; rfl) :
    PEv X C (.tld t fi es) (.Call (.Name x p) [.Lambda params (.Call (.Name fn p2) (ea :: eas) [] cpos) scope lpos] [] pos) := by
  subst hq
  refine peI (pe_tell (tb := fun E σ H Q => tea X.K C es σ H fun vs H1 => spX X.K (C.call fi) vs H1 Q E) TG hg hm hk TB hcode hmT hu hr hgu L hdef hbind (fun A outer s H E f c' hr2 hg2 => PVX.pe_callX F hr2 hg2 (takes_of rfl rfl rfl rfl) (hgf A outer s H E f c') hmf hkf hb (ha A outer s H E f c' hr2 hg2) hdf (he A outer s H E f c') (hpl A outer s H E f c')) (fun E σ H Q Q' hq h => ?_) hdb) fun σ H Q ⟨L', ρ, fp, R, g, m, d, ρ', e, q⟩ => ?_
  · refine tea.mono h fun l H1 ⟨args, fp, R, g, z⟩ => ⟨args, fp, R, g, z.imp (fun ⟨m, d, ios, e, z⟩ => ⟨m, d, ios, e, fun v H' fp' R' f a1 a2 a3 a4 => hq v H' (z v H' fp' R' f a1 a2 a3 a4)⟩) id⟩
  · refine ⟨g.tb, fun H1 ex so tb1 => ?_⟩
    obtain ⟨as, ρ1, h1, h2⟩ := bind_ok e
    have g1 : Gd X.K σ H1 ρ fp R := g.stay (ext_tup ex) (fun a n => ext_keep ex n) tb1
    have v1 : Mv L' H fp R H1 fp R := ⟨fun a n _ => ext_keep ex n, ext_tup ex, fun _ _ _ h => .inl h, fun _ h => h, fun i a h => .inr ⟨i, h⟩, fun _ h => .inl h, so, fun a n => n.eq (ext_keep ex n)⟩
    refine ⟨L', ρ, fp, R, g1, as, ρ1, h1, fun vs H2 fp2 R2 fs g2 v2 A2 n2 => ?_⟩
    unfold doTld at h2
    split at h2
    case isFalse => cases h2
    rename_i hc
    obtain ⟨ok, nio⟩ := Bool.and_eq_true_iff.mp hc
    have n0 : ∀ j, New L' H fp (fs j) := fun j => (n2 j).back g1 v1
    have v0 := v1.trans g1 v2
    split at h2
    · rename_i m0 d0 ios hcl
      cases h2
      refine ⟨_, _, _, call_in g2 A2 ok, .inl ⟨m0, d0, ios, hcl, fun v H' fp' R' f g' mv o n' => ⟨_, ht0, ?_⟩⟩⟩
      have fr := mv.frm g'
      exact q (.str t.non) H' fp2 R2 [] (g2.tld A2 nio fr) (v0.tld n0 nio fr) .ofS .nil
    · rename_i c0 fs0 hcl
      split at h2
      · rename_i z hz
        cases h2
        obtain ⟨hcs, hev⟩ := ht _ _ _ hz
        refine ⟨_, _, _, call_in g2 A2 ok, .inr ⟨c0, fs0, hcl, fun H' dx us S fr hx sn rp => ⟨c0, fs0, dx, us, S, z, hcs, rfl, rfl, hx, sn, rp, hev, fun a o na no => ?_⟩⟩⟩
        have gt := g2.tld A2 nio fr
        exact q (.str z) (upd H' a o) fp2 R2 [] (gt.laid na) ((v0.tld n0 nio fr).trans gt (.laid na)) .ofS .nil
      · cases h2
    · cases h2
end
end PV
end

section
set_option Elab.async false
set_option linter.all false
set_option autoImplicit false
set_option maxRecDepth 100000
set_option maxHeartbeats 2000000
/-! the end, with tables of code objects -/
namespace PV
open PySem PySem.Spec PyProof.Rows L2 LamX
section
variable {P : Program} {w : World} {K : PySem.W.Frag} {mg mb : Str → Option Value} {n li rm : Nat} {fa a : Addr} {fd : FuncData} {x : Str} {s₁ : Shared} {vs : List Value} {ns : List Int} {defs : List Def} {globs : List D} {ww : Nat} {cs : List (Addr × Addr)}
theorem lawT [Tbs] (hTT : ∀ p ∈ Tbs.T, p.1 ∈ cs.map (·.2)) (hT : ∀ p ∈ cs, s₁.heap.get? p.2 = some { cls := .none, data := .fields #[] }) (nT : ∀ p ∈ cs, K.lookup p.2 = none) (hC : ∀ p ∈ cs, PySem.W.CodeHd s₁.heap p.1 p.2)
    (hbm : ∃ (bm : Addr) (ob : Obj), mg "__builtins__" = some (.ref bm) ∧ bm ≠ builtinsNs ∧ s₁.heap.get? bm = some ob ∧ ob.cls = .type "module" ∧ ob.dict = some builtinsNs ∧ ob.data = .plain)
    (KX : K.In s₁.heap) (hns : s₁.heap.Ns mainGlobals mg) (hb : s₁.heap.Ns builtinsNs mb) (hbb : ∀ x : Str, x ≠ "__name__" → mb x = bootBuiltins x) (hlim : s₁.heap.NoLimit) (hg : s₁.gens = #[])
    (ha : s₁.heap.get? a = some { cls := .type "list", data := .seq vs.toArray }) (hi : IntsAre vs ns) (hl : ns.length ≤ sizeLine) (hr : Room rm callerA)
    (F : ∀ base : Heap, K.In base → base.Ns mainGlobals mg → (∀ p ∈ cs, TabB base mg p.1 p.2) → PVX.FnG P w K mg base rm fa fd [x] (spD K (callD defs globs ww n li))) (hbind : ∀ (s : Shared) (u : Value), BindsTo s fd ⟨[u], []⟩ [(x, u)])
    (h : ∃ m ios, callD defs globs ww n li [(.shr, .list (ns.map .int))] = .ret m (.bool true) ios) :
    codeAny (model P w) callerA (.call (.ref fa) ⟨[.ref a], []⟩) (fun r s' => r = .ok (.ret (.bool true)) ∧ OldK s₁.heap s'.heap ∧ s'.os = s₁.os ∧ AllBare s'.gens) s₁ := by
  obtain ⟨m, ios, h⟩ := h
  have rv : Vals (ns.map V.int) vs := vals_ints hi
  have len := hi.length
  have isT : ∀ b, b ∈ cs.map (·.2) → s₁.heap.get? b = some { cls := .none, data := .fields #[] } := fun b hb => by
    obtain ⟨p, hp, rfl⟩ := List.mem_map.mp hb
    exact hT p hp
  have inT : ∀ p ∈ cs, p.2 ∈ cs.map (·.2) := fun p hp => List.mem_map.mpr ⟨p, hp, rfl⟩
  have aT : a ∉ cs.map (·.2) := fun z => by
    have q := (isT a z).symm.trans ha
    cases (show Data.fields #[] = Data.seq vs.toArray _ from congrArg Obj.data (Option.some.inj q))
  -- H tells of the tables, and of the script or not
  have core : ∀ H : Hp, (∀ p ∈ cs, H p.2 = some (.tbl #[])) → (∀ b u, H b = some u → (b = a ∧ u = .frz { cls := .type "list", data := .seq vs.toArray } (.lst (ns.map V.int))) ∨ (b ∈ cs.map (·.2) ∧ u = .tbl #[])) → SqL K H a (ns.map V.int) → (H a ≠ none → K.lookup a = none) →
      codeAny (model P w) callerA (.call (.ref fa) ⟨[.ref a], []⟩) (fun r s' => r = .ok (.ret (.bool true)) ∧ OldK s₁.heap s'.heap ∧ s'.os = s₁.os ∧ AllBare s'.gens) s₁ := by
    intro H hP hH hS hK
    have hok : HOk P w H s₁.heap := fun b u z => by
      rcases hH b u z with ⟨rfl, rfl⟩ | ⟨hb, rfl⟩
      · exact ⟨ha, by rw [List.length_map]; exact hl, vs, _, rv, ha⟩
      · exact isT b hb
    -- what is neither a list nor an empty table isn't told of
    have un : ∀ {b : Addr} {o : Obj}, s₁.heap.get? b = some o → (∀ xs k, o.data ≠ .seq xs k) → o.data ≠ .fields #[] → H b = none := fun {b o} e h1 h2 => Option.eq_none_iff_forall_ne_some.mpr fun u z => by
      rcases hH b u z with ⟨rfl, _⟩ | ⟨hb, _⟩
      · rw [ha] at e; cases e; exact h1 _ _ rfl
      · rw [isT b hb] at e; cases e; exact h2 rfl
    have ns' : ∀ {b : Addr} {m : Str → Option Value}, s₁.heap.Ns b m → (hidT s₁.heap H).Ns b m := fun {b m} ⟨o, es, ep, e, d, r⟩ => ⟨o, es, ep, hidT_get e (un e (fun _ _ z => by rw [d] at z; cases z) fun z => by rw [d] at z; cases z), d, r⟩
    have KB : K.In (hidT s₁.heap H) := fun b o e => hidT_get (KX b o e) (Option.eq_none_iff_forall_ne_some.mpr fun u z => by
      rcases hH b u z with ⟨rfl, _⟩ | ⟨hb, _⟩
      · rw [hK (by rw [z]; simp)] at e; cases e
      · obtain ⟨p, hp, rfl⟩ := List.mem_map.mp hb
        rw [nT p hp] at e; cases e)
    have TB : ∀ p ∈ cs, TabB (hidT s₁.heap H) mg p.1 p.2 := fun p hp => by
      refine ⟨?_, ?_, fun z => ?_⟩
      · obtain ⟨o, us, file, tf, flags, tg, inF, text, tt, e1, r1, r2, r3, r⟩ := hC p hp
        exact ⟨o, us, file, tf, flags, tg, inF, text, tt, hidT_get e1 (un e1 (fun _ _ z => by rw [r2] at z; cases z) fun z => by rw [r2] at z; cases z; simp at r3), r1, r2, r3, r⟩
      · obtain ⟨bm, ob, b1, b2, b3, b4, b5, b6⟩ := hbm
        refine ⟨bm, ob, b1, b2, fun q => ?_, fun q => ?_, hidT_get b3 (un b3 (fun _ _ z => by rw [b6] at z; cases z) fun z => by rw [b6] at z; cases z), b4, b5, b6⟩
        · obtain ⟨o, es, ep, e, hd, _⟩ := hns
          rw [q, e] at b3; cases b3
          rw [hd] at b6; cases b6
        · rw [q, hT p hp] at b3; cases b3; cases b6
      · obtain ⟨o, es, ep, e, hd, _⟩ := hns
        rw [z, hT p hp] at e; cases e; cases hd
    have tabs : Tabs Tbs.T H := fun p hp => .nil (by
      obtain ⟨q, hq, e⟩ := List.mem_map.mp (hTT p hp)
      rw [← e]; exact hP q hq)
    obtain ⟨ml, l1, l2⟩ := hlim
    have e0 : Env0 P w K mg (hidT s₁.heap H) callerA [] s₁ H := ⟨rfl, ⟨KB, ns' hns, ⟨mb, ns' hb, hbb⟩, ⟨ml, ns' l1, l2⟩⟩, fun b o e => of_hidT e, Nat.le_of_eq (hidT_size _ _), trivial, fun b z => (nomatch z), hok, .of_eq hg⟩
    refine codeAny_mono ((F _ KB (ns' hns) TB).run callerA [] s₁ H ⟨[.ref a], []⟩ [.ref a] [.ref a] _ (fun _ _ _ => False) hr rfl e0 (hbind s₁ (.ref a)) (.cons rfl .nil) (law_sp tabs hS h)) fun r s' hq => ?_
    match r, hq with
    | .ok (.ret u), ⟨v, H', h1, h2, U, hok', rr, q⟩ =>
      have q : v = .bl true := q
      subst q
      have rr : u = Value.bool true := rr
      subst rr
      have same : ∀ b o, b ∉ cs.map (·.2) → s₁.heap.get? b = some o → s'.heap.get? b = some o := fun b o nb e => by
        cases hb' : H b with
        | none => exact U.keep b o e hb' (fun z => by cases z) (by simp)
        | some u =>
          rcases hH b u hb' with ⟨rfl, rfl⟩ | ⟨hb, _⟩
          · obtain ⟨e2, _⟩ := hok' b _ (U.frzs b _ _ hb')
            rw [ha] at e; cases e
            exact e2
          · exact absurd hb nb
      have more : ∀ p ∈ cs, ∃ ms : Array Value, s'.heap.get? p.2 = some { cls := .none, data := .fields ms } := fun p hp => by
        obtain ⟨ms, z⟩ := U.tbls p.2 #[] (hP p hp)
        exact ⟨_, hok' p.2 _ z⟩
      refine ⟨rfl, ⟨fun b o e => ?_, fun b o e => ?_⟩, h1, h2⟩
      · by_cases nb : b ∈ cs.map (·.2)
        · obtain ⟨p, hp, rfl⟩ := List.mem_map.mp nb
          obtain ⟨ms, hm⟩ := more p hp
          rw [hT p hp] at e; cases e
          exact .inr (.inl ⟨((hC p hp).tab (hT p hp)).isCodeTable, rfl, #[], ms, rfl, by rw [Array.empty_append]; exact hm⟩)
        · exact .inl (same b o nb e)
      · by_cases nb : b ∈ cs.map (·.2)
        · obtain ⟨p, hp, rfl⟩ := List.mem_map.mp nb
          obtain ⟨ms, hm⟩ := more p hp
          exact ⟨_, hm⟩
        · exact ⟨o, same b o nb e⟩
  cases hk : K.lookup a with
  | some o =>
    have e := KX a o hk
    rw [ha] at e; cases e
    refine core (fun b => if b ∈ cs.map (·.2) then some (.tbl #[]) else none) (fun p hp => if_pos (inT p hp)) (fun b u z => ?_) (.inr ⟨_, vs.toArray, _, hk, rfl, rfl, rfl, by rw [List.size_toArray, len]; exact hl, by simpa using rv⟩) fun z => absurd (if_neg aT) z
    by_cases e : b ∈ cs.map (·.2)
    · rw [if_pos e] at z; cases z; exact .inr ⟨e, rfl⟩
    · rw [if_neg e] at z; cases z
  | none =>
    refine core (fun b => if b = a then some (.frz { cls := .type "list", data := .seq vs.toArray } (.lst (ns.map V.int))) else if b ∈ cs.map (·.2) then some (.tbl #[]) else none) (fun p hp => ?_) (fun b u z => ?_) (.inl (.inr ⟨_, if_pos rfl⟩)) fun _ => hk
    · have ne : ¬ p.2 = a := fun z => aT (z ▸ inT p hp)
      rw [if_neg ne, if_pos (inT p hp)]
    · by_cases e : b = a
      · rw [if_pos e] at z; cases z; exact .inl ⟨e, rfl⟩
      · rw [if_neg e] at z
        by_cases e2 : b ∈ cs.map (·.2)
        · rw [if_pos e2] at z; cases z; exact .inr ⟨e2, rfl⟩
        · rw [if_neg e2] at z; cases z
end
/-- what is known of the law at the top's end -/
def LawT (P : Program) (w : World) (K : PySem.W.Frag) (q : Program) (defs : List Def) (globs : List D) (ww n li rm : Nat) (x : Str) (mg : Str → Option Value) (fa : Addr) (h : Heap) : Prop :=
  ∃ (T : Tbs) (cs : List (Addr × Addr)) (fd : FuncData), (∀ p ∈ T.T, p.1 ∈ cs.map (·.2)) ∧ (∀ p ∈ cs, h.get? p.2 = some { cls := .none, data := .fields #[] }) ∧ (∀ p ∈ cs, K.lookup p.2 = none) ∧ (∀ p ∈ cs, PySem.W.CodeHd h p.1 p.2) ∧ (∀ (s : Shared) (u : Value), BindsTo s fd ⟨[u], []⟩ [(x, u)]) ∧
    ∀ base : Heap, K.In base → base.Ns mainGlobals mg → (∀ p ∈ cs, TabB base mg p.1 p.2) → PVX.FnG P w K mg base rm fa fd [x] (spD K (callD defs globs ww n li))
theorem walkT {l : PySem.W.OpenLaw} {n nm li ww rm : Nat} {q : Program} {loose : List Str} {XP : (Str → Option Value) → Heap → Prop} {YP : World → Heap → Prop} {d : DefRec} {K : Params → PySem.W.Frag} {x : Str} {defs : List Def} {globs : List D}
    (hn : l.most = some nm) (hn2 : nm ≤ sizeLine) (hdf : d.params.defaults = []) (hr : Room rm callerA) (hY : ∀ (w : World) (h : Heap), YP w h → (K w.params).In h)
    (F : ∀ (w : World) (mg : Str → Option Value) (fa : Addr) (h : Heap), (K w.params).In h → h.Ns mainGlobals mg → mg d.name = some (.ref fa) →
      (∀ (d : DefRec) (x : Str) (c P : Addr), (recsOf q).find? (fun e => e.name == x) = some d → PySem.W.tabIn (K w.params) x = some (c, P) → PySem.W.CodeHd h c P ∧ h.get? P = some (PySem.W.tabObj #[])) → LawT l.prog w (K w.params) q defs globs ww n li rm x mg fa h)
    (h : ∀ ns : List Int, ns.length ≤ nm → (∀ z ∈ ns, Builtin.Int.intBits z ≤ 1048576) → ∃ m ios, callD defs globs ww n li [(.shr, .list (ns.map .int))] = .ret m (.bool true) ios) :
    PySem.W.WalkO q loose XP YP l.row.toRowW d [] (fun f vs => PySem.call f vs) := by
  refine Att.attach_callB hn hdf fun w s₀ s₁ mg mb fa o pm cd doc a vs ns G Y ho hd hcd hmg hobj hints hlen hbits hg => ?_
  obtain ⟨T, cs, fd, h1, h2, h3, h4, hb, hF⟩ := F w mg fa _ (hY w _ Y) G.T.g hmg fun d x c P hr ht => PySem.W.tab_of G.T (hY w _ Y) hr ht
  exact @lawT _ _ _ _ _ _ _ _ _ _ _ _ _ _ _ _ _ _ _ T h1 h2 h3 h4 G.T.bmain (hY w _ Y) G.T.g G.T.b G.T.builtins G.T.nolimit hg hobj hints (Nat.le_trans hlen hn2) hr hF hb (h ns hlen hbits)
end PV
namespace PV
open PySem PySem.Spec PyProof.Rows L2
variable [Tbs]
section
variable {X : Cx} {C : Ctx} {pos : Pos}
/-- {} -/
theorem sv_dct0 : PEv X C (.dct .nil) (.Dict [] [] pos) := by
  refine peI pe_dnewK fun σ H Q ⟨L, ρ, fp, R, g, m, d, ρ', e, q⟩ => ?_
  cases e
  refine fun p hp => q _ _ fp R [p] (g.laid hp) (.laid hp) ⟨?_, .cons hp g .nil⟩ fun x hx => .inl (by rw [List.mem_singleton.mp hx]; exact hp)
  show RpO X.K (upd H p (.dK [])) (.dict []) (.ref p) [p]
  simp only [RpO, RpOk]
  exact ⟨p, _, [], [], rfl, upd_same, ⟨[], rfl, rfl, rfl, List.nodup_nil⟩, rfl, rfl, rfl⟩
end
end PV
end

section
set_option Elab.async false
set_option linter.all false
set_option autoImplicit false
set_option maxRecDepth 100000
/-! range of three; three names at once -/
namespace PV
open PySem PySem.Spec PyProof.Rows L2
variable [Tbs]
section
variable {K : PySem.W.Frag} {H : Hp} {fp : Nat → List Addr} {R : Addr → Prop}
theorem ItOk.rng3 {lo st : Int} {n : Nat} : ItOk K (Itc lo st n) (((List.range n).map fun (k : Nat) => PyData.int (lo + (k : Int) * st)).map fun x => (true, x)) [] H fp R where
  go := fun σ2 H2 ρ2 fp2 R2 g2 mv i w d h => by
    rw [List.getElem?_map, List.getElem?_map] at h
    obtain ⟨y, hy, e⟩ := Option.map_eq_some_iff.mp h
    obtain ⟨k, hk, e2⟩ := Option.map_eq_some_iff.mp hy
    cases e; cases e2
    obtain ⟨hlt, e3⟩ := List.getElem?_eq_some_iff.mp hk
    simp at hlt e3
    subst e3
    refine ⟨hlt, fun y H3 ⟨e1, e2⟩ => ?_⟩
    subst e1; subst e2
    exact ⟨g2, fun _ => .refl, by simp [ownK, RpK, RpO]⟩
  stop := fun σ2 H2 ρ2 fp2 R2 g2 mv i h => by
    rw [List.getElem?_map, List.getElem?_map, Option.map_eq_none_iff, Option.map_eq_none_iff] at h
    have := List.getElem?_eq_none_iff.mp h
    show n ≤ i
    simpa using this
end
section
variable {X : Cx} {C : Ctx} {a b c es : Ex} {ea eb ec tge : Expr} {pos p : Pos}
theorem si_rng3 (ha : PEv X C a ea) (hb : PEv X C b eb) (hc : PEv X C c ec) (hg : Gl X "range" := by rfl) (hm : X.mg "range" = none := by rfl) (hs : starEach [ea, eb, ec] X.env = (false, eval ea X.env) :: starEach [eb, ec] X.env := by rfl) (hs2 : starEach [eb, ec] X.env = (false, eval eb X.env) :: starEach [ec] X.env := by rfl) (hs3 : starEach [ec] X.env = (false, eval ec X.env) :: starEach [] X.env := by rfl) (hpl : (backTo pos (starEach [eb, ec] X.env)).any (·.1) = false := by rfl) :
    PIv X C tge (.rng3 a b c) (.Call (.Name "range" p) [ea, eb, ec] [] pos) := by
  refine piI (pi_range3 hg hm (pav_cons ha (pav_cons hb (pav_cons hc pav_nil hs3) hs2) hs) hs hpl) fun σ H Q ⟨L, ρ, fp, R, g, items, ls, ρ', e, q⟩ => ?_
  obtain ⟨⟨ma, da⟩, ρ1, h1, e⟩ := bind_ok e
  obtain ⟨⟨mb, db⟩, ρ2, h2, e⟩ := bind_ok e
  obtain ⟨⟨mc, dc⟩, ρ3, h3, e⟩ := bind_ok e
  have ev3 : evs C L (.cons a (.cons b (.cons c .nil))) ρ = .ok [(ma, da), (mb, db), (mc, dc)] ρ3 := by
    show (ev C L a ρ).bind _ = _
    rw [h1]
    show (PV.R.bind (PV.R.bind (ev C (lk ma ++ L) b ρ1) _) _) = _
    rw [h2]
    show (PV.R.bind (PV.R.bind (PV.R.bind (ev C (lk mb ++ (lk ma ++ L)) c ρ2) _) _) _) = _
    rw [h3]
    rfl
  dsimp only at e
  split at e
  · rename_i xs hx
    cases e
    unfold rngO3 at hx
    split at hx
    · rename_i lo hi st he
      split at hx
      · rename_i hcnd
        cases hx
        simp only [List.cons.injEq, and_true] at he
        obtain ⟨rfl, rfl, rfl⟩ := he
        simp only [Bool.and_eq_true, decide_eq_true_eq] at hcnd
        refine ⟨L, ρ, fp, R, g, _, ρ', ev3, fun vs H' fp' R' fs g' v' hl ho _ _ => ⟨lo, hi, st, (Builtin.Range.rangeSize lo hi st).toNat, ?_, ⟨hcnd.1.1.1, hcnd.1.1.2, hcnd.1.2, (Int.toNat_of_nonneg hcnd.2).symm⟩, q _ H' fp' R' g' v' .rng3⟩⟩
        obtain ⟨v1, e1, o1⟩ := ho 0 _ rfl
        obtain ⟨v2, e2, o2⟩ := ho 1 _ rfl
        obtain ⟨v3, e3, o3⟩ := ho 2 _ rfl
        match vs, hl with
        | [w1, w2, w3], _ =>
          cases e1; cases e2; cases e3
          rw [o1.int, o2.int, o3.int]
      · cases hx
    · cases hx
  · cases e
end
end PV
namespace PV
open PySem PySem.Spec PyProof.Rows L2
variable [Tbs]
def nmsT : List Nat → Tg
  | [] => .nil
  | i :: r => .cons (.nm i) (nmsT r)
def setsV : List Nat → List V → L2.St → L2.St
  | i :: r, v :: vs, σ => setsV r vs (σ.set i (some v))
  | _, _, σ => σ
/-- some names at once -/
theorem nms_ok {K : PySem.W.Frag} {T L : List Nat} {H : Hp} {R : Addr → Prop} {k : CK} (hk : k = .own ∨ k = .shr) {Q : L2.St → Hp → Prop} {ρ' : PV.Env} : ∀ {is : List Nat} {ds : List D} {vs : List V} {f : List Addr} {ρ : PV.Env} {fp : Nat → List Addr} {σ : L2.St},
    (∀ j ∈ tgT (nmsT is), j ∈ T) → Gd K σ H ρ fp R → RpKs K H R k ds vs f → Tmp H fp R f → asgTs L (nmsT is) k ds ρ = some ρ' → (∀ σ' fp', Gd K σ' H ρ' fp' R → SetF L f fp fp' → Keep T σ σ' → Q σ' H) → Q (setsV is vs σ) H
  | [], ds, vs, f, ρ, fp, σ, hT, g, rp, t, ha, q => by
    cases ds with
    | cons _ _ => cases ha
    | nil =>
      cases ha
      exact q σ fp g ⟨fun j a h => .inl h, fun j hj => rfl⟩ .refl
  | i :: r, ds, vs, f, ρ, fp, σ, hT, g, rp, t, ha, q => by
    cases ds with
    | nil => cases ha
    | cons d1 ds =>
      obtain ⟨ρa, ha1, ha2⟩ := Option.bind_eq_some_iff.mp ha
      have sp : ∃ v ws f1 f2, vs = v :: ws ∧ f = f1 ++ f2 ∧ RpK K H R k d1 v f1 ∧ RpKs K H R k ds ws f2 := by
        rcases hk with rfl | rfl
        · have rp : RpOs K H (d1 :: ds) vs f := rp
          simp only [RpOs] at rp
          obtain ⟨v, ws, f1, f2, e1, e2, r1, r2⟩ := rp
          exact ⟨v, ws, f1, f2, e1, e2, r1, r2⟩
        · have rp : RpSs K H R (d1 :: ds) vs ∧ f = [] := rp
          simp only [RpSs] at rp
          obtain ⟨⟨v, ws, e1, r1, r2⟩, e2⟩ := rp
          exact ⟨v, ws, [], [], e1, e2, ⟨r1, rfl⟩, ⟨r2, rfl⟩⟩
      obtain ⟨v, ws, f1, f2, rfl, rfl, r1, r2⟩ := sp
      have nd := List.nodup_append.mp t.nd
      have t1 : Tmp H fp R f1 := t.sub (fun a h => List.mem_append_left _ h) nd.1
      have t2 : Tmp H fp R f2 := t.sub (fun a h => List.mem_append_right _ h) nd.2.1
      refine nm_ok (K := K) (Q := fun σ2 H2 => Q (setsV r ws σ2) H2) ⟨T, L, ρ, fp, R, k, d1, f1, ρa, fun j hj => hT j (List.mem_append_left _ hj), g, hk.imp id .inr, r1, t1, ha1, fun σ1 fp1 g1 s1 k1 => ?_⟩
      refine nms_ok hk (fun j hj => hT j (List.mem_append_right _ hj)) g1 r2 ⟨t2.nd, fun i a ha hz => ?_, t2.dR, t2.tr⟩ ha2 fun σ2 fp2 g2 s2 k2 => q σ2 fp2 g2 (s1.trans s2) (k1.trans k2)
      rcases s1.sub i a hz with z | z
      · exact t2.dj i a ha z
      · exact nd.2.2 a z a ha rfl
section
variable {X : Cx} {C : Ctx} {es : Ex} {ea eb ec : Expr} {pos : Pos}
/-- a, b, c = x, y, z -/
theorem sv_par3 {i j l : Nat} {x y z : Str} {px py pz pt : Pos} {kt k2 pt2} (hc : X.calm = true) (hN : X.N.Nodup) (ha : PAd X C es [ea, eb, ec]) (hi : X.N[i]? = some x := by rfl) (hj : X.N[j]? = some y := by rfl) (hl : X.N[l]? = some z := by rfl) (hij : i ≠ j := by decide) (hil : i ≠ l := by decide) (hjl : j ≠ l := by decide)
    (hx : X.env.scope.names.lookup x = some .local := by rfl) (hy : X.env.scope.names.lookup y = some .local := by rfl) (hz : X.env.scope.names.lookup z = some .local := by rfl)
    (hw : swappedStores [.Tuple [.Name x px, .Name y py, .Name z pz] kt pt] (.Tuple [ea, eb, ec] k2 pt2) X.env = pure (some [x, y, z]) := by rfl)
    (hs : swapsWithSole [.Tuple [.Name x px, .Name y py, .Name z pz] kt pt] (.Tuple [ea, eb, ec] k2 pt2) pos.line X.env = pure false := by rfl) :
    PSv X C (.asg (.tp (.cons (.nm i) (.cons (.nm j) (.cons (.nm l) .nil)))) (.tup es)) (.Assign [.Tuple [.Name x px, .Name y py, .Name z pz] kt pt] (.Tuple [ea, eb, ec] k2 pt2) pos) := psI (ps_par3 hc hN hi hj hl hij hil hjl hx hy hz ha hw hs) fun D σ H ⟨T, L, ρ, fp, R, hT, g, fl, ρ', e, q⟩ => by
  obtain ⟨⟨m, d⟩, ρ1, e1, e2⟩ := bind_ok e
  obtain ⟨⟨w, ds⟩, ρ2, e3, e4⟩ := bind_ok e1
  refine ⟨L, ρ, fp, R, g, w, ds, ρ2, e3, fun vs H1 fp1 R1 f1 g1 v1 l1 n1 => ?_⟩
  dsimp only at e4 e2
  split at e4
  case isFalse => cases e4
  cases e4
  have key : ∀ {k : CK} {f0 : List Addr} {ρ' : PV.Env}, Aft X.K T L σ H fp R D .nx ρ' → (k = .own ∨ k = .shr) → (∃ R2, RpKs X.K H1 R2 k ds vs f0 ∧ Tmp H1 fp1 R2 f0 ∧ (∀ a ∈ f0, a ∈ f1) ∧ (∀ a, R1 a → R2 a) ∧ (∀ a, R2 a → R1 a ∨ a ∈ f1)) → asgTs L (nmsT [i, j, l]) k ds ρ1 = some ρ' → ∃ u v w, vs = [u, v, w] ∧ D.nx (((σ.set i (some u)).set j (some v)).set l (some w)) H1 := by
    intro k f0 ρ' q hk ⟨R2, rp, t2, sf, r1, r2⟩ ha
    have h1 := asgTs_len ha
    have h2 : ds.length = vs.length := l1.len
    have g2 : Gd X.K σ H1 ρ1 fp1 R2 := g1.grow (f := f1) r1 r2 l1.1
    have mv : Mv L H fp R H1 fp1 R2 := SubF.mv (f := f1) ⟨r1, fun a h => (r2 a h).imp id .inl, fun _ _ h => h, fun _ _ h => .inl h⟩ g1 v1 n1
    have go := nms_ok (is := [i, j, l]) (Q := D.nx) hk hT g2 rp t2 ha fun σ' fp' g' s' k' => q σ' H1 fp' R2 g' (s'.mv mv (n1.sub sf)) k'
    rw [h1] at h2
    match vs, h2, go with
    | [u, v, w], _, go => exact ⟨u, v, w, rfl, go⟩
  cases hi : im (.tuple ds) with
  | true =>
    have e2 : PV.R.of ((asgTs L (nmsT [i, j, l]) .own ds ρ1).map fun ρ3 => (Fl.nx, ρ3)) = .ok fl ρ' := by
      have hk : keep (PV.nrm (ownM w) (.tuple ds)) (.tuple ds) ρ1 = some (.own, ρ1) := by unfold keep PV.nrm; rw [if_pos hi]
      rw [hk] at e2; exact e2
    obtain ⟨ρ3, h3, e3⟩ := Option.map_eq_some_iff.mp (of_ok e2)
    cases e3
    exact key q (.inl rfl) ⟨R1, RpSs.own (by simpa [im] using hi) l1.weak, .nil, fun _ q => absurd q (by simp), fun _ q => q, fun _ => .inl⟩ h3
  | false =>
    cases w with
    | true =>
      have e2 : PV.R.of ((asgTs L (nmsT [i, j, l]) .own ds ρ1).map fun ρ3 => (Fl.nx, ρ3)) = .ok fl ρ' := by
        have hk : keep (PV.nrm (ownM true) (.tuple ds)) (.tuple ds) ρ1 = some (.own, ρ1) := by unfold keep PV.nrm ownM; simp [hi]
        rw [hk] at e2; exact e2
      obtain ⟨ρ3, h3, e3⟩ := Option.map_eq_some_iff.mp (of_ok e2)
      cases e3
      exact key q (.inl rfl) ⟨R1, l1.2, l1.1, fun _ q => q, fun _ q => q, fun _ => .inl⟩ h3
    | false =>
      have e2 : PV.R.of ((asgTs L (nmsT [i, j, l]) .shr ds ρ1).map fun ρ3 => (Fl.nx, ρ3)) = .ok fl ρ' := by
        have hk : keep (PV.nrm (ownM false) (.tuple ds)) (.tuple ds) ρ1 = some (.top, ρ1) := by unfold keep PV.nrm ownM; simp [hi]
        rw [hk] at e2; exact e2
      obtain ⟨ρ3, h3, e3⟩ := Option.map_eq_some_iff.mp (of_ok e2)
      cases e3
      exact key q (.inr rfl) ⟨fun x => R1 x ∨ x ∈ f1, ⟨l1.weak, rfl⟩, .nil, fun _ q => absurd q (by simp), fun _ => .inl, fun _ q => q⟩ h3
end
end PV
end

section
set_option Elab.async false
set_option linter.all false
set_option autoImplicit false
/-! what the end with tables asks -/
namespace PV
open PySem PySem.Spec PyProof.Rows L2
theorem tab_ex {K : PySem.W.Frag} {x : Str} {cd : Value} (h1 : (PySem.W.tabIn K x).map (fun p => Value.ref p.1) = some cd) (h2 : ((PySem.W.tabIn K x).all fun p => (K.lookup p.2).isNone) = true) : ∃ c P, PySem.W.tabIn K x = some (c, P) ∧ cd = .ref c ∧ K.lookup P = none := by
  cases e : PySem.W.tabIn K x with
  | none => rw [e] at h1; cases h1
  | some p =>
    rw [e] at h1 h2
    obtain ⟨c, P⟩ := p
    refine ⟨c, P, rfl, (Option.some.inj h1).symm, ?_⟩
    simpa [Option.all] using h2
theorem tab_ne {K : PySem.W.Frag} {x y : Str} {c P d Q : Addr} (h1 : PySem.W.tabIn K x = some (c, P)) (h2 : PySem.W.tabIn K y = some (d, Q)) (h : ((PySem.W.tabIn K x).map (·.2) == (PySem.W.tabIn K y).map (·.2)) = false) : P ≠ Q := fun z => by
  rw [h1, h2, z] at h
  simp at h
theorem tt_of {T : List (Addr × Str)} {cs : List (Addr × Addr)} (h : T.map (·.1) = cs.map (·.2)) : ∀ p ∈ T, p.1 ∈ cs.map (·.2) := fun p hp => h ▸ List.mem_map.mpr ⟨p, hp, rfl⟩
end PV
end

section
set_option Elab.async false
set_option linter.all false
set_option autoImplicit false
set_option maxRecDepth 100000
namespace K01
open PySem PV
/-- is_whole(thing) -/
def d0 : Def := ⟨1, 1, .cons (.ret (.and (.cons (.bi .isInt (.cons (.var 0) (.nil))) (.cons (.not (.tv (.bi .isBool (.cons (.var 0) (.nil))))) (.nil))))) (.nil)⟩
def b1_0 : St := .cons (.ite (.tv (.call 2 (.cons (.var 0) (.cons (.bin .add (.var 1) (.con (.int 1))) (.nil))))) (.cons (.never) (.nil)) (.nil)) (.nil)
def f1_0 : St := .for_ (.nm 1) (.rng (.cons (.bi .len (.cons (.var 0) (.nil))) (.nil))) (b1_0)
def b1_1 : St := .cons (.ite (.or (.cons (.not (.tv (.call 0 (.cons (.var 2) (.nil))))) (.cons (.not (.tv (.chain .le .le (.con (.int 1)) (.var 2) (.bi .len (.cons (.var 0) (.nil)))))) (.nil)))) (.cons (.never) (.nil)) (.nil)) (.nil)
def f1_1 : St := .for_ (.tp (.cons (.nm 1) (.cons (.nm 2) (.nil)))) (.enum (.var 0)) (b1_1)
/-- check_forest(forest, index, goal) -/
def d1 : Def := ⟨1, 3, .cons (.ite (.or (.cons (.not (.tv (.bi .isList (.cons (.var 0) (.nil))))) (.cons (.not (.tv (.chain .le .le (.con (.int 1)) (.bi .len (.cons (.var 0) (.nil))) (.glob 0)))) (.nil)))) (.cons (.never) (.nil)) (.nil)) (.cons (f1_1) (.cons (f1_0) (.nil)))⟩
def b2_0 : St := .cons (.ite (.tv (.cmp .eq (.var 2) (.var 1))) (.cons (.ret (.cmp .gt (.var 3) (.con (.int 0)))) (.nil)) (.nil)) (.cons (.asg (.nm 2) (.sub (.var 0) (.bin .sub (.var 2) (.con (.int 1))))) (.nil))
def f2_0 : St := .for_ (.nm 3) (.rng (.cons (.bi .len (.cons (.var 0) (.nil))) (.nil))) (b2_0)
/-- on_ring(forest, thing, here, turn) -/
def d2 : Def := ⟨2, 4, .cons (.asg (.nm 2) (.sub (.var 0) (.bin .sub (.var 1) (.con (.int 1))))) (.cons (f2_0) (.cons (.ret (.con (.bool false))) (.nil)))⟩
/-- check_thing(thing, forest) -/
def d3 : Def := ⟨2, 2, .cons (.ite (.or (.cons (.not (.tv (.call 0 (.cons (.var 0) (.nil))))) (.cons (.not (.tv (.chain .le .le (.con (.int 1)) (.var 0) (.bi .len (.cons (.var 1) (.nil)))))) (.nil)))) (.cons (.never) (.nil)) (.nil)) (.nil)⟩
/-- things_of(forest) -/
def d4 : Def := ⟨1, 1, .cons (.ret (.lrng (.cons (.con (.int 1)) (.cons (.bin .add (.bi .len (.cons (.var 0) (.nil))) (.con (.int 1))) (.nil))))) (.nil)⟩
/-- way_in(forest, thing, goal) -/
def d5 : Def := ⟨2, 3, .cons (.asg (.nm 2) (.sub (.var 0) (.bin .sub (.var 1) (.con (.int 1))))) (.cons (.ret (.ite (.tv (.cmp .eq (.var 2) (.var 1))) (.lst (.cons (.var 1) (.nil))) (.bin .add (.lst (.cons (.var 1) (.nil))) (.call 5 (.cons (.var 0) (.cons (.var 2) (.nil))))))) (.nil))⟩
def b6_0 : St := .cons (.ite (.tv (.cmp .ne (.sub (.var 0) (.bin .sub (.var 2) (.con (.int 1)))) (.var 2))) (.cons (.app 1 (.cons (.nil) (.sub (.var 0) (.bin .sub (.var 2) (.con (.int 1))))) (.var 2)) (.nil)) (.nil)) (.nil)
def f6_0 : St := .for_ (.nm 2) (.itr (.call 4 (.cons (.var 0) (.nil)))) (b6_0)
def e6_0 : Ex := .dc (.nm 2) [2] (.itr (.call 4 (.cons (.var 0) (.nil)))) (.nil) (.var 2) (.lst (.nil))
/-- children_in(forest, told, thing) -/
def d6 : Def := ⟨1, 3, .cons (.asg (.nm 1) (e6_0)) (.cons (f6_0) (.cons (.ret (.mv 1)) (.nil)))⟩
def b7_0 : St := .cons (.augp 1 (.var 3) .add (.con (.int 1))) (.nil)
def f7_0 : St := .for_ (.nm 3) (.itr (.call 5 (.cons (.var 0) (.cons (.var 2) (.nil))))) (b7_0)
def b7_1 : St := .cons (f7_0) (.nil)
def f7_1 : St := .for_ (.nm 2) (.itr (.call 4 (.cons (.var 0) (.nil)))) (b7_1)
def e7_0 : Ex := .dc (.nm 2) [2] (.itr (.call 4 (.cons (.var 0) (.nil)))) (.nil) (.var 2) (.con (.int 0))
/-- sizes_in(forest, told, thing, other) -/
def d7 : Def := ⟨1, 4, .cons (.asg (.nm 1) (e7_0)) (.cons (f7_1) (.cons (.ret (.mv 1)) (.nil)))⟩
def b8_0 : St := .cons (.put 1 (.nil) (.var 4) (.bi .max (.cons (.sub (.var 1) (.var 4)) (.cons (.var 3) (.nil))))) (.nil)
def f8_0 : St := .for_ (.tp (.cons (.nm 3) (.cons (.nm 4) (.nil)))) (.enum (.call 5 (.cons (.var 0) (.cons (.var 2) (.nil))))) (b8_0)
def b8_1 : St := .cons (f8_0) (.nil)
def f8_1 : St := .for_ (.nm 2) (.itr (.call 4 (.cons (.var 0) (.nil)))) (b8_1)
def e8_0 : Ex := .dc (.nm 2) [2] (.itr (.call 4 (.cons (.var 0) (.nil)))) (.nil) (.var 2) (.con (.int 0))
/-- heights_in(forest, told, thing, far, other) -/
def d8 : Def := ⟨1, 5, .cons (.asg (.nm 1) (e8_0)) (.cons (f8_1) (.cons (.ret (.mv 1)) (.nil)))⟩
def e9_0 : Ex := .lc (.nm 1) [1] (.itr (.call 4 (.cons (.var 0) (.nil)))) (.cons (.tv (.cmp .eq (.sub (.var 0) (.bin .sub (.var 1) (.con (.int 1)))) (.var 1))) (.nil)) (.var 1)
/-- heads_in(forest, thing) -/
def d9 : Def := ⟨1, 2, .cons (.ret (e9_0)) (.nil)⟩
/-- heads(forest) -/
def d10 : Def := ⟨1, 1, .cons (.exp (.call 1 (.cons (.var 0) (.nil)))) (.cons (.ret (.call 9 (.cons (.var 0) (.nil)))) (.nil))⟩
/-- way_up(forest, thing) -/
def d11 : Def := ⟨2, 2, .cons (.exp (.call 1 (.cons (.var 0) (.nil)))) (.cons (.exp (.call 3 (.cons (.var 1) (.cons (.var 0) (.nil))))) (.cons (.ret (.call 5 (.cons (.var 0) (.cons (.var 1) (.nil))))) (.nil)))⟩
/-- children(forest, thing) -/
def d12 : Def := ⟨2, 2, .cons (.exp (.call 1 (.cons (.var 0) (.nil)))) (.cons (.exp (.call 3 (.cons (.var 1) (.cons (.var 0) (.nil))))) (.cons (.ret (.sub (.call 6 (.cons (.var 0) (.nil))) (.var 1))) (.nil)))⟩
/-- sizes(forest) -/
def d13 : Def := ⟨1, 1, .cons (.exp (.call 1 (.cons (.var 0) (.nil)))) (.cons (.ret (.lvals (.call 7 (.cons (.var 0) (.nil))))) (.nil))⟩
/-- heights(forest) -/
def d14 : Def := ⟨1, 1, .cons (.exp (.call 1 (.cons (.var 0) (.nil)))) (.cons (.ret (.lvals (.call 8 (.cons (.var 0) (.nil))))) (.nil))⟩
def e15_0 : Ex := .lc (.nm 1) [1] (.itr (.call 4 (.cons (.var 0) (.nil)))) (.nil) (.bin .sub (.bi .len (.cons (.call 5 (.cons (.var 0) (.cons (.var 1) (.nil)))) (.nil))) (.con (.int 1)))
/-- depths(forest, thing) -/
def d15 : Def := ⟨1, 2, .cons (.exp (.call 1 (.cons (.var 0) (.nil)))) (.cons (.ret (e15_0)) (.nil))⟩
def e16_0 : Ex := .lc (.tp (.cons (.nm 4) (.cons (.nm 2) (.nil)))) [4, 2] (.itr (.var 1)) (.cons (.tv (.cmp .eq (.var 4) (.var 3))) (.nil)) (.var 2)
def e16_1 : Ex := .lc (.nm 3) [3] (.itr (.call 9 (.cons (.var 0) (.nil)))) (.nil) (e16_0)
def e16_2 : Ex := .lc (.nm 2) [2] (.itr (.call 4 (.cons (.var 0) (.nil)))) (.nil) (.tup (.cons (.sub (.call 5 (.cons (.var 0) (.cons (.var 2) (.nil)))) (.neg (.con (.int 1)))) (.cons (.var 2) (.nil))))
/-- groups(forest, every, thing, head, other) -/
def d16 : Def := ⟨1, 5, .cons (.exp (.call 1 (.cons (.var 0) (.nil)))) (.cons (.asg (.nm 1) (e16_2)) (.cons (.ret (e16_1)) (.nil)))⟩
/-- _law_draws(_law_cell) -/
def d17 : Def := ⟨1, 1, .cons (.ret (.lst (.cons (.bin .mod (.bi .int (.cons (.var 0) (.nil))) (.bin .pow (.bin .pow (.bin .pow (.con (.int 10)) (.con (.int 60))) (.con (.int 60))) (.con (.int 4)))) (.cons (.con (.int 0)) (.cons (.cmp .ge (.var 0) (.bin .pow (.con (.int 10)) (.con (.int 18)))) (.nil)))))) (.nil)⟩
/-- _law_next(_law_draws_here, _law_k, _law_drawn) -/
def d18 : Def := ⟨1, 3, .cons (.put 0 (.nil) (.con (.int 1)) (.bin .add (.sub (.var 0) (.con (.int 1))) (.con (.int 1)))) (.cons (.asg (.nm 1) (.sub (.var 0) (.con (.int 1)))) (.cons (.ite (.tv (.sub (.var 0) (.con (.int 2)))) (.cons (.asg (.nm 2) (.bin .mod (.bi .int (.cons (.sub (.var 0) (.con (.int 0))) (.nil))) (.bin .pow (.con (.int 10)) (.con (.int 6))))) (.cons (.put 0 (.nil) (.con (.int 0)) (.bin .fdiv (.sub (.var 0) (.con (.int 0))) (.bin .pow (.con (.int 10)) (.con (.int 6))))) (.cons (.ret (.mv 2)) (.nil)))) (.nil)) (.cons (.asg (.nm 2) (.bin .mod (.bi .int (.cons (.bin .mul (.bin .add (.bin .add (.bin .mod (.bi .int (.cons (.sub (.var 0) (.con (.int 0))) (.nil))) (.con (.int 1000003))) (.bin .mul (.bin .mul (.var 1) (.var 1)) (.con (.int 7919)))) (.var 1)) (.con (.int 48271))) (.nil))) (.con (.int 2147483629)))) (.cons (.asg (.nm 2) (.bin .mod (.bi .int (.cons (.bin .mul (.var 2) (.var 2)) (.nil))) (.con (.int 2147483587)))) (.cons (.ret (.bin .fdiv (.bin .mod (.bi .int (.cons (.bin .mul (.var 2) (.bin .add (.var 2) (.con (.int 2)))) (.nil))) (.con (.int 2147483579))) (.con (.int 7)))) (.nil))))))⟩
def b19_0 : St := .cons (.app 2 (.nil) (.sub (.var 0) (.bin .sub (.sub (.var 2) (.neg (.con (.int 1)))) (.con (.int 1))))) (.nil)
def f19_0 : St := .whl (.tv (.cmp .ne (.sub (.var 0) (.bin .sub (.sub (.var 2) (.neg (.con (.int 1)))) (.con (.int 1)))) (.sub (.var 2) (.neg (.con (.int 1)))))) (b19_0)
/-- _law_way(_law_wood, _law_item, _law_told) -/
def d19 : Def := ⟨2, 3, .cons (.asg (.nm 2) (.lst (.cons (.mv 1) (.nil)))) (.cons (f19_0) (.cons (.ret (.mv 2)) (.nil)))⟩
def e20_0 : Ex := .lc (.nm 2) [2] (.rng (.cons (.con (.int 1)) (.cons (.bin .add (.bi .len (.cons (.var 0) (.nil))) (.con (.int 1))) (.nil)))) (.cons (.tv (.cmp .isin (.var 1) (.call 19 (.cons (.var 0) (.cons (.var 2) (.nil)))))) (.nil)) (.var 2)
/-- _law_size(_law_wood, _law_item, _law_one) -/
def d20 : Def := ⟨2, 3, .cons (.ret (.bi .len (.cons (e20_0) (.nil)))) (.nil)⟩
def e21_0 : Ex := .lc (.nm 4) [4] (.itr (.var 2)) (.cons (.tv (.cmp .isin (.var 1) (.var 4))) (.nil)) (.me .index (.var 4) (.cons (.var 1) (.nil)))
def e21_1 : Ex := .lc (.nm 3) [3] (.rng (.cons (.con (.int 1)) (.cons (.bin .add (.bi .len (.cons (.var 0) (.nil))) (.con (.int 1))) (.nil)))) (.nil) (.call 19 (.cons (.var 0) (.cons (.var 3) (.nil))))
/-- _law_height(_law_wood, _law_item, _law_ways, _law_one, _law_row) -/
def d21 : Def := ⟨2, 5, .cons (.asg (.nm 2) (e21_1)) (.cons (.ret (.bi .max (.cons (e21_0) (.nil)))) (.nil))⟩
def e22_0 : Ex := .lc (.nm 10) [10] (.itr (.var 4)) (.cons (.tv (.cmp .eq (.sub (.var 4) (.bin .sub (.var 10) (.con (.int 1)))) (.var 10))) (.nil)) (.var 10)
def b22_0 : St := .cons (.asg (.nm 6) (e22_0)) (.cons (.asg (.nm 7) (.sub (.var 6) (.bin .mod (.bi .int (.cons (.call 18 (.cons (.io 0) (.nil))) (.nil))) (.bi .len (.cons (.var 6) (.nil)))))) (.cons (.asg (.nm 8) (.sub (.var 6) (.bin .mod (.bi .int (.cons (.call 18 (.cons (.io 0) (.nil))) (.nil))) (.bi .len (.cons (.var 6) (.nil)))))) (.cons (.ite (.tv (.cmp .ne (.var 7) (.var 8))) (.cons (.asg (.nm 9) (.lst (.cons (.sub (.lst (.cons (.con (.int 0)) (.cons (.var 7) (.cons (.call 20 (.cons (.var 4) (.cons (.var 7) (.nil)))) (.cons (.call 21 (.cons (.var 4) (.cons (.var 7) (.nil)))) (.cons (.con (.int 0)) (.nil))))))) (.var 3)) (.nil)))) (.cons (.app 9 (.nil) (.sub (.lst (.cons (.con (.int 0)) (.cons (.var 8) (.cons (.call 20 (.cons (.var 4) (.cons (.var 8) (.nil)))) (.cons (.call 21 (.cons (.var 4) (.cons (.var 8) (.nil)))) (.cons (.con (.int 0)) (.nil))))))) (.var 3))) (.cons (.asg (.tp (.cons (.nm 11) (.cons (.nm 12) (.nil)))) (.ite (.tv (.cmp .lt (.sub (.var 9) (.con (.int 1))) (.sub (.var 9) (.con (.int 0))))) (.tup (.cons (.var 8) (.cons (.var 7) (.nil)))) (.tup (.cons (.var 7) (.cons (.var 8) (.nil)))))) (.cons (.put 4 (.nil) (.bin .sub (.var 11) (.con (.int 1))) (.mv 12)) (.nil))))) (.nil)) (.nil))))
def f22_0 : St := .for_ (.nm 5) (.rng (.cons (.bin .mul (.var 2) (.bin .add (.con (.int 1)) (.bin .mod (.bi .int (.cons (.call 18 (.cons (.io 0) (.nil))) (.nil))) (.con (.int 3))))) (.nil))) (b22_0)
/-- _law_forest(_law_draws_here, _law_most, _law_many, _law_kind, _law_told, _law_turn, _law_tops, _law_one, _law_two, _law_keys, _law_k, _law_low, _law_high) -/
def d22 : Def := ⟨2, 13, .cons (.asg (.nm 2) (.bin .add (.con (.int 1)) (.bin .mod (.bi .int (.cons (.call 18 (.cons (.io 0) (.nil))) (.nil))) (.var 1)))) (.cons (.asg (.nm 3) (.bin .mod (.bi .int (.cons (.call 18 (.cons (.io 0) (.nil))) (.nil))) (.con (.int 5)))) (.cons (.asg (.nm 4) (.lrng (.cons (.con (.int 1)) (.cons (.bin .add (.var 2) (.con (.int 1))) (.nil))))) (.cons (f22_0) (.cons (.ret (.mv 4)) (.nil)))))⟩
def e23_0 : Ex := .lc (.nm 4) [4] (.itr (.var 1)) (.cons (.tv (.cmp .eq (.sub (.call 19 (.cons (.var 0) (.cons (.var 4) (.nil)))) (.neg (.con (.int 1)))) (.var 5))) (.nil)) (.var 4)
def e23_1 : Ex := .lc (.nm 5) [5] (.itr (.var 2)) (.nil) (e23_0)
def e23_2 : Ex := .lc (.nm 4) [4] (.itr (.var 1)) (.nil) (.bin .sub (.bi .len (.cons (.call 19 (.cons (.var 0) (.cons (.var 4) (.nil)))) (.nil))) (.con (.int 1)))
def e23_3 : Ex := .lc (.nm 4) [4] (.itr (.var 1)) (.nil) (.call 21 (.cons (.var 0) (.cons (.var 4) (.nil))))
def e23_4 : Ex := .lc (.nm 4) [4] (.itr (.var 1)) (.nil) (.call 20 (.cons (.var 0) (.cons (.var 4) (.nil))))
def e23_5 : Ex := .lc (.nm 4) [4] (.itr (.var 1)) (.cons (.tv (.cmp .eq (.sub (.var 0) (.bin .sub (.var 4) (.con (.int 1)))) (.var 4))) (.nil)) (.var 4)
/-- _law_all(_law_wood, _law_every, _law_tops, _law_told, _law_k, _law_top) -/
def d23 : Def := ⟨1, 6, .cons (.asg (.nm 1) (.lrng (.cons (.con (.int 1)) (.cons (.bin .add (.bi .len (.cons (.var 0) (.nil))) (.con (.int 1))) (.nil))))) (.cons (.asg (.nm 2) (e23_5)) (.cons (.asg (.nm 3) (.lst (.cons (.var 2) (.cons (e23_4) (.cons (e23_3) (.nil)))))) (.cons (.app 3 (.nil) (e23_2)) (.cons (.ret (.bin .add (.var 3) (.lst (.cons (e23_1) (.nil))))) (.nil)))))⟩
def e24_0 : Ex := .lc (.nm 9) [9] (.rng (.cons (.con (.int 1)) (.cons (.bin .add (.bi .len (.cons (.var 0) (.nil))) (.con (.int 1))) (.nil)))) (.cons (.and (.cons (.tv (.cmp .eq (.sub (.var 0) (.bin .sub (.var 9) (.con (.int 1)))) (.var 6))) (.cons (.tv (.cmp .ne (.var 9) (.var 6))) (.nil)))) (.nil)) (.var 9)
def b24_0 : St := .cons (.asg (.nm 7) (.lst (.cons (.call 19 (.cons (.var 0) (.cons (.var 6) (.nil)))) (.cons (e24_0) (.nil))))) (.cons (.asg (.nm 8) (.lst (.cons (.call 11 (.cons (.var 0) (.cons (.var 6) (.nil)))) (.cons (.call 12 (.cons (.var 0) (.cons (.var 6) (.nil)))) (.nil))))) (.cons (.asg (.nm 4) (.lst (.cons (.callk 11 (.cons (.var 6) (.cons (.var 0) (.nil))) [1, 0]) (.cons (.callk 12 (.cons (.var 6) (.cons (.var 0) (.nil))) [1, 0]) (.nil))))) (.cons (.ite (.or (.cons (.tv (.cmp .ne (.bi .repr (.cons (.var 8) (.nil))) (.bi .repr (.cons (.var 7) (.nil))))) (.cons (.tv (.cmp .ne (.bi .repr (.cons (.var 4) (.nil))) (.bi .repr (.cons (.var 7) (.nil))))) (.nil)))) (.cons (.ret (.con (.bool false))) (.nil)) (.nil)) (.cons (.app 8 (.cons (.nil) (.con (.int 0))) (.con (.none))) (.cons (.app 8 (.cons (.nil) (.con (.int 1))) (.con (.none))) (.cons (.ite (.tv (.cmp .ne (.bi .repr (.cons (.lst (.cons (.call 11 (.cons (.var 0) (.cons (.var 6) (.nil)))) (.cons (.call 12 (.cons (.var 0) (.cons (.var 6) (.nil)))) (.nil)))) (.nil))) (.bi .repr (.cons (.var 7) (.nil))))) (.cons (.ret (.con (.bool false))) (.nil)) (.nil)) (.nil)))))))
def f24_0 : St := .for_ (.nm 6) (.rng (.cons (.con (.int 1)) (.cons (.bin .add (.bi .len (.cons (.var 0) (.nil))) (.con (.int 1))) (.nil)))) (b24_0)
def b24_1 : St := .cons (.app 5 (.nil) (.con (.none))) (.nil)
def f24_1 : St := .forio 5 3 (b24_1)
/-- _law_right(_law_wood, _law_kept, _law_due, _law_told, _law_named, _law_row, _law_k, _law_rows, _law_both, _law_one) -/
def d24 : Def := ⟨1, 10, .cons (.asg (.nm 1) (.bi .repr (.cons (.var 0) (.nil)))) (.cons (.asg (.nm 2) (.call 23 (.cons (.var 0) (.nil)))) (.cons (.asg (.nm 3) (.lst (.cons (.call 10 (.cons (.var 0) (.nil))) (.cons (.call 13 (.cons (.var 0) (.nil))) (.cons (.call 14 (.cons (.var 0) (.nil))) (.cons (.call 15 (.cons (.var 0) (.nil))) (.cons (.call 16 (.cons (.var 0) (.nil))) (.nil)))))))) (.cons (.asg (.nm 4) (.lst (.cons (.callk 10 (.cons (.var 0) (.nil)) [0]) (.cons (.callk 13 (.cons (.var 0) (.nil)) [0]) (.cons (.callk 14 (.cons (.var 0) (.nil)) [0]) (.cons (.callk 15 (.cons (.var 0) (.nil)) [0]) (.nil))))))) (.cons (.ite (.or (.cons (.tv (.cmp .ne (.bi .repr (.cons (.var 3) (.nil))) (.bi .repr (.cons (.var 2) (.nil))))) (.cons (.tv (.cmp .ne (.bi .repr (.cons (.bin .add (.var 4) (.lst (.cons (.callk 16 (.cons (.var 0) (.nil)) [0]) (.nil)))) (.nil))) (.bi .repr (.cons (.var 2) (.nil))))) (.nil)))) (.cons (.ret (.con (.bool false))) (.nil)) (.nil)) (.cons (.app 3 (.cons (.cons (.nil) (.con (.int 4))) (.con (.int 0))) (.con (.none))) (.cons (f24_1) (.cons (f24_0) (.cons (.asg (.nm 3) (.lst (.cons (.call 10 (.cons (.var 0) (.nil))) (.cons (.call 13 (.cons (.var 0) (.nil))) (.cons (.call 14 (.cons (.var 0) (.nil))) (.cons (.call 15 (.cons (.var 0) (.nil))) (.cons (.call 16 (.cons (.var 0) (.nil))) (.nil)))))))) (.cons (.ret (.and (.cons (.cmp .eq (.bi .repr (.cons (.var 3) (.nil))) (.bi .repr (.cons (.var 2) (.nil)))) (.cons (.cmp .eq (.bi .repr (.cons (.var 0) (.nil))) (.var 1)) (.nil))))) (.nil))))))))))⟩
def e25_0 : Ex := .lc (.nm 4) [4] (.rng (.cons (.con (.int 1)) (.cons (.con (.int 41)) (.nil)))) (.nil) (.bi .min (.cons (.bin .add (.var 4) (.con (.int 1))) (.cons (.con (.int 40)) (.nil))))
def e25_1 : Ex := .lc (.nm 3) [3] (.itr (.bin .add (.slc (.var 0) (.nil) (.cons (.con (.int 6)) .nil)) (.lst (.cons (.con (.int 0)) (.nil))))) (.nil) (.call 17 (.cons (.var 3) (.nil)))
def b25_0 : St := .cons (.ite (.or (.cons (.not (.tv (.call 24 (.cons (.call 22 (.cons (.io 1) (.cons (.con (.int 40)) (.nil)))) (.nil))))) (.cons (.not (.tv (.call 24 (.cons (.call 22 (.cons (.io 1) (.cons (.con (.int 9)) (.nil)))) (.nil))))) (.nil)))) (.cons (.ret (.con (.bool false))) (.nil)) (.nil)) (.nil)
def f25_0 : St := .forown (.nm 1) (e25_1) (b25_0)
/-- law(_law_script, _law_draws_here, _law_line, _law_cell, _law_k) -/
def d25 : Def := ⟨1, 5, .cons (f25_0) (.cons (.asg (.nm 2) (e25_0)) (.cons (.ite (.or (.cons (.not (.tv (.call 24 (.cons (.var 2) (.nil))))) (.cons (.not (.tv (.call 24 (.cons (.bin .mul (.lst (.cons (.con (.int 40)) (.nil))) (.con (.int 40))) (.nil))))) (.cons (.not (.tv (.call 24 (.cons (.lrng (.cons (.con (.int 1)) (.cons (.con (.int 41)) (.nil)))) (.nil))))) (.cons (.not (.tv (.call 24 (.cons (.lst (.cons (.con (.int 1)) (.nil))) (.nil))))) (.nil)))))) (.cons (.ret (.con (.bool false))) (.nil)) (.nil)) (.cons (.ret (.and (.cons (.call 24 (.cons (.lst (.cons (.con (.int 2)) (.cons (.con (.int 4)) (.cons (.con (.int 4)) (.cons (.con (.int 4)) (.cons (.con (.int 5)) (.nil))))))) (.nil))) (.cons (.call 24 (.cons (.lst (.cons (.con (.int 1)) (.cons (.con (.int 1)) (.cons (.con (.int 2)) (.cons (.con (.int 3)) (.cons (.con (.int 4)) (.nil))))))) (.nil))) (.cons (.call 24 (.cons (.lst (.cons (.con (.int 3)) (.cons (.con (.int 3)) (.cons (.con (.int 3)) (.cons (.con (.int 2)) (.cons (.con (.int 2)) (.nil))))))) (.nil))) (.nil)))))) (.nil))))⟩
def dN : Def := ⟨0, 0, .never⟩
def defs : List Def := [d0, d1, d2, d3, d4, d5, d6, d7, d8, d9, d10, d11, d12, d13, d14, d15, d16, d17, d18, d19, d20, d21, d22, d23, d24, d25]
def globs : List D := [.int 40]
def ww : Nat := 1000
end K01
end

section
set_option Elab.async false
set_option linter.all false
set_option autoImplicit false
set_option maxRecDepth 100000
namespace K36
open PySem PV
def tel_law_told : Tel := ⟨(Str.ofString "told"), [(0, .rep (Str.ofString "list")), (2, .rep (Str.ofString "mode")), (9, .rep (Str.ofString "spot"))]⟩
def f47_0 : St := .forx (.nm 1) (.rng (.cons (.bi .len (.cons (.var 0) (.nil))) (.nil))) (.cons (.itx (.tv (.call 2 (.cons (.var 0) (.cons (.bin .add (.var 1) (.con (.int 1))) (.nil))))) (.cons (.raise 0 (.cons (.var 1) (.nil))) (.nil)) (.nil)) (.nil))
def f47_1 : St := .forx (.tp (.cons (.nm 1) (.cons (.nm 2) (.nil)))) (.enum (.var 0)) (.cons (.itx (.or (.cons (.not (.tv (.call 0 (.cons (.var 2) (.nil))))) (.cons (.not (.tv (.chain .le .le (.con (.int 1)) (.var 2) (.bi .len (.cons (.var 0) (.nil)))))) (.nil)))) (.cons (.raise 0 (.cons (.var 1) (.nil))) (.nil)) (.nil)) (.nil))
/-- check_forest(forest, index, goal) -/
def d47 : Def := ⟨1, 3, .cons (.itx (.or (.cons (.not (.tv (.bi .isList (.cons (.var 0) (.nil))))) (.cons (.not (.tv (.chain .le .le (.con (.int 1)) (.bi .len (.cons (.var 0) (.nil))) (.glob 0)))) (.nil)))) (.cons (.raise 0 (.cons (.con (.none)) (.nil))) (.nil)) (.nil)) (.cons (f47_1) (.cons (f47_0) (.nil)))⟩
/-- check_thing(thing, forest) -/
def d48 : Def := ⟨2, 2, .cons (.itx (.or (.cons (.not (.tv (.call 0 (.cons (.var 0) (.nil))))) (.cons (.not (.tv (.chain .le .le (.con (.int 1)) (.var 0) (.bi .len (.cons (.var 1) (.nil)))))) (.nil)))) (.cons (.raise 9 (.cons (.var 0) (.nil))) (.nil)) (.nil)) (.nil)⟩
/-- check_way(way) -/
def d49 : Def := ⟨1, 1, .cons (.itx (.or (.cons (.not (.tv (.bi .isStr (.cons (.var 0) (.nil))))) (.cons (.tv (.inG true (.var 0) 5)) (.nil)))) (.cons (.raise 2 (.cons (.var 0) (.nil))) (.nil)) (.nil)) (.nil)⟩
def e50_0 : Ex := .lc (.nm 2) [2] (.rng3 (.con (.int 0)) (.bin .sub (.bi .len (.cons (.var 0) (.nil))) (.con (.int 2))) (.ite (.tv (.cmp .eq (.var 1) (.con (.str (Str.ofString "halves"))))) (.con (.int 2)) (.con (.int 1)))) (.nil) (.tup (.cons (.sub (.var 0) (.var 2)) (.cons (.sub (.var 0) (.bin .add (.var 2) (.con (.int 2)))) (.nil))))
def e50_1 : Ex := .lc (.nm 3) [3] (.itr (.slc (.var 0) (.nil) (.cons (.neg (.con (.int 2))) .nil))) (.nil) (.tup (.cons (.var 3) (.cons (.sub (.var 0) (.neg (.con (.int 1)))) (.nil))))
/-- moved_on(row, way, step, thing) -/
def d50 : Def := ⟨2, 4, .cons (.ite (.tv (.cmp .eq (.var 1) (.con (.str (Str.ofString "none"))))) (.cons (.ret (.lst (.nil))) (.nil)) (.nil)) (.cons (.ite (.tv (.cmp .eq (.var 1) (.con (.str (Str.ofString "all"))))) (.cons (.ret (e50_1)) (.nil)) (.nil)) (.cons (.ret (e50_0)) (.nil)))⟩
def b51_0 : St := .cons (.put 4 (.nil) (.bin .sub (.var 5) (.con (.int 1))) (.mv 6)) (.nil)
def f51_0 : St := .for_ (.tp (.cons (.nm 5) (.cons (.nm 6) (.nil)))) (.itr (.call 50 (.cons (.var 3) (.cons (.var 2) (.nil))))) (b51_0)
/-- found(forest, thing, way, row, told, one, goal) -/
def d51 : Def := ⟨3, 7, .cons (.callx 47 (.cons (.var 0) (.nil))) (.cons (.callx 48 (.cons (.var 1) (.cons (.var 0) (.nil)))) (.cons (.callx 49 (.cons (.var 2) (.nil))) (.cons (.safe (.asg (.tp (.cons (.nm 3) (.cons (.nm 4) (.nil)))) (.tup (.cons (.call 5 (.cons (.var 0) (.cons (.var 1) (.nil)))) (.cons (.bi .list (.cons (.var 0) (.nil))) (.nil)))))) (.cons (.safe (f51_0)) (.cons (.safe (.ret (.tup (.cons (.sub (.var 3) (.neg (.con (.int 1)))) (.cons (.mv 4) (.nil)))))) (.nil))))))⟩
def b52_0 : St := .cons (.aug 5 .add (.bin .sub (.bi .len (.cons (.call 5 (.cons (.var 6) (.cons (.var 3) (.nil)))) (.nil))) (.con (.int 1)))) (.cons (.asg (.tp (.cons (.nm 7) (.cons (.nm 6) (.nil)))) (.call 51 (.cons (.var 6) (.cons (.var 3) (.cons (.var 2) (.nil)))))) (.cons (.app 4 (.nil) (.mv 7)) (.nil)))
def f52_0 : St := .for_ (.nm 3) (.itr (.var 1)) (b52_0)
def f52_1 : St := .forx (.nm 3) (.itr (.var 1)) (.cons (.callx 48 (.cons (.var 3) (.cons (.var 0) (.nil)))) (.nil))
/-- finds(forest, things, way, thing, told, many, here, head) -/
def d52 : Def := ⟨3, 8, .cons (.callx 47 (.cons (.var 0) (.nil))) (.cons (.itx (.not (.tv (.bi .isList (.cons (.var 1) (.nil))))) (.cons (.raise 9 (.cons (.var 1) (.nil))) (.nil)) (.nil)) (.cons (f52_1) (.cons (.callx 49 (.cons (.var 2) (.nil))) (.cons (.safe (.asg (.tp (.cons (.nm 4) (.cons (.nm 5) (.cons (.nm 6) (.nil))))) (.tup (.cons (.lst (.nil)) (.cons (.con (.int 0)) (.cons (.bi .list (.cons (.var 0) (.nil))) (.nil))))))) (.cons (.safe (f52_0)) (.cons (.safe (.ret (.tup (.cons (.mv 4) (.cons (.mv 5) (.cons (.mv 6) (.nil))))))) (.nil)))))))⟩
def b53_0 : St := .cons (.asg (.nm 6) (.lst (.cons (.tld tel_law_told 51 (.cons (.var 2) (.cons (.con (.none)) (.cons (.con (.none)) (.nil))))) (.nil)))) (.cons (.app 6 (.nil) (.tld tel_law_told 52 (.cons (.var 2) (.cons (.con (.none)) (.cons (.con (.none)) (.nil)))))) (.cons (.ite (.tv (.cmp .ne (.var 6) (.bin .mul (.lst (.cons (.bi .reprl (.cons (.con (.str (Str.ofString "list"))) (.cons (.var 5) (.nil)))) (.nil))) (.con (.int 2))))) (.cons (.ret (.con (.bool false))) (.nil)) (.nil)) (.nil)))
def f53_0 : St := .for_ (.tp (.cons (.nm 2) (.cons (.nm 5) (.nil)))) (.itr (.bin .add (.var 3) (.lst (.cons (.tup (.cons (.lst (.cons (.con (.int 1)) (.cons (.con (.int 3)) (.cons (.con (.int 2)) (.nil))))) (.cons (.con (.int 1)) (.nil)))) (.cons (.tup (.cons (.lst (.cons (.con (.int 2)) (.cons (.con (.int 1)) (.nil)))) (.cons (.con (.int 0)) (.nil)))) (.cons (.tup (.cons (.lst (.cons (.con (.int 1)) (.cons (.con (.int 3)) (.cons (.con (.int 2)) (.cons (.con (.none)) (.nil)))))) (.cons (.con (.int 3)) (.nil)))) (.nil))))))) (b53_0)
def e53_0 : Ex := .lc (.nm 7) [7] (.itr (.lst (.cons (.con (.none)) (.cons (.con (.bool true)) (.cons (.con (.int 0)) (.cons (.con (.int 2)) (.nil))))))) (.nil) (.tup (.cons (.lst (.cons (.var 7) (.nil))) (.cons (.con (.int 0)) (.nil))))
def e53_1 : Ex := .lc (.nm 7) [7] (.itr (.lst (.cons (.con (.none)) (.cons (.tup (.nil)) (.cons (.tup (.cons (.con (.int 1)) (.nil))) (.cons (.dct (.nil)) (.cons (.con (.str (Str.ofString "1"))) (.cons (.con (.int 5)) (.cons (.lst (.nil)) (.cons (.bin .mul (.lst (.cons (.con (.int 1)) (.nil))) (.con (.int 41))) (.nil))))))))))) (.nil) (.tup (.cons (.var 7) (.cons (.con (.none)) (.nil))))
def b53_1 : St := .cons (.ite (.tv (.cmp .ne (.tld tel_law_told 52 (.cons (.var 0) (.cons (.var 4) (.cons (.var 2) (.nil))))) (.bi .reprl (.cons (.con (.str (Str.ofString "mode"))) (.cons (.var 2) (.nil)))))) (.cons (.ret (.con (.bool false))) (.nil)) (.nil)) (.nil)
def f53_1 : St := .for_ (.nm 4) (.itr (.lst (.cons (.lst (.nil)) (.cons (.lst (.cons (.con (.int 1)) (.nil))) (.cons (.lst (.cons (.bi .len (.cons (.var 0) (.nil))) (.nil))) (.nil)))))) (b53_1)
def b53_2 : St := .cons (.ite (.tv (.cmp .ne (.tld tel_law_told 51 (.cons (.var 0) (.cons (.con (.int 1)) (.cons (.var 2) (.nil))))) (.bi .reprl (.cons (.con (.str (Str.ofString "mode"))) (.cons (.var 2) (.nil)))))) (.cons (.ret (.con (.bool false))) (.nil)) (.nil)) (.cons (f53_1) (.nil))
def f53_2 : St := .for_ (.nm 2) (.itr (.lst (.cons (.con (.none)) (.cons (.con (.int 0)) (.cons (.con (.str (Str.ofString ""))) (.cons (.con (.str (Str.ofString "All"))) (.cons (.con (.str (Str.ofString "half"))) (.cons (.con (.str (Str.ofString "all "))) (.cons (.lst (.cons (.con (.str (Str.ofString "all"))) (.nil))) (.cons (.tup (.cons (.con (.str (Str.ofString "none"))) (.nil))) (.cons (.dct (.nil)) (.cons (.con (.bool true)) (.nil))))))))))))) (b53_2)
def b53_3 : St := .cons (.ite (.tv (.cmp .ne (.tld tel_law_told 52 (.cons (.var 0) (.cons (.var 2) (.cons (.con (.none)) (.nil))))) (.bi .reprl (.cons (.con (.str (Str.ofString "spot"))) (.cons (.var 2) (.nil)))))) (.cons (.ret (.con (.bool false))) (.nil)) (.nil)) (.nil)
def f53_3 : St := .for_ (.nm 2) (.itr (.lst (.cons (.con (.none)) (.cons (.tup (.cons (.con (.int 1)) (.nil))) (.cons (.dct (.nil)) (.cons (.con (.str (Str.ofString "1"))) (.cons (.con (.int 5)) (.cons (.con (.int 1)) (.cons (.con (.bool true)) (.nil)))))))))) (b53_3)
def b53_4 : St := .cons (.ite (.tv (.cmp .ne (.tld tel_law_told 52 (.cons (.var 0) (.cons (.var 4) (.cons (.con (.none)) (.nil))))) (.bi .reprl (.cons (.con (.str (Str.ofString "spot"))) (.cons (.var 2) (.nil)))))) (.cons (.ret (.con (.bool false))) (.nil)) (.nil)) (.nil)
def f53_4 : St := .for_ (.nm 4) (.itr (.lst (.cons (.lst (.cons (.var 2) (.nil))) (.cons (.lst (.cons (.con (.int 1)) (.cons (.var 2) (.cons (.con (.none)) (.nil))))) (.cons (.lst (.cons (.bi .len (.cons (.var 0) (.nil))) (.cons (.con (.int 1)) (.cons (.var 2) (.cons (.neg (.con (.int 5))) (.nil)))))) (.nil)))))) (b53_4)
def b53_5 : St := .cons (.ite (.tv (.cmp .ne (.tld tel_law_told 51 (.cons (.var 0) (.cons (.var 2) (.cons (.con (.none)) (.nil))))) (.bi .reprl (.cons (.con (.str (Str.ofString "spot"))) (.cons (.var 2) (.nil)))))) (.cons (.ret (.con (.bool false))) (.nil)) (.nil)) (.cons (f53_4) (.nil))
def f53_5 : St := .for_ (.nm 2) (.itr (.var 1)) (b53_5)
/-- _law_right(_law_wood, _law_odd, _law_bad, _law_lots, _law_some, _law_at, _law_told_here, _law_item) -/
def d53 : Def := ⟨1, 8, .cons (.asg (.nm 1) (.lst (.cons (.con (.none)) (.cons (.con (.int 0)) (.cons (.neg (.con (.int 1))) (.cons (.bin .add (.bi .len (.cons (.var 0) (.nil))) (.con (.int 1))) (.cons (.con (.bool true)) (.cons (.con (.bool false)) (.cons (.con (.str (Str.ofString "1"))) (.cons (.lst (.cons (.con (.int 1)) (.nil))) (.cons (.dct (.nil)) (.cons (.bin .pow (.con (.int 10)) (.con (.int 19))) (.nil))))))))))))) (.cons (f53_5) (.cons (f53_3) (.cons (f53_2) (.cons (.asg (.nm 3) (e53_1)) (.cons (.asg (.nm 3) (.bin .add (.var 3) (e53_0))) (.cons (f53_0) (.cons (.ret (.con (.bool true))) (.nil))))))))⟩
def e54_0 : Ex := .lc (.nm 4) [4] (.itr (.bin .add (.slc (.var 0) (.nil) (.cons (.con (.int 3)) .nil)) (.lst (.cons (.con (.int 0)) (.nil))))) (.nil) (.call 17 (.cons (.var 4) (.nil)))
def b54_0 : St := .cons (.asg (.nm 2) (.call 22 (.cons (.io 1) (.cons (.con (.int 9)) (.nil))))) (.cons (.asg (.nm 3) (.bi .repr (.cons (.var 2) (.nil)))) (.cons (.ite (.or (.cons (.not (.tv (.call 53 (.cons (.var 2) (.nil))))) (.cons (.tv (.cmp .ne (.bi .repr (.cons (.var 2) (.nil))) (.var 3))) (.nil)))) (.cons (.ret (.con (.bool false))) (.nil)) (.nil)) (.nil)))
def f54_0 : St := .forown (.nm 1) (e54_0) (b54_0)
/-- law(_law_script, _law_draws_here, _law_wood, _law_kept, _law_cell) -/
def d54 : Def := ⟨1, 5, .cons (f54_0) (.cons (.ret (.and (.cons (.call 53 (.cons (.lst (.cons (.con (.int 1)) (.nil))) (.nil))) (.cons (.cmp .eq (.tld tel_law_told 52 (.cons (.lst (.cons (.con (.int 2)) (.cons (.con (.int 2)) (.nil)))) (.cons (.lst (.cons (.con (.int 1)) (.cons (.con (.int 2)) (.nil)))) (.cons (.con (.str (Str.ofString "splits"))) (.nil))))) (.con (.str (Str.ofString "told")))) (.nil))))) (.nil))⟩
def dN : Def := ⟨0, 0, .never⟩
def defs : List Def := [K01.d0, K01.d1, K01.d2, K01.d3, K01.d4, K01.d5, K01.d6, K01.d7, K01.d8, K01.d9, K01.d10, K01.d11, K01.d12, K01.d13, K01.d14, K01.d15, K01.d16, K01.d17, K01.d18, K01.d19, K01.d20, K01.d21, K01.d22, K01.d23, K01.d24, K01.d25, dN, dN, dN, dN, dN, dN, dN, dN, dN, dN, dN, dN, dN, dN, dN, dN, dN, dN, dN, dN, dN, d47, d48, d49, d50, d51, d52, d53, d54]
def globs : List D := [.int 40, .tuple [.str (Str.ofString "any"), .str (Str.ofString "number"), .str (Str.ofString "size"), .str (Str.ofString "height"), .str (Str.ofString "both")], .dict [(.str (Str.ofString "number"), .int 0), (.str (Str.ofString "size"), .int 1), (.str (Str.ofString "height"), .int 2)], .int 9, .tuple [.str (Str.ofString "any"), .str (Str.ofString "number"), .str (Str.ofString "size"), .str (Str.ofString "height")], .tuple [.str (Str.ofString "none"), .str (Str.ofString "all"), .str (Str.ofString "halves"), .str (Str.ofString "splits")]]
def ww : Nat := 1000
end K36
end

section
set_option linter.all false
set_option autoImplicit false
set_option maxRecDepth 100000
namespace PV.N
open PySem
def runD (df : Def) (args : List (CK × D)) (r : R Fl) : CR :=
  match r with
  | .ok .nx ρ => finish (tgs df.body) args .own .none ρ
  | .ok (.ret m d) ρ => finish (tgs df.body) args m d ρ
  | .ok _ _ => .bad
  | .exc c fs _ => .exc c fs
  | .bad => .bad
def inA (args : List (CK × D)) (ns : Nat) : Env := args.map (fun a => some (Cell.mk a.1 a.2)) ++ List.replicate (ns - args.length) none
theorem callD_at {defs : List Def} {globs : List D} {w n f : Nat} {df : Def} {args : List (CK × D)} (h : defs[f]? = some df) (hl : args.length = df.np) :
    callD defs globs w (n + 1) f args = runD df args (exec ⟨callD defs globs w n, fun x => globs[x]?, w⟩ [] df.body (inA args df.ns)) := by
  show (match defs[f]? with
    | none => CR.bad
    | some df => if args.length = df.np then
        match exec ⟨callD defs globs w n, fun x => globs[x]?, w⟩ [] df.body (args.map (fun (a : CK × D) => some (Cell.mk a.1 a.2)) ++ List.replicate (df.ns - df.np) none) with
        | .ok .nx ρ => finish (tgs df.body) args .own .none ρ
        | .ok (.ret m d) ρ => finish (tgs df.body) args m d ρ
        | .ok _ _ => .bad
        | .exc c fs _ => .exc c fs
        | .bad => .bad
      else .bad) = _
  rw [h]
  dsimp only
  rw [if_pos hl]
  unfold inA runD
  rw [hl]
structure Pr where
  defs : List Def
  globs : List D
  w : Nat
def CX (P : Pr) (n : Nat) : Ctx := ⟨callD P.defs P.globs P.w n, fun x => P.globs[x]?, P.w⟩
theorem rb_ok {α β : Type} {a : α} {ρ : Env} {f : α → Env → R β} : (R.ok a ρ).bind f = f a ρ := rfl
theorem ro_some {α : Type} {a : α} {ρ : Env} : R.of (some (a, ρ)) = .ok a ρ := rfl
theorem getc_0 {c : Option Cell} {ρ : Env} : getc (c :: ρ) 0 = c := rfl
theorem getc_s {c : Option Cell} {ρ : Env} {n : Nat} : getc (c :: ρ) (n + 1) = getc ρ n := by simp [getc]

/-! ### rows of ints -/
abbrev L (p : List Int) : D := .list (p.map .int)
theorem imAll_ints : ∀ p : List Int, imAll (p.map .int) = true
  | [] => rfl
  | x :: r => by simp only [List.map_cons, imAll, im, imAll_ints r, Bool.and_self]
theorem nth_nat {n : Nat} {i : Int} (h0 : 0 ≤ i) (h : i < n) : nth n i = some i.toNat := by unfold nth; rw [if_pos h0, if_pos h]
theorem nth_last {n : Nat} (h : 0 < n) : nth n (-1) = some (n - 1) := by
  unfold nth
  rw [if_neg (by decide), if_pos (by omega)]
  congr 1
  omega
theorem atD_list {xs : List D} {i : Int} {d : D} (h0 : 0 ≤ i) (h : i < xs.length) (e : xs[i.toNat]? = some d) : atD (.list xs) (.int i) = some d := by
  show (nth xs.length i).bind (fun n => xs[n]?) = _
  rw [nth_nat h0 h]; exact e
theorem atD_L {p : List Int} {i : Int} (h0 : 0 ≤ i) (h : i < p.length) : atD (L p) (.int i) = some (.int (p.getD i.toNat 0)) := by
  refine atD_list h0 (by simpa using h) ?_
  rw [List.getElem?_map, List.getD_eq_getElem?_getD]
  have : i.toNat < p.length := by omega
  rw [List.getElem?_eq_getElem this]; rfl
theorem atD_last {xs : List D} {d : D} (e : xs.getLast? = some d) : atD (.list xs) (.int (-1)) = some d := by
  have h : 0 < xs.length := by
    cases xs with
    | nil => simp at e
    | cons x r => simp
  show (nth xs.length (-1)).bind (fun n => xs[n]?) = _
  rw [nth_last h, ← e, List.getLast?_eq_getElem?]; rfl
/-! ### environments -/
theorem pw_get : ∀ (is : List Nat) (ρ : Env) (i : Nat), (PV.wipe ρ is)[i]? = if i ∈ is ∧ i < ρ.length then some none else ρ[i]?
  | [], ρ, i => by simp [PV.wipe]
  | j :: r, ρ, i => by
    show (PV.wipe (ρ.set j none) r)[i]? = _
    rw [pw_get r]
    by_cases h1 : i ∈ r ∧ i < ρ.length
    · rw [if_pos (by simpa using h1), if_pos ⟨List.mem_cons_of_mem _ h1.1, h1.2⟩]
    · rw [if_neg (by simpa using h1)]
      by_cases h2 : j = i
      · subst h2
        by_cases h3 : j < ρ.length
        · rw [List.getElem?_set_self h3, if_pos ⟨List.mem_cons_self, h3⟩]
        · rw [if_neg (fun z => h3 z.2), List.getElem?_eq_none (by simpa using h3), List.getElem?_eq_none (by omega)]
      · rw [List.getElem?_set_ne h2, if_neg]
        rintro ⟨z1, z2⟩
        rcases List.mem_cons.mp z1 with z1 | z1
        · exact h2 z1.symm
        · exact h1 ⟨z1, z2⟩
theorem pw_len : ∀ (is : List Nat) (ρ : Env), (PV.wipe ρ is).length = ρ.length
  | [], ρ => rfl
  | j :: r, ρ => by show (PV.wipe (ρ.set j none) r).length = _; rw [pw_len r]; simp
theorem pb_get : ∀ (is : List Nat) (ρ ρ' : Env), ρ.length = ρ'.length → ∀ i, (back ρ ρ' is)[i]? = if i ∈ is ∧ i < ρ'.length then ρ[i]? else ρ'[i]?
  | [], ρ, ρ', hl, i => by simp [back]
  | j :: r, ρ, ρ', hl, i => by
    show (back ρ (ρ'.set j (ρ[j]?).join) r)[i]? = _
    rw [pb_get r ρ _ (by simpa using hl)]
    by_cases h1 : i ∈ r ∧ i < ρ'.length
    · rw [if_pos (by simpa using h1), if_pos ⟨List.mem_cons_of_mem _ h1.1, h1.2⟩]
    · rw [if_neg (by simpa using h1)]
      by_cases h2 : j = i
      · subst h2
        by_cases h3 : j < ρ'.length
        · rw [List.getElem?_set_self h3, if_pos ⟨List.mem_cons_self, h3⟩, List.getElem?_eq_getElem (by omega)]; rfl
        · rw [if_neg (fun z => h3 z.2), List.getElem?_eq_none (by simpa using h3), List.getElem?_eq_none (by omega)]
      · rw [List.getElem?_set_ne h2, if_neg]
        rintro ⟨z1, z2⟩
        rcases List.mem_cons.mp z1 with z1 | z1
        · exact h2 z1.symm
        · exact h1 ⟨z1, z2⟩
theorem back_same {ρ ρ' : Env} {is : List Nat} (h : PV.wipe ρ' is = PV.wipe ρ is) : back ρ ρ' is = ρ := by
  have hl : ρ'.length = ρ.length := by have := congrArg List.length h; rwa [pw_len, pw_len] at this
  refine List.ext_getElem? fun i => ?_
  rw [pb_get is ρ ρ' hl.symm]
  by_cases h1 : i ∈ is ∧ i < ρ'.length
  · rw [if_pos h1]
  · rw [if_neg h1]
    have := congrArg (·[i]?) h
    simp only [pw_get] at this
    rwa [if_neg h1, if_neg (by rw [← hl]; exact h1)] at this
theorem wipe_wipe {ρ : Env} {is : List Nat} : PV.wipe (PV.wipe ρ is) is = PV.wipe ρ is := by
  refine List.ext_getElem? fun i => ?_
  rw [pw_get, pw_len, pw_get]
  split <;> rfl
theorem wipe_set {ρ : Env} {is : List Nat} {i : Nat} {c : Option Cell} (h : i ∈ is) : PV.wipe ((PV.wipe ρ is).set i c) is = PV.wipe ρ is := by
  refine List.ext_getElem? fun j => ?_
  rw [pw_get, List.length_set, pw_len]
  by_cases h1 : j ∈ is ∧ j < ρ.length
  · rw [if_pos h1, pw_get, if_pos h1]
  · rw [if_neg h1]
    by_cases h2 : i = j
    · subst h2
      have : ¬ i < ρ.length := fun z => h1 ⟨h, z⟩
      rw [List.getElem?_eq_none (by simp [pw_len]; omega), pw_get, if_neg h1, List.getElem?_eq_none (by omega)]
    · rw [List.getElem?_set_ne h2]
/-! ### comprehensions -/
theorem loopC_run {Lk own : List Nat} {tg : Tg} {test : Env → R Bool} {el : Env → R (Bool × List D)} {ρ1 : Env} {p : D → Bool} {g : D → D} : ∀ (items : List (Bool × D)) (ρ : Env), PV.wipe ρ own = PV.wipe ρ1 own →
    (∀ it ∈ items, ∃ ρt ρu, asgT Lk tg (ownK it.1) it.2 (PV.wipe ρ1 own) = some ρt ∧ test ρt = .ok (p it.2) ρu ∧ PV.wipe ρu own = PV.wipe ρ1 own ∧ (p it.2 = true → ∃ ρv, el ρu = .ok (true, [g it.2]) ρv ∧ PV.wipe ρv own = PV.wipe ρ1 own)) →
    ∃ ρ2, loopC Lk own tg test el items ρ = .ok (true, ((items.map (·.2)).filter p).map g) ρ2 ∧ PV.wipe ρ2 own = PV.wipe ρ1 own
  | [], ρ, h, _ => ⟨ρ, rfl, h⟩
  | (w, x) :: r, ρ, h, hs => by
    obtain ⟨ρt, ρu, h1, h2, h3, h4⟩ := hs (w, x) List.mem_cons_self
    have hr := fun it hit => hs it (List.mem_cons_of_mem _ hit)
    have e : loopC Lk own tg test el ((w, x) :: r) ρ = (match asgT Lk tg (ownK w) x (PV.wipe ρ own) with
      | none => R.bad
      | some ρ1 => (test ρ1).bind fun c ρ2 =>
        if c then (el ρ2).bind fun (w1, ys) ρ3 => (loopC Lk own tg test el r ρ3).bind fun (w2, zs) ρ4 => .ok (w1 && w2, ys ++ zs) ρ4
        else loopC Lk own tg test el r ρ2) := rfl
    rw [e, h, show asgT Lk tg (ownK w) x (PV.wipe ρ1 own) = some ρt from h1]
    dsimp only
    rw [show test ρt = .ok (p x) ρu from h2, rb_ok]
    by_cases hp : p x = true
    · obtain ⟨ρv, h5, h6⟩ := h4 hp
      rw [if_pos hp, show el ρu = .ok (true, [g x]) ρv from h5, rb_ok]
      obtain ⟨ρ2, h7, h8⟩ := loopC_run r ρv h6 hr
      dsimp only
      rw [h7, rb_ok]
      exact ⟨ρ2, by simp [hp], h8⟩
    · rw [if_neg hp]
      obtain ⟨ρ2, h7, h8⟩ := loopC_run r ρu h3 hr
      rw [h7]
      exact ⟨ρ2, by simp [hp], h8⟩
theorem use_own {d : D} {ρ : Env} : use .own d ρ = some (true, ρ) := by unfold use nrm; rw [ite_self]
theorem ev_lc {C : Ctx} {Lk ls own : List Nat} {tg : Tg} {it ifs e : Ex} {ρ ρ1 : Env} {items : List (Bool × D)} (p : D → Bool) (g : D → D) (hi : evi C Lk it ρ = .ok (items, ls) ρ1) (hd : own.any (ls ++ Lk).contains = false) (hz : items.length ≤ SZ)
    (h : ∀ it ∈ items, ∃ ρt ρu, asgT (ls ++ Lk) tg (ownK it.1) it.2 (PV.wipe ρ1 own) = some ρt ∧ evts C (ls ++ Lk) ifs ρt = .ok (p it.2) ρu ∧ PV.wipe ρu own = PV.wipe ρ1 own ∧ (p it.2 = true → ∃ ρv, ev C (ls ++ Lk) e ρu = .ok (.own, g it.2) ρv ∧ PV.wipe ρv own = PV.wipe ρ1 own)) :
    ev C Lk (.lc tg own it ifs e) ρ = .ok (.own, .list (((items.map (·.2)).filter p).map g)) ρ1 := by
  have e0 : ev C Lk (.lc tg own it ifs e) ρ = (evi C Lk it ρ).bind fun (items, ls) ρ1 => if own.any (ls ++ Lk).contains then .bad else
    (loopC (ls ++ Lk) own tg (fun r => evts C (ls ++ Lk) ifs r) (fun r => (ev C (ls ++ Lk) e r).bind fun (m, d) r1 => R.of ((use m d r1).map fun (w, r2) => ((w, [d]), r2))) items ρ1).bind fun (w, ds) ρ2 =>
      if ds.length ≤ SZ then .ok (ownM w, .list ds) (back ρ1 ρ2 own) else .bad := rfl
  rw [e0, hi, rb_ok]
  dsimp only
  rw [hd, if_neg (by decide)]
  obtain ⟨ρ2, h1, h2⟩ := loopC_run (Lk := ls ++ Lk) (own := own) (tg := tg) (test := fun r => evts C (ls ++ Lk) ifs r) (el := fun r => (ev C (ls ++ Lk) e r).bind fun (m, d) r1 => R.of ((use m d r1).map fun (w, r2) => ((w, [d]), r2))) (ρ1 := ρ1) (p := p) (g := g) items ρ1 rfl fun it hit => by
    obtain ⟨ρt, ρu, a1, a2, a3, a4⟩ := h it hit
    refine ⟨ρt, ρu, a1, a2, a3, fun hp => ?_⟩
    obtain ⟨ρv, b1, b2⟩ := a4 hp
    exact ⟨ρv, by rw [b1, rb_ok]; dsimp only; rw [use_own]; rfl, b2⟩
  rw [h1, rb_ok]
  dsimp only
  rw [if_pos, back_same h2]
  · rfl
  · refine Nat.le_trans ?_ hz
    rw [List.length_map]
    exact Nat.le_trans (List.length_filter_le _ _) (by simp)
theorem ev_dc {C : Ctx} {Lk ls own : List Nat} {tg : Tg} {it k v : Ex} {ρ ρ1 : Env} {items : List (Bool × D)} (kf vf : D → D) (hi : evi C Lk it ρ = .ok (items, ls) ρ1) (hd : own.any (ls ++ Lk).contains = false) (hz : items.length ≤ SZ)
    (h : ∀ it ∈ items, ∃ ρt, asgT (ls ++ Lk) tg (ownK it.1) it.2 (PV.wipe ρ1 own) = some ρt ∧ PV.wipe ρt own = PV.wipe ρ1 own ∧ keyOk (kf it.2) = true ∧ (∃ m ρv, ev C (ls ++ Lk) k ρt = .ok (m, kf it.2) ρv ∧ ∃ ρw, ev C (ls ++ Lk) v ρv = .ok (.own, vf it.2) ρw ∧ PV.wipe ρw own = PV.wipe ρ1 own)) :
    ev C Lk (.dc tg own it .nil k v) ρ = .ok (.own, .dict (((items.map (·.2)).map fun x => (kf x, vf x)).foldl (fun a p => putKV a p.1 p.2) [])) ρ1 := by
  have e0 : ev C Lk (.dc tg own it .nil k v) ρ = (evi C Lk it ρ).bind fun (items, ls) ρ1 => if own.any (ls ++ Lk).contains then .bad else
    (loopC (ls ++ Lk) own tg (fun r => evts C (ls ++ Lk) .nil r) (fun r => (ev C (ls ++ Lk) k r).bind fun (_, dk) r1 => if keyOk dk then (ev C (ls ++ Lk) v r1).bind fun (m, d) r2 => R.of ((use m d r2).map fun (w, r3) => ((w, [.tuple [dk, d]]), r3)) else .bad) items ρ1).bind fun (w, ds) ρ2 =>
      if ds.length ≤ SZ then (match pairsOf ds with
      | some ps => .ok (ownM w, .dict (ps.foldl (fun a p => putKV a p.1 p.2) [])) (back ρ1 ρ2 own)
      | none => .bad) else .bad := rfl
  rw [e0, hi, rb_ok]
  dsimp only
  rw [hd, if_neg (by decide)]
  obtain ⟨ρ2, h1, h2⟩ := loopC_run (Lk := ls ++ Lk) (own := own) (tg := tg) (test := fun r => evts C (ls ++ Lk) .nil r) (el := fun r => (ev C (ls ++ Lk) k r).bind fun (_, dk) r1 => if keyOk dk then (ev C (ls ++ Lk) v r1).bind fun (m, d) r2 => R.of ((use m d r2).map fun (w, r3) => ((w, [.tuple [dk, d]]), r3)) else .bad) (ρ1 := ρ1) (p := fun _ => true) (g := fun x => .tuple [kf x, vf x]) items ρ1 rfl fun it hit => by
    obtain ⟨ρt, a1, a2, a3, m, ρv, a4, ρw, a5, a6⟩ := h it hit
    refine ⟨ρt, ρt, a1, rfl, a2, fun _ => ⟨ρw, ?_, a6⟩⟩
    rw [a4, rb_ok]
    dsimp only
    rw [if_pos a3, a5, rb_ok]
    dsimp only
    rw [use_own]; rfl
  rw [h1, rb_ok]
  dsimp only
  have hp : ∀ l : List (Bool × D), (∀ it ∈ l, keyOk (kf it.2) = true) → pairsOf (((l.map (·.2)).filter fun _ => true).map fun x => .tuple [kf x, vf x]) = some ((l.map (·.2)).map fun x => (kf x, vf x)) := fun l => by
    induction l with
    | nil => intro _; rfl
    | cons it l ih =>
      intro hk
      have := ih fun it' hi' => hk it' (List.mem_cons_of_mem _ hi')
      simp only [List.map_cons, List.filter_cons, if_true] at this ⊢
      simp only [pairsOf, hk it List.mem_cons_self, if_true, this, Option.map_some]
  rw [if_pos (by rw [List.length_map]; exact Nat.le_trans (List.length_filter_le _ _) (by simpa using hz)), hp items fun it hit => let ⟨_, _, _, a3, _⟩ := h it hit; a3, back_same h2]
  rfl
/-! ### loops -/
theorem loopF_inv {Lk : List Nat} {tg : Tg} {body : Env → R Fl} (I : Nat → Env → Prop) {items : List (Bool × D)} : ∀ (k : Nat) (ρ : Env), I k ρ → k ≤ items.length →
    (∀ i w d ρ, items[i]? = some (w, d) → I i ρ → ∃ ρ1 ρ2 f, asgT Lk tg (ownK w) d ρ = some ρ1 ∧ body ρ1 = .ok f ρ2 ∧ (f = .nx ∨ f = .ct) ∧ I (i + 1) ρ2) → ∃ ρ', loopF Lk tg body (items.drop k) ρ = .ok .nx ρ' ∧ I items.length ρ' := by
  intro k
  generalize hm : items.length - k = m
  induction m generalizing k with
  | zero =>
    intro ρ h hk _
    have : k = items.length := by omega
    subst this
    exact ⟨ρ, by rw [List.drop_length]; rfl, h⟩
  | succ m ih =>
    intro ρ h hk hs
    have hlt : k < items.length := by omega
    rw [List.drop_eq_getElem_cons hlt]
    obtain ⟨ρ1, ρ2, f, h1, h2, h3, h4⟩ := hs k items[k].1 items[k].2 ρ (by rw [List.getElem?_eq_getElem hlt]) h
    obtain ⟨ρ', h5, h6⟩ := ih (k + 1) (by omega) ρ2 h4 hlt hs
    refine ⟨ρ', ?_, h6⟩
    have e : loopF Lk tg body (items[k] :: items.drop (k + 1)) ρ = (match asgT Lk tg (ownK items[k].1) items[k].2 ρ with
      | none => R.bad
      | some ρ1 => (body ρ1).bind fun f ρ2 => match f with
        | .nx => loopF Lk tg body (items.drop (k + 1)) ρ2
        | .ct => loopF Lk tg body (items.drop (k + 1)) ρ2
        | .brk => .ok .nx ρ2
        | .ret m d => .ok (.ret m d) ρ2) := rfl
    rw [e, h1]
    dsimp only
    rw [h2, rb_ok]
    rcases h3 with rfl | rfl <;> exact h5
theorem loopF_all {Lk : List Nat} {tg : Tg} {body : Env → R Fl} (I : Nat → Env → Prop) {items : List (Bool × D)} {ρ : Env} (h : I 0 ρ)
    (hs : ∀ i w d ρ, items[i]? = some (w, d) → I i ρ → ∃ ρ1 ρ2 f, asgT Lk tg (ownK w) d ρ = some ρ1 ∧ body ρ1 = .ok f ρ2 ∧ (f = .nx ∨ f = .ct) ∧ I (i + 1) ρ2) : ∃ ρ', loopF Lk tg body items ρ = .ok .nx ρ' ∧ I items.length ρ' := by
  have := loopF_inv (Lk := Lk) (tg := tg) (body := body) I 0 ρ h (Nat.zero_le _) hs
  simpa using this
/-! ### calls -/
theorem aft_id {as : List Arg} {ios : List (Option D)} {ρ : Env} (h : ∀ a ∈ as, a.k ≠ .io ∧ a.k ≠ .iot) : aft as ios false ρ = ρ := by
  unfold aft
  refine List.ext_getElem? fun i => ?_
  rw [List.getElem?_map, List.getElem?_zipIdx]
  have hn : ∀ j, ioAt as j = none := fun j => by
    unfold ioAt
    rw [List.findIdx?_eq_none_iff]
    intro a ha
    obtain ⟨h1, h2⟩ := h a ha
    revert h1 h2
    cases a.k <;> simp
  cases hc : ρ[i]? with
  | none => rfl
  | some c => simp [aftC, hn]
end PV.N
end

section
set_option linter.all false
set_option autoImplicit false
set_option maxRecDepth 100000
namespace PV.N
open PySem
/-! ### forests -/
def nx (p : List Int) (i : Int) : Int := p.getD (i - 1).toNat 0
def In (p : List Int) (i : Int) : Prop := 1 ≤ i ∧ i ≤ p.length
structure Fo (p : List Int) : Prop where
  n1 : 1 ≤ p.length
  n40 : p.length ≤ 40
  rg : ∀ i, In p i → In p (nx p i)
  ex : ∃ T : Int → Nat, (∀ i, In p i → nx p i ≠ i → T i < T (nx p i)) ∧ ∀ i, T i ≤ 121
def wy (p : List Int) : Nat → Int → List Int
  | 0, i => [i]
  | f + 1, i => if nx p i = i then [i] else i :: wy p f (nx p i)
def way (p : List Int) (i : Int) : List Int := wy p 122 i
theorem wy_len (p : List Int) : ∀ (f : Nat) (i : Int), (wy p f i).length ≤ f + 1
  | 0, i => Nat.le_refl _
  | f + 1, i => by
    unfold wy
    split
    · simp
    · have := wy_len p f (nx p i)
      simp only [List.length_cons]; omega
theorem wy_same {p : List Int} (h : Fo p) {T : Int → Nat} (h1 : ∀ i, In p i → nx p i ≠ i → T i < T (nx p i)) (h2 : ∀ i, T i ≤ 121) : ∀ (f g : Nat) (i : Int), In p i → 121 - T i ≤ f → 121 - T i ≤ g → wy p f i = wy p g i := by
  have top : ∀ i, In p i → 121 - T i ≤ 0 → nx p i = i := fun i hi z => Classical.byContradiction fun n => by
    have := h1 i hi n
    have := h2 (nx p i)
    have := h2 i
    omega
  intro f
  induction f with
  | zero =>
    intro g i hi hf _
    have e := top i hi hf
    cases g with
    | zero => rfl
    | succ g => unfold wy; rw [if_pos e]
  | succ f ih =>
    intro g i hi hf hg
    cases g with
    | zero => unfold wy; rw [if_pos (top i hi hg)]
    | succ g =>
      unfold wy
      by_cases e : nx p i = i
      · rw [if_pos e, if_pos e]
      · rw [if_neg e, if_neg e]
        have := h1 i hi e
        have := h2 (nx p i)
        rw [ih g (nx p i) (h.rg i hi) (by omega) (by omega)]
theorem way_eq {p : List Int} (h : Fo p) {i : Int} (hi : In p i) : way p i = if nx p i = i then [i] else i :: way p (nx p i) := by
  obtain ⟨T, h1, h2⟩ := h.ex
  have e : way p i = if nx p i = i then [i] else i :: wy p 121 (nx p i) := rfl
  rw [e]
  by_cases z : nx p i = i
  · rw [if_pos z, if_pos z]
  · rw [if_neg z, if_neg z]
    have := h1 i hi z
    have := h2 (nx p i)
    rw [wy_same h h1 h2 121 122 (nx p i) (h.rg i hi) (by omega) (by omega)]
    rfl
theorem Fo.ind {p : List Int} (h : Fo p) {P : Int → Prop} (a : ∀ i, In p i → nx p i = i → P i) (b : ∀ i, In p i → nx p i ≠ i → In p (nx p i) → P (nx p i) → P i) : ∀ i, In p i → P i := by
  obtain ⟨T, h1, h2⟩ := h.ex
  have key : ∀ (f : Nat) (i : Int), 121 - T i ≤ f → In p i → P i := by
    intro f
    induction f with
    | zero =>
      intro i hf hi
      refine a i hi (Classical.byContradiction fun n => ?_)
      have := h1 i hi n
      have := h2 (nx p i)
      omega
    | succ f ih =>
      intro i hf hi
      by_cases e : nx p i = i
      · exact a i hi e
      · have := h1 i hi e
        have := h2 (nx p i)
        exact b i hi e (h.rg i hi) (ih _ (by omega) (h.rg i hi))
  exact fun i => key _ i (Nat.le_refl _)
theorem way_len (p : List Int) (i : Int) : (way p i).length ≤ 123 := wy_len p 122 i
theorem way_mem {p : List Int} (h : Fo p) : ∀ i, In p i → ∀ x ∈ way p i, In p x := h.ind (fun i hi e x hx => by
    rw [way_eq h hi, if_pos e] at hx
    rw [List.mem_singleton.mp hx]; exact hi) fun i hi e _ ih x hx => by
    rw [way_eq h hi, if_neg e] at hx
    rcases List.mem_cons.mp hx with rfl | hx
    · exact hi
    · exact ih x hx
theorem way_self {p : List Int} (h : Fo p) {i : Int} (hi : In p i) : i ∈ way p i := by rw [way_eq h hi]; split <;> simp
theorem way_ne {p : List Int} (h : Fo p) {i : Int} (hi : In p i) : way p i ≠ [] := List.ne_nil_of_mem (way_self h hi)
theorem way_nodup {p : List Int} (h : Fo p) : ∀ i, In p i → (way p i).Nodup := by
  obtain ⟨T, h1, h2⟩ := h.ex
  have low : ∀ i, In p i → ∀ x ∈ way p i, T i ≤ T x := h.ind (fun i hi e x hx => by
    rw [way_eq h hi, if_pos e] at hx
    rw [List.mem_singleton.mp hx]; exact Nat.le_refl _) fun i hi e _ ih x hx => by
    rw [way_eq h hi, if_neg e] at hx
    rcases List.mem_cons.mp hx with rfl | hx
    · exact Nat.le_refl _
    · exact Nat.le_trans (Nat.le_of_lt (h1 i hi e)) (ih x hx)
  refine h.ind (fun i hi e => ?_) fun i hi e hn ih => ?_
  · rw [way_eq h hi, if_pos e]; simp
  · rw [way_eq h hi, if_neg e]
    refine List.nodup_cons.mpr ⟨fun z => ?_, ih⟩
    have := low _ hn i z
    have := h1 i hi e
    omega
def root (p : List Int) (i : Int) : Int := (way p i).getLastD 0
theorem way_last {p : List Int} (h : Fo p) {i : Int} (hi : In p i) : (way p i).getLast? = some (root p i) := by
  unfold root
  have := way_ne h hi
  rw [List.getLastD_eq_getLast?]
  cases hc : way p i with
  | nil => exact absurd hc this
  | cons x r => rw [List.getLast?_cons]; rfl
def things (n : Nat) : List Int := (List.range n).map fun (k : Nat) => 1 + (k : Int)
theorem mem_things {n : Nat} {x : Int} : x ∈ things n ↔ 1 ≤ x ∧ x ≤ n := by
  unfold things
  rw [List.mem_map]
  constructor
  · rintro ⟨k, hk, rfl⟩
    have := List.mem_range.mp hk
    omega
  · rintro ⟨h1, h2⟩
    exact ⟨(x - 1).toNat, List.mem_range.mpr (by omega), by omega⟩
theorem things_len (n : Nat) : (things n).length = n := by simp [things]
theorem things_at {n k : Nat} (h : k < n) : (things n)[k]? = some (1 + (k : Int)) := by
  unfold things
  rw [List.getElem?_map, List.getElem?_range h]; rfl
theorem rangeD_things (n : Nat) : rangeD 1 ((n : Int) + 1) = (things n).map .int := by
  unfold rangeD things
  rw [List.map_map, show ((n : Int) + 1 - 1).toNat = n by omega]
  rfl
theorem In.idx {p : List Int} {i : Int} (h : In p i) : 0 ≤ i - 1 ∧ i - 1 < p.length := ⟨by have := h.1; omega, by have := h.2; omega⟩
theorem at_nx {p : List Int} {i : Int} (h : In p i) : atD (L p) (.int (i - 1)) = some (.int (nx p i)) := atD_L h.idx.1 h.idx.2
end PV.N
end

section
set_option linter.all false
set_option autoImplicit false
set_option maxRecDepth 100000
namespace PV.N
open PySem
theorem nr {α : Type} {a b : α} (h : a = b) : a = b := h
def ob {α β : Type} (o : Option α) (f : α → R β) : R β :=
  match o with
  | some a => f a
  | none => .bad
def seqF (k : Env → R Fl) (f : Fl) (ρ : Env) : R Fl :=
  match f with
  | .nx => k ρ
  | .brk => .ok .brk ρ
  | .ct => .ok .ct ρ
  | .ret m d => .ok (.ret m d) ρ
@[simp] theorem ob_some {α β : Type} {a : α} {f : α → R β} : ob (some a) f = f a := nr rfl
@[simp] theorem ob_none {α β : Type} {f : α → R β} : ob none f = .bad := nr rfl
theorem ob_cong {α β : Type} {a b : Option α} {f : α → R β} (h : a = b) : ob a f = ob b f := by rw [h]
theorem bind_cong {α β : Type} {a b : R α} {f : α → Env → R β} (h : a = b) : a.bind f = b.bind f := by rw [h]
theorem seqF_cong {k : Env → R Fl} {f f' : Fl} {ρ ρ' : Env} (h : f = f') (h2 : ρ = ρ') : seqF k f ρ = seqF k f' ρ' := by rw [h, h2]
@[simp] theorem seq_nx {k : Env → R Fl} {ρ : Env} : seqF k .nx ρ = k ρ := nr rfl
@[simp] theorem seq_ct {k : Env → R Fl} {ρ : Env} : seqF k .ct ρ = .ok .ct ρ := nr rfl
@[simp] theorem seq_brk {k : Env → R Fl} {ρ : Env} : seqF k .brk ρ = .ok .brk ρ := nr rfl
@[simp] theorem seq_ret {k : Env → R Fl} {ρ : Env} {m : M} {d : D} : seqF k (.ret m d) ρ = .ok (.ret m d) ρ := nr rfl
def blk (c : Option Cell) : Bool :=
  match c with
  | some ⟨.io, _⟩ => true
  | some ⟨.iot, _⟩ => true
  | _ => false
/-- a cell that is empty or holds a thing of its own -/
def cF (o : Option D) : Option Cell := o.map (Cell.mk .own)
@[simp] theorem ex_cF {d : D} : (∃ x, some (Cell.mk .own d) = cF x) ↔ True := ⟨fun _ => trivial, fun _ => ⟨some d, rfl⟩⟩
@[simp] theorem ex_cF' {o : Option D} : (∃ x, cF o = cF x) ↔ True := ⟨fun _ => trivial, fun _ => ⟨o, rfl⟩⟩
@[simp] theorem ex_cFn : (∃ x, none = cF x) ↔ True := ⟨fun _ => trivial, fun _ => ⟨none, rfl⟩⟩
@[simp] theorem cF_n : cF none = none := nr rfl
@[simp] theorem blk_n : blk none = false := nr rfl
@[simp] theorem blk_o {d : D} : blk (some ⟨.own, d⟩) = false := nr rfl
@[simp] theorem blk_s {d : D} : blk (some ⟨.shr, d⟩) = false := nr rfl
@[simp] theorem blk_t {d : D} : blk (some ⟨.top, d⟩) = false := nr rfl
@[simp] theorem blk_c {o : Option D} : blk (cF o) = false := by cases o <;> rfl
section
variable {C : Ctx} {Lk : List Nat} {ρ : Env} {α β : Type}
@[simp] theorem e_rb {a : α} {f : α → Env → R β} : (R.ok a ρ).bind f = f a ρ := nr rfl
@[simp] theorem e_of {a : α} : R.of (some (a, ρ)) = .ok a ρ := nr rfl
@[simp] theorem e_getc {i : Nat} : getc ρ i = (ρ[i]?).join := nr rfl
@[simp] theorem e_lk1 : lk .own = [] := nr rfl
@[simp] theorem e_lk2 : lk .top = [] := nr rfl
@[simp] theorem e_lk3 : lk .shr = [] := nr rfl
@[simp] theorem e_lk4 {i : Nat} : lk (.bor i) = [i] := nr rfl
@[simp] theorem e_lk5 {i : Nat} : lk (.bort i) = [i] := nr rfl
@[simp] theorem e_el1 : elt .own = .own := nr rfl
@[simp] theorem e_el2 : elt .top = .shr := nr rfl
@[simp] theorem e_el3 : elt .shr = .shr := nr rfl
@[simp] theorem e_el4 {i : Nat} : elt (.bor i) = .bor i := nr rfl
@[simp] theorem e_im1 : im .none = true := nr rfl
@[simp] theorem e_im2 {b : Bool} : im (.bool b) = true := nr rfl
@[simp] theorem e_im3 {b : Int} : im (.int b) = true := nr rfl
@[simp] theorem e_im4 {b : Str} : im (.str b) = true := nr rfl
@[simp] theorem e_im5 {b : List D} : im (.list b) = false := nr rfl
@[simp] theorem e_im6 {b : List (D × D)} : im (.dict b) = false := nr rfl
@[simp] theorem e_im7 {b : List D} : im (.tuple b) = imAll b := nr rfl
@[simp] theorem e_ima1 : imAll [] = true := nr rfl
@[simp] theorem e_ima2 {d : D} {b : List D} : imAll (d :: b) = (im d && imAll b) := nr rfl
@[simp] theorem e_ima3 {p : List Int} : imAll (p.map .int) = true := nr (imAll_ints p)
@[simp] theorem e_nrm1 {d : D} : nrm .own d = .own := by unfold nrm; rw [ite_self]
@[simp] theorem e_nrm2 {m : M} {i : Int} : nrm m (.int i) = .own := nr rfl
@[simp] theorem e_nrm3 {m : M} {i : Str} : nrm m (.str i) = .own := nr rfl
@[simp] theorem e_nrm4 {m : M} {i : Bool} : nrm m (.bool i) = .own := nr rfl
@[simp] theorem e_nrm5 {m : M} : nrm m .none = .own := nr rfl
@[simp] theorem e_nrm6 {m : M} {b : List D} : nrm m (.list b) = m := nr rfl
@[simp] theorem e_nrm7 {m : M} {b : List (D × D)} : nrm m (.dict b) = m := nr rfl
@[simp] theorem e_nrm8 {m : M} {b : List D} : nrm m (.tuple b) = if imAll b then .own else m := nr rfl
@[simp] theorem e_use1 {d : D} : use .own d ρ = some (true, ρ) := nr use_own
@[simp] theorem e_keep1 {d : D} : keep .own d ρ = some (.own, ρ) := by unfold keep; rw [e_nrm1]
@[simp] theorem e_ownM1 : ownM true = .own := nr rfl
@[simp] theorem e_ownM2 : ownM false = .top := nr rfl
@[simp] theorem e_ownK1 : ownK true = .own := nr rfl
@[simp] theorem e_ownK2 : ownK false = .shr := nr rfl
@[simp] theorem e_ld {i : Nat} : ld ρ i = match getc ρ i with
  | some ⟨.shr, d⟩ => some (nrm .shr d, d)
  | some ⟨.top, d⟩ => some (nrm (.bort i) d, d)
  | some ⟨.iot, d⟩ => some (nrm (.bort i) d, d)
  | some ⟨_, d⟩ => some (nrm (.bor i) d, d)
  | none => none := nr rfl
/-! expressions -/
@[simp] theorem e_con {d : D} : ev C Lk (.con d) ρ = .ok (.own, d) ρ := nr rfl
@[simp] theorem e_var {i : Nat} : ev C Lk (.var i) ρ = R.of ((ld ρ i).map fun v => (v, ρ)) := nr rfl
@[simp] theorem e_mv {i : Nat} : ev C Lk (.mv i) ρ = if Lk.contains i then .bad else match getc ρ i with
    | some ⟨.own, d⟩ => .ok (.own, d) (ρ.set i none)
    | some ⟨.top, d⟩ => .ok (.top, d) (ρ.set i none)
    | some ⟨.shr, d⟩ => .ok (nrm .shr d, d) ρ
    | _ => .bad := nr rfl
@[simp] theorem e_glob {x : Nat} : ev C Lk (.glob x) ρ = match C.glob x with
    | some (.int i) => .ok (.own, .int i) ρ
    | some (.str z) => .ok (.own, .str z) ρ
    | _ => .bad := nr rfl
@[simp] theorem e_bin {o : BO} {a b : Ex} : ev C Lk (.bin o a b) ρ = (ev C Lk a ρ).bind fun x ρ1 => (ev C (lk x.1 ++ Lk) b ρ1).bind fun y ρ2 => R.of (binop o x.1 x.2 y.1 y.2 ρ2) := nr rfl
@[simp] theorem e_neg {a : Ex} : ev C Lk (.neg a) ρ = (ev C Lk a ρ).bind fun x ρ1 => match x.2 with
    | .int i => .ok (.own, .int (-i)) ρ1
    | _ => .bad := nr rfl
@[simp] theorem e_not {a : Ex} : ev C Lk (.not a) ρ = (evt C Lk a ρ).bind fun c ρ1 => .ok (.own, .bool (!c)) ρ1 := nr rfl
@[simp] theorem e_cmp {o : CO} {a b : Ex} : ev C Lk (.cmp o a b) ρ = (ev C Lk a ρ).bind fun x ρ1 => (ev C (lk x.1 ++ Lk) b ρ1).bind fun y ρ2 => ob (cmpop o x.2 y.2) fun c => .ok (.own, .bool c) ρ2 := by
  show ((ev C Lk a ρ).bind fun x ρ1 => (ev C (lk x.1 ++ Lk) b ρ1).bind fun y ρ2 => match cmpop o x.2 y.2 with
    | some c => .ok (.own, .bool c) ρ2
    | none => .bad : R (M × D)) = _
  congr 1; funext x ρ1; congr 1; funext y ρ2
  try dsimp only
  cases cmpop o x.2 y.2 <;> rfl
@[simp] theorem e_chain {o p : CO} {a b c : Ex} : ev C Lk (.chain o p a b c) ρ = (ev C Lk a ρ).bind fun x ρ1 => (ev C (lk x.1 ++ Lk) b ρ1).bind fun y ρ2 => ob (cmpop o x.2 y.2) fun t => if t then (ev C (lk y.1 ++ Lk) c ρ2).bind fun z ρ3 => ob (cmpop p y.2 z.2) fun c => .ok (.own, .bool c) ρ3 else .ok (.own, .bool false) ρ2 := by
  show ((ev C Lk a ρ).bind fun x ρ1 => (ev C (lk x.1 ++ Lk) b ρ1).bind fun y ρ2 => match cmpop o x.2 y.2 with
    | some false => .ok (.own, .bool false) ρ2
    | some true => (ev C (lk y.1 ++ Lk) c ρ2).bind fun z ρ3 => match cmpop p y.2 z.2 with
      | some c => .ok (.own, .bool c) ρ3
      | none => .bad
    | none => .bad : R (M × D)) = _
  congr 1; funext x ρ1; congr 1; funext y ρ2
  try dsimp only
  cases cmpop o x.2 y.2 with
  | none => rfl
  | some t =>
    cases t with
    | false => rfl
    | true =>
      show R.bind _ _ = R.bind _ _
      congr 1; funext z ρ3
      try dsimp only
      cases cmpop p y.2 z.2 <;> rfl
@[simp] theorem e_and {es : Ex} : ev C Lk (.and es) ρ = evAnd C Lk es ρ := nr rfl
@[simp] theorem e_or {es : Ex} : ev C Lk (.or es) ρ = evOr C Lk es ρ := nr rfl
@[simp] theorem e_ite {c a b : Ex} : ev C Lk (.ite c a b) ρ = (evt C Lk c ρ).bind fun t ρ1 => if t then ev C Lk a ρ1 else ev C Lk b ρ1 := nr rfl
@[simp] theorem e_lst {es : Ex} : ev C Lk (.lst es) ρ = (evd C Lk es ρ).bind fun x ρ1 => if x.2.length ≤ SZ then .ok (ownM x.1, .list x.2) ρ1 else .bad := nr rfl
@[simp] theorem e_tup {es : Ex} : ev C Lk (.tup es) ρ = (evd C Lk es ρ).bind fun x ρ1 => if x.2.length ≤ SZ then .ok (nrm (ownM x.1) (.tuple x.2), .tuple x.2) ρ1 else .bad := nr rfl
@[simp] theorem e_sub {a i : Ex} : ev C Lk (.sub a i) ρ = (ev C Lk a ρ).bind fun x ρ1 => (ev C (lk x.1 ++ Lk) i ρ1).bind fun y ρ2 => ob (atD x.2 y.2) fun d => .ok (nrm (elt x.1) d, d) ρ2 := by
  show ((ev C Lk a ρ).bind fun x ρ1 => (ev C (lk x.1 ++ Lk) i ρ1).bind fun y ρ2 => match atD x.2 y.2 with
    | some d => .ok (nrm (elt x.1) d, d) ρ2
    | none => .bad : R (M × D)) = _
  congr 1; funext x ρ1; congr 1; funext y ρ2
  try dsimp only
  cases atD x.2 y.2 <;> rfl
@[simp] theorem e_call {f : Nat} {es : Ex} : ev C Lk (.call f es) ρ = (eva C Lk es ρ).bind fun as ρ1 => doCall C f as ρ1 := nr rfl
@[simp] theorem e_callk {f : Nat} {es : Ex} {perm : List Nat} : ev C Lk (.callk f es perm) ρ = (eva C Lk es ρ).bind fun as ρ1 => doCall C f (perm.filterMap fun j => as[j]?) ρ1 := nr rfl
@[simp] theorem e_bi {b : BI} {es : Ex} : ev C Lk (.bi b es) ρ = (evs C Lk es ρ).bind fun vs ρ1 => R.of (bi b vs ρ1) := nr rfl
@[simp] theorem e_lvals {a : Ex} : ev C Lk (.lvals a) ρ = (ev C Lk a ρ).bind fun x ρ1 => match x.2 with
    | .dict kvs => R.of ((use1 x.1 (kvs.map (·.2)) ρ1).map fun y => ((ownM y.1, .list (kvs.map (·.2))), y.2))
    | _ => .bad := nr rfl
@[simp] theorem e_lrng {es : Ex} : ev C Lk (.lrng es) ρ = (evs C Lk es ρ).bind fun vs ρ1 => ob (rngO (vs.map (·.2))) fun xs => if xs.length ≤ SZ then .ok (.own, .list xs) ρ1 else .bad := by
  show ((evs C Lk es ρ).bind fun vs ρ1 => match rngO (vs.map (·.2)) with
    | some xs => if xs.length ≤ SZ then .ok (.own, .list xs) ρ1 else .bad
    | none => .bad : R (M × D)) = _
  congr 1; funext vs ρ1
  try dsimp only
  cases rngO (vs.map (·.2)) <;> rfl
@[simp] theorem e_me {o : ME} {a es : Ex} : ev C Lk (.me o a es) ρ = (ev C Lk a ρ).bind fun x ρ1 => (evs C (lk x.1 ++ Lk) es ρ1).bind fun vs ρ2 => R.of (me o x.1 x.2 vs ρ2) := nr rfl
@[simp] theorem e_slc {a lo hi : Ex} : ev C Lk (.slc a lo hi) ρ = (ev C Lk a ρ).bind fun x ρ1 => (evo C (lk x.1 ++ Lk) lo ρ1).bind fun lo ρ2 => (evo C (lk x.1 ++ Lk) hi ρ2).bind fun hi ρ3 => match x.2 with
    | .list xs => R.of ((use1 x.1 (cut xs lo hi) ρ3).map fun y => ((ownM y.1, .list (cut xs lo hi)), y.2))
    | .tuple xs => R.of ((use1 x.1 (cut xs lo hi) ρ3).map fun y => ((nrm (ownM y.1) (.tuple (cut xs lo hi)), .tuple (cut xs lo hi)), y.2))
    | .str z => if z.length ≤ SZ then .ok (.own, .str ⟨(cut z.cps.toList lo hi).toArray⟩) ρ3 else .bad
    | _ => .bad := nr rfl
/-! rows of expressions -/
@[simp] theorem e_evo0 : evo C Lk .nil ρ = .ok none ρ := nr rfl
@[simp] theorem e_evo1 {a b : Ex} : evo C Lk (.cons a b) ρ = (ev C Lk a ρ).bind fun x ρ1 => match x.2 with
    | .int i => .ok (some i) ρ1
    | _ => .bad := nr rfl
@[simp] theorem e_evs0 : evs C Lk .nil ρ = .ok [] ρ := nr rfl
@[simp] theorem e_evs1 {a b : Ex} : evs C Lk (.cons a b) ρ = (ev C Lk a ρ).bind fun x ρ1 => (evs C (lk x.1 ++ Lk) b ρ1).bind fun vs ρ2 => .ok ((x.1, x.2) :: vs) ρ2 := nr rfl
@[simp] theorem e_evp0 {x : Nat} : evp C Lk x .nil ρ = if (getc ρ x).isSome then .ok [] ρ else .bad := nr rfl
@[simp] theorem e_evp1 {x : Nat} {a b : Ex} : evp C Lk x (.cons a b) ρ = (evp C Lk x a ρ).bind fun ps ρ1 => (ev C Lk b ρ1).bind fun y ρ2 => match getc ρ2 x with
    | some ⟨k, d⟩ => if isOwn k && holdAt d (ps ++ [y.2]) then .ok (ps ++ [y.2]) ρ2 else .bad
    | none => .bad := nr rfl
@[simp] theorem e_evd0 : evd C Lk .nil ρ = .ok (true, []) ρ := nr rfl
@[simp] theorem e_evd1 {a b : Ex} : evd C Lk (.cons a b) ρ = (ev C Lk a ρ).bind fun x ρ1 => ob (use x.1 x.2 ρ1) fun z => (evd C Lk b z.2).bind fun y ρ3 => .ok (z.1 && y.1, x.2 :: y.2) ρ3 := by
  show ((ev C Lk a ρ).bind fun x ρ1 => match use x.1 x.2 ρ1 with
    | none => .bad
    | some (w, ρ2) => (evd C Lk b ρ2).bind fun y ρ3 => .ok (w && y.1, x.2 :: y.2) ρ3 : R (Bool × List D)) = _
  congr 1; funext x ρ1
  try dsimp only
  cases use x.1 x.2 ρ1 <;> rfl
@[simp] theorem e_eva0 : eva C Lk .nil ρ = .ok [] ρ := nr rfl
def isIoE : Ex → Bool
  | .io _ => true
  | .iot _ => true
  | _ => false
def argE (m : M) (d : D) : Arg :=
  match m with
  | .own => ⟨.own, d, none⟩
  | .top => ⟨.shr, d, none⟩
  | .shr => ⟨.shr, d, none⟩
  | .bor i => ⟨.shr, d, some i⟩
  | .bort i => ⟨.shr, d, some i⟩
@[simp] theorem e_argE1 {d : D} : argE .own d = ⟨.own, d, none⟩ := nr rfl
@[simp] theorem e_argE2 {d : D} : argE .shr d = ⟨.shr, d, none⟩ := nr rfl
@[simp] theorem e_argE3 {d : D} {i : Nat} : argE (.bor i) d = ⟨.shr, d, some i⟩ := nr rfl
@[simp] theorem e_argE4 {d : D} : argE .top d = ⟨.shr, d, none⟩ := nr rfl
@[simp] theorem e_argE5 {d : D} {i : Nat} : argE (.bort i) d = ⟨.shr, d, some i⟩ := nr rfl
theorem e_eva1 {a b : Ex} (h : isIoE a = false) : eva C Lk (.cons a b) ρ = (ev C Lk a ρ).bind fun x ρ1 => (eva C (lk x.1 ++ Lk) b ρ1).bind fun as ρ2 => .ok (argE x.1 x.2 :: as) ρ2 := by
  have fin : ∀ (r : R (M × D)) (g : M → Env → R (List Arg)), (r.bind fun (x : M × D) ρ1 => (g x.1 ρ1).bind fun as ρ2 => (match x.1 with
    | .own => .ok (⟨.own, x.2, none⟩ :: as) ρ2
    | .top => .ok (⟨.shr, x.2, none⟩ :: as) ρ2
    | .shr => .ok (⟨.shr, x.2, none⟩ :: as) ρ2
    | .bor i => .ok (⟨.shr, x.2, some i⟩ :: as) ρ2
    | .bort i => .ok (⟨.shr, x.2, some i⟩ :: as) ρ2 : R (List Arg))) = r.bind fun (x : M × D) ρ1 => (g x.1 ρ1).bind fun as ρ2 => .ok (argE x.1 x.2 :: as) ρ2 := fun r g => by
    congr 1; funext x ρ1; congr 1; funext as ρ2; obtain ⟨m, d⟩ := x; cases m <;> rfl
  cases a <;> first | (cases h; done) | exact fin _ (fun m ρ1 => eva C (lk m ++ Lk) b ρ1)
@[simp] theorem e_evac {d : D} {b : Ex} : eva C Lk (.cons (.con d) b) ρ = (eva C Lk b ρ).bind fun as ρ2 => .ok (⟨.own, d, none⟩ :: as) ρ2 := by rw [e_eva1 rfl]; simp
@[simp] theorem e_evav {i : Nat} {b : Ex} : eva C Lk (.cons (.var i) b) ρ = (ev C Lk (.var i) ρ).bind fun x ρ1 => (eva C (lk x.1 ++ Lk) b ρ1).bind fun as ρ2 => .ok (argE x.1 x.2 :: as) ρ2 := e_eva1 rfl
@[simp] theorem e_evam {i : Nat} {b : Ex} : eva C Lk (.cons (.mv i) b) ρ = (ev C Lk (.mv i) ρ).bind fun x ρ1 => (eva C (lk x.1 ++ Lk) b ρ1).bind fun as ρ2 => .ok (argE x.1 x.2 :: as) ρ2 := e_eva1 rfl
@[simp] theorem e_evab {o : BO} {x y b : Ex} : eva C Lk (.cons (.bin o x y) b) ρ = (ev C Lk (.bin o x y) ρ).bind fun x ρ1 => (eva C (lk x.1 ++ Lk) b ρ1).bind fun as ρ2 => .ok (argE x.1 x.2 :: as) ρ2 := e_eva1 rfl
@[simp] theorem e_evaca {f : Nat} {x b : Ex} : eva C Lk (.cons (.call f x) b) ρ = (ev C Lk (.call f x) ρ).bind fun x ρ1 => (eva C (lk x.1 ++ Lk) b ρ1).bind fun as ρ2 => .ok (argE x.1 x.2 :: as) ρ2 := e_eva1 rfl
@[simp] theorem e_eval {x b : Ex} : eva C Lk (.cons (.lst x) b) ρ = (ev C Lk (.lst x) ρ).bind fun x ρ1 => (eva C (lk x.1 ++ Lk) b ρ1).bind fun as ρ2 => .ok (argE x.1 x.2 :: as) ρ2 := e_eva1 rfl
@[simp] theorem e_evalr {x b : Ex} : eva C Lk (.cons (.lrng x) b) ρ = (ev C Lk (.lrng x) ρ).bind fun x ρ1 => (eva C (lk x.1 ++ Lk) b ρ1).bind fun as ρ2 => .ok (argE x.1 x.2 :: as) ρ2 := e_eva1 rfl
@[simp] theorem e_evaio {i : Nat} {b : Ex} : eva C Lk (.cons (.io i) b) ρ = if Lk.contains i || (getc ρ i).isNone then .bad else (eva C Lk b ρ).bind fun as ρ1 => match getc ρ1 i with
    | some ⟨.own, d⟩ => .ok (⟨.io, d, some i⟩ :: as) ρ1
    | some ⟨.io, d⟩ => .ok (⟨.io, d, some i⟩ :: as) ρ1
    | _ => .bad := nr rfl
@[simp] theorem e_and1 {a : Ex} : evAnd C Lk (.cons a .nil) ρ = ev C Lk a ρ := nr rfl
@[simp] theorem e_and2 {a b c : Ex} : evAnd C Lk (.cons a (.cons b c)) ρ = (ev C Lk a ρ).bind fun x ρ1 => ob (truth x.2) fun t => if t then evAnd C Lk (.cons b c) ρ1 else .ok (x.1, x.2) ρ1 := by
  show ((ev C Lk a ρ).bind fun x ρ1 => match truth x.2 with
    | some true => evAnd C Lk (.cons b c) ρ1
    | some false => .ok (x.1, x.2) ρ1
    | none => .bad : R (M × D)) = _
  congr 1; funext x ρ1
  try dsimp only
  cases truth x.2 with
  | none => rfl
  | some t => cases t <;> rfl
@[simp] theorem e_or1 {a : Ex} : evOr C Lk (.cons a .nil) ρ = ev C Lk a ρ := nr rfl
@[simp] theorem e_or2 {a b c : Ex} : evOr C Lk (.cons a (.cons b c)) ρ = (ev C Lk a ρ).bind fun x ρ1 => ob (truth x.2) fun t => if t then .ok (x.1, x.2) ρ1 else evOr C Lk (.cons b c) ρ1 := by
  show ((ev C Lk a ρ).bind fun x ρ1 => match truth x.2 with
    | some true => .ok (x.1, x.2) ρ1
    | some false => evOr C Lk (.cons b c) ρ1
    | none => .bad : R (M × D)) = _
  congr 1; funext x ρ1
  try dsimp only
  cases truth x.2 with
  | none => rfl
  | some t => cases t <;> rfl
@[simp] theorem e_tnot {a : Ex} : evt C Lk (.not a) ρ = (evt C Lk a ρ).bind fun c ρ1 => .ok (!c) ρ1 := nr rfl
@[simp] theorem e_tand {a : Ex} : evt C Lk (.and a) ρ = evtAnd C Lk a ρ := nr rfl
@[simp] theorem e_tor {a : Ex} : evt C Lk (.or a) ρ = evtOr C Lk a ρ := nr rfl
@[simp] theorem e_ttv {a : Ex} : evt C Lk (.tv a) ρ = (ev C Lk a ρ).bind fun x ρ1 => ob (truth x.2) fun b => .ok b ρ1 := by
  show ((ev C Lk a ρ).bind fun x ρ1 => match truth x.2 with
    | some b => .ok b ρ1
    | none => .bad : R Bool) = _
  congr 1; funext x ρ1
  try dsimp only
  cases truth x.2 <;> rfl
@[simp] theorem e_tand1 {a : Ex} : evtAnd C Lk (.cons a .nil) ρ = evt C Lk a ρ := nr rfl
@[simp] theorem e_tand2 {a b c : Ex} : evtAnd C Lk (.cons a (.cons b c)) ρ = (evt C Lk a ρ).bind fun x ρ1 => if x then evtAnd C Lk (.cons b c) ρ1 else .ok false ρ1 := nr rfl
@[simp] theorem e_tor1 {a : Ex} : evtOr C Lk (.cons a .nil) ρ = evt C Lk a ρ := nr rfl
@[simp] theorem e_tor2 {a b c : Ex} : evtOr C Lk (.cons a (.cons b c)) ρ = (evt C Lk a ρ).bind fun x ρ1 => if x then .ok true ρ1 else evtOr C Lk (.cons b c) ρ1 := nr rfl
@[simp] theorem e_ts0 : evts C Lk .nil ρ = .ok true ρ := nr rfl
@[simp] theorem e_ts1 {a b : Ex} : evts C Lk (.cons a b) ρ = (evt C Lk a ρ).bind fun x ρ1 => if x then evts C Lk b ρ1 else .ok false ρ1 := nr rfl
@[simp] theorem e_irng {es : Ex} : evi C Lk (.rng es) ρ = (evs C Lk es ρ).bind fun vs ρ1 => ob (rngO (vs.map (·.2))) fun xs => .ok (xs.map fun x => (true, x), []) ρ1 := by
  show ((evs C Lk es ρ).bind fun vs ρ1 => match rngO (vs.map (·.2)) with
    | some xs => .ok (xs.map fun x => (true, x), []) ρ1
    | none => .bad : R (List (Bool × D) × List Nat)) = _
  congr 1; funext vs ρ1
  try dsimp only
  cases rngO (vs.map (·.2)) <;> rfl
@[simp] theorem e_ienum {a : Ex} : evi C Lk (.enum a) ρ = (ev C Lk a ρ).bind fun x ρ1 => match x.2 with
    | .list xs => (R.of (walkO x.1 x.2 xs ρ1)).bind fun y ρ2 => .ok ((y.1.zipIdx 0).map fun p => (p.1.1, .tuple [.int p.2, p.1.2]), y.2) ρ2
    | .str z => .ok ((z.cps.toList.zipIdx 0).map fun p => (true, .tuple [.int (p.2 : Nat), .str ⟨#[p.1]⟩]), []) ρ1
    | _ => .bad := nr rfl
@[simp] theorem e_iitr {a : Ex} : evi C Lk (.itr a) ρ = (ev C Lk a ρ).bind fun x ρ1 => match x.2 with
    | .list xs => R.of (walkO x.1 x.2 xs ρ1)
    | .tuple xs => R.of (walkO x.1 x.2 xs ρ1)
    | .str z => .ok (z.cps.toList.map fun c => (true, .str ⟨#[c]⟩), []) ρ1
    | _ => .bad := nr rfl
theorem e_walk {m : M} {d : D} {xs : List D} (h : imAll xs = true) : walkO m d xs ρ = some ((xs.map fun x => (true, x), lk m), ρ) := by unfold walkO; rw [if_pos h]
@[simp] theorem e_walkI {m : M} {d : D} {p : List Int} : walkO m d (p.map .int) ρ = some (((p.map .int).map fun x => (true, x), lk m), ρ) := e_walk (imAll_ints p)
/-! statements -/
@[simp] theorem x_asg {tg : Tg} {e : Ex} : exec C Lk (.asg tg e) ρ = (ev C Lk e ρ).bind fun x ρ1 => ob (keep x.1 x.2 ρ1) fun y => R.of ((asgT Lk tg y.1 x.2 y.2).map fun ρ3 => (.nx, ρ3)) := by
  show ((ev C Lk e ρ).bind fun x ρ1 => match keep x.1 x.2 ρ1 with
    | none => .bad
    | some (w, ρ2) => R.of ((asgT Lk tg w x.2 ρ2).map fun ρ3 => (.nx, ρ3)) : R Fl) = _
  congr 1; funext x ρ1
  try dsimp only
  cases keep x.1 x.2 ρ1 <;> rfl
@[simp] theorem x_put {x : Nat} {path i e : Ex} : exec C Lk (.put x path i e) ρ = (ev C Lk e ρ).bind fun y ρ1 => ob (use y.1 y.2 ρ1) fun q => (evp C (x :: Lk) x path q.2).bind fun ps ρ3 => (ev C (x :: Lk) i ρ3).bind fun z ρ4 =>
      if Lk.contains x then .bad else ob (getc ρ4 x) fun c => ob (stK c.k q.1 ps.isEmpty) fun k' => ob (updD c.d ps (fun u => putD u z.2 y.2)) fun d' => .ok .nx (ρ4.set x (some ⟨k', d'⟩)) := by
  show ((ev C Lk e ρ).bind fun y ρ1 => match use y.1 y.2 ρ1 with
    | none => .bad
    | some (w, ρ2) => (evp C (x :: Lk) x path ρ2).bind fun ps ρ3 => (ev C (x :: Lk) i ρ3).bind fun z ρ4 =>
      if Lk.contains x then .bad else match getc ρ4 x with
      | none => .bad
      | some ⟨k, d⟩ => match stK k w ps.isEmpty with
        | none => .bad
        | some k' => match updD d ps (fun u => putD u z.2 y.2) with
          | some d' => .ok .nx (ρ4.set x (some ⟨k', d'⟩))
          | none => .bad : R Fl) = _
  congr 1; funext y ρ1
  try dsimp only
  cases use y.1 y.2 ρ1 with
  | none => rfl
  | some q =>
    obtain ⟨w, ρ2⟩ := q
    rw [ob_some]
    dsimp only
    congr 1; funext ps ρ3; congr 1; funext z ρ4; congr 1
    cases getc ρ4 x with
    | none => rfl
    | some c =>
      obtain ⟨k, d⟩ := c
      rw [ob_some]
      dsimp only
      cases stK k w ps.isEmpty with
      | none => rfl
      | some k' =>
        rw [ob_some]
        dsimp only
        cases updD d ps (fun u => putD u z.2 y.2) <;> rfl
@[simp] theorem x_augp {x : Nat} {i e : Ex} {o : BO} : exec C Lk (.augp x i o e) ρ = if (getc ρ x).isNone then .bad else (ev C (x :: Lk) i ρ).bind fun z ρ1 => ob (getc ρ1 x) fun c => if !isDict c.d then .bad else ob ((atD c.d z.2).bind toI) fun a => (ev C (x :: Lk) e ρ1).bind fun y ρ2 => ob (toI y.2) fun b => ob (arithA o a b) fun r => if Lk.contains x then .bad else ob (getc ρ2 x) fun c2 => ob (if isDict c2.d then stK c2.k true true else none) fun k' => ob (putD c2.d z.2 (.int r)) fun d' => .ok .nx (ρ2.set x (some ⟨k', d'⟩)) := by
  show (if (getc ρ x).isNone then .bad else (ev C (x :: Lk) i ρ).bind fun z ρ1 => match getc ρ1 x with
    | none => .bad
    | some ⟨_, d⟩ => if !isDict d then .bad else match atD d z.2 with
      | some (.int a) => (ev C (x :: Lk) e ρ1).bind fun y ρ2 => match y.2 with
        | .int b => match arithA o a b with
          | none => .bad
          | some c => if Lk.contains x then .bad else match getc ρ2 x with
            | some ⟨k, d2⟩ => match (if isDict d2 then stK k true true else none) with
              | none => .bad
              | some k' => match putD d2 z.2 (.int c) with
                | some d' => .ok .nx (ρ2.set x (some ⟨k', d'⟩))
                | none => .bad
            | none => .bad
        | _ => .bad
      | _ => .bad : R Fl) = _
  congr 1; congr 1; funext z ρ1
  try dsimp only
  cases getc ρ1 x with
  | none => rfl
  | some c =>
    obtain ⟨k, d⟩ := c
    rw [ob_some]
    dsimp only
    congr 1
    cases atD d z.2 with
    | none => rfl
    | some v =>
      cases v <;> first
        | rfl
        | (rename_i a0
           show R.bind _ _ = R.bind _ _
           congr 1; funext y ρ2
           obtain ⟨ym, yd⟩ := y
           dsimp only
           cases yd <;> first
             | rfl
             | (rename_i b
                show _ = ob (arithA o a0 b) _
                dsimp only
                cases arithA o a0 b with
                | none => rfl
                | some r =>
                  rw [ob_some]
                  dsimp only
                  congr 1
                  cases getc ρ2 x with
                  | none => rfl
                  | some c2 =>
                    obtain ⟨k2, d2⟩ := c2
                    rw [ob_some]
                    dsimp only
                    cases (if isDict d2 = true then stK k2 true true else none) with
                    | none => rfl
                    | some k' =>
                      rw [ob_some]
                      dsimp only
                      cases putD d2 z.2 (.int r) <;> rfl))
@[simp] theorem x_app {x : Nat} {path e : Ex} : exec C Lk (.app x path e) ρ = (evp C (x :: Lk) x path ρ).bind fun ps ρ1 => if !listAt ρ1 x ps then .bad else (ev C (x :: Lk) e ρ1).bind fun y ρ2 => ob (use y.1 y.2 ρ2) fun q => if Lk.contains x then .bad else ob (getc q.2 x) fun c => ob (stK c.k q.1 ps.isEmpty) fun k' => ob (updD c.d ps (fun u => appD u y.2)) fun d' => .ok .nx (q.2.set x (some ⟨k', d'⟩)) := by
  show ((evp C (x :: Lk) x path ρ).bind fun ps ρ1 => if !listAt ρ1 x ps then .bad else (ev C (x :: Lk) e ρ1).bind fun y ρ2 => match use y.1 y.2 ρ2 with
    | none => .bad
    | some (w, ρ3) => if Lk.contains x then .bad else match getc ρ3 x with
      | none => .bad
      | some ⟨k, d⟩ => match stK k w ps.isEmpty with
        | none => .bad
        | some k' => match updD d ps (fun u => appD u y.2) with
          | some d' => .ok .nx (ρ3.set x (some ⟨k', d'⟩))
          | none => .bad : R Fl) = _
  congr 1; funext ps ρ1; congr 1; congr 1; funext y ρ2
  try dsimp only
  cases use y.1 y.2 ρ2 with
  | none => rfl
  | some q =>
    obtain ⟨w, ρ3⟩ := q
    rw [ob_some]
    dsimp only
    congr 1
    cases getc ρ3 x with
    | none => rfl
    | some c =>
      obtain ⟨k, d⟩ := c
      rw [ob_some]
      dsimp only
      cases stK k w ps.isEmpty with
      | none => rfl
      | some k' =>
        rw [ob_some]
        dsimp only
        cases updD d ps (fun u => appD u y.2) <;> rfl
@[simp] theorem x_exp {e : Ex} : exec C Lk (.exp e) ρ = (ev C Lk e ρ).bind fun _ ρ1 => .ok .nx ρ1 := nr rfl
@[simp] theorem x_ite {c : Ex} {a b : St} : exec C Lk (.ite c a b) ρ = (evt C Lk c ρ).bind fun t ρ1 => if t then exec C Lk a ρ1 else exec C Lk b ρ1 := nr rfl
@[simp] theorem x_ret {e : Ex} : exec C Lk (.ret e) ρ = (ev C Lk e ρ).bind fun x ρ1 => .ok (.ret x.1 x.2) ρ1 := nr rfl
@[simp] theorem x_retn : exec C Lk .retn ρ = .ok (.ret .own .none) ρ := nr rfl
@[simp] theorem x_nil : exec C Lk .nil ρ = .ok .nx ρ := nr rfl
@[simp] theorem x_cons {a b : St} : exec C Lk (.cons a b) ρ = (exec C Lk a ρ).bind (seqF fun r => exec C Lk b r) := nr rfl
@[simp] theorem t_nm {i : Nat} {w : CK} {d : D} : asgT Lk (.nm i) w d ρ = setv Lk ρ i w d := nr rfl
@[simp] theorem t_tp {ts : Tg} {w : CK} {xs : List D} : asgT Lk (.tp ts) w (.tuple xs) ρ = asgTs Lk ts (if w = .top then .shr else w) xs ρ := nr rfl
@[simp] theorem t_nil {w : CK} : asgTs Lk .nil w [] ρ = some ρ := nr rfl
@[simp] theorem t_cons {t ts : Tg} {w : CK} {x : D} {xs : List D} : asgTs Lk (.cons t ts) w (x :: xs) ρ = (asgT Lk t w x ρ).bind fun ρ' => asgTs Lk ts w xs ρ' := nr rfl
@[simp] theorem t_setv {i : Nat} {w : CK} {d : D} : setv Lk ρ i w d = if w = .io || w = .iot then none else if Lk.contains i then none else if blk (getc ρ i) then none else if i < ρ.length then some (ρ.set i (some ⟨w, d⟩)) else none := by
  unfold setv
  congr 1; congr 1
  unfold blk
  cases getc ρ i with
  | none => rfl
  | some c => obtain ⟨k, d⟩ := c; cases k <;> rfl
@[simp] theorem e_truth {b : Bool} : truth (.bool b) = some b := nr rfl
@[simp] theorem e_isB {b : Bool} : isB (.bool b) = some b := nr rfl
/-! loops -/
theorem x_for {tg : Tg} {it : Ex} {a : St} {ρ1 : Env} {items : List (Bool × D)} {ls : List Nat} (I : Nat → Env → Prop) (hi : evi C Lk it ρ = .ok (items, ls) ρ1) (h : I 0 ρ1)
    (hs : ∀ i w d ρ, items[i]? = some (w, d) → I i ρ → ∃ ρa ρb f, asgT (ls ++ Lk) tg (ownK w) d ρ = some ρa ∧ exec C (ls ++ Lk) a ρa = .ok f ρb ∧ (f = .nx ∨ f = .ct) ∧ I (i + 1) ρb) :
    ∃ ρ', exec C Lk (.for_ tg it a) ρ = .ok .nx ρ' ∧ I items.length ρ' := by
  obtain ⟨ρ', h1, h2⟩ := loopF_all (Lk := ls ++ Lk) (tg := tg) (body := fun r => exec C (ls ++ Lk) a r) I h hs
  refine ⟨ρ', ?_, h2⟩
  show ((evi C Lk it ρ).bind fun (items, ls) ρ1 => loopF (ls ++ Lk) tg (fun r => exec C (ls ++ Lk) a r) items ρ1) = _
  rw [hi]
  exact h1
theorem x_for2 {tg : Tg} {it : Ex} {a : St} {ρ1 : Env} {items : List (Bool × D)} {ls : List Nat} (I : Nat → Env → Prop) (hi : evi C Lk it ρ = .ok (items, ls) ρ1) (h : I 0 ρ1)
    (hs : ∀ i w d ρ, items[i]? = some (w, d) → I i ρ → ∃ ρb, (ob (asgT (ls ++ Lk) tg (ownK w) d ρ) fun r => exec C (ls ++ Lk) a r) = .ok .nx ρb ∧ I (i + 1) ρb) :
    ∃ ρ', exec C Lk (.for_ tg it a) ρ = .ok .nx ρ' ∧ I items.length ρ' := by
  refine x_for I hi h fun i w d ρ h1 h2 => ?_
  obtain ⟨ρb, h3, h4⟩ := hs i w d ρ h1 h2
  cases hc : asgT (ls ++ Lk) tg (ownK w) d ρ with
  | none => rw [hc, ob_none] at h3; cases h3
  | some ρa => rw [hc, ob_some] at h3; exact ⟨ρa, ρb, .nx, rfl, h3, Or.inl rfl, h4⟩
theorem x_forI {tg : Tg} {it : Ex} {a : St} {p : List D} {ls : List Nat} (I : Nat → Env → Prop) (hi : evi C Lk it ρ = .ok (p.map fun x => (true, x), ls) ρ) (h : I 0 ρ)
    (hs : ∀ i d ρ, p[i]? = some d → I i ρ → ∃ ρb, (ob (asgT (ls ++ Lk) tg .own d ρ) fun r => exec C (ls ++ Lk) a r) = .ok .nx ρb ∧ I (i + 1) ρb) :
    ∃ ρ', exec C Lk (.for_ tg it a) ρ = .ok .nx ρ' ∧ I p.length ρ' := by
  have := x_for2 (tg := tg) (a := a) I hi h fun i w d ρ h1 h2 => by
    rw [List.getElem?_map] at h1
    cases hp : p[i]? with
    | none => rw [hp] at h1; cases h1
    | some y =>
      rw [hp] at h1
      cases h1
      exact hs i _ ρ hp h2
  simpa using this
end
def afC (as : List Arg) (ρ : Env) (r : CR) : R (M × D) :=
  match r with
  | .ret m d ios => (match m with
    | .bor _ => .bad
    | .bort _ => .bad
    | m => .ok (nrm m d, d) (aft as ios (lent m as) ρ))
  | .exc c fs => .exc c fs (killIo as ρ)
  | .bad => .bad
def ss (a b : CK) : Bool := match a, b with | .shr, .shr => true | _, _ => false
section
variable {C : Ctx} {f : Nat} {as : List Arg} {ρ : Env} {d : D} {ios : List (Option D)} {a : Arg}
@[simp] theorem d_call : doCall C f as ρ = if argsOk as then afC as ρ (C.call f (as.map fun a => (a.k, a.d))) else .bad := nr rfl
@[simp] theorem afC_own : afC as ρ (.ret .own d ios) = .ok (.own, d) (aft as ios (lent .own as) ρ) := by
  show R.ok (nrm .own d, d) _ = _
  rw [e_nrm1]
@[simp] theorem afC_top : afC as ρ (.ret .top d ios) = .ok (nrm .top d, d) (aft as ios (lent .top as) ρ) := nr rfl
@[simp] theorem afC_shr : afC as ρ (.ret .shr d ios) = .ok (nrm .shr d, d) (aft as ios (lent .shr as) ρ) := nr rfl
@[simp] theorem aok0 : argsOk [] = true := nr rfl
@[simp] theorem aok1 : argsOk (a :: as) = (as.all (fun b => a.src.isNone || !decide (a.src = b.src) || ss a.k b.k) && argsOk as) := nr rfl
@[simp] theorem ss1 : ss .shr .shr = true := nr rfl
@[simp] theorem ss2 {k : CK} : ss .own k = false := nr rfl
@[simp] theorem ss3 {k : CK} : ss .io k = false := nr rfl
theorem ss4 : ss .shr .own = false := nr rfl
def isIt (a : Arg) : Bool := match a.k with | .iot => true | _ => false
def isIo (a : Arg) : Bool := match a.k with | .iot => true | .io => true | _ => false
@[simp] theorem isIt1 {d : D} {s : Option Nat} : isIt ⟨.own, d, s⟩ = false := nr rfl
@[simp] theorem isIt2 {d : D} {s : Option Nat} : isIt ⟨.shr, d, s⟩ = false := nr rfl
@[simp] theorem isIt3 {d : D} {s : Option Nat} : isIt ⟨.io, d, s⟩ = false := nr rfl
@[simp] theorem isIo1 {d : D} {s : Option Nat} : isIo ⟨.own, d, s⟩ = false := nr rfl
@[simp] theorem isIo2 {d : D} {s : Option Nat} : isIo ⟨.shr, d, s⟩ = false := nr rfl
@[simp] theorem isIo3 {d : D} {s : Option Nat} : isIo ⟨.io, d, s⟩ = true := nr rfl
@[simp] theorem e_lent1 : lent .own as = as.any isIt := nr rfl
@[simp] theorem aft_no (h : as.any isIo = false) : aft as ios false ρ = ρ := aft_id fun a ha => by
  have : isIo a = false := by
    rw [List.any_eq_false] at h
    simpa using h a ha
  revert this
  unfold isIo
  cases a.k <;> simp
end
@[simp] theorem e_inA {as : List (CK × D)} {n : Nat} : inA as n = as.map (fun a => some (Cell.mk a.1 a.2)) ++ List.replicate (n - as.length) none := nr rfl
@[simp] theorem r_nx {df : Def} {as : List (CK × D)} {ρ : Env} : runD df as (.ok .nx ρ) = finish (tgs df.body) as .own .none ρ := nr rfl
@[simp] theorem r_ret {df : Def} {as : List (CK × D)} {ρ : Env} {m : M} {d : D} : runD df as (.ok (.ret m d) ρ) = finish (tgs df.body) as m d ρ := nr rfl
theorem x_forE {C : Ctx} {Lk : List Nat} {ρ : Env} {tg : Tg} {it : Ex} {a : St} : exec C Lk (.for_ tg it a) ρ = (evi C Lk it ρ).bind fun x ρ1 => loopF (x.2 ++ Lk) tg (fun r => exec C (x.2 ++ Lk) a r) x.1 ρ1 := nr rfl
def lpF (k : Env → R Fl) (f : Fl) (ρ2 : Env) : R Fl :=
  match f with
  | .nx => k ρ2
  | .ct => k ρ2
  | .brk => .ok .nx ρ2
  | .ret m d => .ok (.ret m d) ρ2
theorem lpF_cong {k : Env → R Fl} {f f' : Fl} {ρ ρ' : Env} (h : f = f') (h2 : ρ = ρ') : lpF k f ρ = lpF k f' ρ' := by rw [h, h2]
@[simp] theorem lp_nx {k : Env → R Fl} {ρ : Env} : lpF k .nx ρ = k ρ := nr rfl
@[simp] theorem lp_ct {k : Env → R Fl} {ρ : Env} : lpF k .ct ρ = k ρ := nr rfl
@[simp] theorem lp_brk {k : Env → R Fl} {ρ : Env} : lpF k .brk ρ = .ok .nx ρ := nr rfl
@[simp] theorem lp_ret {k : Env → R Fl} {ρ : Env} {m : M} {d : D} : lpF k (.ret m d) ρ = .ok (.ret m d) ρ := nr rfl
@[simp] theorem loopF_nil {Lk : List Nat} {tg : Tg} {body : Env → R Fl} {ρ : Env} : loopF Lk tg body [] ρ = .ok .nx ρ := nr rfl
theorem loopF_cons {Lk : List Nat} {tg : Tg} {body : Env → R Fl} {w : Bool} {x : D} {r : List (Bool × D)} {ρ : Env} : loopF Lk tg body ((w, x) :: r) ρ = ob (asgT Lk tg (ownK w) x ρ) fun ρ1 => (body ρ1).bind (lpF fun ρ => loopF Lk tg body r ρ) := by
  show (match asgT Lk tg (ownK w) x ρ with
    | none => .bad
    | some ρ1 => (body ρ1).bind (lpF fun ρ => loopF Lk tg body r ρ) : R Fl) = _
  cases asgT Lk tg (ownK w) x ρ <;> rfl
theorem loopF_cong {Lk : List Nat} {tg : Tg} {body : Env → R Fl} {xs ys : List (Bool × D)} {ρ ρ' : Env} (h : xs = ys) (h2 : ρ = ρ') : loopF Lk tg body xs ρ = loopF Lk tg body ys ρ' := by rw [h, h2]
theorem i62 {i : Int} {r : List D} (h1 : -(2 ^ 62) ≤ i) (h2 : i < 2 ^ 62) : ints62 (.int i :: r) = (ints62 r).map fun l => i :: l := by
  show (if _ then _ else _) = _
  rw [if_pos (by rw [decide_eq_true h1, decide_eq_true h2]; rfl)]
theorem rngO1 {i : Int} (h1 : -(2 ^ 62) ≤ i) (h2 : i < 2 ^ 62) : rngO [.int i] = some (rangeD 0 i) := by
  unfold rngO; rw [i62 h1 h2]; rfl
theorem rngO2 {i j : Int} (h1 : -(2 ^ 62) ≤ i) (h2 : i < 2 ^ 62) (h3 : -(2 ^ 62) ≤ j) (h4 : j < 2 ^ 62) : rngO [.int i, .int j] = some (rangeD i j) := by
  unfold rngO; rw [i62 h1 h2, i62 h3 h4]; rfl
theorem rng1 {n : Nat} (h : n ≤ 1000) : rngO [PyData.int (n : Int)] = some ((List.range n).map fun (k : Nat) => PyData.int (k : Int)) := by
  rw [rngO1 (by omega) (by omega)]
  unfold rangeD
  congr 1
  rw [show ((n : Int) - 0).toNat = n by omega]
  exact List.map_congr_left fun k _ => by rw [Int.zero_add]
theorem rng2 {n : Nat} (h : n ≤ 1000) : rngO [PyData.int 1, PyData.int ((n : Int) + 1)] = some ((things n).map .int) := by
  rw [rngO2 (by omega) (by omega) (by omega) (by omega), rangeD_things]
section
variable {T : List Nat} {d e : D} {r : List (CK × D)} {j : Nat} {ρ : Env} {m m2 : M} {as : List (CK × D)} {i k : Int}
@[simp] theorem ios0 : iosOf T [] j ρ = some [] := nr rfl
@[simp] theorem ios1 : iosOf T ((.own, d) :: r) j ρ = (iosOf T r (j + 1) ρ).map fun l => none :: l := nr rfl
@[simp] theorem ios2 : iosOf T ((.shr, d) :: r) j ρ = (iosOf T r (j + 1) ρ).map fun l => none :: l := nr rfl
def fin1 (m : M) (d : D) (ρ : Env) (ios : List (Option D)) : CR :=
  match nrm m d with
    | .own => .ret .own d ios
    | .top => .ret .top d ios
    | .shr => .ret .shr d ios
    | .bor i => match getc ρ i with
      | some ⟨.own, _⟩ => .ret .shr d ios
      | _ => .bad
    | .bort i => match getc ρ i with
      | some ⟨.top, _⟩ => .ret .shr d ios
      | _ => .bad
def fin0 (o : Option (List (Option D))) (m : M) (d : D) (ρ : Env) : CR :=
  match o with
  | none => .bad
  | some ios => fin1 m d ρ ios
@[simp] theorem e_fin : finish T as m d ρ = fin0 (iosOf T as 0 ρ) m d ρ := nr rfl
@[simp] theorem e_fin0 {l : List (Option D)} : fin0 (some l) m d ρ = fin1 m d ρ l := nr rfl
theorem e_fin1 {l : List (Option D)} : fin1 m d ρ l = match nrm m d with
    | .own => .ret .own d l
    | .top => .ret .top d l
    | .shr => .ret .shr d l
    | .bor i => match getc ρ i with
      | some ⟨.own, _⟩ => .ret .shr d l
      | _ => .bad
    | .bort i => match getc ρ i with
      | some ⟨.top, _⟩ => .ret .shr d l
      | _ => .bad := nr rfl
@[simp] theorem fin_own {l : List (Option D)} : fin1 .own d ρ l = .ret .own d l := by unfold fin1; rw [e_nrm1]
@[simp] theorem fin_int {l : List (Option D)} : fin1 m (.int i) ρ l = .ret .own (.int i) l := nr rfl
@[simp] theorem b_add : binop .add m (.int i) m2 (.int k) ρ = some ((.own, .int (i + k)), ρ) := nr rfl
@[simp] theorem b_sub : binop .sub m (.int i) m2 (.int k) ρ = some ((.own, .int (i - k)), ρ) := nr rfl
theorem b_ar {o : BO} {z : Int} (h : arith o i k = some z) : binop o m (.int i) m2 (.int k) ρ = some ((.own, .int z), ρ) := by
  show (arith o i k).map (fun k => ((M.own, PyData.int k), ρ)) = _
  rw [h]; rfl
theorem b_cat {xs ys : List D} (h : xs.length + ys.length ≤ SZ) (h1 : imAll xs = true) (h2 : imAll ys = true) : binop .add m (.list xs) m2 (.list ys) ρ = some ((.own, .list (xs ++ ys)), ρ) := by
  show (if xs.length + ys.length ≤ SZ then (use2 m m2 xs ys ρ).map fun (w, ρ') => ((ownM w, PyData.list (xs ++ ys)), ρ') else none) = _
  rw [if_pos h]
  unfold use2 use1
  rw [if_pos h1]
  dsimp only
  rw [if_pos h2]; rfl
theorem b_catO {xs ys : List D} (h : xs.length + ys.length ≤ SZ) : binop .add .own (.list xs) .own (.list ys) ρ = some ((.own, .list (xs ++ ys)), ρ) := by
  show (if xs.length + ys.length ≤ SZ then (use2 .own .own xs ys ρ).map fun (w, ρ') => ((ownM w, PyData.list (xs ++ ys)), ρ') else none) = _
  rw [if_pos h]
  unfold use2 use1
  have : ∀ xs : List D, (if imAll xs then some (true, ρ) else use (elt .own) (.list xs) ρ) = some (true, ρ) := fun xs => by
    rw [e_el1, e_use1, ite_self]
  rw [this]
  dsimp only
  rw [this]; rfl
@[simp] theorem bi_len {xs : List D} : bi .len [(m, .list xs)] ρ = some ((.own, .int xs.length), ρ) := nr rfl
@[simp] theorem bi_int : bi .int [(m, .int i)] ρ = some ((.own, .int i), ρ) := nr rfl
@[simp] theorem bi_max : bi .max [(m, .int i), (m2, .int k)] ρ = some ((.own, .int (if k > i then k else i)), ρ) := nr rfl
@[simp] theorem bi_min : bi .min [(m, .int i), (m2, .int k)] ρ = some ((.own, .int (if k < i then k else i)), ρ) := nr rfl
@[simp] theorem bi_isInt : bi .isInt [(m, .int i)] ρ = some ((.own, .bool true), ρ) := nr rfl
@[simp] theorem bi_isBool : bi .isBool [(m, .int i)] ρ = some ((.own, .bool false), ρ) := nr rfl
@[simp] theorem bi_isList {xs : List D} : bi .isList [(m, .list xs)] ρ = some ((.own, .bool true), ρ) := nr rfl
@[simp] theorem c_eq : cmpop .eq (.int i) (.int k) = some (decide (i = k)) := nr rfl
@[simp] theorem c_ne : cmpop .ne (.int i) (.int k) = some (!decide (i = k)) := nr rfl
@[simp] theorem c_lt : cmpop .lt (.int i) (.int k) = some (decide (i < k)) := nr rfl
@[simp] theorem c_gt : cmpop .gt (.int i) (.int k) = some (decide (k < i)) := nr rfl
@[simp] theorem c_le : cmpop .le (.int i) (.int k) = some (!decide (k < i)) := nr rfl
@[simp] theorem c_ge : cmpop .ge (.int i) (.int k) = some (!decide (i < k)) := nr rfl
end
@[simp] theorem t_int {i : Int} : truth (.int i) = some (decide (i ≠ 0)) := nr rfl
def enumL (p : List Int) : List (Bool × D) := (((p.map PyData.int).map fun x => (true, x)).zipIdx 0).map fun (q : (Bool × D) × Nat) => (q.1.1, PyData.tuple [.int q.2, q.1.2])
theorem enum_at {p : List Int} {i : Nat} {w : Bool} {d : D} (h : (enumL p)[i]? = some (w, d)) : ∃ v, p[i]? = some v ∧ w = true ∧ d = .tuple [.int i, .int v] := by
  unfold enumL at h
  rw [List.getElem?_map, List.getElem?_zipIdx, List.getElem?_map, List.getElem?_map] at h
  cases hp : p[i]? with
  | none => rw [hp] at h; cases h
  | some v =>
    rw [hp] at h
    simp at h
    exact ⟨v, rfl, h.1, h.2.symm⟩
theorem enumL_len {p : List Int} : (enumL p).length = p.length := by simp [enumL]
theorem evi_enum {C : Ctx} {Lk : List Nat} {a : Ex} {ρ ρ1 : Env} {m : M} {p : List Int} (h : ev C Lk a ρ = .ok (m, L p) ρ1) : evi C Lk (.enum a) ρ = .ok (enumL p, lk m) ρ1 := by
  rw [e_ienum, h, e_rb]
  dsimp only
  rw [e_walkI]; rfl
theorem evi_itr {C : Ctx} {Lk : List Nat} {a : Ex} {ρ ρ1 : Env} {m : M} {p : List Int} (h : ev C Lk a ρ = .ok (m, L p) ρ1) : evi C Lk (.itr a) ρ = .ok ((p.map .int).map fun x => (true, x), lk m) ρ1 := by
  rw [e_iitr, h, e_rb]
  dsimp only
  rw [e_walkI]; rfl
theorem Fo.at {p : List Int} (h : Fo p) {i : Nat} {v : Int} (hv : p[i]? = some v) : In p v ∧ v = nx p ((i : Int) + 1) := by
  have hi : i < p.length := by
    rcases Nat.lt_or_ge i p.length with z | z
    · exact z
    · rw [List.getElem?_eq_none z] at hv; cases hv
  have e : v = nx p ((i : Int) + 1) := by
    unfold nx
    rw [List.getD_eq_getElem?_getD, show ((i : Int) + 1 - 1).toNat = i by omega, hv]; rfl
  exact ⟨e ▸ h.rg _ ⟨by omega, by omega⟩, e⟩
theorem int_at {p : List Int} {i : Nat} {d : D} (h : (p.map PyData.int)[i]? = some d) : ∃ v, p[i]? = some v ∧ d = .int v := by
  rw [List.getElem?_map] at h
  obtain ⟨v, h1, h2⟩ := Option.map_eq_some_iff.mp h
  exact ⟨v, h1, h2.symm⟩
theorem rng_at {n i : Nat} {d : D} (h : ((List.range n).map fun (k : Nat) => PyData.int (k : Int))[i]? = some d) : i < n ∧ d = .int i := by
  rw [List.getElem?_map] at h
  obtain ⟨v, h1, h2⟩ := Option.map_eq_some_iff.mp h
  rcases Nat.lt_or_ge i n with z | z
  · rw [List.getElem?_range z] at h1
    cases h1
    exact ⟨z, h2.symm⟩
  · rw [List.getElem?_eq_none (by simpa using z)] at h1; cases h1
end PV.N
end

section
set_option linter.all false
set_option autoImplicit false
set_option maxRecDepth 100000
namespace PV.N
open PySem
theorem eqv_int (a b : Int) : PyData.eqv (.int a) (.int b) = decide (a = b) := by
  show (a == b) = _
  rw [Bool.beq_eq_decide_eq]
/-! ### tables by whole numbers -/
def dk (ks : List Int) (v : Int → D) : List (D × D) := ks.map fun k => (PyData.int k, v k)
abbrev DK (ks : List Int) (v : Int → D) : D := .dict (dk ks v)
def upd (v : Int → D) (k : Int) (x : D) : Int → D := fun j => if j = k then x else v j
theorem look_dk {v : Int → D} {k : Int} : ∀ {ks : List Int}, k ∈ ks → look (dk ks v) (.int k) = some (v k)
  | [], h => absurd h List.not_mem_nil
  | a :: r, h => by
    show (if PyData.eqv (.int a) (.int k) then some (v a) else look (dk r v) (.int k)) = _
    rw [eqv_int]
    by_cases e : a = k
    · rw [if_pos (decide_eq_true e), e]
    · rw [if_neg (by simpa using e)]
      rcases List.mem_cons.mp h with z | z
      · exact absurd z.symm e
      · exact look_dk z
theorem put_dk {v : Int → D} {k : Int} {x : D} : ∀ {ks : List Int}, k ∈ ks → ks.Nodup → putKV (dk ks v) (.int k) x = dk ks (upd v k x)
  | [], h, _ => absurd h List.not_mem_nil
  | a :: r, h, hn => by
    show (if PyData.eqv (.int a) (.int k) then (PyData.int a, x) :: dk r v else (.int a, v a) :: putKV (dk r v) (.int k) x) = (.int a, upd v k x a) :: dk r (upd v k x)
    rw [eqv_int]
    obtain ⟨h1, h2⟩ := List.nodup_cons.mp hn
    by_cases e : a = k
    · rw [if_pos (decide_eq_true e)]
      subst e
      have e1 : upd v a x a = x := by simp [upd]
      rw [e1]
      congr 1
      refine List.map_congr_left fun j hj => ?_
      have : j ≠ a := fun z => h1 (z ▸ hj)
      simp [upd, this]
    · rw [if_neg (by simpa using e)]
      rcases List.mem_cons.mp h with z | z
      · exact absurd z.symm e
      · rw [put_dk z h2]
        simp [upd, e]
theorem put_new {v : Int → D} {k : Int} : ∀ {ks : List Int}, k ∉ ks → putKV (dk ks v) (.int k) (v k) = dk (ks ++ [k]) v
  | [], _ => rfl
  | a :: r, h => by
    show (if PyData.eqv (.int a) (.int k) then (PyData.int a, v k) :: dk r v else (.int a, v a) :: putKV (dk r v) (.int k) (v k)) = (.int a, v a) :: dk (r ++ [k]) v
    rw [eqv_int, if_neg (by simpa using fun z : a = k => h (z ▸ List.mem_cons_self)), put_new fun z => h (List.mem_cons_of_mem _ z)]
theorem fold_dk {v : Int → D} : ∀ (ks as : List Int), (as ++ ks).Nodup → (ks.map fun k => (PyData.int k, v k)).foldl (fun a p => putKV a p.1 p.2) (dk as v) = dk (as ++ ks) v
  | [], as, _ => by simp
  | k :: r, as, h => by
    rw [List.map_cons, List.foldl_cons]
    dsimp only
    have hk : k ∉ as := fun z => by
      rw [List.nodup_append] at h
      exact h.2.2 _ z _ List.mem_cons_self rfl
    rw [put_new hk, fold_dk r (as ++ [k]) (by simpa using h)]
    simp
theorem at_dk {v : Int → D} {k : Int} {ks : List Int} (h : k ∈ ks) : atD (DK ks v) (.int k) = some (v k) := look_dk h
theorem putD_dk {v : Int → D} {k : Int} {x : D} {ks : List Int} (h : k ∈ ks) (hn : ks.Nodup) (hl : ks.length < SZ) : putD (DK ks v) (.int k) x = some (DK ks (upd v k x)) := by
  show (if keyOk (.int k) && decide ((dk ks v).length < SZ) then some (PyData.dict (putKV (dk ks v) (.int k) x)) else none) = _
  rw [if_pos (by unfold dk; rw [List.length_map, decide_eq_true hl]; rfl), put_dk h hn]
theorem setIn_dk {v : Int → D} {k : Int} {x : D} {ks : List Int} (h : k ∈ ks) (hn : ks.Nodup) : setIn (DK ks v) (.int k) x = some (DK ks (upd v k x)) := by
  show some (PyData.dict (putKV (dk ks v) (.int k) x)) = _
  rw [put_dk h hn]
theorem dk_vals {v : Int → D} {ks : List Int} : (dk ks v).map (·.2) = ks.map v := by
  unfold dk; rw [List.map_map]; rfl
theorem dk_congr {v w : Int → D} {ks : List Int} (h : ∀ k ∈ ks, v k = w k) : dk ks v = dk ks w := List.map_congr_left fun k hk => by rw [h k hk]
theorem things_nodup (n : Nat) : (things n).Nodup := by
  unfold things
  rw [List.nodup_iff_pairwise_ne, List.pairwise_map]
  have := List.nodup_range (n := n)
  rw [List.nodup_iff_pairwise_ne] at this
  exact this.imp fun h => by omega
/-! ### rows of ints -/
theorem canLay_ints : ∀ p : List Int, PyData.canLayAll0 (p.map .int) = true
  | [] => rfl
  | x :: r => by simp only [List.map_cons, PyData.canLayAll0, PyData.canLay0, canLay_ints r, Bool.and_self]
theorem depth_ints : ∀ p : List Int, PyData.depthAll (p.map .int) = 0
  | [] => rfl
  | x :: r => by simp only [List.map_cons, PyData.depthAll, PyData.depth, depth_ints r]; rfl
theorem shaped_int (i : Int) : SeqAt.shaped (.int i) = true := rfl
theorem shaped_L (p : List Int) : SeqAt.shaped (L p) = true := by
  unfold SeqAt.shaped
  simp only [PyData.canLay0, canLay_ints, PyData.depth, depth_ints]; rfl
theorem any_ints (p : List Int) (k : Int) : ((p.map PyData.int).any fun y => PyData.eqv y (.int k)) = decide (k ∈ p) := by
  rw [List.any_map]
  induction p with
  | nil => rfl
  | cons a r ih =>
    rw [List.any_cons, ih]
    show (PyData.eqv (.int a) (.int k) || _) = _
    rw [eqv_int, ← Bool.decide_or]
    congr 1
    rw [List.mem_cons]
    exact propext ⟨fun z => z.imp Eq.symm id, fun z => z.imp Eq.symm id⟩
theorem c_isin {k : Int} {p : List Int} : cmpop .isin (.int k) (L p) = some (decide (k ∈ p)) := by
  show (if SeqAt.shaped (.int k) && SeqAt.shaped (L p) then some ((p.map PyData.int).any fun y => PyData.eqv y (.int k)) else none) = _
  rw [if_pos (by rw [shaped_int, shaped_L]; rfl), any_ints]
theorem find_ints (k : Int) : ∀ p : List Int, k ∈ p → (p.map PyData.int).findIdx? (fun x => PyData.eqv x (.int k)) = some (p.idxOf k)
  | [], h => absurd h List.not_mem_nil
  | a :: r, h => by
    rw [List.map_cons, List.findIdx?_cons, eqv_int, List.idxOf_cons]
    by_cases e : a = k
    · rw [if_pos (decide_eq_true e)]; simp [e]
    · rw [if_neg (by simpa using e)]
      rcases List.mem_cons.mp h with z | z
      · exact absurd z.symm e
      · rw [find_ints k r z]
        have : (a == k) = false := by simpa using e
        rw [this]; rfl
theorem me_index {m m2 : M} {k : Int} {p : List Int} {ρ : Env} (h : k ∈ p) : me .index m (L p) [(m2, .int k)] ρ = some ((.own, .int (p.idxOf k : Nat)), ρ) := by
  show (if SeqAt.shaped (L p) && SeqAt.shaped (.int k) then (indexOf (p.map .int) (.int k)).map fun (n : Nat) => ((M.own, PyData.int (n : Int)), ρ) else none) = _
  rw [if_pos (by rw [shaped_int, shaped_L]; rfl)]
  unfold indexOf
  rw [find_ints k p h]; rfl
theorem intsOf_ints : ∀ p : List Int, intsOf (p.map .int) = some p
  | [] => rfl
  | x :: r => by
    show (intsOf (r.map .int)).map (fun l => x :: l) = _
    rw [intsOf_ints r]; rfl
theorem bi_maxL {m : M} {x : Int} {r : List Int} {ρ : Env} : bi .max [(m, L (x :: r))] ρ = some ((.own, .int (r.foldl (fun m y => if m < y then y else m) x)), ρ) := by
  show ((intsOf ((x :: r).map .int)).bind fun l => (maxI l).map fun k => ((M.own, PyData.int k), ρ)) = _
  rw [intsOf_ints]; rfl
/-! ### how data are shown -/
def sm (i : Int) : Prop := i.natAbs.log2 < 20
/-- rows of so many, of rows of so many, .. of ints -/
def Bd : List Nat → D → Prop
  | [], d => ∃ i, d = .int i ∧ sm i
  | n :: ns, d => (∃ i, d = .int i ∧ sm i) ∨ ∃ xs, d = .list xs ∧ xs.length ≤ n ∧ ∀ x ∈ xs, Bd ns x
theorem Bd.int {i : Int} (h : sm i) : ∀ ns, Bd ns (.int i)
  | [] => ⟨i, rfl, h⟩
  | _ :: _ => Or.inl ⟨i, rfl, h⟩
theorem Bd.list {n : Nat} {ns : List Nat} {xs : List D} (h : xs.length ≤ n) (h2 : ∀ x ∈ xs, Bd ns x) : Bd (n :: ns) (.list xs) := Or.inr ⟨xs, rfl, h, h2⟩
theorem Bd.L {n : Nat} {ns : List Nat} {p : List Int} (h : p.length ≤ n) (h2 : ∀ x ∈ p, sm x) : Bd (n :: ns) (L p) := Bd.list (by simpa using h) fun x hx => by
  obtain ⟨i, hi, rfl⟩ := List.mem_map.mp hx
  exact Bd.int (h2 i hi) _
def wB : List Nat → Nat
  | [] => 21
  | n :: ns => n * (wB ns + 2) + 23
theorem Bd.canLay : ∀ {ns : List Nat} {d : D}, Bd ns d → d.canLay0 = true
  | [], d, h => by obtain ⟨i, rfl, -⟩ := h; rfl
  | n :: ns, d, h => by
    rcases h with ⟨i, rfl, -⟩ | ⟨xs, rfl, -, h⟩
    · rfl
    · have : ∀ xs : List D, (∀ x ∈ xs, Bd ns x) → PyData.canLayAll0 xs = true := fun xs => by
        induction xs with
        | nil => intro _; rfl
        | cons x r ih =>
          intro h
          rw [PyData.canLayAll0, (h x List.mem_cons_self).canLay, ih fun y hy => h y (List.mem_cons_of_mem _ hy)]; rfl
      rw [PyData.canLay0]; exact this xs h
theorem Bd.showable : ∀ {ns : List Nat} {d : D}, Bd ns d → d.showable = true
  | [], d, h => by obtain ⟨i, rfl, h⟩ := h; rw [PyData.showable]; unfold sm at h; exact decide_eq_true (by omega)
  | n :: ns, d, h => by
    rcases h with ⟨i, rfl, h⟩ | ⟨xs, rfl, -, h⟩
    · rw [PyData.showable]; unfold sm at h; exact decide_eq_true (by omega)
    · have : ∀ xs : List D, (∀ x ∈ xs, Bd ns x) → PyData.showableAll xs = true := fun xs => by
        induction xs with
        | nil => intro _; rfl
        | cons x r ih =>
          intro h
          rw [PyData.showableAll, (h x List.mem_cons_self).showable, ih fun y hy => h y (List.mem_cons_of_mem _ hy)]; rfl
      rw [PyData.showable]; exact this xs h
theorem Bd.depth : ∀ {ns : List Nat} {d : D}, Bd ns d → d.depth ≤ ns.length
  | [], d, h => by obtain ⟨i, rfl, h⟩ := h; exact Nat.le_of_eq (by rw [PyData.depth]; rfl)
  | n :: ns, d, h => by
    rcases h with ⟨i, rfl, h⟩ | ⟨xs, rfl, -, h⟩
    · rw [PyData.depth]; exact Nat.zero_le _
    · have : ∀ xs : List D, (∀ x ∈ xs, Bd ns x) → PyData.depthAll xs ≤ ns.length := fun xs => by
        induction xs with
        | nil => intro _; exact Nat.zero_le _
        | cons x r ih =>
          intro h
          rw [PyData.depthAll]
          exact Nat.max_le.mpr ⟨(h x List.mem_cons_self).depth, ih fun y hy => h y (List.mem_cons_of_mem _ hy)⟩
      rw [PyData.depth, List.length_cons]; exact Nat.succ_le_succ (this xs h)
theorem textFrom_le (W : Nat) : ∀ (ts : List Str) (k : Nat) (acc : Str), (∀ t ∈ ts, t.length ≤ W) → (PySem.textFrom k acc ts).length ≤ acc.length + ts.length * (W + 2)
  | [], k, acc, _ => by show acc.length ≤ _; omega
  | t :: r, k, acc, h => by
    have e := textFrom_le W r (k + 1) (acc ++ (if k > 0 then ", " else "" : String) ++ t) fun t' ht => h t' (List.mem_cons_of_mem _ ht)
    have e2 : (acc ++ (if k > 0 then ", " else "" : String) ++ t).length = acc.length + (if k > 0 then 2 else 0) + t.length := by
      rw [strLen_append, strLen_append]
      split <;> rfl
    have e3 := h t List.mem_cons_self
    rw [e2] at e
    rw [List.length_cons, Nat.add_mul]
    show (PySem.textFrom (k + 1) (acc ++ (if k > 0 then ", " else "" : String) ++ t) r).length ≤ _
    have e4 : (if k > 0 then 2 else 0 : Nat) ≤ 2 := by split <;> omega
    omega
theorem shownAll_mem : ∀ (xs : List D) (t : Str), t ∈ PyData.shownAll xs → ∃ x ∈ xs, t = x.shown
  | [], t, h => by rw [PyData.shownAll] at h; exact absurd h List.not_mem_nil
  | x :: r, t, h => by
    rw [PyData.shownAll] at h
    rcases List.mem_cons.mp h with rfl | h
    · exact ⟨x, List.mem_cons_self, rfl⟩
    · obtain ⟨y, hy, e⟩ := shownAll_mem r t h
      exact ⟨y, List.mem_cons_of_mem _ hy, e⟩
theorem shownAll_len : ∀ xs : List D, (PyData.shownAll xs).length = xs.length
  | [] => by rw [PyData.shownAll]; rfl
  | x :: r => by rw [PyData.shownAll, List.length_cons, List.length_cons, shownAll_len r]
theorem Bd.shown : ∀ {ns : List Nat} {d : D}, Bd ns d → d.shown.length ≤ wB ns := by
  have hi : ∀ i : Int, sm i → (PyData.int i).shown.length ≤ 21 := fun i h => by
    rw [PyData.shown]
    show (Str.ofString (toString i)).length ≤ 21
    rw [ofString_length]
    exact int_text_length_le (k := 20) (by decide) h
  intro ns
  induction ns with
  | nil => intro d h; obtain ⟨i, rfl, h⟩ := h; exact hi i h
  | cons n ns ih =>
    intro d h
    rcases h with ⟨i, rfl, h⟩ | ⟨xs, rfl, hl, h⟩
    · have := hi i h
      unfold wB; omega
    · rw [PyData.shown]
      unfold PySem.listText
      rw [strLen_append]
      have e := textFrom_le (wB ns) (PyData.shownAll xs) 0 "[" fun t ht => by
        obtain ⟨x, hx, rfl⟩ := shownAll_mem xs t ht
        exact ih (h x hx)
      rw [shownAll_len] at e
      have e2 := Nat.mul_le_mul_right (wB ns + 2) hl
      have e3 : ("[" : Str).length = 1 := rfl
      have e4 : ("]" : Str).length = 1 := rfl
      unfold wB
      omega
theorem bi_repr {ns : List Nat} {xs : List D} {m : M} {ρ : Env} (h : Bd ns (.list xs)) (hw : wB ns ≤ SZ) (hn : ns.length ≤ 60) : bi .repr [(m, .list xs)] ρ = some ((.own, .str (PyData.list xs).shown), ρ) := by
  show (if _ then _ else _) = _
  rw [if_pos]
  rw [h.canLay, h.showable, decide_eq_true (Nat.le_trans h.shown hw), decide_eq_true (Nat.le_trans h.depth hn)]; rfl
theorem c_seq {x y : Str} : cmpop .eq (.str x) (.str y) = some (decide (x = y)) := rfl
theorem c_sne {x y : Str} : cmpop .ne (.str x) (.str y) = some (!decide (x = y)) := rfl
end PV.N
end

section
set_option linter.all false
set_option autoImplicit false
set_option maxRecDepth 100000
namespace PV.N
open PySem
@[simp] theorem wipe0 {ρ : Env} : PV.wipe ρ [] = ρ := rfl
@[simp] theorem wipe1 {ρ : Env} {i : Nat} {is : List Nat} : PV.wipe ρ (i :: is) = PV.wipe (ρ.set i none) is := rfl
@[simp high] theorem e_ts1n {C : Ctx} {Lk : List Nat} {a : Ex} {ρ : Env} : evts C Lk (.cons a .nil) ρ = evt C Lk a ρ := by
  rw [e_ts1]
  cases evt C Lk a ρ with
  | ok b r => cases b <;> rfl
  | exc c fs r => rfl
  | bad => rfl
theorem ob_ok {α β : Type} {o : Option α} {f : α → R β} {b : β} {ρ : Env} (h : ob o f = .ok b ρ) : ∃ a, o = some a ∧ f a = .ok b ρ := by
  cases o with
  | none => rw [ob_none] at h; cases h
  | some a => exact ⟨a, rfl, h⟩
section
variable {C : Ctx} {α : Type}
theorem loopC_runA {Lk own : List Nat} {tg : Tg} {test : Env → R Bool} {el : Env → R (Bool × List D)} {ρ1 : Env} {f : α → D} {w : Bool} {q : α → Bool} {g : α → D} : ∀ (ks : List α) (ρ : Env), PV.wipe ρ own = PV.wipe ρ1 own →
    (∀ k ∈ ks, ∃ ρu, (ob (asgT Lk tg (ownK w) (f k) (PV.wipe ρ1 own)) fun r => test r) = .ok (q k) ρu ∧ PV.wipe ρu own = PV.wipe ρ1 own ∧ (q k = true → ∃ ρv, el ρu = .ok (true, [g k]) ρv ∧ PV.wipe ρv own = PV.wipe ρ1 own)) →
    ∃ ρ2, loopC Lk own tg test el (ks.map fun k => (w, f k)) ρ = .ok (true, (ks.filter q).map g) ρ2 ∧ PV.wipe ρ2 own = PV.wipe ρ1 own
  | [], ρ, h, _ => ⟨ρ, rfl, h⟩
  | x :: r, ρ, h, hs => by
    obtain ⟨ρu, h1, h3, h4⟩ := hs x List.mem_cons_self
    obtain ⟨ρt, h1, h2⟩ := ob_ok h1
    have hr := fun it hit => hs it (List.mem_cons_of_mem _ hit)
    have e : loopC Lk own tg test el ((w, f x) :: r.map fun k => (w, f k)) ρ = (match asgT Lk tg (ownK w) (f x) (PV.wipe ρ own) with
      | none => R.bad
      | some ρ1 => (test ρ1).bind fun c ρ2 =>
        if c then (el ρ2).bind fun (w1, ys) ρ3 => (loopC Lk own tg test el (r.map fun k => (w, f k)) ρ3).bind fun (w2, zs) ρ4 => .ok (w1 && w2, ys ++ zs) ρ4
        else loopC Lk own tg test el (r.map fun k => (w, f k)) ρ2) := rfl
    rw [List.map_cons, e, h, show asgT Lk tg (ownK w) (f x) (PV.wipe ρ1 own) = some ρt from h1]
    dsimp only
    rw [show test ρt = .ok (q x) ρu from h2, rb_ok]
    by_cases hp : q x = true
    · obtain ⟨ρv, h5, h6⟩ := h4 hp
      rw [if_pos hp, show el ρu = .ok (true, [g x]) ρv from h5, rb_ok]
      obtain ⟨ρ2, h7, h8⟩ := loopC_runA r ρv h6 hr
      dsimp only
      rw [h7, rb_ok]
      exact ⟨ρ2, by simp [hp], h8⟩
    · rw [if_neg hp]
      obtain ⟨ρ2, h7, h8⟩ := loopC_runA r ρu h3 hr
      rw [h7]
      exact ⟨ρ2, by simp [hp], h8⟩
theorem ev_lcA {Lk ls own : List Nat} {tg : Tg} {it ifs e : Ex} {ρ ρ1 : Env} {f : α → D} {w : Bool} {ks : List α} (q : α → Bool) (g : α → D) (hi : evi C Lk it ρ = .ok (ks.map fun k => (w, f k), ls) ρ1) (hd : own.any (ls ++ Lk).contains = false) (hz : ks.length ≤ SZ)
    (h : ∀ k ∈ ks, ∃ ρu, (ob (asgT (ls ++ Lk) tg (ownK w) (f k) (PV.wipe ρ1 own)) fun r => evts C (ls ++ Lk) ifs r) = .ok (q k) ρu ∧ PV.wipe ρu own = PV.wipe ρ1 own ∧ (q k = true → ∃ ρv, ev C (ls ++ Lk) e ρu = .ok (.own, g k) ρv ∧ PV.wipe ρv own = PV.wipe ρ1 own)) :
    ev C Lk (.lc tg own it ifs e) ρ = .ok (.own, .list ((ks.filter q).map g)) ρ1 := by
  have e0 : ev C Lk (.lc tg own it ifs e) ρ = (evi C Lk it ρ).bind fun (items, ls) ρ1 => if own.any (ls ++ Lk).contains then .bad else
    (loopC (ls ++ Lk) own tg (fun r => evts C (ls ++ Lk) ifs r) (fun r => (ev C (ls ++ Lk) e r).bind fun (m, d) r1 => R.of ((use m d r1).map fun (w, r2) => ((w, [d]), r2))) items ρ1).bind fun (w, ds) ρ2 =>
      if ds.length ≤ SZ then .ok (ownM w, .list ds) (back ρ1 ρ2 own) else .bad := rfl
  rw [e0, hi, rb_ok]
  dsimp only
  rw [hd, if_neg (by decide)]
  obtain ⟨ρ2, h1, h2⟩ := loopC_runA (Lk := ls ++ Lk) (own := own) (tg := tg) (test := fun r => evts C (ls ++ Lk) ifs r) (el := fun r => (ev C (ls ++ Lk) e r).bind fun (m, d) r1 => R.of ((use m d r1).map fun (w, r2) => ((w, [d]), r2))) (ρ1 := ρ1) (f := f) (w := w) (q := q) (g := g) ks ρ1 rfl fun it hit => by
    obtain ⟨ρu, a1, a3, a4⟩ := h it hit
    refine ⟨ρu, a1, a3, fun hp => ?_⟩
    obtain ⟨ρv, b1, b2⟩ := a4 hp
    exact ⟨ρv, by rw [b1, rb_ok]; dsimp only; rw [use_own]; rfl, b2⟩
  rw [h1, rb_ok]
  dsimp only
  rw [if_pos, back_same h2]
  · rfl
  · refine Nat.le_trans ?_ hz
    rw [List.length_map]
    exact List.length_filter_le _ _
/-- over ints -/
theorem ev_lcI {Lk ls own : List Nat} {tg : Tg} {it ifs e : Ex} {ρ ρ1 : Env} {ks : List Int} (q : Int → Bool) (g : Int → D) (hi : evi C Lk it ρ = .ok ((ks.map .int).map fun x => (true, x), ls) ρ1) (hd : own.any (ls ++ Lk).contains = false) (hz : ks.length ≤ SZ)
    (h : ∀ k ∈ ks, ∃ ρu, (ob (asgT (ls ++ Lk) tg .own (.int k) (PV.wipe ρ1 own)) fun r => evts C (ls ++ Lk) ifs r) = .ok (q k) ρu ∧ PV.wipe ρu own = PV.wipe ρ1 own ∧ (q k = true → ∃ ρv, ev C (ls ++ Lk) e ρu = .ok (.own, g k) ρv ∧ PV.wipe ρv own = PV.wipe ρ1 own)) :
    ev C Lk (.lc tg own it ifs e) ρ = .ok (.own, .list ((ks.filter q).map g)) ρ1 :=
  ev_lcA (f := .int) (w := true) q g (by rw [hi, List.map_map]; rfl) hd hz h
theorem ev_dcI {Lk ls own : List Nat} {tg : Tg} {it ke ve : Ex} {ρ ρ1 : Env} {ks : List Int} (v : Int → D) (hi : evi C Lk it ρ = .ok ((ks.map .int).map fun x => (true, x), ls) ρ1) (hd : own.any (ls ++ Lk).contains = false) (hz : ks.length ≤ SZ) (hn : ks.Nodup)
    (h : ∀ k ∈ ks, ∃ ρt, asgT (ls ++ Lk) tg .own (.int k) (PV.wipe ρ1 own) = some ρt ∧ PV.wipe ρt own = PV.wipe ρ1 own ∧ (∃ m ρv, ev C (ls ++ Lk) ke ρt = .ok (m, .int k) ρv ∧ ∃ ρw, ev C (ls ++ Lk) ve ρv = .ok (.own, v k) ρw ∧ PV.wipe ρw own = PV.wipe ρ1 own)) :
    ev C Lk (.dc tg own it .nil ke ve) ρ = .ok (.own, DK ks v) ρ1 := by
  have := ev_dc (C := C) (own := own) (tg := tg) (k := ke) (v := ve) (fun x => x) (fun x => v ((toI x).getD 0)) hi hd (by simpa using hz) fun it hit => by
    obtain ⟨d, hd, rfl⟩ := List.mem_map.mp hit
    obtain ⟨k, hk, rfl⟩ := List.mem_map.mp hd
    obtain ⟨ρt, h1, h2, h3⟩ := h k hk
    exact ⟨ρt, h1, h2, rfl, h3⟩
  rw [this]
  congr 2
  have hf := fold_dk (v := v) ks [] (by simpa using hn)
  rw [List.nil_append] at hf
  show PyData.dict _ = PyData.dict _
  rw [← hf, List.map_map, List.map_map, List.map_map]; rfl
end
theorem take_s {α : Type} {l : List α} {i : Nat} {x : α} (h : l[i]? = some x) : l.take (i + 1) = l.take i ++ [x] := by
  rw [List.take_succ, h]; rfl
end PV.N
end

section
set_option linter.all false
set_option autoImplicit false
set_option maxRecDepth 100000
namespace PV.N
open PySem K01
/-- K01's defs stand at the head of the program's -/
class H01 (P : Pr) : Prop where
  hd : ∃ r, P.defs = K01.defs ++ r
  hg : ∃ r, P.globs = K01.globs ++ r
  hw : P.w = K01.ww
instance H01.self : H01 ⟨K01.defs, K01.globs, K01.ww⟩ := ⟨⟨[], rfl⟩, ⟨[], rfl⟩, rfl⟩
variable {P : Pr} [H01 P]
theorem app_at {α : Type} {l r : List α} {i : Nat} {x : α} (h : l[i]? = some x) : (l ++ r)[i]? = some x := by
  rcases Nat.lt_or_ge i l.length with z | z
  · rw [List.getElem?_append_left z]; exact h
  · rw [List.getElem?_eq_none z] at h; cases h
theorem CX_at {n f : Nat} {df : Def} {args : List (CK × D)} (h : defs[f]? = some df) (hl : args.length = df.np) : (CX P (n + 1)).call f args = runD df args (exec (CX P n) [] df.body (inA args df.ns)) := by
  obtain ⟨r, e⟩ := H01.hd (P := P)
  exact callD_at (by rw [e]; exact app_at h) hl
@[simp] theorem CX_glob {n : Nat} : (CX P n).glob 0 = some (.int 40) := by
  obtain ⟨r, e⟩ := H01.hg (P := P)
  show P.globs[0]? = _
  rw [e]; rfl
@[simp] theorem CX_w {n : Nat} : (CX P n).w = 1000 := H01.hw
theorem c0 {n : Nat} {z : Int} : (CX P (n + 1)).call 0 [(.own, .int z)] = .ret .own (.bool true) [none] := by
  rw [CX_at (df := d0) rfl rfl]
  simp [d0]
theorem c2 {n : Nat} {p : List Int} (h : Fo p) {i : Int} (hi : In p i) : (CX P (n + 1)).call 2 [(.shr, L p), (.own, .int i)] = .ret .own (.bool false) [none, none] := by
  rw [CX_at (df := d2) rfl rfl]
  have hn := h.n1
  have hn4 := h.n40
  have e1 := at_nx hi
  have er := rng1 (n := p.length) (by omega)
  obtain ⟨N, hN⟩ : ∃ N, p.length = N + 1 := ⟨p.length - 1, by omega⟩
  by_cases e : nx p i = i
  · have e2 : ∀ C : Ctx, exec C [] f2_0 [some ⟨.shr, L p⟩, some ⟨.own, .int i⟩, some ⟨.own, .int i⟩, none] = .ok (.ret .own (.bool false)) [some ⟨.shr, L p⟩, some ⟨.own, .int i⟩, some ⟨.own, .int i⟩, some ⟨.own, .int 0⟩] := fun C => by
      have er2 : List.range p.length = 0 :: (List.range N).map Nat.succ := by rw [hN, List.range_succ_eq_map]
      simp [f2_0, x_forE, er, er2, loopF_cons, b2_0, -List.map_map]
    simp [d2, e1, e, e2]
  · obtain ⟨T, t1, t2⟩ := h.ex
    obtain ⟨ρ', e3, x, o, -, -, rfl⟩ : ∃ ρ', exec (CX P n) [] f2_0 [some ⟨.shr, L p⟩, some ⟨.own, .int i⟩, some ⟨.own, .int (nx p i)⟩, none] = .ok .nx ρ' ∧ ∃ x o, In p x ∧ T i < T x ∧ ρ' = [some ⟨.shr, L p⟩, some ⟨.own, .int i⟩, some ⟨.own, .int x⟩, cF o] := by
      refine x_forI (fun _ ρ' => ∃ x o, In p x ∧ T i < T x ∧ ρ' = [some ⟨.shr, L p⟩, some ⟨.own, .int i⟩, some ⟨.own, .int x⟩, cF o]) (ls := []) (p := (List.range p.length).map fun (k : Nat) => .int (k : Int)) ?_ ?_ ?_
      · simp [er]
      · exact ⟨_, none, h.rg i hi, t1 i hi e, rfl⟩
      · rintro j d ρ hj ⟨x, c, hx, ht, rfl⟩
        obtain ⟨-, rfl⟩ := rng_at hj
        have ex := at_nx hx
        have en : x ≠ i := fun z => by subst z; omega
        have hn := h.rg x hx
        have ht' : T i < T (nx p x) := by
          by_cases z : nx p x = x
          · rw [z]; exact ht
          · exact Nat.lt_trans ht (t1 x hx z)
        simp [b2_0, ex, en]
        exact ⟨hn, ht'⟩
    simp [d2, e1, e3]
theorem c1 {n : Nat} {p : List Int} (h : Fo p) : (CX P (n + 2)).call 1 [(.shr, L p)] = .ret .own .none [none] := by
  rw [CX_at (df := d1) rfl rfl]
  have hn := h.n1
  have hn4 := h.n40
  have er := rng1 (n := p.length) (by omega)
  obtain ⟨ρ', e3, o, q, rfl⟩ : ∃ ρ', exec (CX P (n + 1)) [] f1_1 [some ⟨.shr, L p⟩, none, none] = .ok .nx ρ' ∧ ∃ o q, ρ' = [some ⟨.shr, L p⟩, cF o, cF q] := by
    refine x_for2 (fun _ ρ' => ∃ o q, ρ' = [some ⟨.shr, L p⟩, cF o, cF q]) (evi_enum (m := .shr) (p := p) (by simp)) ⟨none, none, rfl⟩ ?_
    rintro j w d ρ hj ⟨x, c, rfl⟩
    obtain ⟨v, hv, rfl, rfl⟩ := enum_at hj
    obtain ⟨⟨h1, h2⟩, -⟩ := h.at hv
    have h2' : ¬ (p.length : Int) < v := by omega
    have h1' : ¬ v < 1 := by omega
    simp [b1_1, c0, h1', h2']
  obtain ⟨ρ', e4, o', q, rfl⟩ : ∃ ρ', exec (CX P (n + 1)) [] f1_0 [some ⟨.shr, L p⟩, cF o, cF q] = .ok .nx ρ' ∧ ∃ o q, ρ' = [some ⟨.shr, L p⟩, cF o, cF q] := by
    refine x_forI (fun _ ρ' => ∃ o q, ρ' = [some ⟨.shr, L p⟩, cF o, cF q]) (ls := []) (p := (List.range p.length).map fun (k : Nat) => .int (k : Int)) (by simp [er]) ⟨_, _, rfl⟩ ?_
    rintro j d ρ hj ⟨x, c, rfl⟩
    obtain ⟨hj, rfl⟩ := rng_at hj
    have hI : In p ((j : Int) + 1) := ⟨by omega, by omega⟩
    simp [b1_0, c2 h hI, hI]
  have h1 : ¬ (p.length : Int) < 1 := by omega
  have h40 : ¬ (40 : Int) < p.length := by omega
  simp [d1, e3, e4, h1, h40]
theorem c3 {n : Nat} {p : List Int} {i : Int} (hi : In p i) : (CX P (n + 2)).call 3 [(.own, .int i), (.shr, L p)] = .ret .own .none [none, none] := by
  rw [CX_at (df := d3) rfl rfl]
  obtain ⟨h1, h2⟩ := hi
  have h1' : ¬ i < 1 := by omega
  have h2' : ¬ (p.length : Int) < i := by omega
  simp [d3, c0, h1', h2']
theorem c4 {n : Nat} {p : List Int} (h : Fo p) : (CX P (n + 1)).call 4 [(.shr, L p)] = .ret .own (L (things p.length)) [none] := by
  rw [CX_at (df := d4) rfl rfl]
  have hn4 := h.n40
  have er := rng2 (n := p.length) (by omega)
  have : p.length ≤ SZ := by unfold SZ; omega
  simp [d4, er, things_len, this]
theorem c5 {p : List Int} (h : Fo p) : ∀ (i : Int), In p i → ∀ n : Nat, (CX P (n + 123)).call 5 [(.shr, L p), (.own, .int i)] = .ret .own (L (way p i)) [none, none] := by
  have key : ∀ (f : Nat) (i : Int), In p i → (way p i).length ≤ f + 1 → ∀ n, (CX P (n + f + 1)).call 5 [(.shr, L p), (.own, .int i)] = .ret .own (L (way p i)) [none, none] := by
    intro f
    induction f with
    | zero =>
      intro i hi hl n
      rw [way_eq h hi] at hl ⊢
      have e1 := at_nx hi
      by_cases e : nx p i = i
      · rw [CX_at (df := d5) rfl rfl]
        simp [d5, SZ, e, e1]
      · rw [if_neg e] at hl
        have := way_ne h (h.rg i hi)
        cases hw : way p (nx p i) with
        | nil => exact absurd hw this
        | cons x r => rw [hw] at hl; simp at hl
    | succ f ih =>
      intro i hi hl n
      have e1 := at_nx hi
      rw [way_eq h hi] at hl ⊢
      rw [CX_at (df := d5) rfl rfl]
      by_cases e : nx p i = i
      · simp [d5, SZ, e, e1]
      · rw [if_neg e] at hl ⊢
        simp only [List.length_cons] at hl
        have hh := ih (nx p i) (h.rg i hi) (by omega) n
        rw [show n + f + 1 = n + (f + 1) by omega] at hh
        have hl2 : ([PyData.int i] : List D).length + ((way p (nx p i)).map PyData.int).length ≤ SZ := by
          have := way_len p (nx p i)
          unfold SZ
          simp; omega
        have hb : ∀ ρ, binop .add .own (.list [.int i]) .own (.list ((way p (nx p i)).map .int)) ρ = some ((.own, .list ([.int i] ++ (way p (nx p i)).map .int)), ρ) := fun ρ => b_catO hl2
        simp [d5, SZ, e, e1, hh, hb]
  intro i hi n
  exact key 122 i hi (way_len p i) n
end PV.N
end

section
set_option linter.all false
set_option autoImplicit false
set_option maxRecDepth 100000
namespace PV.N
open PySem K01
variable {P : Pr} [H01 P]
abbrev N' (p : List Int) : List Int := things p.length
theorem N'.In {p : List Int} {k : Int} (h : k ∈ N' p) : In p k := mem_things.mp h
theorem In.mem {p : List Int} {k : Int} (h : In p k) : k ∈ N' p := mem_things.mpr h
theorem e4 {n : Nat} {p : List Int} (h : Fo p) {Lk : List Nat} {r : Env} : evi (CX P (n + 1)) Lk (.itr (.call 4 (.cons (.var 0) .nil))) (some ⟨.shr, L p⟩ :: r) = .ok (((N' p).map .int).map fun x => (true, x), []) (some ⟨.shr, L p⟩ :: r) := by
  have := c4 (P := P) (n := n) h
  exact evi_itr (m := .own) (by simp [this])
theorem e5 {n : Nat} {p : List Int} (h : Fo p) {i : Int} (hi : In p i) {Lk : List Nat} {r : Env} {x : Nat} (hx : getc (some ⟨.shr, L p⟩ :: r) x = some ⟨.own, .int i⟩) : ev (CX P (n + 123)) Lk (.call 5 (.cons (.var 0) (.cons (.var x) .nil))) (some ⟨.shr, L p⟩ :: r) = .ok (.own, L (way p i)) (some ⟨.shr, L p⟩ :: r) := by
  have := c5 (P := P) h i hi n
  have hx' := hx
  rw [e_getc] at hx'
  simp [this, hx']
def kids (p : List Int) (l : List Int) (k : Int) : List Int := l.filter fun j => decide (nx p j = k) && decide (nx p j ≠ j)
theorem c6 {n : Nat} {p : List Int} (h : Fo p) : (CX P (n + 2)).call 6 [(.shr, L p)] = .ret .own (DK (N' p) fun k => L (kids p (N' p) k)) [none] := by
  rw [CX_at (df := d6) rfl rfl]
  have hn4 := h.n40
  have hd : ev (CX P (n + 1)) [] e6_0 [some ⟨.shr, L p⟩, none, none] = .ok (.own, DK (N' p) fun k => L (kids p [] k)) [some ⟨.shr, L p⟩, none, none] := by
    refine ev_dcI (fun k => L (kids p [] k)) (e4 h) rfl (by rw [things_len]; unfold SZ; omega) (things_nodup _) fun k hk => ?_
    refine ⟨_, by simp; rfl, by simp, _, _, by simp; exact ⟨rfl, rfl⟩, _, by simp [kids, SZ]; rfl, by simp⟩
  obtain ⟨ρ', h1, h2⟩ : ∃ ρ', exec (CX P (n + 1)) [] f6_0 [some ⟨.shr, L p⟩, some ⟨.own, DK (N' p) fun k => L (kids p [] k)⟩, none] = .ok .nx ρ' ∧ ∃ o, ρ' = [some ⟨.shr, L p⟩, some ⟨.own, DK (N' p) fun k => L (kids p ((N' p).take ((N' p).map PyData.int).length) k)⟩, cF o] := by
    refine x_forI (fun t ρ' => ∃ o, ρ' = [some ⟨.shr, L p⟩, some ⟨.own, DK (N' p) fun k => L (kids p ((N' p).take t) k)⟩, cF o]) (e4 h) ⟨none, rfl⟩ ?_
    rintro j d ρ hj ⟨o, rfl⟩
    obtain ⟨v, hv, rfl⟩ := int_at hj
    have hI : In p v := N'.In (List.mem_of_getElem? hv)
    have e1 := at_nx hI
    have hm := (h.rg v hI).mem
    rw [take_s hv]
    by_cases e : nx p v = v
    · have : ∀ k, kids p ((N' p).take j ++ [v]) k = kids p ((N' p).take j) k := fun k => by simp [kids, e]
      simp [b6_0, e1, e, this]
    · have ea := at_dk (v := fun k => L (kids p ((N' p).take j) k)) hm
      have es := setIn_dk (v := fun k => L (kids p ((N' p).take j) k)) (x := L (kids p ((N' p).take j) (nx p v) ++ [v])) hm (things_nodup _)
      have hu : upd (fun k => L (kids p ((N' p).take j) k)) (nx p v) (L (kids p ((N' p).take j) (nx p v) ++ [v])) = fun k => L (kids p ((N' p).take j ++ [v]) k) := funext fun k => by
        unfold upd
        by_cases z : k = nx p v
        · subst z; simp [kids, e]
        · have z' : ¬ nx p v = k := fun q => z q.symm
          simp [kids, z, z']
      have hl : (kids p ((N' p).take j) (nx p v)).length < SZ := by
        have := List.length_filter_le (fun i => decide (nx p i = nx p v) && decide (nx p i ≠ i)) ((N' p).take j)
        unfold kids
        rw [List.length_take, things_len] at this
        unfold SZ; omega
      have eL : L (kids p ((N' p).take j) (nx p v) ++ [v]) = .list ((kids p ((N' p).take j) (nx p v)).map .int ++ [.int v]) := by simp
      rw [eL] at es hu
      rw [← hu]
      simp [b6_0, e1, e, holdAt, atP, ea, listAt, updD, appD, es, hl, stK, isOwn]
  rw [List.length_map, List.take_length] at h2
  obtain ⟨o, rfl⟩ := h2
  simp [d6, hd, h1]
end PV.N
end

section
set_option linter.all false
set_option autoImplicit false
set_option maxRecDepth 100000
namespace PV.N
open PySem K01
variable {P : Pr} [H01 P]
def szN (p : List Int) (l : List Int) (k : Int) : Nat := (l.map fun j => (way p j).count k).sum
theorem putD_kv {ks : List Int} {v w : Int → D} {k : Int} {x : D} (h : k ∈ ks) (hn : ks.Nodup) (hl : ks.length < SZ) (hu : upd v k x = w) : putD (DK ks v) (.int k) x = some (DK ks w) := by rw [putD_dk h hn hl, hu]
theorem N'.lt {p : List Int} (h : Fo p) : (N' p).length < SZ := by
  have := h.n40
  rw [things_len]; unfold SZ; omega
theorem c7 {n : Nat} {p : List Int} (h : Fo p) : (CX P (n + 124)).call 7 [(.shr, L p)] = .ret .own (DK (N' p) fun k => .int (szN p (N' p) k : Nat)) [none] := by
  rw [CX_at (df := d7) rfl rfl]
  have hn4 := h.n40
  have hd : ev (CX P (n + 123)) [] e7_0 [some ⟨.shr, L p⟩, none, none, none] = .ok (.own, DK (N' p) fun k => .int 0) [some ⟨.shr, L p⟩, none, none, none] := by
    refine ev_dcI (fun k => .int 0) (e4 (P := P) (n := n + 122) h) rfl (Nat.le_of_lt (N'.lt h)) (things_nodup _) fun k hk => ?_
    refine ⟨_, by simp; rfl, by simp, _, _, by simp; exact ⟨rfl, rfl⟩, _, by simp; rfl, by simp⟩
  obtain ⟨ρ', h1, h2⟩ : ∃ ρ', exec (CX P (n + 123)) [] f7_1 [some ⟨.shr, L p⟩, some ⟨.own, DK (N' p) fun k => .int 0⟩, none, none] = .ok .nx ρ' ∧ ∃ o o2, ρ' = [some ⟨.shr, L p⟩, some ⟨.own, DK (N' p) fun k => .int (szN p ((N' p).take ((N' p).map PyData.int).length) k : Nat)⟩, cF o, cF o2] := by
    refine x_forI (fun t ρ' => ∃ o o2, ρ' = [some ⟨.shr, L p⟩, some ⟨.own, DK (N' p) fun k => .int (szN p ((N' p).take t) k : Nat)⟩, cF o, cF o2]) (e4 (P := P) (n := n + 122) h) ⟨none, none, rfl⟩ ?_
    rintro j d ρ hj ⟨o, o2, rfl⟩
    obtain ⟨v, hv, rfl⟩ := int_at hj
    have hI : In p v := N'.In (List.mem_of_getElem? hv)
    rw [take_s hv]
    obtain ⟨ρ', h1, h2⟩ : ∃ ρ', exec (CX P (n + 123)) [] f7_0 [some ⟨.shr, L p⟩, some ⟨.own, DK (N' p) fun k => .int (szN p ((N' p).take j) k : Nat)⟩, some ⟨.own, .int v⟩, cF o2] = .ok .nx ρ' ∧ ∃ o2, ρ' = [some ⟨.shr, L p⟩, some ⟨.own, DK (N' p) fun k => .int ((szN p ((N' p).take j) k + ((way p v).take ((way p v).map PyData.int).length).count k : Nat) : Int)⟩, some ⟨.own, .int v⟩, cF o2] := by
      refine x_forI (fun t ρ' => ∃ o2, ρ' = [some ⟨.shr, L p⟩, some ⟨.own, DK (N' p) fun k => .int ((szN p ((N' p).take j) k + ((way p v).take t).count k : Nat) : Int)⟩, some ⟨.own, .int v⟩, cF o2]) (evi_itr (m := .own) (p := way p v) (e5 h hI rfl)) ⟨o2, by simp⟩ ?_
      rintro t d ρ hj2 ⟨o2, rfl⟩
      obtain ⟨x, hx, rfl⟩ := int_at hj2
      have hm := (way_mem h v hI x (List.mem_of_getElem? hx)).mem
      rw [take_s hx]
      have ea := at_dk (v := fun k => .int ((szN p ((N' p).take j) k + ((way p v).take t).count k : Nat) : Int)) hm
      have es := putD_kv (v := fun k => .int ((szN p ((N' p).take j) k + ((way p v).take t).count k : Nat) : Int)) (w := fun k => .int ((szN p ((N' p).take j) k + ((way p v).take t ++ [x]).count k : Nat) : Int)) (x := .int (((szN p ((N' p).take j) x + ((way p v).take t).count x : Nat) : Int) + 1)) hm (things_nodup _) (N'.lt h) (funext fun k => by
        unfold upd
        by_cases z : k = x
        · subst z; simp; omega
        · have z' : ¬ x = k := fun q => z q.symm
          simp [z, z'])
      simp [b7_0, -Int.natCast_add, -List.count_append, isDict, ea, es, stK, toI, arithA]
    rw [List.length_map, List.take_length] at h2
    obtain ⟨o2, rfl⟩ := h2
    have : ∀ k, szN p ((N' p).take j) k + (way p v).count k = szN p ((N' p).take j ++ [v]) k := fun k => by simp [szN]
    simp [b7_1, h1, this]
  rw [List.length_map, List.take_length] at h2
  obtain ⟨o, o2, rfl⟩ := h2
  simp [d7, hd, h1]
end PV.N
end

section
set_option linter.all false
set_option autoImplicit false
set_option maxRecDepth 100000
namespace PV.N
open PySem K01
variable {P : Pr} [H01 P]
theorem idx_at : ∀ {l : List Int} {i : Nat} {x : Int}, l.Nodup → l[i]? = some x → l.idxOf x = i ∧ x ∉ l.take i
  | [], i, x, _, h => by simp at h
  | a :: r, 0, x, _, h => by
    simp at h
    subst h
    simp
  | a :: r, i + 1, x, hn, h => by
    obtain ⟨h1, h2⟩ := List.nodup_cons.mp hn
    have h' : r[i]? = some x := by simpa using h
    obtain ⟨e1, e2⟩ := idx_at h2 h'
    have hx : a ≠ x := fun z => h1 (z ▸ List.mem_of_getElem? h')
    have hb : (a == x) = false := by simpa using hx
    constructor
    · rw [List.idxOf_cons, hb, e1]; rfl
    · rw [List.take_succ_cons]
      intro z
      rcases List.mem_cons.mp z with z | z
      · exact hx z.symm
      · exact e2 z
def mx (m y : Int) : Int := if y > m then y else m
def htI (p : List Int) (l : List Int) (k : Int) : Int := l.foldl (fun m j => if k ∈ way p j then mx m ((way p j).idxOf k : Nat) else m) 0
def ht1 (p : List Int) (v : Int) (l : List Int) (t : Nat) (k : Int) : Int := if k ∈ (way p v).take t then mx (htI p l k) ((way p v).idxOf k : Nat) else htI p l k
theorem c8 {n : Nat} {p : List Int} (h : Fo p) : (CX P (n + 124)).call 8 [(.shr, L p)] = .ret .own (DK (N' p) fun k => .int (htI p (N' p) k)) [none] := by
  rw [CX_at (df := d8) rfl rfl]
  have hn4 := h.n40
  have hd : ev (CX P (n + 123)) [] e8_0 [some ⟨.shr, L p⟩, none, none, none, none] = .ok (.own, DK (N' p) fun k => .int 0) [some ⟨.shr, L p⟩, none, none, none, none] := by
    refine ev_dcI (fun k => .int 0) (e4 (P := P) (n := n + 122) h) rfl (Nat.le_of_lt (N'.lt h)) (things_nodup _) fun k hk => ?_
    refine ⟨_, by simp; rfl, by simp, _, _, by simp; exact ⟨rfl, rfl⟩, _, by simp; rfl, by simp⟩
  obtain ⟨ρ', h1, h2⟩ : ∃ ρ', exec (CX P (n + 123)) [] f8_1 [some ⟨.shr, L p⟩, some ⟨.own, DK (N' p) fun k => .int 0⟩, none, none, none] = .ok .nx ρ' ∧ ∃ o o2 o3, ρ' = [some ⟨.shr, L p⟩, some ⟨.own, DK (N' p) fun k => .int (htI p ((N' p).take ((N' p).map PyData.int).length) k)⟩, cF o, cF o2, cF o3] := by
    refine x_forI (fun t ρ' => ∃ o o2 o3, ρ' = [some ⟨.shr, L p⟩, some ⟨.own, DK (N' p) fun k => .int (htI p ((N' p).take t) k)⟩, cF o, cF o2, cF o3]) (e4 (P := P) (n := n + 122) h) ⟨none, none, none, rfl⟩ ?_
    rintro j d ρ hj ⟨o, o2, o3, rfl⟩
    obtain ⟨v, hv, rfl⟩ := int_at hj
    have hI : In p v := N'.In (List.mem_of_getElem? hv)
    rw [take_s hv]
    obtain ⟨ρ', h1, h2⟩ : ∃ ρ', exec (CX P (n + 123)) [] f8_0 [some ⟨.shr, L p⟩, some ⟨.own, DK (N' p) fun k => .int (htI p ((N' p).take j) k)⟩, some ⟨.own, .int v⟩, cF o2, cF o3] = .ok .nx ρ' ∧ ∃ o2 o3, ρ' = [some ⟨.shr, L p⟩, some ⟨.own, DK (N' p) fun k => .int (ht1 p v ((N' p).take j) (enumL (way p v)).length k)⟩, some ⟨.own, .int v⟩, cF o2, cF o3] := by
      refine x_for2 (fun t ρ' => ∃ o2 o3, ρ' = [some ⟨.shr, L p⟩, some ⟨.own, DK (N' p) fun k => .int (ht1 p v ((N' p).take j) t k)⟩, some ⟨.own, .int v⟩, cF o2, cF o3]) (evi_enum (m := .own) (p := way p v) (e5 h hI rfl)) ⟨o2, o3, by simp [ht1]⟩ ?_
      rintro t w d ρ hj2 ⟨o2, o3, rfl⟩
      obtain ⟨x, hx, rfl, rfl⟩ := enum_at hj2
      obtain ⟨hx1, hx2⟩ := idx_at (way_nodup h v hI) hx
      have hm := (way_mem h v hI x (List.mem_of_getElem? hx)).mem
      have ea := at_dk (v := fun k => .int (ht1 p v ((N' p).take j) t k)) hm
      have es := putD_kv (v := fun k => .int (ht1 p v ((N' p).take j) t k)) (w := fun k => .int (ht1 p v ((N' p).take j) (t + 1) k)) (x := .int (if (t : Int) > ht1 p v ((N' p).take j) t x then (t : Int) else ht1 p v ((N' p).take j) t x)) hm (things_nodup _) (N'.lt h) (funext fun k => by
        unfold upd ht1
        rw [take_s hx]
        by_cases z : k = x
        · subst z
          have hk : k ∈ (way p v).take t ++ [k] := by simp
          simp only [hx2, hk, if_true, if_false, hx1, mx]
        · rw [if_neg z]
          simp [z])
      simp [b8_0, updD, ea, es, stK, -gt_iff_lt]
    rw [enumL_len] at h2
    obtain ⟨o2, o3, rfl⟩ := h2
    have : ∀ k, ht1 p v ((N' p).take j) (way p v).length k = htI p ((N' p).take j ++ [v]) k := fun k => by
      unfold ht1
      rw [List.take_length]
      simp [htI]
    simp [b8_1, h1, this]
  rw [List.length_map, List.take_length] at h2
  obtain ⟨o, o2, o3, rfl⟩ := h2
  simp [d8, hd, h1]
theorem c9 {n : Nat} {p : List Int} (h : Fo p) : (CX P (n + 2)).call 9 [(.shr, L p)] = .ret .own (L ((N' p).filter fun k => decide (nx p k = k))) [none] := by
  rw [CX_at (df := d9) rfl rfl]
  have hd : ev (CX P (n + 1)) [] e9_0 [some ⟨.shr, L p⟩, none] = .ok (.own, .list (((N' p).filter fun k => decide (nx p k = k)).map .int)) [some ⟨.shr, L p⟩, none] := by
    refine ev_lcI (fun k => decide (nx p k = k)) .int (e4 h) rfl (Nat.le_of_lt (N'.lt h)) fun k hk => ?_
    have e1 := at_nx (N'.In hk)
    simp [e1]
  simp [d9, hd]
end PV.N
end

section
set_option linter.all false
set_option autoImplicit false
set_option maxRecDepth 100000
namespace PV.N
open PySem K01
variable {P : Pr} [H01 P]
@[simp] theorem use1_own {xs : List D} {ρ : Env} : use1 .own xs ρ = some (true, ρ) := by
  unfold use1
  rw [e_el1, e_use1, ite_self]
theorem evi_itrT {α : Type} {C : Ctx} {Lk : List Nat} {a : Ex} {ρ ρ1 : Env} {m : M} {ks : List α} {f : α → D} (h : ev C Lk a ρ = .ok (m, .list (ks.map f)) ρ1) (him : imAll (ks.map f) = true) : evi C Lk (.itr a) ρ = .ok (ks.map fun k => (true, f k), lk m) ρ1 := by
  rw [e_iitr, h, e_rb]
  dsimp only
  rw [e_walk him, List.map_map]; rfl
theorem imAll_of {α : Type} {f : α → D} (h : ∀ a, im (f a) = true) : ∀ ks : List α, imAll (ks.map f) = true
  | [] => rfl
  | x :: r => by simp [h, imAll_of h r]
theorem filt_true {α : Type} : ∀ l : List α, l.filter (fun _ => true) = l
  | [] => rfl
  | x :: r => by rw [List.filter_cons, if_pos rfl, filt_true r]
def heads (p : List Int) : List Int := (N' p).filter fun k => decide (nx p k = k)
theorem at_last {p : List Int} (h : Fo p) {i : Int} (hi : In p i) : atD (L (way p i)) (.int (-1)) = some (.int (root p i)) := atD_last (by rw [List.getLast?_map, way_last h hi]; rfl)
section
variable {n : Nat} (hn : 150 ≤ n) {p : List Int} (h : Fo p)
include hn h
theorem g1 : (CX P n).call 1 [(.shr, L p)] = .ret .own .none [none] := by
  obtain ⟨n, rfl⟩ : ∃ m, n = m + 2 := ⟨n - 2, by omega⟩
  exact c1 h
theorem g3 {i : Int} (hi : In p i) : (CX P n).call 3 [(.own, .int i), (.shr, L p)] = .ret .own .none [none, none] := by
  obtain ⟨n, rfl⟩ : ∃ m, n = m + 2 := ⟨n - 2, by omega⟩
  exact c3 hi
theorem g4 : (CX P n).call 4 [(.shr, L p)] = .ret .own (L (N' p)) [none] := by
  obtain ⟨n, rfl⟩ : ∃ m, n = m + 1 := ⟨n - 1, by omega⟩
  exact c4 h
theorem g5 {i : Int} (hi : In p i) : (CX P n).call 5 [(.shr, L p), (.own, .int i)] = .ret .own (L (way p i)) [none, none] := by
  obtain ⟨n, rfl⟩ : ∃ m, n = m + 123 := ⟨n - 123, by omega⟩
  exact c5 h i hi n
theorem g6 : (CX P n).call 6 [(.shr, L p)] = .ret .own (DK (N' p) fun k => L (kids p (N' p) k)) [none] := by
  obtain ⟨n, rfl⟩ : ∃ m, n = m + 2 := ⟨n - 2, by omega⟩
  exact c6 h
theorem g7 : (CX P n).call 7 [(.shr, L p)] = .ret .own (DK (N' p) fun k => .int (szN p (N' p) k : Nat)) [none] := by
  obtain ⟨n, rfl⟩ : ∃ m, n = m + 124 := ⟨n - 124, by omega⟩
  exact c7 h
theorem g8 : (CX P n).call 8 [(.shr, L p)] = .ret .own (DK (N' p) fun k => .int (htI p (N' p) k)) [none] := by
  obtain ⟨n, rfl⟩ : ∃ m, n = m + 124 := ⟨n - 124, by omega⟩
  exact c8 h
theorem g9 : (CX P n).call 9 [(.shr, L p)] = .ret .own (L (heads p)) [none] := by
  obtain ⟨n, rfl⟩ : ∃ m, n = m + 2 := ⟨n - 2, by omega⟩
  exact c9 h
theorem g10 : (CX P (n + 1)).call 10 [(.shr, L p)] = .ret .own (L (heads p)) [none] := by
  rw [CX_at (df := d10) rfl rfl]
  simp [d10, g1 hn h, g9 hn h]
theorem g11 {i : Int} (hi : In p i) : (CX P (n + 1)).call 11 [(.shr, L p), (.own, .int i)] = .ret .own (L (way p i)) [none, none] := by
  rw [CX_at (df := d11) rfl rfl]
  simp [d11, g1 hn h, g3 hn h hi, g5 hn h hi]
theorem g12 {i : Int} (hi : In p i) : (CX P (n + 1)).call 12 [(.shr, L p), (.own, .int i)] = .ret .own (L (kids p (N' p) i)) [none, none] := by
  rw [CX_at (df := d12) rfl rfl]
  have e := at_dk (v := fun k => L (kids p (N' p) k)) hi.mem
  simp [d12, g1 hn h, g3 hn h hi, g6 hn h, e]
theorem g13 : (CX P (n + 1)).call 13 [(.shr, L p)] = .ret .own (L ((N' p).map fun k => (szN p (N' p) k : Int))) [none] := by
  rw [CX_at (df := d13) rfl rfl]
  have e := dk_vals (v := fun k => .int (szN p (N' p) k : Nat)) (ks := N' p)
  simp [d13, g1 hn h, g7 hn h, e]
theorem g14 : (CX P (n + 1)).call 14 [(.shr, L p)] = .ret .own (L ((N' p).map fun k => htI p (N' p) k)) [none] := by
  rw [CX_at (df := d14) rfl rfl]
  have e := dk_vals (v := fun k => .int (htI p (N' p) k)) (ks := N' p)
  simp [d14, g1 hn h, g8 hn h, e]
theorem g15 : (CX P (n + 1)).call 15 [(.shr, L p)] = .ret .own (L ((N' p).map fun k => ((way p k).length : Int) - 1)) [none] := by
  rw [CX_at (df := d15) rfl rfl]
  have e : ev (CX P n) [] e15_0 [some ⟨.shr, L p⟩, none] = .ok (.own, .list (((N' p).filter fun _ => true).map fun k => .int (((way p k).length : Int) - 1))) [some ⟨.shr, L p⟩, none] := by
    refine ev_lcI (fun _ => true) (fun k => .int (((way p k).length : Int) - 1)) (evi_itr (m := .own) (p := N' p) (by simp [g4 hn h])) rfl (Nat.le_of_lt (N'.lt h)) fun k hk => ?_
    have e5 := g5 (P := P) hn h (N'.In hk)
    simp [e5]
  rw [filt_true] at e
  simp [d15, g1 hn h, e]
theorem g16 : (CX P (n + 1)).call 16 [(.shr, L p)] = .ret .own (.list ((heads p).map fun k => L ((N' p).filter fun j => decide (root p j = k)))) [none] := by
  rw [CX_at (df := d16) rfl rfl]
  have e : ev (CX P n) [] e16_2 [some ⟨.shr, L p⟩, none, none, none, none] = .ok (.own, .list (((N' p).filter fun _ => true).map fun k => .tuple [.int (root p k), .int k])) [some ⟨.shr, L p⟩, none, none, none, none] := by
    refine ev_lcI (fun _ => true) (fun k => .tuple [.int (root p k), .int k]) (evi_itr (m := .own) (p := N' p) (by simp [g4 hn h])) rfl (Nat.le_of_lt (N'.lt h)) fun k hk => ?_
    have e5 := g5 (P := P) hn h (N'.In hk)
    have el := at_last h (N'.In hk)
    simp [e5, el, SZ]
  rw [filt_true] at e
  have e2 : ∀ k, k ∈ heads p → ev (CX P n) [] e16_0 [some ⟨.shr, L p⟩, some ⟨.own, .list ((N' p).map fun k => .tuple [.int (root p k), .int k])⟩, none, some ⟨.own, .int k⟩, none] = .ok (.own, .list (((N' p).filter fun j => decide (root p j = k)).map .int)) [some ⟨.shr, L p⟩, some ⟨.own, .list ((N' p).map fun k => .tuple [.int (root p k), .int k])⟩, none, some ⟨.own, .int k⟩, none] := fun k hk => by
    refine ev_lcA (f := fun k => .tuple [.int (root p k), .int k]) (w := true) (fun j => decide (root p j = k)) .int (evi_itrT (m := .bor 1) (by simp) (imAll_of (fun _ => rfl) _)) rfl (Nat.le_of_lt (N'.lt h)) fun j hj => ?_
    simp
  have e1 : ev (CX P n) [] e16_1 [some ⟨.shr, L p⟩, some ⟨.own, .list ((N' p).map fun k => .tuple [.int (root p k), .int k])⟩, none, none, none] = .ok (.own, .list (((heads p).filter fun _ => true).map fun k => L ((N' p).filter fun j => decide (root p j = k)))) [some ⟨.shr, L p⟩, some ⟨.own, .list ((N' p).map fun k => .tuple [.int (root p k), .int k])⟩, none, none, none] := by
    refine ev_lcI (fun _ => true) (fun k => L ((N' p).filter fun j => decide (root p j = k))) (evi_itr (m := .own) (p := heads p) (by simp [g9 hn h])) rfl (Nat.le_trans (List.length_filter_le _ _) (Nat.le_of_lt (N'.lt h))) fun k hk => ?_
    simp [e2 k hk]
  rw [filt_true] at e1
  simp [d16, g1 hn h, e, e1]
end
end PV.N
end

section
set_option linter.all false
set_option autoImplicit false
set_option maxRecDepth 100000
namespace PV.N
open PySem K01
variable {P : Pr} [H01 P]
def tE (C : Ctx) (Lk : List Nat) (c : Ex) (r : Env) : R Bool := evt C Lk c r
def bE (C : Ctx) (Lk : List Nat) (c : St) (r : Env) : R Fl := exec C Lk c r
@[simp] theorem tE_at {C : Ctx} {Lk : List Nat} {c : Ex} {r : Env} : tE C Lk c r = evt C Lk c r := nr rfl
@[simp] theorem bE_at {C : Ctx} {Lk : List Nat} {c : St} {r : Env} : bE C Lk c r = exec C Lk c r := nr rfl
theorem x_whl {C : Ctx} {Lk : List Nat} {c : Ex} {a : St} {ρ : Env} : exec C Lk (.whl c a) ρ = loopW (tE C Lk c) (bE C Lk a) C.w ρ := nr rfl
theorem loopW_s {test : Env → R Bool} {body : Env → R Fl} {n : Nat} {ρ : Env} : loopW test body (n + 1) ρ = (test ρ).bind fun c ρ1 => if c then (body ρ1).bind (lpF fun r => loopW test body n r) else .ok .nx ρ1 := by
  show ((test ρ).bind fun c ρ1 => if c then (body ρ1).bind fun f ρ2 => (match f with
      | .nx => loopW test body n ρ2
      | .ct => loopW test body n ρ2
      | .brk => .ok .nx ρ2
      | .ret m d => .ok (.ret m d) ρ2) else .ok .nx ρ1 : R Fl) = _
  rfl
@[simp] theorem at_app {xs : List D} {d : D} : atD (.list (xs ++ [d])) (.int (-1)) = some d := atD_last (by simp)
@[simp] theorem at_appL {a : List Int} {i : Int} : atD (L (a ++ [i])) (.int (-1)) = some (.int i) := atD_last (by simp)
theorem appL {a : List Int} {i : Int} (h : a.length < SZ) : appD (L a) (.int i) = some (L (a ++ [i])) := by
  show (if (a.map PyData.int).length < SZ then some (PyData.list (a.map .int ++ [.int i])) else none) = _
  rw [if_pos (by simpa using h)]; simp
@[simp] theorem at_one {d : D} : atD (.list [d]) (.int (-1)) = some d := atD_last rfl
theorem w19 {n : Nat} {p : List Int} (h : Fo p) : ∀ i, In p i → ∀ (a : List Int) (F : Nat), (way p i).length < F → a.length + (way p i).length < 1000 → loopW (tE (CX P n) [] (.tv (.cmp .ne (.sub (.var 0) (.bin .sub (.sub (.var 2) (.neg (.con (.int 1)))) (.con (.int 1)))) (.sub (.var 2) (.neg (.con (.int 1))))))) (bE (CX P n) [] b19_0) F [some ⟨.shr, L p⟩, none, some ⟨.own, L (a ++ [i])⟩] = .ok .nx [some ⟨.shr, L p⟩, none, some ⟨.own, L (a ++ way p i)⟩] := by
  refine h.ind (fun i hi e a F hF ha => ?_) fun i hi e hx ih a F hF ha => ?_
  · have e1 := at_nx hi
    rw [way_eq h hi, if_pos e] at hF ⊢
    obtain ⟨F, rfl⟩ : ∃ G, F = G + 1 := ⟨F - 1, by omega⟩
    rw [loopW_s]
    simp [e1, e]
  · have e1 := at_nx hi
    rw [way_eq h hi, if_neg e] at hF ha ⊢
    simp only [List.length_cons] at hF ha
    obtain ⟨F, rfl⟩ : ∃ G, F = G + 1 := ⟨F - 1, by omega⟩
    have := ih (a ++ [i]) F (by omega) (by simp; omega)
    have hs : (a ++ [i]).length < SZ := by unfold SZ; simp; omega
    have hp := appL (i := nx p i) hs
    rw [loopW_s]
    rw [List.append_assoc, List.cons_append, List.nil_append] at this hp
    simp [e1, e, b19_0, listAt, atP, updD, hp, stK, isOwn]
    rw [List.append_assoc] at this
    exact this
theorem g19 {n : Nat} {p : List Int} (h : Fo p) {i : Int} (hi : In p i) : (CX P (n + 1)).call 19 [(.shr, L p), (.own, .int i)] = .ret .own (L (way p i)) [none, none] := by
  rw [CX_at (df := d19) rfl rfl]
  have e : exec (CX P n) [] f19_0 [some ⟨.shr, L p⟩, none, some ⟨.own, .list [.int i]⟩] = .ok .nx [some ⟨.shr, L p⟩, none, some ⟨.own, L (way p i)⟩] := by
    have := way_len p i
    rw [f19_0, x_whl, CX_w]
    exact w19 (P := P) h i hi [] 1000 (by omega) (by simp; omega)
  simp [d19, e, SZ]
theorem evi_r {n : Nat} {p : List Int} (h : Fo p) {Lk : List Nat} {r : Env} : evi (CX P n) Lk (.rng (.cons (.con (.int 1)) (.cons (.bin .add (.bi .len (.cons (.var 0) (.nil))) (.con (.int 1))) (.nil)))) (some ⟨.shr, L p⟩ :: r) = .ok (((N' p).map .int).map fun x => (true, x), []) (some ⟨.shr, L p⟩ :: r) := by
  have hn4 := h.n40
  have er := rng2 (n := p.length) (by omega)
  simp [er]
theorem szN_eq {p : List Int} (h : Fo p) (k : Int) : szN p (N' p) k = ((N' p).filter fun j => decide (k ∈ way p j)).length := by
  unfold szN
  have : ∀ l : List Int, (∀ j ∈ l, In p j) → (l.map fun j => (way p j).count k).sum = (l.filter fun j => decide (k ∈ way p j)).length := fun l => by
    induction l with
    | nil => intro _; rfl
    | cons a r ih =>
      intro hl
      have hr := ih fun j hj => hl j (List.mem_cons_of_mem _ hj)
      have hn := way_nodup h a (hl a List.mem_cons_self)
      have h1 := (List.nodup_iff_count.mp hn) k
      rw [List.map_cons, List.sum_cons, hr, List.filter_cons]
      by_cases hm : k ∈ way p a
      · have := List.count_pos_iff.mpr hm
        rw [if_pos (decide_eq_true hm), List.length_cons]; omega
      · rw [if_neg (by simpa using hm), List.count_eq_zero.mpr hm]; omega
  exact this _ fun j hj => N'.In hj
theorem g20 {n : Nat} {p : List Int} (h : Fo p) {k : Int} : (CX P (n + 2)).call 20 [(.shr, L p), (.own, .int k)] = .ret .own (.int (szN p (N' p) k : Nat)) [none, none] := by
  rw [CX_at (df := d20) rfl rfl]
  have e : ev (CX P (n + 1)) [] e20_0 [some ⟨.shr, L p⟩, some ⟨.own, .int k⟩, none] = .ok (.own, .list (((N' p).filter fun j => decide (k ∈ way p j)).map .int)) [some ⟨.shr, L p⟩, some ⟨.own, .int k⟩, none] := by
    refine ev_lcI (fun j => decide (k ∈ way p j)) .int (evi_r h) rfl (Nat.le_of_lt (N'.lt h)) fun j hj => ?_
    have e19 := g19 (P := P) (n := n) h (N'.In hj)
    have ei := c_isin (k := k) (p := way p j)
    simp [e19, ei]
  simp [d20, e, szN_eq h]
theorem fold_mx {p : List Int} {k : Int} : ∀ (l : List Int) (m : Int), l.foldl (fun m j => if k ∈ way p j then mx m ((way p j).idxOf k : Nat) else m) m = ((l.filter fun j => decide (k ∈ way p j)).map fun j => (((way p j).idxOf k : Nat) : Int)).foldl mx m
  | [], m => rfl
  | a :: r, m => by
    rw [List.foldl_cons, fold_mx r, List.filter_cons]
    by_cases h : k ∈ way p a
    · rw [if_pos h, if_pos (decide_eq_true h), List.map_cons, List.foldl_cons]
    · rw [if_neg h, if_neg (by simpa using h)]
theorem walk_box {C : Ctx} {Lk : List Nat} {i : Nat} {ρ : Env} {α : Type} {ks : List α} {f : α → List Int} (hi : getc ρ i = some ⟨.own, .list (ks.map fun k => L (f k))⟩) (hk : ks ≠ []) : evi C Lk (.itr (.var i)) ρ = .ok (ks.map fun k => (false, L (f k)), []) (ρ.set i (some ⟨.shr, .list (ks.map fun k => L (f k))⟩)) := by
  have him : imAll (ks.map fun k => L (f k)) = false := by
    cases ks with
    | nil => exact absurd rfl hk
    | cons a r => rfl
  have hw : walkO (.bor i) (.list (ks.map fun k => L (f k))) (ks.map fun k => L (f k)) ρ = some ((ks.map fun k => (false, L (f k)), []), ρ.set i (some ⟨.shr, .list (ks.map fun k => L (f k))⟩)) := by
    show (if imAll (ks.map fun k => L (f k)) then _ else (use (.bor i) (.list (ks.map fun k => L (f k))) ρ).map _) = _
    rw [him, if_neg (by decide)]
    show ((frz ρ i).map fun r => (false, r)).map _ = _
    unfold frz
    rw [hi]
    simp
  rw [e_iitr, e_var, e_ld, hi]
  simp only [e_nrm6, Option.map_some, e_of, e_rb]
  rw [hw]; rfl
theorem g21 {n : Nat} {p : List Int} (h : Fo p) {k : Int} (hk : In p k) : (CX P (n + 2)).call 21 [(.shr, L p), (.own, .int k)] = .ret .own (.int (htI p (N' p) k)) [none, none] := by
  rw [CX_at (df := d21) rfl rfl]
  have e : ev (CX P (n + 1)) [] e21_1 [some ⟨.shr, L p⟩, some ⟨.own, .int k⟩, none, none, none] = .ok (.own, .list (((N' p).filter fun _ => true).map fun j => L (way p j))) [some ⟨.shr, L p⟩, some ⟨.own, .int k⟩, none, none, none] := by
    refine ev_lcI (fun _ => true) (fun j => L (way p j)) (evi_r h) rfl (Nat.le_of_lt (N'.lt h)) fun j hj => ?_
    have e19 := g19 (P := P) (n := n) h (N'.In hj)
    simp [e19]
  rw [filt_true] at e
  have hne : N' p ≠ [] := List.ne_nil_of_mem hk.mem
  have e2 : ev (CX P (n + 1)) [] e21_0 [some ⟨.shr, L p⟩, some ⟨.own, .int k⟩, some ⟨.own, .list ((N' p).map fun j => L (way p j))⟩, none, none] = .ok (.own, .list (((N' p).filter fun j => decide (k ∈ way p j)).map fun j => .int (((way p j).idxOf k : Nat) : Int))) [some ⟨.shr, L p⟩, some ⟨.own, .int k⟩, some ⟨.shr, .list ((N' p).map fun j => L (way p j))⟩, none, none] := by
    refine ev_lcA (f := fun j => L (way p j)) (w := false) (fun j => decide (k ∈ way p j)) (fun j => .int (((way p j).idxOf k : Nat) : Int)) (walk_box (f := fun j => way p j) rfl hne) rfl (Nat.le_of_lt (N'.lt h)) fun j hj => ?_
    have ei := c_isin (k := k) (p := way p j)
    have em := fun (z : k ∈ way p j) (m m2 : M) (ρ : Env) => me_index (m := m) (m2 := m2) (ρ := ρ) z
    simp [ei]
    intro z
    simp [em z]
  have hm : k ∈ (N' p).filter fun j => decide (k ∈ way p j) := List.mem_filter.mpr ⟨hk.mem, decide_eq_true (way_self h hk)⟩
  have ef := fold_mx (p := p) (k := k) (N' p) 0
  cases hc : (N' p).filter fun j => decide (k ∈ way p j) with
  | nil => rw [hc] at hm; exact absurd hm List.not_mem_nil
  | cons a r =>
    rw [hc] at e2 ef
    have e3 : ∀ ρ, bi .max [(.own, .list ((a :: r).map fun j => .int (((way p j).idxOf k : Nat) : Int)))] ρ = some ((.own, .int (htI p (N' p) k)), ρ) := fun ρ => by
      have := bi_maxL (m := .own) (ρ := ρ) (x := (((way p a).idxOf k : Nat) : Int)) (r := r.map fun j => (((way p j).idxOf k : Nat) : Int))
      rw [List.map_cons, List.foldl_cons] at ef
      have h0 : mx 0 (((way p a).idxOf k : Nat) : Int) = (((way p a).idxOf k : Nat) : Int) := by
        unfold mx; split <;> omega
      rw [h0] at ef
      unfold htI
      rw [ef]
      have el : ((a :: r).map fun j => PyData.int (((way p j).idxOf k : Nat) : Int)) = (((((way p a).idxOf k : Nat) : Int)) :: r.map fun j => (((way p j).idxOf k : Nat) : Int)).map PyData.int := by simp [List.map_map, Function.comp_def]
      rw [el]
      exact this
    obtain ⟨M, hM⟩ : ∃ M, M = (a :: r).map fun j => PyData.int (((way p j).idxOf k : Nat) : Int) := ⟨_, rfl⟩
    rw [← hM] at e2 e3
    simp [d21, e, e2, e3]
end PV.N
end

section
set_option linter.all false
set_option autoImplicit false
set_option maxRecDepth 100000
namespace PV.N
open PySem K01
variable {P : Pr} [H01 P]
section
variable {ρ : Env} {xs ys : List D} {i : Nat}
@[simp] theorem use_borL : use (.bor i) (.list xs) ρ = (frz ρ i).map fun r => (false, r) := nr rfl
@[simp] theorem use_topL : use .top (.list xs) ρ = some (false, ρ) := nr rfl
@[simp] theorem use_shrL : use .shr (.list xs) ρ = some (false, ρ) := nr rfl
@[simp] theorem keep_borL : keep (.bor i) (.list xs) ρ = (frz ρ i).map fun r => (.shr, r) := nr rfl
@[simp] theorem keep_topL : keep .top (.list xs) ρ = some (.top, ρ) := nr rfl
@[simp] theorem keep_shrL : keep .shr (.list xs) ρ = some (.shr, ρ) := nr rfl
@[simp] theorem fin_topL {l : List (Option D)} : fin1 .top (.list xs) ρ l = .ret .top (.list xs) l := nr rfl
@[simp] theorem fin_shrL {l : List (Option D)} : fin1 .shr (.list xs) ρ l = .ret .shr (.list xs) l := nr rfl
theorem e_frz : frz ρ i = match getc ρ i with
  | some ⟨.own, d⟩ => some (ρ.set i (some ⟨.shr, d⟩))
  | some ⟨.top, d⟩ => some (ρ.set i (some ⟨.shr, d⟩))
  | some ⟨.shr, _⟩ => some ρ
  | _ => none := nr rfl
theorem b_catS (h : xs.length + ys.length ≤ SZ) (h1 : imAll xs = false) : binop .add (.bort i) (.list xs) .own (.list ys) ρ = some ((.top, .list (xs ++ ys)), ρ) := by
  show (if xs.length + ys.length ≤ SZ then (use2 (.bort i) .own xs ys ρ).map fun (w, ρ') => ((ownM w, PyData.list (xs ++ ys)), ρ') else none) = _
  rw [if_pos h]
  unfold use2
  have : use1 (.bort i) xs ρ = some (false, ρ) := by
    unfold use1
    rw [h1, if_neg (by decide)]; rfl
  rw [this]
  dsimp only
  rw [use1_own]; rfl
@[simp] theorem stK_top {w : Bool} : stK .top w true = some .top := nr rfl
@[simp] theorem stK_own {b : Bool} : stK .own true b = some .own := nr rfl
end
def sizesL (p : List Int) : List Int := (N' p).map fun k => (szN p (N' p) k : Int)
def heightsL (p : List Int) : List Int := (N' p).map fun k => htI p (N' p) k
def depthsL (p : List Int) : List Int := (N' p).map fun k => ((way p k).length : Int) - 1
def groupsD (p : List Int) : D := .list ((heads p).map fun k => L ((N' p).filter fun j => decide (root p j = k)))
def allD (p : List Int) : List D := [L (heads p), L (sizesL p), L (heightsL p), L (depthsL p), groupsD p]
theorem mapL {f : Int → Int} {l : List Int} : (l.map fun k => PyData.int (f k)) = (l.map f).map PyData.int := by rw [List.map_map]; rfl
theorem g23 {n : Nat} {p : List Int} (h : Fo p) : (CX P (n + 3)).call 23 [(.shr, L p)] = .ret .top (.list (allD p)) [none] := by
  rw [CX_at (df := d23) rfl rfl]
  have hz := Nat.le_of_lt (N'.lt h)
  have hn4 := h.n40
  have er := rng2 (n := p.length) (by omega)
  have hi : ∀ (Lk : List Nat) (c2 c3 c4 c5 : Option Cell), evi (CX P (n + 2)) Lk (.itr (.var 1)) [some ⟨.shr, L p⟩, some ⟨.own, L (N' p)⟩, c2, c3, c4, c5] = .ok (((N' p).map .int).map fun x => (true, x), [1]) [some ⟨.shr, L p⟩, some ⟨.own, L (N' p)⟩, c2, c3, c4, c5] := fun Lk c2 c3 c4 c5 => evi_itr (m := .bor 1) (by simp)
  have e5 : ∀ c2 c3 c5 : Option Cell, ev (CX P (n + 2)) [] e23_5 [some ⟨.shr, L p⟩, some ⟨.own, L (N' p)⟩, c2, c3, none, c5] = .ok (.own, L (heads p)) [some ⟨.shr, L p⟩, some ⟨.own, L (N' p)⟩, c2, c3, none, c5] := fun c2 c3 c5 => by
    refine ev_lcI (fun k => decide (nx p k = k)) .int (hi _ _ _ _ _) rfl hz fun k hk => ?_
    have e1 := at_nx (N'.In hk)
    simp [e1]
  have e4 : ∀ c2 c3 c5 : Option Cell, ev (CX P (n + 2)) [] e23_4 [some ⟨.shr, L p⟩, some ⟨.own, L (N' p)⟩, c2, c3, none, c5] = .ok (.own, L (sizesL p)) [some ⟨.shr, L p⟩, some ⟨.own, L (N' p)⟩, c2, c3, none, c5] := fun c2 c3 c5 => by
    have := ev_lcI (C := CX P (n + 2)) (own := [4]) (tg := .nm 4) (ifs := .nil) (e := (.call 20 (.cons (.var 0) (.cons (.var 4) (.nil))))) (fun _ => true) (fun k => .int (szN p (N' p) k : Int)) (hi [] c2 c3 none c5) rfl hz fun k hk => by
      have e1 := g20 (P := P) (n := n) h (k := k)
      simp [e1]
    rw [filt_true, mapL] at this
    exact this
  have e3 : ∀ c2 c3 c5 : Option Cell, ev (CX P (n + 2)) [] e23_3 [some ⟨.shr, L p⟩, some ⟨.own, L (N' p)⟩, c2, c3, none, c5] = .ok (.own, L (heightsL p)) [some ⟨.shr, L p⟩, some ⟨.own, L (N' p)⟩, c2, c3, none, c5] := fun c2 c3 c5 => by
    have := ev_lcI (C := CX P (n + 2)) (own := [4]) (tg := .nm 4) (ifs := .nil) (e := (.call 21 (.cons (.var 0) (.cons (.var 4) (.nil))))) (fun _ => true) (fun k => .int (htI p (N' p) k)) (hi [] c2 c3 none c5) rfl hz fun k hk => by
      have e1 := g21 (P := P) (n := n) h (N'.In hk)
      simp [e1]
    rw [filt_true, mapL] at this
    exact this
  have e2 : ∀ (Lk : List Nat) (c2 c3 c5 : Option Cell), Lk.contains 4 = false → ev (CX P (n + 2)) Lk e23_2 [some ⟨.shr, L p⟩, some ⟨.own, L (N' p)⟩, c2, c3, none, c5] = .ok (.own, L (depthsL p)) [some ⟨.shr, L p⟩, some ⟨.own, L (N' p)⟩, c2, c3, none, c5] := fun Lk c2 c3 c5 hL => by
    have hL' : ¬ 4 ∈ Lk := by simpa using hL
    have := ev_lcI (C := CX P (n + 2)) (own := [4]) (tg := .nm 4) (ifs := .nil) (e := (.bin .sub (.bi .len (.cons (.call 19 (.cons (.var 0) (.cons (.var 4) (.nil)))) (.nil))) (.con (.int 1)))) (fun _ => true) (fun k => .int (((way p k).length : Int) - 1)) (hi Lk c2 c3 none c5) (by simp [hL']) hz fun k hk => by
      have e1 := g19 (P := P) (n := n + 1) h (N'.In hk)
      simp [e1, hL']
    rw [filt_true, mapL] at this
    exact this
  have e0 : ∀ (Lk : List Nat) (c2 c3 : Option Cell) (k : Int), Lk.contains 4 = false → ev (CX P (n + 2)) Lk e23_0 [some ⟨.shr, L p⟩, some ⟨.own, L (N' p)⟩, c2, c3, none, some ⟨.own, .int k⟩] = .ok (.own, L ((N' p).filter fun j => decide (root p j = k))) [some ⟨.shr, L p⟩, some ⟨.own, L (N' p)⟩, c2, c3, none, some ⟨.own, .int k⟩] := fun Lk c2 c3 k hL => by
    have hL' : ¬ 4 ∈ Lk := by simpa using hL
    refine ev_lcI (fun j => decide (root p j = k)) .int (hi _ _ _ _ _) (by simp [hL']) hz fun j hj => ?_
    have e1 := g19 (P := P) (n := n + 1) h (N'.In hj)
    have el := at_last h (N'.In hj)
    simp [e1, el, hL']
  have e1 : ∀ c3 : Option Cell, ev (CX P (n + 2)) [3] e23_1 [some ⟨.shr, L p⟩, some ⟨.own, L (N' p)⟩, some ⟨.shr, L (heads p)⟩, c3, none, none] = .ok (.own, groupsD p) [some ⟨.shr, L p⟩, some ⟨.own, L (N' p)⟩, some ⟨.shr, L (heads p)⟩, c3, none, none] := fun c3 => by
    have := ev_lcI (C := CX P (n + 2)) (Lk := [3]) (own := [5]) (tg := .nm 5) (ifs := .nil) (e := e23_0) (it := .itr (.var 2)) (ρ := [some ⟨.shr, L p⟩, some ⟨.own, L (N' p)⟩, some ⟨.shr, L (heads p)⟩, c3, none, none]) (ρ1 := [some ⟨.shr, L p⟩, some ⟨.own, L (N' p)⟩, some ⟨.shr, L (heads p)⟩, c3, none, none]) (fun _ => true) (fun k => L ((N' p).filter fun j => decide (root p j = k))) (evi_itr (m := .shr) (p := heads p) (by simp)) rfl (Nat.le_trans (List.length_filter_le _ _) hz) fun k hk => by
      have := e0 [3] (some ⟨.shr, L (heads p)⟩) c3 k rfl
      simp [this]
    rw [filt_true] at this
    exact this
  have hp : p.length ≤ SZ := by unfold SZ; omega
  have e2' := fun c2 c3 c5 => e2 [3] c2 c3 c5 rfl
  have hb : ∀ ρ, binop .add (.bort 3) (.list [L (heads p), L (sizesL p), L (heightsL p), L (depthsL p)]) .own (.list [groupsD p]) ρ = some ((.top, .list ([L (heads p), L (sizesL p), L (heightsL p), L (depthsL p)] ++ [groupsD p])), ρ) := fun ρ => b_catS (by unfold SZ; simp) rfl
  simp [d23, er, things_len, hp, e5, e4, e3, e2', e1, e_frz, SZ, listAt, isOwn, atP, updD, appD, hb, allD]
end PV.N
end

section
set_option linter.all false
set_option autoImplicit false
set_option maxRecDepth 100000
namespace PV.N
open PySem K01
variable {P : Pr} [H01 P]
theorem sm_of {i : Int} (h1 : -1000 ≤ i) (h2 : i ≤ 1000) : sm i := by
  unfold sm
  by_cases z : i.natAbs = 0
  · rw [z]; decide
  · rw [Nat.log2_lt z]
    have : (2 : Nat) ^ 20 = 1048576 := by decide
    omega
theorem heads_ne {p : List Int} (h : Fo p) : heads p ≠ [] := by
  have hI : In p 1 := ⟨by decide, by have := h.n1; omega⟩
  obtain ⟨k, hk, e⟩ : ∃ k, In p k ∧ nx p k = k := h.ind (P := fun _ => ∃ k, In p k ∧ nx p k = k) (fun i hi e => ⟨i, hi, e⟩) (fun _ _ _ _ ih => ih) 1 hI
  exact List.ne_nil_of_mem (List.mem_filter.mpr ⟨hk.mem, decide_eq_true e⟩)
theorem In.sm {p : List Int} (h : Fo p) {i : Int} (hi : In p i) : sm i := sm_of (by have := hi.1; omega) (by have := hi.2; have := h.n40; omega)
theorem N'.le {p : List Int} (h : Fo p) (q : Int → Bool) : ((N' p).filter q).length ≤ 123 := Nat.le_trans (List.length_filter_le _ _) (by rw [things_len]; have := h.n40; omega)
theorem bd_sub {p : List Int} (h : Fo p) (q : Int → Bool) (ns : List Nat) : Bd (123 :: ns) (L ((N' p).filter q)) := Bd.L (N'.le h q) fun x hx => In.sm h (N'.In (List.mem_filter.mp hx).1)
theorem htI_le {p : List Int} (k : Int) (l : List Int) : 0 ≤ htI p l k ∧ htI p l k ≤ 123 := by
  unfold htI
  have : ∀ (l : List Int) (m : Int), 0 ≤ m → m ≤ 123 → 0 ≤ l.foldl (fun m j => if k ∈ way p j then mx m ((way p j).idxOf k : Nat) else m) m ∧ l.foldl (fun m j => if k ∈ way p j then mx m ((way p j).idxOf k : Nat) else m) m ≤ 123 := fun l => by
    induction l with
    | nil => intro m h1 h2; exact ⟨h1, h2⟩
    | cons a r ih =>
      intro m h1 h2
      rw [List.foldl_cons]
      have hl := way_len p a
      have hx : (way p a).idxOf k ≤ (way p a).length := List.idxOf_le_length
      refine ih _ ?_ ?_ <;> (unfold mx; split <;> try split) <;> omega
  exact this l 0 (by decide) (by decide)
theorem bd_all {p : List Int} (h : Fo p) : Bd [5, 123, 123] (.list (allD p)) := by
  have hn := h.n40
  have hN : (N' p).length ≤ 123 := by rw [things_len]; omega
  refine Bd.list (Nat.le_refl _) fun x hx => ?_
  unfold allD at hx
  simp only [List.mem_cons, List.not_mem_nil, or_false] at hx
  rcases hx with rfl | rfl | rfl | rfl | rfl
  · exact bd_sub h _ _
  · refine Bd.L (by unfold sizesL; rw [List.length_map]; exact hN) fun x hx => ?_
    obtain ⟨k, hk, rfl⟩ := List.mem_map.mp hx
    rw [szN_eq h]
    have := N'.le h fun j => decide (k ∈ way p j)
    exact sm_of (by omega) (by omega)
  · refine Bd.L (by unfold heightsL; rw [List.length_map]; exact hN) fun x hx => ?_
    obtain ⟨k, hk, rfl⟩ := List.mem_map.mp hx
    have := htI_le (p := p) k (N' p)
    exact sm_of (by omega) (by omega)
  · refine Bd.L (by unfold depthsL; rw [List.length_map]; exact hN) fun x hx => ?_
    obtain ⟨k, hk, rfl⟩ := List.mem_map.mp hx
    have := way_len p k
    exact sm_of (by omega) (by omega)
  · refine Bd.list (by rw [List.length_map]; exact N'.le h _) fun x hx => ?_
    obtain ⟨k, hk, rfl⟩ := List.mem_map.mp hx
    exact bd_sub h _ _
theorem bd_two {p : List Int} (h : Fo p) {k : Int} (hk : In p k) : Bd [5, 123, 123] (.list [L (way p k), L (kids p (N' p) k)]) := by
  refine Bd.list (by simp) fun x hx => ?_
  simp only [List.mem_cons, List.not_mem_nil, or_false] at hx
  rcases hx with rfl | rfl
  · exact Bd.L (way_len p k) fun x hx => In.sm h (way_mem h k hk x hx)
  · exact bd_sub h _ _
theorem rp_all {p : List Int} (h : Fo p) {m : M} {ρ : Env} : bi .repr [(m, .list (allD p))] ρ = some ((.own, .str (PyData.list (allD p)).shown), ρ) := bi_repr (bd_all h) (by decide) (by decide)
theorem rp_two {p : List Int} (h : Fo p) {k : Int} (hk : In p k) {m : M} {ρ : Env} : bi .repr [(m, .list [L (way p k), L (kids p (N' p) k)])] ρ = some ((.own, .str (PyData.list [L (way p k), L (kids p (N' p) k)]).shown), ρ) := bi_repr (bd_two h hk) (by decide) (by decide)
theorem rp_p {p : List Int} (h : Fo p) {m : M} {ρ : Env} : bi .repr [(m, L p)] ρ = some ((.own, .str (L p).shown), ρ) := bi_repr (ns := [123]) (Bd.L (by have := h.n40; omega) fun x hx => by
  obtain ⟨i, hi⟩ := List.getElem?_of_mem hx
  exact In.sm h (h.at hi).1) (by decide) (by decide)
theorem kids_eq {p : List Int} (k : Int) : ((N' p).filter fun j => decide (nx p j = k) && decide (j ≠ k)) = kids p (N' p) k := by
  unfold kids
  refine List.filter_congr fun j _ => ?_
  by_cases e : nx p j = k
  · rw [e]
    congr 1
    exact decide_eq_decide.mpr ⟨fun z q => z q.symm, fun z q => z q.symm⟩
  · rw [decide_eq_false e]; rfl
/-! a walk over rows that the body makes longer -/
theorem io_s {i x : Nat} {k : CK} {body : Env → R Fl} {done : List D} {d : D} {r : List D} {ρ : Env} {ρ2 : Env} {d' : D} (hl : ¬ ρ.length ≤ i) (h : body (ρ.set i (some ⟨.own, d⟩)) = .ok .nx ρ2) (h1 : getc ρ2 i = some ⟨.own, d'⟩) (h2 : getc ρ2 x = none) : loopIO i x k body done (d :: r) ρ = loopIO i x k body (done ++ [d']) r (ρ2.set i none) := by
  show (if ρ.length ≤ i then R.bad else (body (ρ.set i (some ⟨.own, d⟩))).bind fun f ρ2 => match f with
    | .nx => (match getc ρ2 i, getc ρ2 x with
      | some ⟨.own, d'⟩, none => loopIO i x k body (done ++ [d']) r (ρ2.set i none)
      | _, _ => .bad)
    | .ret m d => .ok (.ret m d) ρ2
    | _ => .bad) = _
  rw [if_neg hl, h, rb_ok]
  dsimp only
  rw [h1, h2]
theorem io_all {C : Ctx} {c0 c1 c2 c4 c6 c7 c8 c9 : Option Cell} : ∀ (xs : List (List D)) (done : List D), (∀ x ∈ xs, x.length < SZ) → loopIO 5 3 .own (fun r => exec C [3] b24_1 r) done (xs.map .list) [c0, c1, c2, none, c4, none, c6, c7, c8, c9] = .ok .nx [c0, c1, c2, some ⟨.own, .list (done ++ xs.map fun x => .list (x ++ [.none]))⟩, c4, none, c6, c7, c8, c9]
  | [], done, _ => by
    show R.ok Fl.nx _ = _
    simp
  | x :: r, done, h => by
    have hx := h x List.mem_cons_self
    rw [List.map_cons, io_s (ρ2 := [c0, c1, c2, none, c4, some ⟨.own, .list (x ++ [.none])⟩, c6, c7, c8, c9]) (d' := .list (x ++ [.none])) (by simp) ?_ rfl rfl]
    · have := io_all (C := C) (c0 := c0) (c1 := c1) (c2 := c2) (c4 := c4) (c6 := c6) (c7 := c7) (c8 := c8) (c9 := c9) r (done ++ [.list (x ++ [.none])]) fun y hy => h y (List.mem_cons_of_mem _ hy)
      simpa using this
    · simp [b24_1, listAt, isOwn, atP, updD, appD, hx]
theorem x_forio {C : Ctx} {c0 c1 c2 c4 c6 c7 c8 c9 : Option Cell} {xs : List D} : exec C [] f24_1 [c0, c1, c2, some ⟨.own, .list xs⟩, c4, none, c6, c7, c8, c9] = loopIO 5 3 .own (fun r => exec C [3] b24_1 r) [] xs [c0, c1, c2, none, c4, none, c6, c7, c8, c9] := nr rfl
theorem at4 {a b c d e : D} : atD (.list [a, b, c, d, e]) (.int 4) = some e := rfl
theorem set4 {a b c d e y : D} : setIn (.list [a, b, c, d, e]) (.int 4) y = some (.list [a, b, c, d, y]) := rfl
theorem at0 {a : D} {r : List D} : atD (.list (a :: r)) (.int 0) = some a := by
  show (nth (a :: r).length 0).bind _ = _
  rw [nth_nat (by decide) (by simp)]; rfl
theorem set0 {a y : D} {r : List D} : setIn (.list (a :: r)) (.int 0) y = some (.list (y :: r)) := by
  show (nth (a :: r).length 0).map _ = _
  rw [nth_nat (by decide) (by simp)]; rfl
theorem at1 {a b : D} {r : List D} : atD (.list (a :: b :: r)) (.int 1) = some b := by
  show (nth (a :: b :: r).length 1).bind _ = _
  rw [nth_nat (by decide) (by simp; omega)]; rfl
theorem set1 {a b y : D} {r : List D} : setIn (.list (a :: b :: r)) (.int 1) y = some (.list (a :: y :: r)) := by
  show (nth (a :: b :: r).length 1).map _ = _
  rw [nth_nat (by decide) (by simp; omega)]; rfl
theorem b_catB {xs ys : List D} {i : Nat} {ρ : Env} (h : xs.length + ys.length ≤ SZ) (h1 : imAll xs = false) : binop .add (.bor i) (.list xs) .own (.list ys) ρ = (frz ρ i).map fun r => ((.top, .list (xs ++ ys)), r) := by
  show (if xs.length + ys.length ≤ SZ then (use2 (.bor i) .own xs ys ρ).map fun (w, ρ') => ((ownM w, PyData.list (xs ++ ys)), ρ') else none) = _
  rw [if_pos h]
  unfold use2
  have : use1 (.bor i) xs ρ = (frz ρ i).map fun r => (false, r) := by
    unfold use1
    rw [h1, if_neg (by decide)]; rfl
  rw [this]
  cases frz ρ i with
  | none => rfl
  | some r =>
    dsimp only [Option.map_some]
    rw [use1_own]; rfl
theorem keys0 {p : List Int} {n : Nat} (h : Fo p) {k : Int} (hk : In p k) {c1 c2 c3 c4 c5 c7 c8 : Option Cell} : ev (CX P n) [] e24_0 [some ⟨.shr, L p⟩, c1, c2, c3, c4, c5, some ⟨.own, .int k⟩, c7, c8, none] = .ok (.own, L (kids p (N' p) k)) [some ⟨.shr, L p⟩, c1, c2, c3, c4, c5, some ⟨.own, .int k⟩, c7, c8, none] := by
  rw [← kids_eq]
  refine ev_lcI (fun j => decide (nx p j = k) && decide (j ≠ k)) .int (evi_r h) rfl (Nat.le_of_lt (N'.lt h)) fun j hj => ?_
  have e1 := at_nx (N'.In hj)
  by_cases e : nx p j = k
  · simp [e1, e]
  · simp [e1, e]
theorem loop24 {n : Nat} {p : List Int} (h : Fo p) {c1 c2 c3 c4 : Option Cell} (h4 : blk c4 = false) : ∃ ρ', exec (CX P (n + 200)) [] f24_0 [some ⟨.shr, L p⟩, c1, c2, c3, c4, none, none, none, none, none] = .ok .nx ρ' ∧ ∃ c4 o6 o7 o8, blk c4 = false ∧ ρ' = [some ⟨.shr, L p⟩, c1, c2, c3, c4, none, cF o6, cF o7, cF o8, none] := by
  refine x_forI (fun _ ρ' => ∃ c4 o6 o7 o8, blk c4 = false ∧ ρ' = [some ⟨.shr, L p⟩, c1, c2, c3, c4, none, cF o6, cF o7, cF o8, none]) (evi_r h) ⟨c4, none, none, none, h4, rfl⟩ ?_
  rintro j d ρ hj ⟨c4, o6, o7, o8, h4, rfl⟩
  obtain ⟨k, hk, rfl⟩ := int_at hj
  have hI : In p k := N'.In (List.mem_of_getElem? hk)
  have q19 := g19 (P := P) (n := n + 199) h hI
  have q11 := g11 (P := P) (n := n + 199) (by omega) h hI
  have q12 := g12 (P := P) (n := n + 199) (by omega) h hI
  have hw := way_len p k
  have hw' : (way p k).length < SZ := by unfold SZ; omega
  have hk' : (kids p (N' p) k).length < SZ := Nat.lt_of_le_of_lt (List.length_filter_le _ _) (N'.lt h)
  have rp := fun (m : M) (ρ : Env) => rp_two h hI (m := m) (ρ := ρ)
  have k0 := fun c1 c2 c3 c4 c5 c7 c8 => keys0 (P := P) (n := n + 200) h hI (c1 := c1) (c2 := c2) (c3 := c3) (c4 := c4) (c5 := c5) (c7 := c7) (c8 := c8)
  simp [b24_0, q19, k0, q11, q12, rp, c_sne, h4, SZ, listAt, isOwn, atP, updD, appD, at0, at1, set0, set1, holdAt, hw', hk']
end PV.N
end

section
set_option linter.all false
set_option autoImplicit false
set_option maxRecDepth 100000
namespace PV.N
open PySem K01
variable {P : Pr} [H01 P]
@[simp] theorem aft_ns {as : List Arg} {ios : List (Option D)} {fr : Bool} {ρ : Env} (h : as.any isIo = false) (h2 : as.all (fun a => a.src.isNone) = true) : aft as ios fr ρ = ρ := by
  have hn : ∀ j, ioAt as j = none := fun j => by
    unfold ioAt
    rw [List.findIdx?_eq_none_iff]
    intro a ha
    have : isIo a = false := by
      rw [List.any_eq_false] at h
      simpa using h a ha
    revert this
    unfold isIo
    cases a.k <;> simp
  have hm : ∀ j, lentAt as j = false := fun j => by
    unfold lentAt
    rw [List.any_eq_false]
    intro a ha
    rw [List.all_eq_true] at h2
    have := h2 a ha
    rw [Option.isNone_iff_eq_none] at this
    rw [this]; simp
  unfold aft
  refine List.ext_getElem? fun i => ?_
  rw [List.getElem?_map, List.getElem?_zipIdx]
  cases hc : ρ[i]? with
  | none => rfl
  | some c => simp [aftC, hn, hm]
@[simp] theorem e_lent2 {as : List Arg} : lent .top as = true := nr rfl
@[simp] theorem e_lent3 {as : List Arg} : lent .shr as = true := nr rfl
@[simp] theorem aft_fr0 {ios : List (Option D)} {ρ : Env} {d d0 : D} : aft [⟨.shr, d, some 0⟩] ios true (some ⟨.own, d0⟩ :: ρ) = some ⟨.shr, d0⟩ :: ρ := by
  have hn : ∀ j, ioAt [⟨.shr, d, some 0⟩] j = none := fun j => rfl
  have hm : ∀ j, lentAt [⟨.shr, d, some 0⟩] j = decide (j = 0) := fun j => by
    unfold lentAt
    simp only [List.any_cons, List.any_nil, Bool.or_false, Bool.true_and, Option.some.injEq]
    exact decide_eq_decide.mpr ⟨Eq.symm, Eq.symm⟩
  unfold aft
  refine List.ext_getElem? fun i => ?_
  rw [List.getElem?_map, List.getElem?_zipIdx]
  cases i with
  | zero => simp [aftC, hn, hm]
  | succ i =>
    simp only [List.getElem?_cons_succ]
    cases hc : ρ[i]? with
    | none => rfl
    | some c => simp [aftC, hn, hm]
theorem g24 {n : Nat} {p : List Int} (h : Fo p) {k : CK} (hk : k = .own ∨ k = .shr) : (CX P (n + 201)).call 24 [(k, L p)] = .ret .own (.bool true) [none] := by
  rw [CX_at (df := d24) rfl rfl]
  have q10 : (CX P (n + 200)).call 10 [(.shr, L p)] = .ret .own (L (heads p)) [none] := g10 (P := P) (n := n + 199) (by omega) h
  have q13 : (CX P (n + 200)).call 13 [(.shr, L p)] = .ret .own (L (sizesL p)) [none] := g13 (P := P) (n := n + 199) (by omega) h
  have q14 : (CX P (n + 200)).call 14 [(.shr, L p)] = .ret .own (L (heightsL p)) [none] := g14 (P := P) (n := n + 199) (by omega) h
  have q15 : (CX P (n + 200)).call 15 [(.shr, L p)] = .ret .own (L (depthsL p)) [none] := g15 (P := P) (n := n + 199) (by omega) h
  have q16 : (CX P (n + 200)).call 16 [(.shr, L p)] = .ret .own (groupsD p) [none] := g16 (P := P) (n := n + 199) (by omega) h
  have q23 : (CX P (n + 200)).call 23 [(.shr, L p)] = .ret .top (.list (allD p)) [none] := g23 (P := P) (n := n + 197) h
  have rpa := fun (m : M) (ρ : Env) => rp_all h (m := m) (ρ := ρ)
  have rpp := fun (m : M) (ρ : Env) => rp_p h (m := m) (ρ := ρ)
  unfold allD at rpa q23
  have hb : ∀ ρ, binop .add (.bor 4) (.list [L (heads p), L (sizesL p), L (heightsL p), L (depthsL p)]) .own (.list [groupsD p]) ρ = (frz ρ 4).map fun r => ((.top, .list [L (heads p), L (sizesL p), L (heightsL p), L (depthsL p), groupsD p]), r) := fun ρ => b_catB (by unfold SZ; simp) rfl
  obtain ⟨h0, hs, hh⟩ : ∃ a r, heads p = a :: r := by
    cases hc : heads p with
    | nil => exact absurd hc (heads_ne h)
    | cons a r => exact ⟨a, r, rfl⟩
  have hG : groupsD p = .list (L ((N' p).filter fun j => decide (root p j = h0)) :: hs.map fun k => L ((N' p).filter fun j => decide (root p j = k))) := by
    unfold groupsD; rw [hh]; rfl
  have hl : ((N' p).filter fun j => decide (root p j = h0)).length < SZ := Nat.lt_of_le_of_lt (List.length_filter_le _ _) (N'.lt h)
  have ha1 : atP (.list [L (heads p), L (sizesL p), L (heightsL p), L (depthsL p), groupsD p]) [.int 4] = some (groupsD p) := rfl
  have ha2 : atP (.list [L (heads p), L (sizesL p), L (heightsL p), L (depthsL p), groupsD p]) [.int 4, .int 0] = some (L ((N' p).filter fun j => decide (root p j = h0))) := by
    show (atP (groupsD p) [.int 0]) = _
    rw [hG]
    show (atD _ _).bind _ = _
    rw [at0]; rfl
  have hd1 : holdAt (.list [L (heads p), L (sizesL p), L (heightsL p), L (depthsL p), groupsD p]) [.int 4] = true := by
    unfold holdAt; rw [ha1, hG]
  have hd2 : holdAt (.list [L (heads p), L (sizesL p), L (heightsL p), L (depthsL p), groupsD p]) [.int 4, .int 0] = true := by
    unfold holdAt; rw [ha2]
  obtain ⟨gz, hgz⟩ : ∃ g, g = (PyData.list (((N' p).filter fun j => decide (root p j = h0)).map .int ++ [.none]) :: hs.map fun k => L ((N' p).filter fun j => decide (root p j = k))) := ⟨_, rfl⟩
  have hu : updD (.list [L (heads p), L (sizesL p), L (heightsL p), L (depthsL p), groupsD p]) [.int 4, .int 0] (fun u => appD u .none) = some (.list [L (heads p), L (sizesL p), L (heightsL p), L (depthsL p), .list gz]) := by
    have : appD (L ((N' p).filter fun j => decide (root p j = h0))) .none = some (.list (((N' p).filter fun j => decide (root p j = h0)).map .int ++ [.none])) := by
      show (if _ then _ else _) = _
      rw [if_pos (by rw [List.length_map]; exact hl)]
    have e0 : updD (groupsD p) [.int 0] (fun u => appD u .none) = some (.list gz) := by
      rw [hG, hgz]
      simp only [updD, at0, Option.bind_some, this, set0]
    show (updD (groupsD p) [.int 0] (fun u => appD u .none)).bind (fun y => setIn _ (.int 4) y) = _
    rw [e0]; rfl
  have hz : gz.length < SZ := by
    rw [hgz, List.length_cons, List.length_map]
    have : (heads p).length ≤ 123 := N'.le h _
    rw [hh, List.length_cons] at this
    unfold SZ; omega
  have hN : ∀ q : List Int, q.length ≤ 123 → (q.map PyData.int).length < SZ := fun q hq => by rw [List.length_map]; unfold SZ; omega
  have hNl : (N' p).length ≤ 123 := by have := h.n40; rw [things_len]; omega
  obtain ⟨Z, hZ⟩ : ∃ Z, ∀ c1 c2 c4 : Option Cell, exec (CX P (n + 200)) [] f24_1 [some ⟨.shr, L p⟩, c1, c2, some ⟨.own, .list [L (heads p), L (sizesL p), L (heightsL p), L (depthsL p), .list gz]⟩, c4, none, none, none, none, none] = .ok .nx [some ⟨.shr, L p⟩, c1, c2, some ⟨.own, .list Z⟩, c4, none, none, none, none, none] := by
    refine ⟨[] ++ [(heads p).map .int, (sizesL p).map .int, (heightsL p).map .int, (depthsL p).map .int, gz].map fun x => .list (x ++ [.none]), fun c1 c2 c4 => ?_⟩
    rw [x_forio]
    refine io_all (C := CX P (n + 200)) [(heads p).map .int, (sizesL p).map .int, (heightsL p).map .int, (depthsL p).map .int, gz] [] fun x hx => ?_
    simp only [List.mem_cons, List.not_mem_nil, or_false] at hx
    rcases hx with rfl | rfl | rfl | rfl | rfl
    · exact hN _ (N'.le h _)
    · exact hN _ (by unfold sizesL; rw [List.length_map]; exact hNl)
    · exact hN _ (by unfold heightsL; rw [List.length_map]; exact hNl)
    · exact hN _ (by unfold depthsL; rw [List.length_map]; exact hNl)
    · exact hz
  obtain ⟨ρ', e, c4', o6, o7, o8, hb4, rfl⟩ := loop24 (P := P) (n := n) h (c1 := some ⟨.own, .str (L p).shown⟩) (c2 := some ⟨.top, .list [L (heads p), L (sizesL p), L (heightsL p), L (depthsL p), groupsD p]⟩) (c3 := some ⟨.own, .list Z⟩) (c4 := some ⟨.shr, .list [L (heads p), L (sizesL p), L (heightsL p), L (depthsL p)]⟩) rfl
  have hgu : ∀ ρ, use .own (groupsD p) ρ = some (true, ρ) := fun ρ => use_own
  rcases hk with rfl | rfl
  · simp [d24, rpp, q10, q13, q14, q15, q16, q23, SZ, rpa, hb, e_frz, c_sne, c_seq, hd1, hd2, listAt, isOwn, ha2, hu, hZ, e]
  · simp [d24, rpp, q10, q13, q14, q15, q16, q23, SZ, rpa, hb, e_frz, c_sne, c_seq, hd1, hd2, listAt, isOwn, ha2, hu, hZ, e]
end PV.N
end

section
set_option linter.all false
set_option autoImplicit false
set_option maxRecDepth 100000
namespace PV.N
open PySem K01
variable {P : Pr} [H01 P]
def BG : Int := (((10 : Int) ^ 60) ^ 60) ^ 4
theorem BG_nat : BG = (((((10 : Nat) ^ 60) ^ 60) ^ 4 : Nat) : Int) := by
  unfold BG
  rw [Int.natCast_pow, Int.natCast_pow, Int.natCast_pow]; rfl
theorem BG_pos : 0 < BG := by rw [BG_nat]; exact Int.natCast_pos.mpr (by decide)
theorem ar_pow {i j : Int} (h0 : 0 ≤ j) (h : (Builtin.Int.intBits i : Int) * j ≤ 2 ^ 20) : arith .pow i j = some (i ^ j.toNat) := by
  show (if _ then _ else _) = _
  rw [if_pos (by rw [decide_eq_true h0, decide_eq_true h]; rfl)]
theorem ar_mod {i j : Int} (h : 0 < j) : arith .mod i j = some (i % j) := by
  show (if _ then _ else _) = _
  rw [if_pos h]
theorem ar_fdiv {i j : Int} (h : 0 < j) (hw : i.natAbs.log2 < 400000) (hj : j.natAbs.log2 < 8000) : arith .fdiv i j = some (i / j) := by
  show (if _ then _ else _) = _
  rw [if_pos (by unfold wide; rw [decide_eq_true h, decide_eq_true hw, decide_eq_true hj]; rfl)]
theorem ar_mul {i j : Int} (h : small i = true) : arith .mul i j = some (i * j) := by
  show (if mulOk i j then _ else _) = _
  rw [if_pos (by unfold mulOk; rw [h]; rfl)]
theorem ar_mul2 {i j : Int} (h : small j = true) : arith .mul i j = some (i * j) := by
  show (if mulOk i j then _ else _) = _
  rw [if_pos (by unfold mulOk; rw [h, Bool.or_true]; rfl)]
theorem small_of {i : Int} (h1 : -1000000000000 ≤ i) (h2 : i ≤ 1000000000000) : small i = true := by
  unfold small
  rw [decide_eq_true (by omega), decide_eq_true (by omega)]; rfl
def Dr (k : Nat) (d : D) : Prop := ∃ m n b, d = .list [.int m, .int n, .bool b] ∧ 0 ≤ m ∧ m.natAbs < 2 ^ 100000 ∧ 0 ≤ n ∧ n ≤ k
theorem c17 {n : Nat} {z : Int} : (CX P (n + 1)).call 17 [(.own, .int z)] = .ret .own (.list [.int (z % BG), .int 0, .bool (decide (z ≥ 10 ^ 18))]) [none] := by
  rw [CX_at (df := d17) rfl rfl]
  have p1 : ∀ ρ m m2, binop .pow m (.int 10) m2 (.int 60) ρ = some ((.own, .int (10 ^ 60)), ρ) := fun ρ m m2 => b_ar (ar_pow (by decide) (by decide))
  have p2 : ∀ ρ m m2, binop .pow m (.int (10 ^ 60)) m2 (.int 60) ρ = some ((.own, .int ((10 ^ 60) ^ 60)), ρ) := fun ρ m m2 => b_ar (ar_pow (by decide) (by decide))
  have p3 : ∀ ρ m m2, binop .pow m (.int ((10 ^ 60) ^ 60)) m2 (.int 4) ρ = some ((.own, .int BG), ρ) := fun ρ m m2 => b_ar (ar_pow (by decide) (by decide))
  have p4 : ∀ ρ m m2, binop .mod m (.int z) m2 (.int BG) ρ = some ((.own, .int (z % BG)), ρ) := fun ρ m m2 => b_ar (ar_mod BG_pos)
  have p5 : ∀ ρ m m2, binop .pow m (.int 10) m2 (.int 18) ρ = some ((.own, .int (10 ^ 18)), ρ) := fun ρ m m2 => b_ar (ar_pow (by decide) (by decide))
  obtain ⟨A, hA⟩ : ∃ A : Int, A = 10 ^ 60 := ⟨_, rfl⟩
  obtain ⟨B, hB⟩ : ∃ B : Int, B = (10 ^ 60) ^ 60 := ⟨_, rfl⟩
  obtain ⟨E, hE⟩ : ∃ E : Int, E = 10 ^ 18 := ⟨_, rfl⟩
  rw [← hE] at p5 ⊢
  rw [← hB] at p2 p3
  rw [← hA] at p1 p2
  simp [d17, p1, p2, p3, p4, p5, SZ]
  by_cases hz : z < E
  · rw [decide_eq_true hz, decide_eq_false (by omega)]; rfl
  · rw [decide_eq_false hz, decide_eq_true (by omega)]; rfl
theorem Dr.of17 {z : Int} {b : Bool} : Dr 0 (.list [.int (z % BG), .int 0, .bool b]) := by
  refine ⟨_, _, _, rfl, Int.emod_nonneg _ (by have := BG_pos; omega), ?_, by decide, by decide⟩
  have h1 := Int.emod_lt_of_pos z BG_pos
  have h0 := Int.emod_nonneg z (b := BG) (by have := BG_pos; omega)
  have hb : (((((10 : Nat) ^ 60) ^ 60) ^ 4 : Nat)) < 2 ^ 100000 := by decide +kernel
  rw [BG_nat] at h1 h0 ⊢
  generalize ((((10 : Nat) ^ 60) ^ 60) ^ 4 : Nat) = B at *
  generalize (2 : Nat) ^ 100000 = W at *
  omega
section
variable {T : List Nat} {d e : D} {r : List (CK × D)} {j : Nat} {ρ : Env}
theorem ios3 (h : getc ρ j = some ⟨.io, e⟩) (hT : T.contains j = false) : iosOf T ((.io, d) :: r) j ρ = (iosOf T r (j + 1) ρ).map fun l => some e :: l := by
  show (match getc ρ j with
    | some ⟨.io, d⟩ => if T.contains j then none else (iosOf T r (j + 1) ρ).map fun l => some d :: l
    | _ => none) = _
  rw [h]
  dsimp only
  rw [hT]; rfl
@[simp] theorem ios30 {ρ : Env} (hT : T.contains 0 = false) : iosOf T ((.io, d) :: r) 0 (some ⟨.io, e⟩ :: ρ) = (iosOf T r 1 (some ⟨.io, e⟩ :: ρ)).map fun l => some e :: l := ios3 rfl hT
@[simp] theorem stK_io {b : Bool} : stK .io true b = some .io := nr rfl
end
theorem l3_0 {a b c : D} : atD (.list [a, b, c]) (.int 0) = some a := rfl
theorem l3_1 {a b c : D} : atD (.list [a, b, c]) (.int 1) = some b := rfl
theorem l3_2 {a b c : D} : atD (.list [a, b, c]) (.int 2) = some c := rfl
theorem p3_0 {a b c v : D} : putD (.list [a, b, c]) (.int 0) v = some (.list [v, b, c]) := rfl
theorem p3_1 {a b c v : D} : putD (.list [a, b, c]) (.int 1) v = some (.list [a, v, c]) := rfl
theorem c18b {n k : Nat} {d : D} (hd : Dr k d) (hk : k ≤ 1000) : ∃ v d', (CX P (n + 1)).call 18 [(.io, d)] = .ret .own (.int v) [some d'] ∧ (0 ≤ v ∧ v < 1000000000) ∧ Dr (k + 1) d' := by
  obtain ⟨m, c, b, rfl, h1, h2, h3, h4⟩ := hd
  rw [CX_at (df := d18) rfl rfl]
  have hw : m.natAbs.log2 < 400000 := by
    by_cases z : m.natAbs = 0
    · rw [z]; decide
    · rw [Nat.log2_lt z]
      exact Nat.lt_trans h2 (Nat.pow_lt_pow_right (by decide) (by decide))
  have pw : ∀ ρ m m2, binop .pow m (.int 10) m2 (.int 6) ρ = some ((.own, .int 1000000), ρ) := fun ρ m m2 => b_ar (ar_pow (by decide) (by decide))
  have md : ∀ (j : Int) (i : Int) ρ m m2, 0 < j → binop .mod m (.int i) m2 (.int j) ρ = some ((.own, .int (i % j)), ρ) := fun j i ρ m m2 h => b_ar (ar_mod h)
  have fd : ∀ ρ m1 m2, binop .fdiv m1 (.int m) m2 (.int 1000000) ρ = some ((.own, .int (m / 1000000)), ρ) := fun ρ m1 m2 => b_ar (ar_fdiv (by decide) hw (by decide))
  cases b with
  | true =>
    have md1 := fun ρ m1 m2 => md 1000000 m ρ m1 m2 (by decide)
    refine ⟨m % 1000000, .list [.int (m / 1000000), .int (c + 1), .bool true], ?_, ⟨Int.emod_nonneg _ (by decide), by have := Int.emod_lt_of_pos m (b := 1000000) (by decide); omega⟩, _, _, _, rfl, Int.ediv_nonneg h1 (by decide), ?_, by omega, by omega⟩
    · simp [d18, l3_0, l3_1, l3_2, p3_0, p3_1, updD, pw, md1, fd, tgs, tgT]
    · have : (m / 1000000).natAbs ≤ m.natAbs := by omega
      exact Nat.lt_of_le_of_lt this h2
  | false =>
    have hcs : small (c + 1) = true := small_of (by omega) (by omega)
    have g1 := fun ρ m1 m2 => md 1000003 m ρ m1 m2 (by decide)
    have g2 : ∀ ρ m1 m2, binop .mul m1 (.int (c + 1)) m2 (.int (c + 1)) ρ = some ((.own, .int ((c + 1) * (c + 1))), ρ) := fun ρ m1 m2 => b_ar (ar_mul hcs)
    obtain ⟨q, hq⟩ : ∃ q, q = (c + 1) * (c + 1) := ⟨_, rfl⟩
    rw [← hq] at g2
    have g3 : ∀ ρ m1 m2, binop .mul m1 (.int q) m2 (.int 7919) ρ = some ((.own, .int (q * 7919)), ρ) := fun ρ m1 m2 => b_ar (ar_mul2 (by decide))
    obtain ⟨u, hu⟩ : ∃ u, u = m % 1000003 + q * 7919 + (c + 1) := ⟨_, rfl⟩
    have g4 : ∀ ρ m1 m2, binop .add m1 (.int (m % 1000003 + q * 7919)) m2 (.int (c + 1)) ρ = some ((.own, .int u), ρ) := fun ρ m1 m2 => by rw [b_add, hu]
    have g5 : ∀ ρ m1 m2, binop .mul m1 (.int u) m2 (.int 48271) ρ = some ((.own, .int (u * 48271)), ρ) := fun ρ m1 m2 => b_ar (ar_mul2 (by decide))
    obtain ⟨y, hy⟩ : ∃ y, y = u * 48271 % 2147483629 := ⟨_, rfl⟩
    have g6 := fun ρ m1 m2 => md 2147483629 (u * 48271) ρ m1 m2 (by decide)
    rw [← hy] at g6
    have hy1 : 0 ≤ y := hy ▸ Int.emod_nonneg _ (by decide)
    have hy2 : y < 2147483629 := hy ▸ Int.emod_lt_of_pos _ (by decide)
    have g7 : ∀ ρ m1 m2, binop .mul m1 (.int y) m2 (.int y) ρ = some ((.own, .int (y * y)), ρ) := fun ρ m1 m2 => b_ar (ar_mul (small_of (by omega) (by omega)))
    have g8 := fun ρ m1 m2 => md 2147483587 (y * y) ρ m1 m2 (by decide)
    obtain ⟨w, hw'⟩ : ∃ w, w = y * y % 2147483587 := ⟨_, rfl⟩
    rw [← hw'] at g8
    have hw1 : 0 ≤ w := hw' ▸ Int.emod_nonneg _ (by decide)
    have hw2 : w < 2147483587 := hw' ▸ Int.emod_lt_of_pos _ (by decide)
    have g9 : ∀ ρ m1 m2, binop .mul m1 (.int w) m2 (.int (w + 2)) ρ = some ((.own, .int (w * (w + 2))), ρ) := fun ρ m1 m2 => b_ar (ar_mul (small_of (by omega) (by omega)))
    have g10 := fun ρ m1 m2 => md 2147483579 (w * (w + 2)) ρ m1 m2 (by decide)
    obtain ⟨x, hx⟩ : ∃ x, x = w * (w + 2) % 2147483579 := ⟨_, rfl⟩
    rw [← hx] at g10
    have hx1 : 0 ≤ x := hx ▸ Int.emod_nonneg _ (by decide)
    have hx2 : x < 2147483579 := hx ▸ Int.emod_lt_of_pos _ (by decide)
    have hxw : x.natAbs.log2 < 400000 := by
      by_cases z : x.natAbs = 0
      · rw [z]; decide
      · rw [Nat.log2_lt z]
        exact Nat.lt_of_lt_of_le (m := 2 ^ 31) (by omega) (Nat.pow_le_pow_right (by decide) (by decide))
    have g11 : ∀ ρ m1 m2, binop .fdiv m1 (.int x) m2 (.int 7) ρ = some ((.own, .int (x / 7)), ρ) := fun ρ m1 m2 => b_ar (ar_fdiv (by decide) hxw (by decide))
    refine ⟨x / 7, .list [.int m, .int (c + 1), .bool false], ?_, ⟨Int.ediv_nonneg hx1 (by decide), by omega⟩, _, _, _, rfl, h1, h2, by omega, by omega⟩
    clear hq hu hy hw' hx
    simp [d18, l3_0, l3_1, l3_2, p3_0, p3_1, updD, g1, g2, g3, g4, g5, g6, g7, g8, g9, g10, g11, tgs, tgT]
theorem c18 {n k : Nat} {d : D} (hd : Dr k d) (hk : k ≤ 1000) : ∃ v d', (CX P (n + 1)).call 18 [(.io, d)] = .ret .own (.int v) [some d'] ∧ 0 ≤ v ∧ Dr (k + 1) d' := by
  obtain ⟨v, d', h1, h2, h3⟩ := c18b (P := P) (n := n) hd hk
  exact ⟨v, d', h1, h2.1, h3⟩
end PV.N
end

section
set_option linter.all false
set_option autoImplicit false
set_option maxRecDepth 100000
namespace PV.N
open PySem K01
variable {P : Pr} [H01 P]
theorem aft_io {as : List Arg} {ios : List (Option D)} {ρ : Env} {i : Nat} {k : CK} {d d0 d' : D} (hk : k = .own ∨ k = .io) (h : as.any isIo = false) (hc : ρ[i]? = some (some ⟨k, d0⟩)) : aft (⟨.io, d, some i⟩ :: as) (some d' :: ios) false ρ = ρ.set i (some ⟨k, d'⟩) := by
  have hn : ∀ j, ioAt (⟨.io, d, some i⟩ :: as) j = if j = i then some 0 else none := fun j => by
    unfold ioAt
    rw [List.findIdx?_cons]
    by_cases e : j = i
    · subst e; simp
    · have e' : ¬ i = j := fun z => e z.symm
      rw [if_neg e]
      simp only [Option.some.injEq, e', decide_false, Bool.and_false]
      rw [if_neg (by decide)]
      rw [Option.map_eq_none_iff, List.findIdx?_eq_none_iff]
      intro a ha
      have : isIo a = false := by
        rw [List.any_eq_false] at h
        simpa using h a ha
      revert this
      unfold isIo
      cases a.k <;> simp
  unfold aft
  refine List.ext_getElem? fun j => ?_
  rw [List.getElem?_map, List.getElem?_zipIdx, List.getElem?_set]
  by_cases e : i = j
  · subst e
    have hl : i < ρ.length := by
      rcases Nat.lt_or_ge i ρ.length with z | z
      · exact z
      · rw [List.getElem?_eq_none z] at hc; cases hc
    rw [if_pos rfl, if_pos hl, hc]
    rcases hk with rfl | rfl <;> simp [aftC, hn]
  · rw [if_neg e]
    cases hj : ρ[j]? with
    | none => rfl
    | some c =>
      have e' : ¬ j = i := fun z => e z.symm
      simp [aftC, hn, e']
section
variable {as : List Arg} {ios : List (Option D)} {ρ : Env} {d d0 d' : D} {c0 : Option Cell}
@[simp] theorem aft_io0 : aft [⟨.io, d, some 0⟩] (some d' :: ios) false (some ⟨.io, d0⟩ :: ρ) = some ⟨.io, d'⟩ :: ρ := aft_io (Or.inr rfl) rfl rfl
@[simp] theorem aft_io1 {e : D} : aft [⟨.io, d, some 1⟩, ⟨.own, e, none⟩] (some d' :: ios) false (c0 :: some ⟨.own, d0⟩ :: ρ) = c0 :: some ⟨.own, d'⟩ :: ρ := aft_io (Or.inl rfl) rfl rfl
end
/-! ### forests that grow -/
structure FoT (t : Nat) (p : List Int) : Prop where
  n1 : 1 ≤ p.length
  n40 : p.length ≤ 40
  rg : ∀ i, In p i → In p (nx p i)
  ex : ∃ T : Int → Nat, (∀ i, In p i → nx p i ≠ i → T i < t ∧ T i < T (nx p i)) ∧ (∀ i, In p i → nx p i = i → T i = 121) ∧ ∀ i, T i ≤ 121
theorem FoT.fo {t : Nat} {p : List Int} (h : FoT t p) : Fo p := by
  obtain ⟨T, h1, h2, h3⟩ := h.ex
  exact ⟨h.n1, h.n40, h.rg, T, fun i hi hn => (h1 i hi hn).2, h3⟩
theorem FoT.up {t : Nat} {p : List Int} (h : FoT t p) : FoT (t + 1) p := by
  obtain ⟨T, h1, h2, h3⟩ := h.ex
  exact ⟨h.n1, h.n40, h.rg, T, fun i hi hn => ⟨Nat.lt_succ_of_lt (h1 i hi hn).1, (h1 i hi hn).2⟩, h2, h3⟩
theorem nx_set {p : List Int} {a b i : Int} (ha : In p a) (hi : 1 ≤ i) : nx (p.set (a - 1).toNat b) i = if i = a then b else nx p i := by
  have h1 := ha.1
  have h2 := ha.2
  unfold nx
  rw [List.getD_eq_getElem?_getD, List.getD_eq_getElem?_getD, List.getElem?_set]
  by_cases e : i = a
  · subst e
    rw [if_pos rfl, if_pos (by omega), if_pos rfl]; rfl
  · rw [if_neg (by omega), if_neg e]
theorem FoT.join {t : Nat} {p : List Int} (h : FoT t p) (ht : t < 121) {a b : Int} (ha : In p a) (hb : In p b) (ea : nx p a = a) (eb : nx p b = b) (hab : a ≠ b) : FoT (t + 1) (p.set (a - 1).toNat b) := by
  obtain ⟨T, h1, h2, h3⟩ := h.ex
  have hI : ∀ i, In (p.set (a - 1).toNat b) i ↔ In p i := fun i => by unfold In; rw [List.length_set]
  refine ⟨by rw [List.length_set]; exact h.n1, by rw [List.length_set]; exact h.n40, fun i hi => ?_, fun i => if i = a then t else T i, fun i hi hn => ?_, fun i hi hn => ?_, fun i => ?_⟩
  · rw [hI] at hi ⊢
    rw [nx_set ha hi.1]
    split
    · exact hb
    · exact h.rg i hi
  · rw [hI] at hi
    rw [nx_set ha hi.1] at hn ⊢
    dsimp only
    by_cases e : i = a
    · rw [if_pos e, if_pos e, if_neg fun z => hab z.symm, h2 b hb eb]
      omega
    · rw [if_neg e] at hn ⊢
      rw [if_neg e]
      obtain ⟨z1, z2⟩ := h1 i hi hn
      refine ⟨by omega, ?_⟩
      split
      · exact z1
      · exact z2
  · rw [hI] at hi
    rw [nx_set ha hi.1] at hn
    by_cases e : i = a
    · rw [if_pos e] at hn
      exact absurd (hn.trans e).symm hab
    · rw [if_neg e] at hn
      dsimp only
      rw [if_neg e]
      exact h2 i hi hn
  · dsimp only
    split
    · omega
    · exact h3 i
theorem nx_things {n : Nat} {i : Int} (h1 : 1 ≤ i) (h2 : i ≤ n) : nx (things n) i = i := by
  unfold nx
  rw [List.getD_eq_getElem?_getD, things_at (by omega)]
  show 1 + (((i - 1).toNat : Nat) : Int) = i
  omega
theorem FoT.start {n : Nat} (h1 : 1 ≤ n) (h2 : n ≤ 40) : FoT 0 (things n) := by
  have hI : ∀ i, In (things n) i → nx (things n) i = i := fun i hi => nx_things hi.1 (by have := hi.2; rw [things_len] at this; exact this)
  refine ⟨by rw [things_len]; exact h1, by rw [things_len]; exact h2, fun i hi => by rw [hI i hi]; exact hi, fun _ => 121, fun i hi hn => absurd (hI i hi) hn, fun _ _ _ => rfl, fun _ => Nat.le_refl _⟩
end PV.N
end

section
set_option linter.all false
set_option autoImplicit false
set_option maxRecDepth 100000
namespace PV.N
open PySem K01
variable {P : Pr} [H01 P]
theorem at5 {a b c d e md : Int} (h1 : 0 ≤ md) (h2 : md < 5) : ∃ z, atD (.list [.int a, .int b, .int c, .int d, .int e]) (.int md) = some (.int z) := ⟨_, atD_L (p := [a, b, c, d, e]) h1 h2⟩
theorem putL {p : List Int} {i v : Int} (h0 : 0 ≤ i) (h : i < p.length) : putD (L p) (.int i) (.int v) = some (L (p.set i.toNat v)) := by
  show (nth (p.map PyData.int).length i).map (fun n => PyData.list ((p.map .int).set n (.int v))) = _
  rw [nth_nat h0 (by simpa using h)]
  show some (PyData.list ((p.map PyData.int).set i.toNat (.int v))) = some (PyData.list ((p.set i.toNat v).map .int))
  rw [List.map_set]
@[simp] theorem cF_s {d : D} : cF (some d) = some ⟨.own, d⟩ := nr rfl
def tops (p : List Int) : List Int := p.filter fun k => decide (nx p k = k)
theorem tops_mem {t : Nat} {p : List Int} (h : FoT t p) {k : Int} (hk : k ∈ tops p) : In p k ∧ nx p k = k := by
  obtain ⟨h1, h2⟩ := List.mem_filter.mp hk
  obtain ⟨i, hi⟩ := List.getElem?_of_mem h1
  exact ⟨(h.fo.at hi).1, of_decide_eq_true h2⟩
theorem tops_ne {t : Nat} {p : List Int} (h : FoT t p) : 0 < (tops p).length := by
  cases hc : heads p with
  | nil => exact absurd hc (heads_ne h.fo)
  | cons a r =>
    have ha : a ∈ heads p := hc ▸ List.mem_cons_self
    obtain ⟨h1, h2⟩ := List.mem_filter.mp ha
    have hI := N'.In h1
    have h3 : nx p a = a := of_decide_eq_true h2
    have h4 : a ∈ p := by
      have : p[(a - 1).toNat]? = some a := by
        have h5 := hI.1
        have h6 := hI.2
        have h7 : (a - 1).toNat < p.length := by omega
        rw [List.getElem?_eq_getElem h7]
        unfold nx at h3
        rw [List.getD_eq_getElem?_getD, List.getElem?_eq_getElem h7] at h3
        exact congrArg some h3
      exact List.mem_of_getElem? this
    exact List.length_pos_of_mem (List.mem_filter.mpr ⟨h4, h2⟩)
def E22 (d : D) (mo s md : Int) (p : List Int) (c5 c6 c7 c8 c9 c11 c12 : Option D) : Env := [some ⟨.io, d⟩, some ⟨.own, .int mo⟩, some ⟨.own, .int s⟩, some ⟨.own, .int md⟩, some ⟨.own, L p⟩, cF c5, cF c6, cF c7, cF c8, cF c9, none, cF c11, cF c12]
theorem pick {t : Nat} {p : List Int} (h : FoT t p) {v : Int} (hv : 0 ≤ v) : ∃ a, atD (L (tops p)) (.int (v % (tops p).length)) = some (.int a) ∧ In p a ∧ nx p a = a := by
  have hp := tops_ne h
  have h1 : 0 ≤ v % ((tops p).length : Int) := Int.emod_nonneg _ (by omega)
  have h2 : v % ((tops p).length : Int) < (tops p).length := Int.emod_lt_of_pos _ (by omega)
  refine ⟨_, atD_L h1 h2, ?_⟩
  refine tops_mem h ?_
  rw [List.getD_eq_getElem?_getD, List.getElem?_eq_getElem (by omega)]
  exact List.getElem_mem _
theorem step22 {n t k : Nat} {d : D} {mo s md : Int} {p : List Int} (h : FoT t p) (ht : t < 121) (hd : Dr k d) (hk : k + 1 ≤ 1000) (m1 : 0 ≤ md) (m2 : md < 5) (c5 c6 c7 c8 c9 c11 c12 : Option D) :
    ∃ ρ', exec (CX P (n + 2)) [] b22_0 (E22 d mo s md p c5 c6 c7 c8 c9 c11 c12) = .ok .nx ρ' ∧ ∃ d' p', Dr (k + 2) d' ∧ FoT (t + 1) p' ∧ ∃ c5 c6 c7 c8 c9 c11 c12, ρ' = E22 d' mo s md p' c5 c6 c7 c8 c9 c11 c12 := by
  obtain ⟨v1, d1, (q1 : (CX P (n + 2)).call 18 [(.io, d)] = .ret .own (.int v1) [some d1]), hv1, hd1⟩ := c18 (P := P) (n := n + 1) hd (by omega)
  obtain ⟨v2, d2, (q2 : (CX P (n + 2)).call 18 [(.io, d1)] = .ret .own (.int v2) [some d2]), hv2, hd2⟩ := c18 (P := P) (n := n + 1) hd1 (by omega)
  obtain ⟨a, ha1, ha2, ha3⟩ := pick h hv1
  obtain ⟨b, hb1, hb2, hb3⟩ := pick h hv2
  have hl : ((tops p).length : Int) > 0 := by have := tops_ne h; omega
  have r1 : ∀ ρ m m2, binop .mod m (.int v1) m2 (.int (tops p).length) ρ = some ((.own, .int (v1 % (tops p).length)), ρ) := fun ρ m m2 => b_ar (ar_mod hl)
  have r2 : ∀ ρ m m2, binop .mod m (.int v2) m2 (.int (tops p).length) ρ = some ((.own, .int (v2 % (tops p).length)), ρ) := fun ρ m m2 => b_ar (ar_mod hl)
  have hz : p.length ≤ SZ := by have := h.n40; unfold SZ; omega
  have e0 : ev (CX P (n + 2)) [] e22_0 (E22 d mo s md p c5 c6 c7 c8 c9 c11 c12) = .ok (.own, L (tops p)) (E22 d mo s md p c5 c6 c7 c8 c9 c11 c12) := by
    refine ev_lcI (fun k => decide (nx p k = k)) .int (evi_itr (m := .bor 4) (p := p) (by simp [E22])) rfl hz fun k hk => ?_
    obtain ⟨i, hi⟩ := List.getElem?_of_mem hk
    have e1 := at_nx (h.fo.at hi).1
    simp [E22, e1]
  have s1 := g20 (P := P) (n := n) h.fo (k := a)
  have s2 := g20 (P := P) (n := n) h.fo (k := b)
  have t1 := g21 (P := P) (n := n) h.fo ha2
  have t2 := g21 (P := P) (n := n) h.fo hb2
  obtain ⟨za, hza⟩ := at5 (a := 0) (b := a) (c := (szN p (N' p) a : Nat)) (d := htI p (N' p) a) (e := 0) m1 m2
  obtain ⟨zb, hzb⟩ := at5 (a := 0) (b := b) (c := (szN p (N' p) b : Nat)) (d := htI p (N' p) b) (e := 0) m1 m2
  unfold E22 at e0
  by_cases e : a = b
  · refine ⟨E22 d2 mo s md p c5 (some (L (tops p))) (some (.int a)) (some (.int b)) c9 c11 c12, ?_, d2, p, hd2, h.up, _, _, _, _, _, _, _, rfl⟩
    subst e
    unfold E22
    simp [b22_0, e0, q1, q2, r1, r2, ha1, hb1]
  · by_cases lt : zb < za
    · have hput := putL (p := p) (v := a) hb2.idx.1 hb2.idx.2
      refine ⟨E22 d2 mo s md (p.set (b - 1).toNat a) c5 (some (L (tops p))) (some (.int a)) (some (.int b)) (some (.list [.int za, .int zb])) (some (.int b)) none, ?_, d2, _, hd2, h.join ht hb2 ha2 hb3 ha3 (fun z => e z.symm), _, _, _, _, _, _, _, rfl⟩
      unfold E22
      simp [b22_0, e0, q1, q2, r1, r2, ha1, hb1, e, SZ, s1, s2, t1, t2, hza, hzb, listAt, isOwn, atP, updD, appD, at0, at1, lt, hput]
    · have hput := putL (p := p) (v := b) ha2.idx.1 ha2.idx.2
      refine ⟨E22 d2 mo s md (p.set (a - 1).toNat b) c5 (some (L (tops p))) (some (.int a)) (some (.int b)) (some (.list [.int za, .int zb])) (some (.int a)) none, ?_, d2, _, hd2, h.join ht ha2 hb2 ha3 hb3 e, _, _, _, _, _, _, _, rfl⟩
      unfold E22
      simp [b22_0, e0, q1, q2, r1, r2, ha1, hb1, e, SZ, s1, s2, t1, t2, hza, hzb, listAt, isOwn, atP, updD, appD, at0, at1, lt, hput]
end PV.N
end

section
set_option linter.all false
set_option autoImplicit false
set_option maxRecDepth 100000
namespace PV.N
open PySem K01
variable {P : Pr} [H01 P]
theorem Dr.mono {k l : Nat} {d : D} (h : Dr k d) (hl : k ≤ l) : Dr l d := by
  obtain ⟨m, n, b, h1, h2, h3, h4, h5⟩ := h
  exact ⟨m, n, b, h1, h2, h3, h4, by omega⟩
theorem loop22 {n k : Nat} {d : D} {mo s md : Int} {p : List Int} {R : Nat} (h : FoT 0 p) (hR : R ≤ 120) (hd : Dr k d) (hk : k + 2 * R ≤ 999) (m1 : 0 ≤ md) (m2 : md < 5) {it : Ex} {ρ : Env} (hi : evi (CX P (n + 2)) [] it ρ = .ok (((List.range R).map fun (j : Nat) => PyData.int (j : Int)).map fun x => (true, x), []) (E22 d mo s md p none none none none none none none)) :
    ∃ ρ', exec (CX P (n + 2)) [] (.for_ (.nm 5) it b22_0) ρ = .ok .nx ρ' ∧ ∃ d' p', Dr (k + 2 * R) d' ∧ Fo p' ∧ ∃ c5 c6 c7 c8 c9 c11 c12, ρ' = E22 d' mo s md p' c5 c6 c7 c8 c9 c11 c12 := by
  obtain ⟨ρ', h1, d', p', h2, h3, h4⟩ := x_for2 (C := CX P (n + 2)) (Lk := []) (tg := .nm 5) (a := b22_0) (fun t ρ' => ∃ d' p', Dr (k + 2 * t) d' ∧ FoT t p' ∧ ∃ c5 c6 c7 c8 c9 c11 c12, ρ' = E22 d' mo s md p' c5 c6 c7 c8 c9 c11 c12) hi ⟨d, p, hd, h, _, _, _, _, _, _, _, rfl⟩ fun t w x ρ hj ⟨d', p', hd', hp', c5, c6, c7, c8, c9, c11, c12, hρ⟩ => by
    subst hρ
    rw [List.getElem?_map] at hj
    obtain ⟨y, hy, hw⟩ := Option.map_eq_some_iff.mp hj
    cases hw
    obtain ⟨ht, rfl⟩ := rng_at hy
    obtain ⟨ρb, e1, d2, p2, e2, e3, e4⟩ := step22 (P := P) (n := n) (mo := mo) (s := s) hp' (by omega) hd' (by omega) m1 m2 (some (.int (t : Int))) c6 c7 c8 c9 c11 c12
    refine ⟨ρb, ?_, d2, p2, e2.mono (by omega), e3, e4⟩
    have : asgT ([] ++ []) (.nm 5) (ownK true) (.int (t : Int)) (E22 d' mo s md p' c5 c6 c7 c8 c9 c11 c12) = some (E22 d' mo s md p' (some (.int (t : Int))) c6 c7 c8 c9 c11 c12) := by
      unfold E22
      simp
    rw [this, ob_some]
    exact e1
  refine ⟨ρ', h1, d', p', ?_, h3.fo, h4⟩
  simpa using h2
theorem g22 {n k : Nat} {d : D} {mo : Int} (hd : Dr k d) (hk : k + 250 ≤ 999) (h1 : 1 ≤ mo) (h2 : mo ≤ 40) : ∃ p d', (CX P (n + 3)).call 22 [(.io, d), (.own, .int mo)] = .ret .own (L p) [some d', none] ∧ Fo p ∧ Dr (k + 250) d' := by
  obtain ⟨v1, d1, (q1 : (CX P (n + 2)).call 18 [(.io, d)] = .ret .own (.int v1) [some d1]), hv1, hd1⟩ := c18 (P := P) (n := n + 1) hd (by omega)
  obtain ⟨v2, d2, (q2 : (CX P (n + 2)).call 18 [(.io, d1)] = .ret .own (.int v2) [some d2]), hv2, hd2⟩ := c18 (P := P) (n := n + 1) hd1 (by omega)
  obtain ⟨v3, d3, (q3 : (CX P (n + 2)).call 18 [(.io, d2)] = .ret .own (.int v3) [some d3]), hv3, hd3⟩ := c18 (P := P) (n := n + 1) hd2 (by omega)
  have r1 : ∀ ρ m m2, binop .mod m (.int v1) m2 (.int mo) ρ = some ((.own, .int (v1 % mo)), ρ) := fun ρ m m2 => b_ar (ar_mod (by omega))
  have r2 : ∀ ρ m m2, binop .mod m (.int v2) m2 (.int 5) ρ = some ((.own, .int (v2 % 5)), ρ) := fun ρ m m2 => b_ar (ar_mod (by decide))
  have r3 : ∀ ρ m m2, binop .mod m (.int v3) m2 (.int 3) ρ = some ((.own, .int (v3 % 3)), ρ) := fun ρ m m2 => b_ar (ar_mod (by decide))
  have a1 := Int.emod_nonneg v1 (b := mo) (by omega)
  have a2 := Int.emod_lt_of_pos v1 (b := mo) (by omega)
  obtain ⟨s, hs⟩ : ∃ s : Nat, 1 + v1 % mo = (s : Int) := ⟨(1 + v1 % mo).toNat, by omega⟩
  have b1 := Int.emod_nonneg v3 (b := 3) (by decide)
  have b2 := Int.emod_lt_of_pos v3 (b := 3) (by decide)
  obtain ⟨u, hu⟩ : ∃ u : Nat, 1 + v3 % 3 = (u : Int) := ⟨(1 + v3 % 3).toNat, by omega⟩
  have r4 : ∀ ρ m m2, binop .mul m (.int s) m2 (.int u) ρ = some ((.own, .int ((s * u : Nat) : Int)), ρ) := fun ρ m m2 => by
    rw [Int.natCast_mul]
    exact b_ar (ar_mul (small_of (by omega) (by omega)))
  have hR : s * u ≤ 120 := Nat.le_trans (Nat.mul_le_mul (show s ≤ 40 by omega) (show u ≤ 3 by omega)) (by decide)
  have r5 := rng1 (n := s * u) (by omega)
  have r6 := rng2 (n := s) (by omega)
  have hsz : s ≤ SZ := by unfold SZ; omega
  obtain ⟨ρ', e, d', p', e2, e3, c5, c6, c7, c8, c9, c11, c12, rfl⟩ := loop22 (P := P) (n := n) (k := k + 3) (d := d3) (mo := mo) (s := s) (md := v2 % 5) (R := s * u) (it := (.rng (.cons (.bin .mul (.var 2) (.bin .add (.con (.int 1)) (.bin .mod (.bi .int (.cons (.call 18 (.cons (.io 0) (.nil))) (.nil))) (.con (.int 3))))) (.nil)))) (ρ := E22 d2 mo s (v2 % 5) (things s) none none none none none none none) (FoT.start (n := s) (by omega) (by omega)) hR hd3 (by omega) (Int.emod_nonneg _ (by decide)) (Int.emod_lt_of_pos _ (by decide)) (by
    unfold E22
    simp [q3, r3, hu, r4, r5, -Int.natCast_mul])
  refine ⟨p', d', ?_, e3, e2.mono (by omega)⟩
  rw [CX_at (df := d22) rfl rfl]
  have e' : exec (CX P (n + 2)) [] f22_0 (E22 d2 mo s (v2 % 5) (things s) none none none none none none none) = _ := e
  unfold E22 at e'
  simp only [cF_n] at e'
  simp [d22, q1, q2, r1, hs, r2, r6, things_len, hsz, e', tgs, tgT]
  rw [ios30 (by rfl)]
  simp
end PV.N
end

section
set_option linter.all false
set_option autoImplicit false
set_option maxRecDepth 100000
namespace PV.N
open PySem K01
variable {P : Pr} [H01 P]
def chk (p : List Int) (T : Int → Nat) : Bool := decide (1 ≤ p.length) && decide (p.length ≤ 40) && (List.range p.length).all fun (k : Nat) => decide (1 ≤ nx p ((k : Int) + 1)) && decide (nx p ((k : Int) + 1) ≤ p.length) && (decide (nx p ((k : Int) + 1) = (k : Int) + 1) || decide (T ((k : Int) + 1) < T (nx p ((k : Int) + 1)))) && decide (T (nx p ((k : Int) + 1)) ≤ 121) && decide (T ((k : Int) + 1) ≤ 121)
theorem Fo_of {p : List Int} (T : Int → Nat) (h : chk p T = true) : Fo p := by
  unfold chk at h
  simp only [Bool.and_eq_true, Bool.or_eq_true, decide_eq_true_eq, List.all_eq_true, List.mem_range] at h
  obtain ⟨⟨h1, h2⟩, h3⟩ := h
  have key : ∀ i, In p i → (1 ≤ nx p i ∧ nx p i ≤ p.length) ∧ (nx p i = i ∨ T i < T (nx p i)) ∧ T (nx p i) ≤ 121 ∧ T i ≤ 121 := fun i hi => by
    have e1 := hi.1
    have e2 := hi.2
    obtain ⟨⟨⟨z1, z2⟩, z3⟩, z4⟩ := h3 (i - 1).toNat (by omega)
    rw [show (((i - 1).toNat : Nat) : Int) + 1 = i by omega] at z1 z2 z3 z4
    exact ⟨z1, z2, z3, z4⟩
  refine ⟨h1, h2, fun i hi => (key i hi).1, fun i => if T i ≤ 121 then T i else 121, fun i hi hn => ?_, fun i => ?_⟩
  · obtain ⟨-, z2, z3, z4⟩ := key i hi
    dsimp only
    rw [if_pos z4, if_pos z3]
    rcases z2 with z2 | z2
    · exact absurd z2 hn
    · exact z2
  · dsimp only
    split
    · assumption
    · exact Nat.le_refl _
theorem x_forownI {C : Ctx} {Lk : List Nat} {ρ ρ1 : Env} {tg : Tg} {e : Ex} {a : St} {xs : List D} (I : Nat → Env → Prop) (hi : ev C Lk e ρ = .ok (.own, .list xs) ρ1) (h : I 0 ρ1)
    (hs : ∀ i d ρ, xs[i]? = some d → I i ρ → ∃ ρb, (ob (asgT Lk tg .own d ρ) fun r => exec C Lk a r) = .ok .nx ρb ∧ I (i + 1) ρb) :
    ∃ ρ', exec C Lk (.forown tg e a) ρ = .ok .nx ρ' ∧ I xs.length ρ' := by
  obtain ⟨ρ', h1, h2⟩ := loopF_all (Lk := Lk) (tg := tg) (body := fun r => exec C Lk a r) (items := xs.map fun x => (true, x)) I h fun i w d ρ hj hI => by
    rw [List.getElem?_map] at hj
    obtain ⟨y, hy, hw⟩ := Option.map_eq_some_iff.mp hj
    cases hw
    obtain ⟨ρb, e1, e2⟩ := hs i _ ρ hy hI
    obtain ⟨ρa, e3, e4⟩ := ob_ok e1
    exact ⟨ρa, ρb, .nx, e3, e4, Or.inl rfl, e2⟩
  refine ⟨ρ', ?_, by simpa using h2⟩
  show ((ev C Lk e ρ).bind fun (m, d) ρ1 => match m, d with
    | .own, .list xs => loopF Lk tg (fun r => exec C Lk a r) (xs.map fun x => (true, x)) ρ1
    | _, _ => .bad) = _
  rw [hi]
  exact h1
theorem use1_im {m : M} {xs : List D} {ρ : Env} (h : imAll xs = true) : use1 m xs ρ = some (true, ρ) := by
  unfold use1
  rw [if_pos h]
theorem cut_map {α β : Type} (f : α → β) (l : List α) (lo hi : Option Int) : cut (l.map f) lo hi = (cut l lo hi).map f := by
  unfold cut
  rw [List.length_map, List.map_take, List.map_drop]
theorem cut_len {α : Type} (l : List α) (lo hi : Option Int) : (cut l lo hi).length ≤ l.length := by
  unfold cut
  rw [List.length_take, List.length_drop]
  omega
def F1 : List Int := (things 40).map fun k => if 40 < k + 1 then 40 else k + 1
theorem fo1 : Fo F1 := Fo_of (fun i => i.toNat) (by decide +kernel)
theorem fo2 : Fo (List.replicate 40 40) := Fo_of (fun i => i.toNat) (by decide +kernel)
theorem fo3 : Fo (things 40) := Fo_of (fun i => i.toNat) (by decide +kernel)
theorem fo4 : Fo [1] := Fo_of (fun i => i.toNat) (by decide +kernel)
theorem fo5 : Fo [2, 4, 4, 4, 5] := Fo_of (fun i => i.toNat) (by decide +kernel)
theorem fo6 : Fo [1, 1, 2, 3, 4] := Fo_of (fun i => (10 - i).toNat) (by decide +kernel)
theorem fo7 : Fo [3, 3, 3, 2, 2] := Fo_of (fun i => if i = 3 then 2 else if i = 2 then 1 else 0) (by decide +kernel)
theorem b_rep {ρ : Env} : binop .mul .own (.list [.int 40]) .own (.int 40) ρ = some ((.own, L (List.replicate 40 40)), ρ) := by
  unfold binop
  dsimp only
  rw [if_pos (by decide)]; rfl
theorem plainN (n : Nat) (ns : List Int) (hl : ns.length ≤ 63) : (CX P (n + 202)).call 25 [(.shr, L ns)] = .ret .own (.bool true) [none] := by
  rw [CX_at (df := d25) rfl rfl]
  have hc := cut_len ns none (some 6)
  have hsl : ∀ Lk, ev (CX P (n + 201)) Lk (.slc (.var 0) (.nil) (.cons (.con (.int 6)) .nil)) [some ⟨.shr, L ns⟩, none, none, none, none] = .ok (.own, L (cut ns none (some 6))) [some ⟨.shr, L ns⟩, none, none, none, none] := fun Lk => by
    have := fun ρ => use1_im (m := .shr) (xs := (cut ns none (some 6)).map .int) (ρ := ρ) (imAll_ints _)
    simp [cut_map, this]
  have hadd : ∀ Lk, ev (CX P (n + 201)) Lk (.bin .add (.slc (.var 0) (.nil) (.cons (.con (.int 6)) .nil)) (.lst (.cons (.con (.int 0)) (.nil)))) [some ⟨.shr, L ns⟩, none, none, none, none] = .ok (.own, L (cut ns none (some 6) ++ [0])) [some ⟨.shr, L ns⟩, none, none, none, none] := fun Lk => by
    have hb : ∀ ρ, binop .add .own (.list ((cut ns none (some 6)).map .int)) .own (.list [.int 0]) ρ = some ((.own, .list ((cut ns none (some 6)).map .int ++ [.int 0])), ρ) := fun ρ => b_catO (by unfold SZ; simp; omega)
    rw [e_bin, hsl]
    simp [SZ, hb]
  have hdr : ev (CX P (n + 201)) [] e25_1 [some ⟨.shr, L ns⟩, none, none, none, none] = .ok (.own, .list (((cut ns none (some 6) ++ [0]).filter fun _ => true).map fun z => .list [.int (z % BG), .int 0, .bool (decide (z ≥ 10 ^ 18))])) [some ⟨.shr, L ns⟩, none, none, none, none] := by
    refine ev_lcI (fun _ => true) (fun z => .list [.int (z % BG), .int 0, .bool (decide (z ≥ 10 ^ 18))]) (evi_itr (m := .own) (p := cut ns none (some 6) ++ [0]) (hadd _)) rfl (by unfold SZ; simp; omega) fun z hz => ?_
    have := c17 (P := P) (n := n + 200) (z := z)
    obtain ⟨E, hE⟩ : ∃ E : Int, E = 10 ^ 18 := ⟨_, rfl⟩
    rw [← hE] at this ⊢
    simp [this]
  rw [filt_true] at hdr
  obtain ⟨ρ', h1, o1, rfl⟩ : ∃ ρ', exec (CX P (n + 201)) [] f25_0 [some ⟨.shr, L ns⟩, none, none, none, none] = .ok .nx ρ' ∧ ∃ o1, ρ' = [some ⟨.shr, L ns⟩, cF o1, none, none, none] := by
    refine x_forownI (fun _ ρ' => ∃ o1, ρ' = [some ⟨.shr, L ns⟩, cF o1, none, none, none]) hdr ⟨none, rfl⟩ ?_
    rintro i d ρ hj ⟨o1, rfl⟩
    rw [List.getElem?_map] at hj
    obtain ⟨z, -, rfl⟩ := Option.map_eq_some_iff.mp hj
    obtain ⟨p, d1, q1, hp, hd1⟩ := g22 (P := P) (n := n + 198) (k := 0) (mo := 40) (Dr.of17 (z := z) (b := decide (z ≥ 10 ^ 18))) (by decide) (by decide) (by decide)
    obtain ⟨p2, d2, q2, hp2, hd2⟩ := g22 (P := P) (n := n + 198) (mo := 9) hd1 (by decide) (by decide) (by decide)
    have w1 := g24 (P := P) (n := n) hp (Or.inl rfl)
    have w2 := g24 (P := P) (n := n) hp2 (Or.inl rfl)
    have q1' : (CX P (n + 201)).call 22 _ = _ := q1
    have q2' : (CX P (n + 201)).call 22 _ = _ := q2
    obtain ⟨E, hE⟩ : ∃ E : D, E = .list [.int (z % BG), .int 0, .bool (decide (z ≥ 10 ^ 18))] := ⟨_, rfl⟩
    rw [← hE] at q1' ⊢
    simp [b25_0, q1', q2', w1, w2]
  have er : rngO [PyData.int 1, PyData.int 41] = some ((things 40).map .int) := rng2 (n := 40) (by decide)
  have he : ev (CX P (n + 201)) [] e25_0 [some ⟨.shr, L ns⟩, cF o1, none, none, none] = .ok (.own, L F1) [some ⟨.shr, L ns⟩, cF o1, none, none, none] := by
    have := ev_lcI (C := CX P (n + 201)) (Lk := []) (own := [4]) (tg := .nm 4) (ifs := .nil) (e := (.bi .min (.cons (.bin .add (.var 4) (.con (.int 1))) (.cons (.con (.int 40)) (.nil))))) (it := (.rng (.cons (.con (.int 1)) (.cons (.con (.int 41)) (.nil))))) (ρ := [some ⟨.shr, L ns⟩, cF o1, none, none, none]) (ρ1 := [some ⟨.shr, L ns⟩, cF o1, none, none, none]) (ks := things 40) (ls := []) (fun _ => true) (fun k => .int (if 40 < k + 1 then 40 else k + 1)) (by simp [er]) rfl (by rw [things_len]; decide) fun k hk => by
      simp
    rw [filt_true, mapL] at this
    exact this
  have hz : ((things 40).map PyData.int).length ≤ SZ := by rw [List.length_map, things_len]; decide
  have w1 := g24 (P := P) (n := n) fo1 (Or.inr rfl)
  have w2 := g24 (P := P) (n := n) fo2 (Or.inl rfl)
  have w3 := g24 (P := P) (n := n) fo3 (Or.inl rfl)
  have w4 : (CX P (n + 201)).call 24 [(.own, .list [.int 1])] = .ret .own (.bool true) [none] := g24 (P := P) (n := n) fo4 (Or.inl rfl)
  have w5 : (CX P (n + 201)).call 24 [(.own, .list [.int 2, .int 4, .int 4, .int 4, .int 5])] = .ret .own (.bool true) [none] := g24 (P := P) (n := n) fo5 (Or.inl rfl)
  have w6 : (CX P (n + 201)).call 24 [(.own, .list [.int 1, .int 1, .int 2, .int 3, .int 4])] = .ret .own (.bool true) [none] := g24 (P := P) (n := n) fo6 (Or.inl rfl)
  have w7 : (CX P (n + 201)).call 24 [(.own, .list [.int 3, .int 3, .int 3, .int 2, .int 2])] = .ret .own (.bool true) [none] := g24 (P := P) (n := n) fo7 (Or.inl rfl)
  obtain ⟨A2, hA2⟩ : ∃ A : List Int, A = List.replicate 40 40 := ⟨_, rfl⟩
  obtain ⟨A3, hA3⟩ : ∃ A : List Int, A = things 40 := ⟨_, rfl⟩
  obtain ⟨A1, hA1⟩ : ∃ A : List Int, A = F1 := ⟨_, rfl⟩
  have hb := fun ρ => b_rep (ρ := ρ)
  rw [← hA2] at w2
  rw [← hA3] at w3 er hz
  rw [← hA1] at w1 he
  simp only [← hA2] at hb
  simp only [List.length_map] at hz
  simp [d25, h1, he, w1, SZ, hb, w2, er, hz, w3, w4, w5, w6, w7]
end PV.N
end

section
set_option linter.all false
set_option autoImplicit false
set_option maxRecDepth 100000
/-! the plain layer of defs that raise and of what is told of them -/
namespace PV.N
open PySem
def tlC (t : Tel) (r : CR) (ρ : Env) : R (M × D) :=
  match r with
  | .ret _ _ _ => .ok (.own, .str t.non) ρ
  | .exc c fs => ob (t.ans c fs) fun x => .ok (.own, .str x) ρ
  | .bad => .bad
def dropR (r : R (M × D)) : R Fl := r.bind fun _ ρ2 => .ok .nx ρ2
section
variable {C : Ctx} {Lk : List Nat} {ρ : Env} {α β : Type} {c : Nat} {fs : List D} {t : Tel} {f : Nat} {as : List Arg} {es : Ex} {m : M} {d : D} {ios : List (Option D)}
@[simp] theorem x_safe {a : St} : exec C Lk (.safe a) ρ = (exec C Lk a ρ).safe := nr rfl
@[simp] theorem safe_ok {a : α} : (R.ok a ρ).safe = .ok a ρ := nr rfl
@[simp] theorem rb_exc {f : α → Env → R β} : (R.exc c fs ρ).bind f = .exc c fs ρ := nr rfl
@[simp] theorem x_raise : exec C Lk (.raise c es) ρ = (evs C Lk es ρ).safe.bind fun vs ρ1 => .exc c (vs.map (·.2)) ρ1 := nr rfl
@[simp] theorem x_callx : exec C Lk (.callx f es) ρ = (eva C Lk es ρ).safe.bind fun as ρ1 => if noIo as then dropR (doCall C f as ρ1) else .bad := nr rfl
@[simp] theorem dropR_ok {x : M × D} : dropR (.ok x ρ) = .ok .nx ρ := nr rfl
@[simp] theorem dropR_exc : dropR (.exc c fs ρ) = .exc c fs ρ := nr rfl
@[simp] theorem x_itx {k : Ex} {a b : St} : exec C Lk (.itx k a b) ρ = (evt C Lk k ρ).safe.bind fun t ρ1 => if t then exec C Lk a ρ1 else exec C Lk b ρ1 := nr rfl
theorem x_forxE {tg : Tg} {it : Ex} {a : St} : exec C Lk (.forx tg it a) ρ = (evi C Lk it ρ).safe.bind fun x ρ1 => loopF (x.2 ++ Lk) tg (fun r => exec C (x.2 ++ Lk) a r) x.1 ρ1 := nr rfl
@[simp] theorem afC_exc : afC as ρ (.exc c fs) = .exc c fs (killIo as ρ) := nr rfl
@[simp] theorem r_exc {df : Def} {l : List (CK × D)} : runD df l (.exc c fs ρ) = .exc c fs := nr rfl
@[simp] theorem e_tld : ev C Lk (.tld t f es) ρ = (eva C Lk es ρ).bind fun as ρ1 => if argsOk as && noIo as then tlC t (C.call f (as.map fun a => (a.k, a.d))) ρ1 else .bad := by
  show ((eva C Lk es ρ).bind fun as ρ1 => doTld C t f as ρ1) = _
  congr 1; funext as ρ1
  unfold doTld tlC
  congr 1
  cases C.call f (as.map fun a => (a.k, a.d)) with
  | ret m d ios => rfl
  | exc c fs => show _ = ob (t.ans c fs) _; dsimp only; cases t.ans c fs <;> rfl
  | bad => rfl
@[simp] theorem tlC_ret : tlC t (.ret m d ios) ρ = .ok (.own, .str t.non) ρ := nr rfl
@[simp] theorem tlC_exc : tlC t (.exc c fs) ρ = ob (t.ans c fs) fun x => .ok (.own, .str x) ρ := nr rfl
def isIoK : CK → Bool
  | .io => true
  | .iot => true
  | _ => false
@[simp] theorem noIo0 : noIo [] = true := nr rfl
@[simp] theorem noIo1 {a : Arg} : noIo (a :: as) = (!isIoK a.k && noIo as) := by
  unfold noIo
  rw [List.all_cons]
  congr 1
  cases a.k <;> rfl
@[simp] theorem isIoK1 : isIoK .own = false := nr rfl
@[simp] theorem isIoK2 : isIoK .shr = false := nr rfl
@[simp] theorem bi_reprl {vs : List (M × D)} : bi .reprl vs ρ = (rpL (vs.map (·.2))).map fun x => ((.own, .str x), ρ) := nr rfl
@[simp] theorem bi_isListI {i : Int} : bi .isList [(m, .int i)] ρ = some ((.own, .bool false), ρ) := nr rfl
theorem nrm_def : nrm m d = if im d then .own else m := nr rfl
@[simp] theorem e_killIo (h : as.any isIo = false) : killIo as ρ = ρ := by
  unfold killIo
  refine List.ext_getElem? fun i => ?_
  rw [List.getElem?_map, List.getElem?_zipIdx]
  have hn : ∀ j, ioAt as j = none := fun j => by
    unfold ioAt
    rw [List.findIdx?_eq_none_iff]
    intro a ha
    have : isIo a = false := by
      rw [List.any_eq_false] at h
      simpa using h a ha
    revert this
    unfold isIo
    cases a.k <;> simp
  cases hc : ρ[i]? with
  | none => rfl
  | some c => simp [hn]
@[simp] theorem use_shrD : use .shr d ρ = some (im d, ρ) := by
  unfold use nrm
  cases im d <;> rfl
@[simp] theorem use_topD : use .top d ρ = some (im d, ρ) := by
  unfold use nrm
  cases im d <;> rfl
theorem walk_own {xs : List D} (h : imAll xs = false) : walkO .own (.list xs) xs ρ = some ((xs.map fun x => (false, x), []), ρ) := by
  unfold walkO
  rw [h, if_neg (by decide)]
  simp
theorem walk_top {xs : List D} (h : imAll xs = false) : walkO .top (.list xs) xs ρ = some ((xs.map fun x => (false, x), []), ρ) := by
  unfold walkO
  rw [h, if_neg (by decide)]
  simp
/-- a walk over things that aren't plain: they are read -/
theorem walk_use {xs : List D} {ρ' : Env} {i : Nat} (h : imAll xs = false) (hu : frz ρ i = some ρ') : walkO (.bor i) (.list xs) xs ρ = some ((xs.map fun x => (false, x), []), ρ') := by
  unfold walkO
  rw [h, if_neg (by decide)]
  show (use (.bor i) (.list xs) ρ).map _ = _
  have : use (.bor i) (.list xs) ρ = (frz ρ i).map fun r => (false, r) := rfl
  rw [this, hu]; rfl
end
/-- loops that may end early -/
theorem x_forx2 {C : Ctx} {Lk : List Nat} {ρ ρ1 : Env} {tg : Tg} {it : Ex} {a : St} {items : List (Bool × D)} {ls : List Nat} (I : Nat → Env → Prop) (hi : evi C Lk it ρ = .ok (items, ls) ρ1) (h : I 0 ρ1)
    (hs : ∀ i w d ρ, items[i]? = some (w, d) → I i ρ → ∃ ρb, (ob (asgT (ls ++ Lk) tg (ownK w) d ρ) fun r => exec C (ls ++ Lk) a r) = .ok .nx ρb ∧ I (i + 1) ρb) :
    ∃ ρ', exec C Lk (.forx tg it a) ρ = .ok .nx ρ' ∧ I items.length ρ' := by
  obtain ⟨ρ', h1, h2⟩ := x_for2 (C := C) (Lk := Lk) (tg := tg) (a := a) I hi h hs
  refine ⟨ρ', ?_, h2⟩
  rw [x_forE, hi, rb_ok] at h1
  rw [x_forxE, hi, safe_ok, rb_ok]
  exact h1
/-! the defs that check -/
/-- no whole number from 1 to m -/
def badT (m : Nat) (d : D) : Bool :=
  match d with
  | .int i => !(decide (1 ≤ i) && decide (i ≤ m))
  | _ => true
end PV.N
end

section
set_option linter.all false
set_option autoImplicit false
set_option maxRecDepth 100000
/-! facts about the defs that check, for any program that bears them -/
namespace PV.N
open PySem K01 K36
class HE (P : Pr) : Prop where
  e47 : P.defs[47]? = some K36.d47
  e48 : P.defs[48]? = some K36.d48
variable {P : Pr} [H01 P] [HE P]
def isW : D → Bool | .int _ => true | _ => false
def isBo : D → Bool | .bool _ => true | _ => false
def isIn : D → Bool | .int _ => true | .bool _ => true | _ => false
def isLi : D → Bool | .list _ => true | _ => false
def isSt : D → Bool | .str _ => true | _ => false
@[simp] theorem bi_isIntD {m : M} {d : D} {ρ : Env} : bi .isInt [(m, d)] ρ = some ((.own, .bool (isIn d)), ρ) := nr (by cases d <;> rfl)
@[simp] theorem bi_isBoolD {m : M} {d : D} {ρ : Env} : bi .isBool [(m, d)] ρ = some ((.own, .bool (isBo d)), ρ) := nr (by cases d <;> rfl)
@[simp] theorem bi_isListD {m : M} {d : D} {ρ : Env} : bi .isList [(m, d)] ρ = some ((.own, .bool (isLi d)), ρ) := nr (by cases d <;> rfl)
@[simp] theorem bi_isStrD {m : M} {d : D} {ρ : Env} : bi .isStr [(m, d)] ρ = some ((.own, .bool (isSt d)), ρ) := nr (by cases d <;> rfl)
@[simp] theorem isLi_l {xs : List D} : isLi (.list xs) = true := nr rfl
@[simp] theorem isLi_i {i : Int} : isLi (.int i) = false := nr rfl
@[simp] theorem isIn_i {i : Int} : isIn (.int i) = true := nr rfl
@[simp] theorem isBo_i {i : Int} : isBo (.int i) = false := nr rfl
@[simp] theorem isSt_s {i : Str} : isSt (.str i) = true := nr rfl
theorem isW_eq {d : D} : isW d = (isIn d && !isBo d) := by cases d <;> rfl
theorem c0k {n : Nat} {k : CK} {d : D} (h : k = .own ∨ k = .shr) : (CX P (n + 1)).call 0 [(k, d)] = .ret .own (.bool (isW d)) [none] := by
  rw [CX_at (df := K01.d0) rfl rfl, isW_eq]
  rcases h with rfl | rfl <;> cases hd : isIn d <;> cases hb : isBo d <;> simp [K01.d0, hd, hb]
theorem c47 {n : Nat} {p : List Int} (h : Fo p) {k : CK} (hk : k = .own ∨ k = .shr) : (CX P (n + 2)).call 47 [(k, L p)] = .ret .own .none [none] := by
  have e : (CX P (n + 2)).call 47 [(k, L p)] = runD K36.d47 [(k, L p)] (exec (CX P (n + 1)) [] K36.d47.body (inA [(k, L p)] K36.d47.ns)) := callD_at HE.e47 rfl
  rw [e]
  have hn := h.n1
  have hn4 := h.n40
  have er := rng1 (n := p.length) (by omega)
  obtain ⟨ρ', e3, o, q, rfl⟩ : ∃ ρ', exec (CX P (n + 1)) [] f47_1 [some ⟨k, L p⟩, none, none] = .ok .nx ρ' ∧ ∃ o q, ρ' = [some ⟨k, L p⟩, cF o, cF q] := by
    obtain ⟨m, hm, hz⟩ : ∃ m, ev (CX P (n + 1)) [] (.var 0) [some ⟨k, L p⟩, none, none] = .ok (m, L p) [some ⟨k, L p⟩, none, none] ∧ (m = .bor 0 ∨ m = .shr) := by rcases hk with rfl | rfl <;> simp
    refine x_forx2 (fun _ ρ' => ∃ o q, ρ' = [some ⟨k, L p⟩, cF o, cF q]) (evi_enum hm) ⟨none, none, rfl⟩ ?_
    rintro j w d ρ hj ⟨x, c, rfl⟩
    obtain ⟨v, hv, rfl, rfl⟩ := enum_at hj
    obtain ⟨⟨h1, h2⟩, -⟩ := h.at hv
    have h2' : ¬ (p.length : Int) < v := by omega
    have h1' : ¬ v < 1 := by omega
    rcases hk with rfl | rfl <;> rcases hz with rfl | rfl <;> simp [c0, h1', h2']
  obtain ⟨ρ', e4, o', q, rfl⟩ : ∃ ρ', exec (CX P (n + 1)) [] f47_0 [some ⟨k, L p⟩, cF o, cF q] = .ok .nx ρ' ∧ ∃ o q, ρ' = [some ⟨k, L p⟩, cF o, cF q] := by
    refine x_forx2 (fun _ ρ' => ∃ o q, ρ' = [some ⟨k, L p⟩, cF o, cF q]) (ls := []) (ρ1 := [some ⟨k, L p⟩, cF o, cF q]) (items := ((List.range p.length).map fun (k : Nat) => PyData.int (k : Int)).map fun x => (true, x)) (by rcases hk with rfl | rfl <;> simp [er]) ⟨o, q, rfl⟩ ?_
    rintro j w d ρ hj ⟨x, c, rfl⟩
    rw [List.getElem?_map] at hj
    obtain ⟨y, hy, e⟩ := Option.map_eq_some_iff.mp hj
    cases e
    obtain ⟨hj, rfl⟩ := rng_at hy
    have hI : In p ((j : Int) + 1) := ⟨by omega, by omega⟩
    rcases hk with rfl | rfl <;> simp [c2 h hI, hI]
  have h1 : ¬ (p.length : Int) < 1 := by omega
  have h40 : ¬ (40 : Int) < p.length := by omega
  rcases hk with rfl | rfl <;> simp [K36.d47, e3, e4, h1, h40]
abbrev ok2 (k : CK) : Prop := k = .own ∨ k = .shr
theorem C48_at {n : Nat} {a b : CK × D} : (CX P (n + 1)).call 48 [a, b] = runD K36.d48 [a, b] (exec (CX P n) [] K36.d48.body (inA [a, b] K36.d48.ns)) := callD_at HE.e48 rfl
theorem c48 {n : Nat} {p : List Int} {k k2 : CK} {i : Int} (hk : ok2 k) (hk2 : ok2 k2) (hi : In p i) : (CX P (n + 2)).call 48 [(k, .int i), (k2, L p)] = .ret .own .none [none, none] := by
  rw [C48_at]
  obtain ⟨h1, h2⟩ := hi
  have h1' : ¬ i < 1 := by omega
  have h2' : ¬ (p.length : Int) < i := by omega
  rcases hk with rfl | rfl <;> rcases hk2 with rfl | rfl <;> simp [K36.d48, c0, h1', h2']
theorem c48b {n : Nat} {p : List Int} {k k2 : CK} {d : D} (hk : ok2 k) (hk2 : ok2 k2) (hd : badT p.length d = true) : (CX P (n + 2)).call 48 [(k, d), (k2, L p)] = .exc 9 [d] := by
  rw [C48_at]
  cases hw : isW d with
  | false =>
    have q1 := c0k (P := P) (n := n) (d := d) (Or.inl rfl)
    have q2 := c0k (P := P) (n := n) (d := d) (Or.inr rfl)
    rw [hw] at q1 q2
    rcases hk with rfl | rfl <;> rcases hk2 with rfl | rfl <;> cases hi : im d <;> simp [K36.d48, nrm_def, hi, q1, q2]
  | true =>
    cases d with
    | int i =>
      have : i < 1 ∨ (p.length : Int) < i := by
        unfold badT at hd
        simp at hd
        omega
      rcases hk with rfl | rfl <;> rcases hk2 with rfl | rfl <;> rcases this with h | h <;> (by_cases h2 : i < 1 <;> simp [K36.d48, c0, h, h2])
    | _ => cases hw
end PV.N
end

section
set_option linter.all false
set_option autoImplicit false
set_option maxRecDepth 100000
namespace K36
open PySem PV PV.N
abbrev PP : Pr := ⟨defs, globs, ww⟩
instance : H01 PP := ⟨⟨defs.drop 26, rfl⟩, ⟨globs.drop 1, rfl⟩, rfl⟩
instance : HE PP := ⟨rfl, rfl⟩
theorem C_at {n f : Nat} {df : Def} {args : List (CK × D)} (h : defs[f]? = some df) (hl : args.length = df.np) : (CX PP (n + 1)).call f args = runD df args (exec (CX PP n) [] df.body (inA args df.ns)) := callD_at h hl
def WY : D := .tuple [.str (Str.ofString "none"), .str (Str.ofString "all"), .str (Str.ofString "halves"), .str (Str.ofString "splits")]
@[simp] theorem glob5 {n : Nat} : (CX PP n).glob 5 = some WY := nr rfl
@[simp] theorem e_inG {C : PV.Ctx} {Lk : List Nat} {ρ : PV.Env} {neg : Bool} {a : Ex} {x : Nat} : ev C Lk (.inG neg a x) ρ = (ev C Lk a ρ).bind fun y ρ1 => ob (C.glob x) fun c => ob (PV.inG y.2 c) fun b => .ok (.own, .bool (if neg then !b else b)) ρ1 := by
  show ((ev C Lk a ρ).bind fun y ρ1 => match C.glob x with
    | some c => match PV.inG y.2 c with
      | some b => .ok (.own, .bool (if neg then !b else b)) ρ1
      | none => .bad
    | none => .bad : R (M × D)) = _
  congr 1; funext y ρ1
  cases C.glob x with
  | none => rfl
  | some c => show _ = ob (PV.inG y.2 c) _; dsimp only; cases PV.inG y.2 c <;> rfl
/-- no way of shortening -/
def badW (d : D) : Bool := !isSt d || (PV.inG d WY == some false)
theorem c49b {n : Nat} {k : CK} {d : D} (hk : ok2 k) (hd : badW d = true) : (CX PP (n + 1)).call 49 [(k, d)] = .exc 2 [d] := by
  rw [C_at (df := d49) rfl rfl]
  cases hs : isSt d with
  | false => rcases hk with rfl | rfl <;> cases hi : im d <;> simp [d49, nrm_def, hi, hs]
  | true =>
    have : PV.inG d WY = some false := by
      unfold badW at hd
      rw [hs] at hd
      simpa using hd
    rcases hk with rfl | rfl <;> cases hi : im d <;> simp [d49, nrm_def, hi, hs, this]
theorem c51s {n : Nat} {p : List Int} (h : Fo p) {k k1 k2 : CK} {d w : D} (hk : ok2 k) (hk1 : ok2 k1) (hk2 : ok2 k2) (hd : badT p.length d = true) : (CX PP (n + 3)).call 51 [(k, L p), (k1, d), (k2, w)] = .exc 9 [d] := by
  rw [C_at (df := d51) rfl rfl]
  have q1 := fun k (hk : ok2 k) => c47 (P := PP) (n := n) h hk
  have q2 := fun k k2 (hk : ok2 k) (hk2 : ok2 k2) => c48b (P := PP) (n := n) (p := p) (d := d) hk hk2 hd
  have a1 := q1 .own (Or.inl rfl)
  have a2 := q1 .shr (Or.inr rfl)
  have b1 := q2 .own .own (Or.inl rfl) (Or.inl rfl)
  have b2 := q2 .own .shr (Or.inl rfl) (Or.inr rfl)
  have b3 := q2 .shr .own (Or.inr rfl) (Or.inl rfl)
  have b4 := q2 .shr .shr (Or.inr rfl) (Or.inr rfl)
  clear q1 q2
  rcases hk with rfl | rfl <;> rcases hk1 with rfl | rfl <;> rcases hk2 with rfl | rfl <;> cases hi : im d <;> simp [d51, nrm_def, hi, a1, a2, b1, b2, b3, b4, ss]
theorem c51w {n : Nat} {p : List Int} (h : Fo p) {k k1 k2 : CK} {i : Int} {w : D} (hk : ok2 k) (hk1 : ok2 k1) (hk2 : ok2 k2) (hi : In p i) (hw : badW w = true) : (CX PP (n + 3)).call 51 [(k, L p), (k1, .int i), (k2, w)] = .exc 2 [w] := by
  rw [C_at (df := d51) rfl rfl]
  have q2 := fun k k2 (hk : ok2 k) (hk2 : ok2 k2) => c48 (P := PP) (n := n) (p := p) (i := i) hk hk2 hi
  have a1 := c47 (P := PP) (n := n) h (Or.inl rfl)
  have a2 := c47 (P := PP) (n := n) h (Or.inr rfl)
  have b1 := q2 .own .own (Or.inl rfl) (Or.inl rfl)
  have b2 := q2 .own .shr (Or.inl rfl) (Or.inr rfl)
  have w1 := c49b (n := n + 1) (Or.inl rfl) hw
  have w2 := c49b (n := n + 1) (Or.inr rfl) hw
  rcases hk with rfl | rfl <;> rcases hk1 with rfl | rfl <;> rcases hk2 with rfl | rfl <;> cases hi : im w <;> simp [d51, nrm_def, hi, a1, a2, b1, b2, w1, w2]
/-! finds -/
theorem walk_shr {xs : List D} {ρ : PV.Env} : walkO .shr (.list xs) xs ρ = some ((xs.map fun x => (imAll xs, x), []), ρ) := by
  unfold walkO
  cases h : imAll xs <;> simp
theorem c52l {n : Nat} {p : List Int} (h : Fo p) {k k1 k2 : CK} {d w : D} (hk : ok2 k) (hk1 : ok2 k1) (hk2 : ok2 k2) (hd : isLi d = false) : (CX PP (n + 3)).call 52 [(k, L p), (k1, d), (k2, w)] = .exc 9 [d] := by
  rw [C_at (df := d52) rfl rfl]
  have a1 := c47 (P := PP) (n := n) h (Or.inl rfl)
  have a2 := c47 (P := PP) (n := n) h (Or.inr rfl)
  rcases hk with rfl | rfl <;> rcases hk1 with rfl | rfl <;> rcases hk2 with rfl | rfl <;> cases hi : im d <;> simp [d52, nrm_def, hi, a1, a2, hd]
/-- the things of a row are looked at: all good ones, or good ones and then one that is none -/
theorem l52 {n : Nat} {p : List Int} {b : Bool} {k2 : CK} {c1 : Option Cell} {w : D} (Lk : List Nat) (hL : Lk.contains 3 = false) : ∀ (gs : List Int) (c3 : Option Cell), blk c3 = false → (∀ g ∈ gs, In p g) →
    (∃ c3', blk c3' = false ∧ loopF Lk (.nm 3) (fun r => exec (CX PP (n + 2)) Lk (.cons (.callx 48 (.cons (.var 3) (.cons (.var 0) (.nil)))) (.nil)) r) (gs.map fun g => (b, .int g)) [some ⟨.shr, L p⟩, c1, some ⟨k2, w⟩, c3, none, none, none, none] = .ok .nx [some ⟨.shr, L p⟩, c1, some ⟨k2, w⟩, c3', none, none, none, none]) ∧
    (∀ (d : D) (r : List (Bool × D)), badT p.length d = true → ∃ ρ', loopF Lk (.nm 3) (fun r => exec (CX PP (n + 2)) Lk (.cons (.callx 48 (.cons (.var 3) (.cons (.var 0) (.nil)))) (.nil)) r) ((gs.map fun g => (b, .int g)) ++ (b, d) :: r) [some ⟨.shr, L p⟩, c1, some ⟨k2, w⟩, c3, none, none, none, none] = .exc 9 [d] ρ')
  | [], c3, h3, hg => ⟨⟨c3, h3, rfl⟩, fun d r hd => by
    have b2 := c48b (P := PP) (n := n) (p := p) (d := d) (k := .own) (k2 := .shr) (Or.inl rfl) (Or.inr rfl) hd
    have b4 := c48b (P := PP) (n := n) (p := p) (d := d) (k := .shr) (k2 := .shr) (Or.inr rfl) (Or.inr rfl) hd
    have hL' : ¬ 3 ∈ Lk := by simpa using hL
    rw [List.map_nil, List.nil_append, loopF_cons]
    cases b <;> cases hi : im d <;> simp [hL', h3, nrm_def, hi, b2, b4, ss]⟩
  | g :: gs, c3, h3, hg => by
    have b2 := c48 (P := PP) (n := n) (p := p) (i := g) (k := .own) (k2 := .shr) (Or.inl rfl) (Or.inr rfl) (hg g List.mem_cons_self)
    have hL' : ¬ 3 ∈ Lk := by simpa using hL
    have ih := fun c3 h3 => l52 (n := n) (p := p) (b := b) (k2 := k2) (c1 := c1) (w := w) Lk hL gs c3 h3 fun x hx => hg x (List.mem_cons_of_mem _ hx)
    have e : ∀ r : List (Bool × D), ∃ c3', blk c3' = false ∧ loopF Lk (.nm 3) (fun r => exec (CX PP (n + 2)) Lk (.cons (.callx 48 (.cons (.var 3) (.cons (.var 0) (.nil)))) (.nil)) r) ((b, .int g) :: r) [some ⟨.shr, L p⟩, c1, some ⟨k2, w⟩, c3, none, none, none, none] = loopF Lk (.nm 3) (fun r => exec (CX PP (n + 2)) Lk (.cons (.callx 48 (.cons (.var 3) (.cons (.var 0) (.nil)))) (.nil)) r) r [some ⟨.shr, L p⟩, c1, some ⟨k2, w⟩, c3', none, none, none, none] := fun r => by
      refine ⟨some ⟨ownK b, .int g⟩, by cases b <;> rfl, ?_⟩
      rw [loopF_cons]
      cases b <;> simp [hL', h3, b2]
    refine ⟨?_, fun d r hd => ?_⟩
    · obtain ⟨c', h', e'⟩ := e (gs.map fun g => (b, .int g))
      rw [List.map_cons, e']
      exact (ih c' h').1
    · obtain ⟨c', h', e'⟩ := e ((gs.map fun g => (b, .int g)) ++ (b, d) :: r)
      rw [List.map_cons, List.cons_append, e']
      exact (ih c' h').2 d r hd
theorem imAll_app {xs ys : List D} : imAll (xs ++ ys) = (imAll xs && imAll ys) := by
  induction xs with
  | nil => rfl
  | cons x r ih => simp only [List.cons_append, e_ima2, ih, Bool.and_assoc]
theorem c52b {n : Nat} {p : List Int} (h : Fo p) {k k2 : CK} {d w : D} {gs : List Int} {r : List D} (hk : ok2 k) (hk2 : ok2 k2) (hg : ∀ g ∈ gs, N.In p g) (hd : badT p.length d = true) : (CX PP (n + 3)).call 52 [(.shr, L p), (k, .list (gs.map .int ++ d :: r)), (k2, w)] = .exc 9 [d] := by
  rw [C_at (df := d52) rfl rfl]
  have a2 := c47 (P := PP) (n := n) h (Or.inr rfl)
  obtain ⟨xs, hx⟩ : ∃ xs, xs = gs.map PyData.int ++ d :: r := ⟨_, rfl⟩
  have hm : ∀ b : Bool, (xs.map fun x => (b, x)) = (gs.map fun g => (b, PyData.int g)) ++ (b, d) :: r.map fun x => (b, x) := fun b => by rw [hx]; simp
  rw [← hx]
  rcases hk with rfl | rfl
  · have e : ∃ ρ', exec (CX PP (n + 2)) [] f52_1 [some ⟨.shr, L p⟩, some ⟨.own, .list xs⟩, some ⟨k2, w⟩, none, none, none, none, none] = .exc 9 [d] ρ' := by
      cases hi : imAll xs with
      | true =>
        obtain ⟨ρ', e⟩ := (l52 (n := n) (p := p) (b := true) (k2 := k2) (w := w) (c1 := some ⟨.own, .list xs⟩) [1] rfl gs none rfl hg).2 d (r.map fun x => (true, x)) hd
        rw [← hm] at e
        refine ⟨ρ', ?_⟩
        have hw := fun ρ => e_walk (m := .bor 0) (d := .list xs) (ρ := ρ) hi
        have hw : ∀ ρ, walkO (.bor 1) (.list xs) xs ρ = some ((xs.map fun x => (true, x), [1]), ρ) := fun ρ => e_walk hi
        rw [f52_1, x_forxE]
        simp only [e_iitr, e_var, e_ld, e_getc, List.getElem?_cons_succ, List.getElem?_cons_zero, Option.join, Option.bind_some, id, e_nrm6, Option.map_some, e_of, e_rb, hw, safe_ok, List.append_nil]
        exact e
      | false =>
        obtain ⟨ρ', e⟩ := (l52 (n := n) (p := p) (b := false) (k2 := k2) (w := w) (c1 := some ⟨.shr, .list xs⟩) [] rfl gs none rfl hg).2 d (r.map fun x => (false, x)) hd
        rw [← hm] at e
        refine ⟨ρ', ?_⟩
        have hw : walkO (.bor 1) (.list xs) xs [some ⟨.shr, L p⟩, some ⟨.own, .list xs⟩, some ⟨k2, w⟩, none, none, none, none, none] = some ((xs.map fun x => (false, x), []), [some ⟨.shr, L p⟩, some ⟨.shr, .list xs⟩, some ⟨k2, w⟩, none, none, none, none, none]) := walk_use hi rfl
        rw [f52_1, x_forxE]
        simp only [e_iitr, e_var, e_ld, e_getc, List.getElem?_cons_succ, List.getElem?_cons_zero, Option.join, Option.bind_some, id, e_nrm6, Option.map_some, e_of, e_rb, hw, safe_ok, List.append_nil]
        exact e
    obtain ⟨ρ', e⟩ := e
    simp [d52, a2, e]
  · obtain ⟨ρ', e⟩ := (l52 (n := n) (p := p) (b := imAll xs) (k2 := k2) (w := w) (c1 := some ⟨.shr, .list xs⟩) [] rfl gs none rfl hg).2 d (r.map fun x => (imAll xs, x)) hd
    rw [← hm] at e
    have e : exec (CX PP (n + 2)) [] f52_1 [some ⟨.shr, L p⟩, some ⟨.shr, .list xs⟩, some ⟨k2, w⟩, none, none, none, none, none] = .exc 9 [d] ρ' := by
      rw [f52_1, x_forxE]
      simp only [e_iitr, e_var, e_ld, e_getc, List.getElem?_cons_succ, List.getElem?_cons_zero, Option.join, Option.bind_some, id, e_nrm6, Option.map_some, e_of, e_rb, walk_shr, safe_ok, List.append_nil]
      exact e
    simp [d52, a2, e]
theorem c52w {n : Nat} {p : List Int} (h : Fo p) {k2 : CK} {w : D} {gs : List Int} (hk2 : ok2 k2) (hg : ∀ g ∈ gs, N.In p g) (hw : badW w = true) : (CX PP (n + 3)).call 52 [(.shr, L p), (.shr, L gs), (k2, w)] = .exc 2 [w] := by
  rw [C_at (df := d52) rfl rfl]
  have a2 := c47 (P := PP) (n := n) h (Or.inr rfl)
  obtain ⟨c3, h3, e⟩ := (l52 (n := n) (p := p) (b := true) (k2 := k2) (w := w) (c1 := some ⟨.shr, L gs⟩) [] rfl gs none rfl hg).1
  have e : exec (CX PP (n + 2)) [] f52_1 [some ⟨.shr, L p⟩, some ⟨.shr, L gs⟩, some ⟨k2, w⟩, none, none, none, none, none] = .ok .nx [some ⟨.shr, L p⟩, some ⟨.shr, L gs⟩, some ⟨k2, w⟩, c3, none, none, none, none] := by
    have hm : ((gs.map PyData.int).map fun x => (true, x)) = gs.map fun g => (true, PyData.int g) := by rw [List.map_map]; rfl
    rw [f52_1, x_forxE]
    simp only [e_iitr, e_var, e_ld, e_getc, List.getElem?_cons_succ, List.getElem?_cons_zero, Option.join, Option.bind_some, id, e_nrm6, Option.map_some, e_of, e_rb, walk_shr, safe_ok, List.append_nil, imAll_ints, hm]
    exact e
  have w1 := c49b (n := n + 1) (Or.inl rfl) hw
  have w2 := c49b (n := n + 1) (Or.inr rfl) hw
  rcases hk2 with rfl | rfl <;> cases hi : im w <;> simp [d52, a2, e, nrm_def, hi, w1, w2]
end K36
end

section
set_option linter.all false
set_option autoImplicit false
set_option maxRecDepth 100000
namespace K36
open PySem PV PV.N
abbrev spot : D := .str (Str.ofString "spot")
abbrev mode : D := .str (Str.ofString "mode")
@[simp] theorem ans9 {d : D} : tel_law_told.ans 9 [d] = rpL [spot, d] := nr rfl
@[simp] theorem ans2 {d : D} : tel_law_told.ans 2 [d] = rpL [mode, d] := nr rfl
@[simp] theorem teln : tel_law_told.non = Str.ofString "told" := nr rfl
section
variable {n : Nat} {p : List Int} {k : CK} {d : D} {x : Str}
theorem b5 (h : Fo p) (hk : ok2 k) (hd : badT p.length d = true) (hx : rpL [spot, d] = some x) {c1 c4 : Option Cell} (h4 : blk c4 = false) : ∃ c4', blk c4' = false ∧
    PV.exec (CX PP (n + 3)) [] b53_5 [some ⟨k, L p⟩, c1, some ⟨.shr, d⟩, none, c4, none, none, none] = .ok .nx [some ⟨k, L p⟩, c1, some ⟨.shr, d⟩, none, c4', none, none, none] := by
  have a1 := c51s (n := n) (k := .shr) (k1 := .own) (k2 := .own) (w := .none) h (Or.inr rfl) (Or.inl rfl) (Or.inl rfl) hd
  have a2 := c51s (n := n) (k := .shr) (k1 := .shr) (k2 := .own) (w := .none) h (Or.inr rfl) (Or.inr rfl) (Or.inl rfl) hd
  have I1 : N.In p 1 := ⟨by decide, by have := h.n1; omega⟩
  have I2 : N.In p (p.length : Int) := ⟨by have := h.n1; omega, Int.le_refl _⟩
  have b1 : (CX PP (n + 3)).call 52 [(.shr, L p), (.shr, .list [d]), (.own, .none)] = .exc 9 [d] := c52b (gs := []) (r := []) h (Or.inr rfl) (Or.inl rfl) (by simp) hd
  have b2 : (CX PP (n + 3)).call 52 [(.shr, L p), (.shr, .list [.int 1, d, .none]), (.own, .none)] = .exc 9 [d] := c52b (gs := [1]) (r := [.none]) h (Or.inr rfl) (Or.inl rfl) (by simpa using I1) hd
  have b3 : (CX PP (n + 3)).call 52 [(.shr, L p), (.shr, .list [.int p.length, .int 1, d, .int (-5)]), (.own, .none)] = .exc 9 [d] := c52b (gs := [(p.length : Int), 1]) (r := [.int (-5)]) h (Or.inr rfl) (Or.inl rfl) (by simp [I1, I2]) hd
  refine ⟨some ⟨.shr, .list [.int p.length, .int 1, d, .int (-5)]⟩, rfl, ?_⟩
  rcases hk with rfl | rfl <;> cases hi : im d <;> simp [b53_5, f53_4, b53_4, x_forE, loopF_cons, nrm_def, hi, a1, a2, b1, b2, b3, hx, walk_own, walk_top, h4, SZ, c_sne]
theorem b3 (h : Fo p) (hk : ok2 k) (hd : isLi d = false) (hx : rpL [spot, d] = some x) {c1 c4 : Option Cell} :
    PV.exec (CX PP (n + 3)) [] b53_3 [some ⟨k, L p⟩, c1, some ⟨.shr, d⟩, none, c4, none, none, none] = .ok .nx [some ⟨k, L p⟩, c1, some ⟨.shr, d⟩, none, c4, none, none, none] := by
  have a1 := c52l (n := n) (k := .shr) (k1 := .own) (k2 := .own) (w := .none) h (Or.inr rfl) (Or.inl rfl) (Or.inl rfl) hd
  have a2 := c52l (n := n) (k := .shr) (k1 := .shr) (k2 := .own) (w := .none) h (Or.inr rfl) (Or.inr rfl) (Or.inl rfl) hd
  rcases hk with rfl | rfl <;> cases hi : im d <;> simp [b53_3, nrm_def, hi, a1, a2, hx, c_sne]
theorem b2 (h : Fo p) (hk : ok2 k) (hd : badW d = true) (hx : rpL [mode, d] = some x) {c1 c4 : Option Cell} (h4 : blk c4 = false) :
    PV.exec (CX PP (n + 3)) [] b53_2 [some ⟨k, L p⟩, c1, some ⟨.shr, d⟩, none, c4, none, none, none] = .ok .nx [some ⟨k, L p⟩, c1, some ⟨.shr, d⟩, none, some ⟨.shr, L [(p.length : Int)]⟩, none, none, none] := by
  have I1 : N.In p 1 := ⟨by decide, by have := h.n1; omega⟩
  have I2 : N.In p (p.length : Int) := ⟨by have := h.n1; omega, Int.le_refl _⟩
  have a1 := c51w (n := n) (k := .shr) (k1 := .own) (k2 := .own) h (Or.inr rfl) (Or.inl rfl) (Or.inl rfl) I1 hd
  have a2 := c51w (n := n) (k := .shr) (k1 := .own) (k2 := .shr) h (Or.inr rfl) (Or.inl rfl) (Or.inr rfl) I1 hd
  have q1 : ∀ k, ok2 k → (CX PP (n + 3)).call 52 [(.shr, L p), (.shr, .list []), (k, d)] = .exc 2 [d] := fun k hk => c52w (gs := []) h hk (by simp) hd
  have q2 : ∀ k, ok2 k → (CX PP (n + 3)).call 52 [(.shr, L p), (.shr, .list [.int 1]), (k, d)] = .exc 2 [d] := fun k hk => c52w (gs := [1]) h hk (by simpa using I1) hd
  have q3 : ∀ k, ok2 k → (CX PP (n + 3)).call 52 [(.shr, L p), (.shr, .list [.int p.length]), (k, d)] = .exc 2 [d] := fun k hk => c52w (gs := [(p.length : Int)]) h hk (by simpa using I2) hd
  have u1 := q1 .own (Or.inl rfl)
  have u2 := q1 .shr (Or.inr rfl)
  have v1 := q2 .own (Or.inl rfl)
  have v2 := q2 .shr (Or.inr rfl)
  have w1 := q3 .own (Or.inl rfl)
  have w2 := q3 .shr (Or.inr rfl)
  clear q1 q2 q3
  rcases hk with rfl | rfl <;> cases hi : im d <;> simp [b53_2, f53_1, b53_1, x_forE, loopF_cons, nrm_def, hi, a1, a2, u1, u2, v1, v2, w1, w2, hx, walk_own, walk_top, h4, SZ, c_sne]
end
/-! the rows of odd things -/
def oddL (m : Nat) : List D := [.none, .int 0, .int (-1), .int ((m : Int) + 1), .bool true, .bool false, .str (Str.ofString "1"), .list [.int 1], .dict [], .int (10 ^ 19)]
def odd3 : List D := [.none, .tuple [.int 1], .dict [], .str (Str.ofString "1"), .int 5, .int 1, .bool true]
def odd2 : List D := [.none, .int 0, .str (Str.ofString ""), .str (Str.ofString "All"), .str (Str.ofString "half"), .str (Str.ofString "all "), .list [.str (Str.ofString "all")], .tuple [.str (Str.ofString "none")], .dict [], .bool true]
theorem odd_all : ∀ m : Nat, m < 41 → 1 ≤ m → ((oddL m).all fun d => badT m d && (rpL [spot, d]).isSome) = true := by
  intro m hm
  have : ((List.range 41).all fun m => decide (1 ≤ m → ((oddL m).all fun d => badT m d && (rpL [spot, d]).isSome) = true)) = true := by decide +kernel
  rw [List.all_eq_true] at this
  exact of_decide_eq_true (this m (List.mem_range.mpr hm))
theorem odd3_all : (odd3.all fun d => !isLi d && (rpL [spot, d]).isSome) = true := by decide +kernel
theorem odd2_all : (odd2.all fun d => badW d && (rpL [mode, d]).isSome) = true := by decide +kernel
end K36
end

section
set_option linter.all false
set_option autoImplicit false
set_option maxRecDepth 100000
namespace K36
open PySem PV PV.N
section
variable {n : Nat} {p : List Int} {k : CK}
theorem all_at {α : Type} {q : α → Bool} {l : List α} (h : l.all q = true) {i : Nat} {x : α} (hi : l[i]? = some x) : q x = true := by
  rw [List.all_eq_true] at h
  exact h x (List.mem_of_getElem? hi)
theorem items_at {l : List D} {w v : Bool} {i : Nat} {d : D} (h : (l.map fun x => (w, x))[i]? = some (v, d)) : l[i]? = some d ∧ v = w := by
  rw [List.getElem?_map] at h
  obtain ⟨y, hy, e⟩ := Option.map_eq_some_iff.mp h
  cases e
  exact ⟨hy, rfl⟩
theorem lA (h : Fo p) (hk : ok2 k) : ∃ c2 c4, blk c2 = false ∧ blk c4 = false ∧ PV.exec (CX PP (n + 3)) [] f53_5 [some ⟨k, L p⟩, some ⟨.own, .list (oddL p.length)⟩, none, none, none, none, none, none] = .ok .nx [some ⟨k, L p⟩, some ⟨.shr, .list (oddL p.length)⟩, c2, none, c4, none, none, none] := by
  have hall := odd_all p.length (by have := h.n40; omega) h.n1
  have hi : PV.evi (CX PP (n + 3)) [] (.itr (.var 1)) [some ⟨k, L p⟩, some ⟨.own, .list (oddL p.length)⟩, none, none, none, none, none, none] = .ok ((oddL p.length).map fun x => (false, x), []) [some ⟨k, L p⟩, some ⟨.shr, .list (oddL p.length)⟩, none, none, none, none, none, none] := by
    have hw : walkO (.bor 1) (.list (oddL p.length)) (oddL p.length) [some ⟨k, L p⟩, some ⟨.own, .list (oddL p.length)⟩, none, none, none, none, none, none] = some (((oddL p.length).map fun x => (false, x), []), [some ⟨k, L p⟩, some ⟨.shr, .list (oddL p.length)⟩, none, none, none, none, none, none]) := walk_use (by simp [oddL]) rfl
    simp [hw]
  obtain ⟨ρ', e, c2, c4, h2, h4, rfl⟩ := x_for2 (C := CX PP (n + 3)) (tg := .nm 2) (a := b53_5) (fun _ ρ' => ∃ c2 c4, blk c2 = false ∧ blk c4 = false ∧ ρ' = [some ⟨k, L p⟩, some ⟨.shr, .list (oddL p.length)⟩, c2, none, c4, none, none, none]) hi ⟨none, none, rfl, rfl, rfl⟩ (by
    rintro i w d ρ hj ⟨c2, c4, h2, h4, rfl⟩
    obtain ⟨hj2, rfl⟩ := items_at hj
    have q := all_at hall hj2
    rw [Bool.and_eq_true] at q
    obtain ⟨x, hx⟩ := Option.isSome_iff_exists.mp q.2
    obtain ⟨c4', h4', e⟩ := b5 (n := n) h hk q.1 hx (c1 := some ⟨.shr, .list (oddL p.length)⟩) h4
    refine ⟨[some ⟨k, L p⟩, some ⟨.shr, .list (oddL p.length)⟩, some ⟨.shr, d⟩, none, c4', none, none, none], ?_, _, _, rfl, h4', rfl⟩
    simp [h2, e])
  exact ⟨c2, c4, h2, h4, e⟩
theorem lB (h : Fo p) (hk : ok2 k) {c1 c2 c4 : Option Cell} (h2 : blk c2 = false) : ∃ c2', blk c2' = false ∧ PV.exec (CX PP (n + 3)) [] f53_3 [some ⟨k, L p⟩, c1, c2, none, c4, none, none, none] = .ok .nx [some ⟨k, L p⟩, c1, c2', none, c4, none, none, none] := by
  obtain ⟨ρ', e, c2, h2, rfl⟩ : ∃ ρ', PV.exec (CX PP (n + 3)) [] f53_3 [some ⟨k, L p⟩, c1, c2, none, c4, none, none, none] = .ok .nx ρ' ∧ ∃ c2, blk c2 = false ∧ ρ' = [some ⟨k, L p⟩, c1, c2, none, c4, none, none, none] := x_for2 (ρ1 := [some ⟨k, L p⟩, c1, c2, none, c4, none, none, none]) (items := odd3.map fun x => (false, x)) (ls := []) (fun _ ρ' => ∃ c2, blk c2 = false ∧ ρ' = [some ⟨k, L p⟩, c1, c2, none, c4, none, none, none]) (by rfl) ⟨c2, h2, rfl⟩ (by
    rintro i w d ρ hj ⟨c2, h2, rfl⟩
    obtain ⟨hj2, rfl⟩ := items_at hj
    have q := all_at odd3_all hj2
    rw [Bool.and_eq_true] at q
    obtain ⟨x, hx⟩ := Option.isSome_iff_exists.mp q.2
    have e := b3 (n := n) h hk (by simpa using q.1) hx (c1 := c1) (c4 := c4)
    refine ⟨[some ⟨k, L p⟩, c1, some ⟨.shr, d⟩, none, c4, none, none, none], ?_, _, rfl, rfl⟩
    simp [h2, e])
  exact ⟨c2, h2, e⟩
theorem lC (h : Fo p) (hk : ok2 k) {c1 c2 c4 : Option Cell} (h2 : blk c2 = false) (h4 : blk c4 = false) : PV.exec (CX PP (n + 3)) [] f53_2 [some ⟨k, L p⟩, c1, c2, none, c4, none, none, none] = .ok .nx [some ⟨k, L p⟩, c1, some ⟨.shr, .bool true⟩, none, some ⟨.shr, L [(p.length : Int)]⟩, none, none, none] := by
  obtain ⟨ρ', e, c2, c4, h2, h4, h5, rfl⟩ : ∃ ρ', PV.exec (CX PP (n + 3)) [] f53_2 [some ⟨k, L p⟩, c1, c2, none, c4, none, none, none] = .ok .nx ρ' ∧ ∃ c2 c4, blk c2 = false ∧ blk c4 = false ∧ ((odd2.map fun x => (false, x)).length = 10 → c2 = some ⟨.shr, .bool true⟩ ∧ c4 = some ⟨.shr, L [(p.length : Int)]⟩) ∧ ρ' = [some ⟨k, L p⟩, c1, c2, none, c4, none, none, none] := x_for2 (ρ1 := [some ⟨k, L p⟩, c1, c2, none, c4, none, none, none]) (items := odd2.map fun x => (false, x)) (ls := [])
    (fun i ρ' => ∃ c2 c4, blk c2 = false ∧ blk c4 = false ∧ (i = 10 → c2 = some ⟨.shr, .bool true⟩ ∧ c4 = some ⟨.shr, L [(p.length : Int)]⟩) ∧ ρ' = [some ⟨k, L p⟩, c1, c2, none, c4, none, none, none]) (by rfl) ⟨c2, c4, h2, h4, by simp, rfl⟩ (by
    rintro i w d ρ hj ⟨c2, c4, h2, h4, -, rfl⟩
    obtain ⟨hj2, rfl⟩ := items_at hj
    have q := all_at odd2_all hj2
    rw [Bool.and_eq_true] at q
    obtain ⟨x, hx⟩ := Option.isSome_iff_exists.mp q.2
    have e := b2 (n := n) h hk q.1 hx (c1 := c1) h4
    refine ⟨[some ⟨k, L p⟩, c1, some ⟨.shr, d⟩, none, some ⟨.shr, L [(p.length : Int)]⟩, none, none, none], ?_, _, _, rfl, rfl, fun hi => ?_, rfl⟩
    · simp [h2, e]
    · have : i = 9 := by omega
      subst this
      cases hj2
      exact ⟨rfl, rfl⟩)
  obtain ⟨rfl, rfl⟩ := h5 rfl
  exact e
def tailS : PV.St := .cons (.asg (.nm 3) (e53_1)) (.cons (.asg (.nm 3) (.bin .add (.var 3) (e53_0))) (.cons (f53_0) (.cons (.ret (.con (.bool true))) (.nil))))
def retT (r : R Fl) : Bool := match r with | .ok (.ret .own (.bool true)) _ => true | _ => false
theorem retT_ok {r : R Fl} (h : retT r = true) : ∃ ρ, r = .ok (.ret .own (.bool true)) ρ := by
  unfold retT at h
  split at h
  · exact ⟨_, rfl⟩
  · cases h
theorem lD {c0 c1 c4 : Option Cell} : retT (PV.exec (CX PP 208) [] tailS [c0, c1, some ⟨.shr, .bool true⟩, none, c4, none, none, none]) = true := by kernel_rfl
theorem c53 (h : Fo p) (hk : ok2 k) : (CX PP 209).call 53 [(k, L p)] = .ret .own (.bool true) [none] := by
  have e : (CX PP 209).call 53 [(k, L p)] = runD d53 [(k, L p)] (PV.exec (CX PP 208) [] d53.body (inA [(k, L p)] d53.ns)) := C_at (n := 208) (df := d53) rfl rfl
  rw [e]
  obtain ⟨c2, c4, h2, h4, eA⟩ := lA (n := 205) h hk
  obtain ⟨c2', h2', eB⟩ := lB (n := 205) h hk (c1 := some ⟨.shr, .list (oddL p.length)⟩) (c4 := c4) h2
  have eC := lC (n := 205) h hk (c1 := some ⟨.shr, .list (oddL p.length)⟩) h2' h4
  obtain ⟨ρ', eD⟩ := retT_ok (lD (c0 := some ⟨k, L p⟩) (c1 := some ⟨.shr, .list (oddL p.length)⟩) (c4 := some ⟨.shr, L [(p.length : Int)]⟩))
  have hp : ∀ ρ m m2, binop .pow m (.int 10) m2 (.int 19) ρ = some ((.own, .int (10 ^ 19)), ρ) := fun ρ m m2 => b_ar (ar_pow (by decide) (by decide))
  have eb : d53.body = .cons (.asg (.nm 1) (.lst (.cons (.con (.none)) (.cons (.con (.int 0)) (.cons (.neg (.con (.int 1))) (.cons (.bin .add (.bi .len (.cons (.var 0) (.nil))) (.con (.int 1))) (.cons (.con (.bool true)) (.cons (.con (.bool false)) (.cons (.con (.str (Str.ofString "1"))) (.cons (.lst (.cons (.con (.int 1)) (.nil))) (.cons (.dct (.nil)) (.cons (.bin .pow (.con (.int 10)) (.con (.int 19))) (.nil))))))))))))) (.cons f53_5 (.cons f53_3 (.cons f53_2 tailS))) := rfl
  have e1 : PV.exec (CX PP 208) [] (.asg (.nm 1) (.lst (.cons (.con (.none)) (.cons (.con (.int 0)) (.cons (.neg (.con (.int 1))) (.cons (.bin .add (.bi .len (.cons (.var 0) (.nil))) (.con (.int 1))) (.cons (.con (.bool true)) (.cons (.con (.bool false)) (.cons (.con (.str (Str.ofString "1"))) (.cons (.lst (.cons (.con (.int 1)) (.nil))) (.cons (.dct (.nil)) (.cons (.bin .pow (.con (.int 10)) (.con (.int 19))) (.nil))))))))))))) [some ⟨k, L p⟩, none, none, none, none, none, none, none] = .ok .nx [some ⟨k, L p⟩, some ⟨.own, .list (oddL p.length)⟩, none, none, none, none, none, none] := by
    have hd : ∀ ρ : PV.Env, PV.ev (CX PP 208) [] (.dct .nil) ρ = .ok (.own, .dict []) ρ := fun ρ => rfl
    obtain ⟨E, hE⟩ : ∃ E : Int, E = 10 ^ 19 := ⟨_, rfl⟩
    rw [← hE] at hp
    unfold oddL
    rw [← hE]
    rcases hk with rfl | rfl <;> simp [hp, hd, SZ]
  rw [eb, show d53.ns = 8 from rfl]
  have e2 : inA [(k, L p)] 8 = [some ⟨k, L p⟩, none, none, none, none, none, none, none] := rfl
  rw [e2, x_cons, e1, e_rb, seq_nx, x_cons, eA, e_rb, seq_nx, x_cons, eB, e_rb, seq_nx, x_cons, eC, e_rb, seq_nx, eD]
  rcases hk with rfl | rfl <;> simp
end
end K36
end

section
set_option linter.all false
set_option autoImplicit false
set_option maxRecDepth 100000
namespace K36
open PySem PV PV.N
theorem c_seq {i k : Str} : cmpop .eq (.str i) (.str k) = some (decide (i = k)) := nr rfl
theorem toldOk : ∃ m d ios, (CX PP 209).call 52 [(.own, .list [.int 2, .int 2]), (.own, .list [.int 1, .int 2]), (.own, .str (Str.ofString "splits"))] = .ret m d ios := by
  have h : (match (CX PP 209).call 52 [(.own, .list [.int 2, .int 2]), (.own, .list [.int 1, .int 2]), (.own, .str (Str.ofString "splits"))] with | .ret _ _ _ => true | _ => false) = true := by kernel_rfl
  split at h
  · rename_i m d ios e; exact ⟨m, d, ios, e⟩
  · cases h
theorem plain36 (ns : List Int) (hl : ns.length ≤ 63) : (CX PP 210).call 54 [(.shr, L ns)] = .ret .own (.bool true) [none] := by
  rw [C_at (n := 209) (df := d54) rfl rfl]
  have hc := cut_len ns none (some 3)
  have hsl : ∀ Lk, PV.ev (CX PP 209) Lk (.slc (.var 0) (.nil) (.cons (.con (.int 3)) .nil)) [some ⟨.shr, L ns⟩, none, none, none, none] = .ok (.own, L (cut ns none (some 3))) [some ⟨.shr, L ns⟩, none, none, none, none] := fun Lk => by
    have := fun ρ => use1_im (m := .shr) (xs := (cut ns none (some 3)).map .int) (ρ := ρ) (imAll_ints _)
    simp [cut_map, this]
  have hadd : ∀ Lk, PV.ev (CX PP 209) Lk (.bin .add (.slc (.var 0) (.nil) (.cons (.con (.int 3)) .nil)) (.lst (.cons (.con (.int 0)) (.nil)))) [some ⟨.shr, L ns⟩, none, none, none, none] = .ok (.own, L (cut ns none (some 3) ++ [0])) [some ⟨.shr, L ns⟩, none, none, none, none] := fun Lk => by
    have hb : ∀ ρ, binop .add .own (.list ((cut ns none (some 3)).map .int)) .own (.list [.int 0]) ρ = some ((.own, .list ((cut ns none (some 3)).map .int ++ [.int 0])), ρ) := fun ρ => b_catO (by unfold SZ; simp; omega)
    rw [e_bin, hsl]
    simp [SZ, hb]
  have hdr : PV.ev (CX PP 209) [] e54_0 [some ⟨.shr, L ns⟩, none, none, none, none] = .ok (.own, .list (((cut ns none (some 3) ++ [0]).filter fun _ => true).map fun z => .list [.int (z % BG), .int 0, .bool (decide (z ≥ 10 ^ 18))])) [some ⟨.shr, L ns⟩, none, none, none, none] := by
    refine ev_lcI (fun _ => true) (fun z => .list [.int (z % BG), .int 0, .bool (decide (z ≥ 10 ^ 18))]) (evi_itr (m := .own) (p := cut ns none (some 3) ++ [0]) (hadd _)) rfl (by unfold SZ; simp; omega) fun z hz => ?_
    have := c17 (P := PP) (n := 208) (z := z)
    obtain ⟨E, hE⟩ : ∃ E : Int, E = 10 ^ 18 := ⟨_, rfl⟩
    rw [← hE] at this ⊢
    simp [this]
  rw [filt_true] at hdr
  obtain ⟨ρ', h1, c1, c2, c3, rfl⟩ : ∃ ρ', PV.exec (CX PP 209) [] f54_0 [some ⟨.shr, L ns⟩, none, none, none, none] = .ok .nx ρ' ∧ ∃ o1 o2 o3, ρ' = [some ⟨.shr, L ns⟩, cF o1, cF o2, cF o3, none] := by
    refine x_forownI (fun _ ρ' => ∃ o1 o2 o3, ρ' = [some ⟨.shr, L ns⟩, cF o1, cF o2, cF o3, none]) hdr ⟨none, none, none, rfl⟩ ?_
    rintro i d ρ hj ⟨o1, o2, o3, rfl⟩
    rw [List.getElem?_map] at hj
    obtain ⟨z, -, rfl⟩ := Option.map_eq_some_iff.mp hj
    obtain ⟨p, d1, q1, hp, hd1⟩ := g22 (P := PP) (n := 206) (k := 0) (mo := 9) (Dr.of17 (z := z) (b := decide (z ≥ 10 ^ 18))) (by decide) (by decide) (by decide)
    have w1 := c53 hp (Or.inr rfl)
    have q1' : (CX PP 209).call 22 _ = _ := q1
    have rp := fun m ρ => rp_p hp (m := m) (ρ := ρ)
    obtain ⟨E, hE⟩ : ∃ E : D, E = .list [.int (z % BG), .int 0, .bool (decide (z ≥ 10 ^ 18))] := ⟨_, rfl⟩
    rw [← hE] at q1' ⊢
    simp [b54_0, q1', w1, rp, c_sne]
  have w4 : (CX PP 209).call 53 [(.own, .list [.int 1])] = .ret .own (.bool true) [none] := c53 fo4 (Or.inl rfl)
  obtain ⟨m, d, ios, w5⟩ := toldOk
  simp [d54, h1, w4, w5, SZ, c_seq]
end K36
end

section
set_option Elab.async false
set_option linter.all false
set_option autoImplicit false
set_option maxRecDepth 100000
namespace K36
open PySem PySem.Spec PyProof.Rows L2 PV
def topS (i : Nat) : Stmt := PySem.Challenge.pw_headtrees_k36_what_finds_refuse.main.body.getD i (.Pass ⟨0, 0, 0, 0⟩)
def inS (s : Stmt) : Stmt := match s with | .ClassDef _ _ _ b _ _ _ _ _ _ _ => b.getD 0 (.Pass ⟨0, 0, 0, 0⟩) | _ => .Pass ⟨0, 0, 0, 0⟩
abbrev s0 : Stmt := topS 6
theorem sc0 : FnScope ["thing"] ["thing"] (defScope s0) := ⟨rfl, rfl, rfl, by decide +kernel, rfl, by decide +kernel, by decide +kernel⟩
abbrev s47 : Stmt := topS 7
theorem sc47 : FnScope ["forest", "index", "goal"] ["forest"] (defScope s47) := ⟨rfl, rfl, rfl, by decide +kernel, rfl, by decide +kernel, by decide +kernel⟩
abbrev s2 : Stmt := topS 8
theorem sc2 : FnScope ["forest", "thing", "here", "turn"] ["forest", "thing"] (defScope s2) := ⟨rfl, rfl, rfl, by decide +kernel, rfl, by decide +kernel, by decide +kernel⟩
abbrev s48 : Stmt := topS 9
theorem sc48 : FnScope ["thing", "forest"] ["thing", "forest"] (defScope s48) := ⟨rfl, rfl, rfl, by decide +kernel, rfl, by decide +kernel, by decide +kernel⟩
abbrev s5 : Stmt := topS 10
theorem sc5 : FnScope ["forest", "thing", "goal"] ["forest", "thing"] (defScope s5) := ⟨rfl, rfl, rfl, by decide +kernel, rfl, by decide +kernel, by decide +kernel⟩
abbrev s49 : Stmt := topS 13
theorem sc49 : FnScope ["way"] ["way"] (defScope s49) := ⟨rfl, rfl, rfl, by decide +kernel, rfl, by decide +kernel, by decide +kernel⟩
abbrev s50 : Stmt := topS 14
theorem sc50 : FnScope ["row", "way", "step", "thing"] ["row", "way"] (defScope s50) := ⟨rfl, rfl, rfl, by decide +kernel, rfl, by decide +kernel, by decide +kernel⟩
abbrev s51 : Stmt := topS 15
theorem sc51 : FnScope ["forest", "thing", "way", "row", "told", "one", "goal"] ["forest", "thing", "way"] (defScope s51) := ⟨rfl, rfl, rfl, by decide +kernel, rfl, by decide +kernel, by decide +kernel⟩
abbrev s52 : Stmt := topS 16
theorem sc52 : FnScope ["forest", "things", "way", "thing", "told", "many", "here", "head"] ["forest", "things", "way"] (defScope s52) := ⟨rfl, rfl, rfl, by decide +kernel, rfl, by decide +kernel, by decide +kernel⟩
abbrev s17 : Stmt := topS 18
theorem sc17 : FnScope ["_law_cell"] ["_law_cell"] (defScope s17) := ⟨rfl, rfl, rfl, by decide +kernel, rfl, by decide +kernel, by decide +kernel⟩
abbrev s18 : Stmt := topS 19
theorem sc18 : FnScope ["_law_draws_here", "_law_k", "_law_drawn"] ["_law_draws_here"] (defScope s18) := ⟨rfl, rfl, rfl, by decide +kernel, rfl, by decide +kernel, by decide +kernel⟩
abbrev s19 : Stmt := topS 20
theorem sc19 : FnScope ["_law_wood", "_law_item", "_law_told_here"] ["_law_wood", "_law_item"] (defScope s19) := ⟨rfl, rfl, rfl, by decide +kernel, rfl, by decide +kernel, by decide +kernel⟩
abbrev s20 : Stmt := topS 21
theorem sc20 : FnScope ["_law_wood", "_law_item", "_law_one"] ["_law_wood", "_law_item"] (defScope s20) := ⟨rfl, rfl, rfl, by decide +kernel, rfl, by decide +kernel, by decide +kernel⟩
abbrev s21 : Stmt := topS 22
theorem sc21 : FnScope ["_law_wood", "_law_item", "_law_ways", "_law_one", "_law_row"] ["_law_wood", "_law_item"] (defScope s21) := ⟨rfl, rfl, rfl, by decide +kernel, rfl, by decide +kernel, by decide +kernel⟩
abbrev s22 : Stmt := topS 23
theorem sc22 : FnScope ["_law_draws_here", "_law_most", "_law_many", "_law_kind", "_law_told_here", "_law_turn", "_law_tops", "_law_one", "_law_two", "_law_keys", "_law_k", "_law_low", "_law_high"] ["_law_draws_here", "_law_most"] (defScope s22) := ⟨rfl, rfl, rfl, by decide +kernel, rfl, by decide +kernel, by decide +kernel⟩
abbrev s53 : Stmt := topS 25
theorem sc53 : FnScope ["_law_wood", "_law_odd", "_law_bad", "_law_lots", "_law_some", "_law_at", "_law_told_here", "_law_item"] ["_law_wood"] (defScope s53) := ⟨rfl, rfl, rfl, by decide +kernel, rfl, by decide +kernel, by decide +kernel⟩
abbrev s54 : Stmt := topS 26
theorem sc54 : FnScope ["_law_script", "_law_draws_here", "_law_wood", "_law_kept", "_law_cell"] ["_law_script"] (defScope s54) := ⟨rfl, rfl, rfl, by decide +kernel, rfl, by decide +kernel, by decide +kernel⟩
abbrev s900 : Stmt := topS 24
theorem sc900 : FnScope ["_law_ask", "_law_error", "e"] ["_law_ask"] (defScope s900) := ⟨rfl, rfl, rfl, by decide +kernel, rfl, by decide +kernel, by decide +kernel⟩
abbrev i0 : Stmt := inS (topS 1)
theorem it0 : ∃ p1 p2 q1 q2 q3 q4, defArgs i0 = PVE.iA "index" p1 p2 ∧ defBody i0 = PVE.iB "index" q1 q2 q3 q4 ∧ defScope i0 = PVE.iS "index" := ⟨_, _, _, _, _, _, rfl, rfl, rfl⟩
theorem nb0 : typeLookup (.type "ValueError") "index" = pure none := by rw [typeLookup_type, builtinLookup_eq_fast]; kernel_rfl
abbrev i2 : Stmt := inS (topS 2)
theorem it2 : ∃ p1 p2 q1 q2 q3 q4, defArgs i2 = PVE.iA "way" p1 p2 ∧ defBody i2 = PVE.iB "way" q1 q2 q3 q4 ∧ defScope i2 = PVE.iS "way" := ⟨_, _, _, _, _, _, rfl, rfl, rfl⟩
theorem nb2 : typeLookup (.type "ValueError") "way" = pure none := by rw [typeLookup_type, builtinLookup_eq_fast]; kernel_rfl
abbrev i9 : Stmt := inS (topS 3)
theorem it9 : ∃ p1 p2 q1 q2 q3 q4, defArgs i9 = PVE.iA "thing" p1 p2 ∧ defBody i9 = PVE.iB "thing" q1 q2 q3 q4 ∧ defScope i9 = PVE.iS "thing" := ⟨_, _, _, _, _, _, rfl, rfl, rfl⟩
theorem nb9 : typeLookup (.type "LookupError") "thing" = pure none := by rw [typeLookup_type, builtinLookup_eq_fast]; kernel_rfl
section
variable [PV.Tbs] [PV.Exs]
def isT (c : Nat) : Cl → Bool
  | .own k => decide (c = k)
  | .ty "ValueError" => decide (c ∈ [0, 2])
  | .ty "LookupError" => decide (c ∈ [9])
  | .ty _ => false
def tb900 : Tb := (.ifN (.ret (.txt (Str.ofString "told"))) (.ifC (.own 9) (.ret (.ite (.ty "LookupError") (.rep (Str.ofString "spot") (Str.ofString "thing")) (.txt (Str.ofString "other")))) (.ifNC (.ty "ValueError") (.ret (.txt (Str.ofString "other"))) (.ret (.ite (.own 0) (.rep (Str.ofString "list") (Str.ofString "index")) (.rep (Str.ofString "mode") (Str.ofString "way")))))))
theorem ans900 (y0 : Exs.fld 0 = [("index" : Str)]) (y2 : Exs.fld 2 = [("way" : Str)]) (y9 : Exs.fld 9 = [("thing" : Str)]) : ∀ c fs x, tel_law_told.ans c fs = some x → c ∈ [0, 2, 9] ∧ (tb900).ev isT (some (c, fs)) = some x := fun c fs x h => by
  by_cases h0 : c = 0
  · subst h0
    refine ⟨by decide, ?_⟩
    match fs, h with
    | [], h => cases h
    | _ :: _ :: _, h => cases h
    | [d], h =>
      show (if Exs.fld 0 = _ then _ else none) = _
      rw [if_pos y0]; exact h
  by_cases h2 : c = 2
  · subst h2
    refine ⟨by decide, ?_⟩
    match fs, h with
    | [], h => cases h
    | _ :: _ :: _, h => cases h
    | [d], h =>
      show (if Exs.fld 2 = _ then _ else none) = _
      rw [if_pos y2]; exact h
  by_cases h9 : c = 9
  · subst h9
    refine ⟨by decide, ?_⟩
    match fs, h with
    | [], h => cases h
    | _ :: _ :: _, h => cases h
    | [d], h =>
      show (if Exs.fld 9 = _ then _ else none) = _
      rw [if_pos y9]; exact h
  have e : List.lookup c tel_law_told.tab = none := by
    simp [tel_law_told, List.lookup, beq_eq_false_iff_ne.mpr h0, beq_eq_false_iff_ne.mpr h2, beq_eq_false_iff_ne.mpr h9]
  unfold Tel.ans at h
  rw [e] at h
  cases h
structure G (K : PySem.W.Frag) (w : World) (mg : Str → Option Value) (fa : Nat → Addr) (fd : Nat → FuncData) (fe cc pp : Nat → Addr) : Prop where
  F0 : L2.Fun K "is_whole" "is_whole" s0 (fa 0) (fd 0)
  B0 : Binds K (fd 0) ["thing"] []
  M0 : mg "is_whole" = some (.ref (fa 0))
  F47 : L2.Fun K "check_forest" "check_forest" s47 (fa 47) (fd 47)
  B47 : Binds K (fd 47) ["forest"] []
  M47 : mg "check_forest" = some (.ref (fa 47))
  F2 : L2.Fun K "on_ring" "on_ring" s2 (fa 2) (fd 2)
  B2 : Binds K (fd 2) ["forest", "thing"] []
  M2 : mg "on_ring" = some (.ref (fa 2))
  F48 : L2.Fun K "check_thing" "check_thing" s48 (fa 48) (fd 48)
  B48 : Binds K (fd 48) ["thing", "forest"] []
  M48 : mg "check_thing" = some (.ref (fa 48))
  F5 : L2.Fun K "way_in" "way_in" s5 (fa 5) (fd 5)
  B5 : Binds K (fd 5) ["forest", "thing"] []
  M5 : mg "way_in" = some (.ref (fa 5))
  F49 : L2.Fun K "check_way" "check_way" s49 (fa 49) (fd 49)
  B49 : Binds K (fd 49) ["way"] []
  M49 : mg "check_way" = some (.ref (fa 49))
  F50 : L2.Fun K "moved_on" "moved_on" s50 (fa 50) (fd 50)
  B50 : Binds K (fd 50) ["row", "way"] []
  M50 : mg "moved_on" = some (.ref (fa 50))
  F51 : L2.Fun K "found" "found" s51 (fa 51) (fd 51)
  B51 : Binds K (fd 51) ["forest", "thing", "way"] []
  M51 : mg "found" = some (.ref (fa 51))
  F52 : L2.Fun K "finds" "finds" s52 (fa 52) (fd 52)
  B52 : Binds K (fd 52) ["forest", "things", "way"] []
  M52 : mg "finds" = some (.ref (fa 52))
  F17 : L2.Fun K "_law_draws" "_law_draws" s17 (fa 17) (fd 17)
  B17 : Binds K (fd 17) ["_law_cell"] []
  M17 : mg "_law_draws" = some (.ref (fa 17))
  F18 : L2.Fun K "_law_next" "_law_next" s18 (fa 18) (fd 18)
  B18 : Binds K (fd 18) ["_law_draws_here"] []
  M18 : mg "_law_next" = some (.ref (fa 18))
  F19 : L2.Fun K "_law_way" "_law_way" s19 (fa 19) (fd 19)
  B19 : Binds K (fd 19) ["_law_wood", "_law_item"] []
  M19 : mg "_law_way" = some (.ref (fa 19))
  F20 : L2.Fun K "_law_size" "_law_size" s20 (fa 20) (fd 20)
  B20 : Binds K (fd 20) ["_law_wood", "_law_item"] []
  M20 : mg "_law_size" = some (.ref (fa 20))
  F21 : L2.Fun K "_law_height" "_law_height" s21 (fa 21) (fd 21)
  B21 : Binds K (fd 21) ["_law_wood", "_law_item"] []
  M21 : mg "_law_height" = some (.ref (fa 21))
  F22 : L2.Fun K "_law_forest" "_law_forest" s22 (fa 22) (fd 22)
  B22 : Binds K (fd 22) ["_law_draws_here", "_law_most"] []
  M22 : mg "_law_forest" = some (.ref (fa 22))
  F53 : L2.Fun K "_law_right" "_law_right" s53 (fa 53) (fd 53)
  B53 : Binds K (fd 53) ["_law_wood"] []
  M53 : mg "_law_right" = some (.ref (fa 53))
  F54 : L2.Fun K "law" "law" s54 (fa 54) (fd 54)
  B54 : Binds K (fd 54) ["_law_script"] []
  M54 : mg "law" = some (.ref (fa 54))
  D53 : (fd 53).code = .ref (cc 53)
  Q53 : (pp 53, ("_law_right" : Str) ++ ".<locals>." ++ "<lambda>") ∈ Tbs.T
  U53 : ∀ p ∈ Tbs.T, p.1 = pp 53 → p.2 = ("_law_right" : Str) ++ ".<locals>." ++ "<lambda>"
  D54 : (fd 54).code = .ref (cc 54)
  Q54 : (pp 54, ("law" : Str) ++ ".<locals>." ++ "<lambda>") ∈ Tbs.T
  U54 : ∀ p ∈ Tbs.T, p.1 = pp 54 → p.2 = ("law" : Str) ++ ".<locals>." ++ "<lambda>"
  X0 : PVE.ClsE K mg "InvalidForest" "index" "ValueError" "ValueError.__new__" "ValueError.__init__" PVE.tailVE (Exs.cls 0) (fe 0)
  Y0 : Exs.fld 0 = [("index" : Str)]
  X2 : PVE.ClsE K mg "InvalidWay" "way" "ValueError" "ValueError.__new__" "ValueError.__init__" PVE.tailVE (Exs.cls 2) (fe 2)
  Y2 : Exs.fld 2 = [("way" : Str)]
  X9 : PVE.ClsE K mg "UnknownThing" "thing" "LookupError" "LookupError.__new__" "LookupError.__init__" PVE.tailLE (Exs.cls 9) (fe 9)
  Y9 : Exs.fld 9 = [("thing" : Str)]
  F900 : L2.Fun K "_law_told" "_law_told" s900 (fa 900) (fd 900)
  B900 : Binds K (fd 900) ["_law_ask"] []
  M900 : mg "_law_told" = some (.ref (fa 900))
  E : ErC K [0, 2, 9]
  Mt : ∀ c ∈ ([0, 2, 9] : List Nat), PVE.Mt K (.ref (Exs.cls c)) [.ref (Exs.cls 0), .ref (Exs.cls 2), .ref (Exs.cls 9)]
  k_own9 : ∀ c ∈ ([0, 2, 9] : List Nat), PySem.W.kitOne K (.ref (Exs.cls c)) (Cl.val (.own 9)) = some (isT c (.own 9))
  k_tyLookupError : ∀ c ∈ ([0, 2, 9] : List Nat), PySem.W.kitOne K (.ref (Exs.cls c)) (Cl.val (.ty "LookupError")) = some (isT c (.ty "LookupError"))
  k_tyValueError : ∀ c ∈ ([0, 2, 9] : List Nat), PySem.W.kitOne K (.ref (Exs.cls c)) (Cl.val (.ty "ValueError")) = some (isT c (.ty "ValueError"))
  k_own0 : ∀ c ∈ ([0, 2, 9] : List Nat), PySem.W.kitOne K (.ref (Exs.cls c)) (Cl.val (.own 0)) = some (isT c (.own 0))
  z_LookupError : mg "LookupError" = none
  z_ValueError : mg "ValueError" = none
  z_bool : mg "bool" = none
  z_enumerate : mg "enumerate" = none
  z_int : mg "int" = none
  z_isinstance : mg "isinstance" = none
  z_len : mg "len" = none
  z_list : mg "list" = none
  z_max : mg "max" = none
  z_range : mg "range" = none
  z_repr : mg "repr" = none
  z_str : mg "str" = none
  g_MOST_THINGS : ∃ t, mg "MOST_THINGS" = some (.int 40 t)
  g_WAYS : ∃ u, mg "WAYS" = some u ∧ TabT K u [.str "none", .str "all", .str "halves", .str "splits"]
structure GB (base : Heap) (mg : Str → Option Value) (cc pp : Nat → Addr) : Prop where
  T53 : LamX.TabB base mg (cc 53) (pp 53)
  T54 : LamX.TabB base mg (cc 54) (pp 54)
structure Al (P : Program) (w : World) (K : PySem.W.Frag) (mg : Str → Option Value) (base : Heap) (fa : Nat → Addr) (fd : Nat → FuncData) (n : Nat) : Prop where
  c0 : PVX.FnG P w K mg base n (fa 0) (fd 0) ["thing"] (spD K (callD defs globs ww n 0))
  c47 : PVX.FnG P w K mg base n (fa 47) (fd 47) ["forest"] (spD K (callD defs globs ww n 47))
  x47 : PVX.FnX P w K mg base n (fa 47) (fd 47) ["forest"] (spX K (callD defs globs ww n 47))
  c2 : PVX.FnG P w K mg base n (fa 2) (fd 2) ["forest", "thing"] (spD K (callD defs globs ww n 2))
  c48 : PVX.FnG P w K mg base n (fa 48) (fd 48) ["thing", "forest"] (spD K (callD defs globs ww n 48))
  x48 : PVX.FnX P w K mg base n (fa 48) (fd 48) ["thing", "forest"] (spX K (callD defs globs ww n 48))
  c5 : PVX.FnG P w K mg base n (fa 5) (fd 5) ["forest", "thing"] (spD K (callD defs globs ww n 5))
  c49 : PVX.FnG P w K mg base n (fa 49) (fd 49) ["way"] (spD K (callD defs globs ww n 49))
  x49 : PVX.FnX P w K mg base n (fa 49) (fd 49) ["way"] (spX K (callD defs globs ww n 49))
  c50 : PVX.FnG P w K mg base n (fa 50) (fd 50) ["row", "way"] (spD K (callD defs globs ww n 50))
  c51 : PVX.FnG P w K mg base n (fa 51) (fd 51) ["forest", "thing", "way"] (spD K (callD defs globs ww n 51))
  x51 : PVX.FnX P w K mg base n (fa 51) (fd 51) ["forest", "thing", "way"] (spX K (callD defs globs ww n 51))
  c52 : PVX.FnG P w K mg base n (fa 52) (fd 52) ["forest", "things", "way"] (spD K (callD defs globs ww n 52))
  x52 : PVX.FnX P w K mg base n (fa 52) (fd 52) ["forest", "things", "way"] (spX K (callD defs globs ww n 52))
  c17 : PVX.FnG P w K mg base n (fa 17) (fd 17) ["_law_cell"] (spD K (callD defs globs ww n 17))
  c18 : PVX.FnG P w K mg base n (fa 18) (fd 18) ["_law_draws_here"] (spD K (callD defs globs ww n 18))
  c19 : PVX.FnG P w K mg base n (fa 19) (fd 19) ["_law_wood", "_law_item"] (spD K (callD defs globs ww n 19))
  c20 : PVX.FnG P w K mg base n (fa 20) (fd 20) ["_law_wood", "_law_item"] (spD K (callD defs globs ww n 20))
  c21 : PVX.FnG P w K mg base n (fa 21) (fd 21) ["_law_wood", "_law_item"] (spD K (callD defs globs ww n 21))
  c22 : PVX.FnG P w K mg base n (fa 22) (fd 22) ["_law_draws_here", "_law_most"] (spD K (callD defs globs ww n 22))
  c53 : PVX.FnG P w K mg base (n + 2) (fa 53) (fd 53) ["_law_wood"] (spD K (callD defs globs ww n 53))
  c54 : PVX.FnG P w K mg base (n + 2) (fa 54) (fd 54) ["_law_script"] (spD K (callD defs globs ww n 54))
section
variable {P : Program} {w : World} {K : PySem.W.Frag} {mg : Str → Option Value} {base : Heap} {fa : Nat → Addr} {fd : Nat → FuncData} {fe cc pp : Nat → Addr} {n : Nat}
theorem tg900 (g : G K w mg fa fd fe cc pp) : TldG P w K mg base "_law_told" s900 (fa 900) (fd 900) "_law_ask" ["_law_ask", "_law_error", "e"] [0, 2, 9] isT tb900 :=
  ⟨g.F900, sc900, g.B900, rfl, Or.inl rfl, by decide, by decide, fun cdv A outer s H f c' q tl hr hgu mono ask => told_s (i := 2) (j := 1) g.E g.Mt rfl rfl rfl sc900.nd (fun W pn xe tk => ask W pn xe _ _ tk) mono (tb_ifN (tb_ret tr_txt) (tb_ifC (pt_isE g.E (k := .own 9) g.k_own9 (pe_glob (v := .ref (Exs.cls 9)) (by rfl) g.X9.gC rfl (by decide)) (hm := g.z_isinstance)) (tb_ret (tr_ite (pt_isE g.E (k := .ty "LookupError") g.k_tyLookupError (pe_bltn (v := .ty "LookupError") (by rfl) g.z_LookupError (by decide +kernel) rfl (by decide) (by decide)) (hm := g.z_isinstance)) (tr_rep g.E hgu (hu64 hr) (hm := g.z_repr)) tr_txt)) (tb_ifNC (pt_isE g.E (k := .ty "ValueError") g.k_tyValueError (pe_bltn (v := .ty "ValueError") (by rfl) g.z_ValueError (by decide +kernel) rfl (by decide) (by decide)) (hm := g.z_isinstance)) (tb_ret tr_txt) (tb_ret (tr_ite (pt_isE g.E (k := .own 0) g.k_own0 (pe_glob (v := .ref (Exs.cls 0)) (by rfl) g.X0.gC rfl (by decide)) (hm := g.z_isinstance)) (tr_rep g.E hgu (hu64 hr) (hm := g.z_repr)) (tr_rep g.E hgu (hu64 hr) (hm := g.z_repr))))))) (fun a pn => (.cons (by rfl) (by decide) g.X0.gC (.cons (by rfl) (by decide) g.X2.gC (.cons (by rfl) (by decide) g.X9.gC .nil)))) (show 3 ≤ sizeLine by decide)⟩
theorem ok0 (g : G K w mg fa fd fe cc pp) (h : Al P w K mg base fa fd n) : PVX.FnG P w K mg base (n + 1) (fa 0) (fd 0) ["thing"] (spD K (callD defs globs ww (n + 1) 0)) :=
  def_s g.F0 sc0 rfl rfl rfl (by decide) fun cdv A outer s H E hr hgu =>
    (bv_cons (sv_ret (sv_and (pea_cons (sv_isi is_int (sv_var 0) PyProof.Rows.Boot.«int» (hm := g.z_isinstance) (hm2 := g.z_int)) (pea_one (sv_not (sv_isi is_bool (sv_var 0) PyProof.Rows.Boot.«bool» (hm := g.z_isinstance) (hm2 := g.z_bool))))))) bv_nil)
theorem ox47 (g : G K w mg fa fd fe cc pp) (h : Al P w K mg base fa fd n) : PVX.FnX P w K mg base (n + 1) (fa 47) (fd 47) ["forest"] (spX K (callD defs globs ww (n + 1) 47)) :=
  def_x g.F47 sc47 rfl rfl rfl (by decide) fun cdv A outer s H E hr hgu =>
    (bx_cons (sx_itx (st_or (pwo_cons (st_not (st_tv (sv_isi is_list (sv_var 0) PyProof.Rows.Boot.«list» (hm := g.z_isinstance) (hm2 := g.z_list)))) (pwo_one (st_not (st_chain ck_le ck_le sv_int (sv_len (sv_var 0) (hm := g.z_len)) (sv_globX rfl g.g_MOST_THINGS)))))) (bx_cons (sx_raise g.X0 g.Y0 rfl hr (takes_of rfl rfl rfl rfl) sv_non) bx_nil) bx_nil) (bx_cons (sx_forx (passes_of rfl) rfl (si_enum (sv_var 0) (hm := g.z_enumerate)) (gv_tp rfl (gv_cons (gv_nm sc47.nd) (gv_cons (gv_nm sc47.nd) gv_nil))) (bx_cons (sx_itx (st_or (pwo_cons (st_not (st_tv (sv_call h.c0 hr hgu g.B0 (paa_cons (sv_var 2) paa_nil) (hm := g.M0) (hk := g.F0.kp)))) (pwo_one (st_not (st_chain ck_le ck_le sv_int (sv_var 2) (sv_len (sv_var 0) (hm := g.z_len))))))) (bx_cons (sx_raise g.X0 g.Y0 rfl hr (takes_of rfl rfl rfl rfl) (sv_var 1)) bx_nil) bx_nil) bx_nil)) (bx_cons (sx_forx (passes_of rfl) rfl (si_rng1 (sv_len (sv_var 0) (hm := g.z_len)) (hm := g.z_range)) (gv_nm sc47.nd) (bx_cons (sx_itx (st_tv (sv_call h.c2 hr hgu g.B2 (paa_cons (sv_var 0) (paa_cons (sv_add (sv_var 1) sv_int) paa_nil)) (hm := g.M2) (hk := g.F2.kp))) (bx_cons (sx_raise g.X0 g.Y0 rfl hr (takes_of rfl rfl rfl rfl) (sv_var 1)) bx_nil) bx_nil) bx_nil)) bx_nil)))
theorem ok2 (g : G K w mg fa fd fe cc pp) (h : Al P w K mg base fa fd n) : PVX.FnG P w K mg base (n + 1) (fa 2) (fd 2) ["forest", "thing"] (spD K (callD defs globs ww (n + 1) 2)) :=
  def_s g.F2 sc2 rfl rfl rfl (by decide) fun cdv A outer s H E hr hgu =>
    (bv_cons (sv_set sc2.nd (sv_sub_ (hu1 hr) (sv_var 0) (sv_sub (sv_var 1) sv_int))) (bv_cons (sv_for PassesOwn.never rfl (si_rng1 (sv_len (sv_var 0) (hm := g.z_len)) (hm := g.z_range)) (gv_nm sc2.nd) (bv_cons (sv_if (st_cmp (ck_eq (hu64 hr)) (sv_var 2) (sv_var 1)) (bv_cons (sv_ret (sv_cmp ck_gt (sv_var 3) sv_int)) bv_nil) bv_nil) (bv_cons (sv_set sc2.nd (sv_sub_ (hu1 hr) (sv_var 0) (sv_sub (sv_var 2) sv_int))) bv_nil))) (bv_cons (sv_ret sv_bl) bv_nil)))
theorem ox48 (g : G K w mg fa fd fe cc pp) (h : Al P w K mg base fa fd n) : PVX.FnX P w K mg base (n + 1) (fa 48) (fd 48) ["thing", "forest"] (spX K (callD defs globs ww (n + 1) 48)) :=
  def_x g.F48 sc48 rfl rfl rfl (by decide) fun cdv A outer s H E hr hgu =>
    (bx_cons (sx_itx (st_or (pwo_cons (st_not (st_tv (sv_call h.c0 hr hgu g.B0 (paa_cons (sv_var 0) paa_nil) (hm := g.M0) (hk := g.F0.kp)))) (pwo_one (st_not (st_chain ck_le ck_le sv_int (sv_var 0) (sv_len (sv_var 1) (hm := g.z_len))))))) (bx_cons (sx_raise g.X9 g.Y9 rfl hr (takes_of rfl rfl rfl rfl) (sv_var 0)) bx_nil) bx_nil) bx_nil)
theorem ok5 (g : G K w mg fa fd fe cc pp) (h : Al P w K mg base fa fd n) : PVX.FnG P w K mg base (n + 1) (fa 5) (fd 5) ["forest", "thing"] (spD K (callD defs globs ww (n + 1) 5)) :=
  def_s g.F5 sc5 rfl rfl rfl (by decide) fun cdv A outer s H E hr hgu =>
    (bv_cons (sv_set sc5.nd (sv_sub_ (hu1 hr) (sv_var 0) (sv_sub (sv_var 1) sv_int))) (bv_cons (sv_ret (sv_ite (st_cmp (ck_eq (hu64 hr)) (sv_var 2) (sv_var 1)) (sv_lst (pad_cons (sv_var 1) pad_nil)) (sv_add (sv_lst (pad_cons (sv_var 1) pad_nil)) (sv_call h.c5 hr hgu g.B5 (paa_cons (sv_var 0) (paa_cons (sv_var 2) paa_nil)) (hm := g.M5) (hk := g.F5.kp))))) bv_nil))
theorem ox49 (g : G K w mg fa fd fe cc pp) (h : Al P w K mg base fa fd n) : PVX.FnX P w K mg base (n + 1) (fa 49) (fd 49) ["way"] (spX K (callD defs globs ww (n + 1) 49)) :=
  def_x g.F49 sc49 rfl rfl rfl (by decide) fun cdv A outer s H E hr hgu =>
    (bx_cons (sx_itx (st_or (pwo_cons (st_not (st_tv (sv_isi is_str (sv_var 0) PyProof.Rows.Boot.«str» (hm := g.z_isinstance) (hm2 := g.z_str)))) (pwo_one (st_ninG rfl (sv_var 0) g.g_WAYS)))) (bx_cons (sx_raise g.X2 g.Y2 rfl hr (takes_of rfl rfl rfl rfl) (sv_var 0)) bx_nil) bx_nil) bx_nil)
theorem ok50 (g : G K w mg fa fd fe cc pp) (h : Al P w K mg base fa fd n) : PVX.FnG P w K mg base (n + 1) (fa 50) (fd 50) ["row", "way"] (spD K (callD defs globs ww (n + 1) 50)) :=
  def_s g.F50 sc50 rfl rfl rfl (by decide) fun cdv A outer s H E hr hgu =>
    (bv_cons (sv_if (st_cmp (ck_eq (hu64 hr)) (sv_var 1) sv_str) (bv_cons (sv_ret (sv_lst pad_nil)) bv_nil) bv_nil) (bv_cons (sv_if (st_cmp (ck_eq (hu64 hr)) (sv_var 1) sv_str) (bv_cons (sv_ret (sv_lc (own := [("thing", 3)]) rfl sc50.nd (blkOk_by (by kernel_rfl)) (si_itr (sv_slc (sv_var 0) po_nv (po_sv (sv_neg sv_int)))) (fun _ _ _ _ _ => (gv_nm sc50.nd)) (fun _ _ _ _ _ => ts_nil) (fun _ _ _ _ _ => (sv_tup (pad_cons (sv_var 3) (pad_cons (sv_sub_ (hu1 hr) (sv_var 0) (sv_neg sv_int)) pad_nil)))))) bv_nil) bv_nil) (bv_cons (sv_ret (sv_lc (own := [("step", 2)]) rfl sc50.nd (blkOk_by (by kernel_rfl)) (si_rng3 sv_int (sv_sub (sv_len (sv_var 0) (hm := g.z_len)) sv_int) (sv_ite (st_cmp (ck_eq (hu64 hr)) (sv_var 1) sv_str) sv_int sv_int) (hm := g.z_range)) (fun _ _ _ _ _ => (gv_nm sc50.nd)) (fun _ _ _ _ _ => ts_nil) (fun _ _ _ _ _ => (sv_tup (pad_cons (sv_sub_ (hu1 hr) (sv_var 0) (sv_var 2)) (pad_cons (sv_sub_ (hu1 hr) (sv_var 0) (sv_add (sv_var 2) sv_int)) pad_nil)))))) bv_nil)))
theorem ox51 (g : G K w mg fa fd fe cc pp) (h : Al P w K mg base fa fd n) : PVX.FnX P w K mg base (n + 1) (fa 51) (fd 51) ["forest", "thing", "way"] (spX K (callD defs globs ww (n + 1) 51)) :=
  def_x g.F51 sc51 rfl rfl rfl (by decide) fun cdv A outer s H E hr hgu =>
    (bx_cons (sx_callx h.x47 hr hgu (takes_of rfl rfl rfl rfl) g.B47 (paa_cons (sv_var 0) paa_nil) (hm := g.M47) (hk := g.F47.kp)) (bx_cons (sx_callx h.x48 hr hgu (takes_of rfl rfl rfl rfl) g.B48 (paa_cons (sv_var 1) (paa_cons (sv_var 0) paa_nil)) (hm := g.M48) (hk := g.F48.kp)) (bx_cons (sx_callx h.x49 hr hgu (takes_of rfl rfl rfl rfl) g.B49 (paa_cons (sv_var 2) paa_nil) (hm := g.M49) (hk := g.F49.kp)) (bx_cons (sx_safe (sv_par rfl sc51.nd (pad_cons (sv_call h.c5 hr hgu g.B5 (paa_cons (sv_var 0) (paa_cons (sv_var 1) paa_nil)) (hm := g.M5) (hk := g.F5.kp)) (pad_cons (sv_list (sv_var 0) (hcalm := rfl) (hm := g.z_list)) pad_nil)))) (bx_cons (sx_safe (sv_for (passes_of rfl) rfl (si_itr (sv_call h.c50 hr hgu g.B50 (paa_cons (sv_var 3) (paa_cons (sv_var 2) paa_nil)) (hm := g.M50) (hk := g.F50.kp))) (gv_tp rfl (gv_cons (gv_nm sc51.nd) (gv_cons (gv_nm sc51.nd) gv_nil))) (bv_cons (sv_put (hu1 hr) (sv_mv 6) pl_nil (sv_sub (sv_var 5) sv_int)) bv_nil))) (bx_cons (sx_safe (sv_ret (sv_tup (pad_cons (sv_sub_ (hu1 hr) (sv_var 3) (sv_neg sv_int)) (pad_cons (sv_mv 4) pad_nil))))) bx_nil))))))
theorem ox52 (g : G K w mg fa fd fe cc pp) (h : Al P w K mg base fa fd n) : PVX.FnX P w K mg base (n + 1) (fa 52) (fd 52) ["forest", "things", "way"] (spX K (callD defs globs ww (n + 1) 52)) :=
  def_x g.F52 sc52 rfl rfl rfl (by decide) fun cdv A outer s H E hr hgu =>
    (bx_cons (sx_callx h.x47 hr hgu (takes_of rfl rfl rfl rfl) g.B47 (paa_cons (sv_var 0) paa_nil) (hm := g.M47) (hk := g.F47.kp)) (bx_cons (sx_itx (st_not (st_tv (sv_isi is_list (sv_var 1) PyProof.Rows.Boot.«list» (hm := g.z_isinstance) (hm2 := g.z_list)))) (bx_cons (sx_raise g.X9 g.Y9 rfl hr (takes_of rfl rfl rfl rfl) (sv_var 1)) bx_nil) bx_nil) (bx_cons (sx_forx (passes_of rfl) rfl (si_itr (sv_var 1)) (gv_nm sc52.nd) (bx_cons (sx_callx h.x48 hr hgu (takes_of rfl rfl rfl rfl) g.B48 (paa_cons (sv_var 3) (paa_cons (sv_var 0) paa_nil)) (hm := g.M48) (hk := g.F48.kp)) bx_nil)) (bx_cons (sx_callx h.x49 hr hgu (takes_of rfl rfl rfl rfl) g.B49 (paa_cons (sv_var 2) paa_nil) (hm := g.M49) (hk := g.F49.kp)) (bx_cons (sx_safe (sv_par3 rfl sc52.nd (pad_cons (sv_lst pad_nil) (pad_cons sv_int (pad_cons (sv_list (sv_var 0) (hcalm := rfl) (hm := g.z_list)) pad_nil))))) (bx_cons (sx_safe (sv_for (passes_of rfl) rfl (si_itr (sv_var 1)) (gv_nm sc52.nd) (bv_cons (sv_aug sc52.nd ag_add (sv_sub (sv_len (sv_call h.c5 hr hgu g.B5 (paa_cons (sv_var 6) (paa_cons (sv_var 3) paa_nil)) (hm := g.M5) (hk := g.F5.kp)) (hm := g.z_len)) sv_int)) (bv_cons (sv_asg (sv_call h.c51 hr hgu g.B51 (paa_cons (sv_var 6) (paa_cons (sv_var 3) (paa_cons (sv_var 2) paa_nil))) (hm := g.M51) (hk := g.F51.kp)) (gv_tp rfl (gv_cons (gv_nm sc52.nd) (gv_cons (gv_nm sc52.nd) gv_nil)))) (bv_cons (sv_app pl_nil (sv_mv 7)) bv_nil))))) (bx_cons (sx_safe (sv_ret (sv_tup (pad_cons (sv_mv 4) (pad_cons (sv_mv 5) (pad_cons (sv_mv 6) pad_nil)))))) bx_nil)))))))
theorem ok17 (g : G K w mg fa fd fe cc pp) (h : Al P w K mg base fa fd n) : PVX.FnG P w K mg base (n + 1) (fa 17) (fd 17) ["_law_cell"] (spD K (callD defs globs ww (n + 1) 17)) :=
  def_s g.F17 sc17 rfl rfl rfl (by decide) fun cdv A outer s H E hr hgu =>
    (bv_cons (sv_ret (sv_lst (pad_cons (sv_mod (sv_int_ (sv_var 0) (hm := g.z_int)) (sv_pow (sv_pow (sv_pow sv_int sv_int) sv_int) sv_int)) (pad_cons sv_int (pad_cons (sv_cmp ck_ge (sv_var 0) (sv_pow sv_int sv_int)) pad_nil))))) bv_nil)
theorem ok18 (g : G K w mg fa fd fe cc pp) (h : Al P w K mg base fa fd n) : PVX.FnG P w K mg base (n + 1) (fa 18) (fd 18) ["_law_draws_here"] (spD K (callD defs globs ww (n + 1) 18)) :=
  def_s g.F18 sc18 rfl rfl rfl (by decide) fun cdv A outer s H E hr hgu =>
    (bv_cons (sv_put (hu1 hr) (sv_add (sv_sub_ (hu1 hr) (sv_var 0) sv_int) sv_int) pl_nil sv_int) (bv_cons (sv_set sc18.nd (sv_sub_ (hu1 hr) (sv_var 0) sv_int)) (bv_cons (sv_if (st_tv (sv_sub_ (hu1 hr) (sv_var 0) sv_int)) (bv_cons (sv_set sc18.nd (sv_mod (sv_int_ (sv_sub_ (hu1 hr) (sv_var 0) sv_int) (hm := g.z_int)) (sv_pow sv_int sv_int))) (bv_cons (sv_put (hu1 hr) (sv_fdiv (sv_sub_ (hu1 hr) (sv_var 0) sv_int) (sv_pow sv_int sv_int)) pl_nil sv_int) (bv_cons (sv_ret (sv_mv 2)) bv_nil))) bv_nil) (bv_cons (sv_set sc18.nd (sv_mod (sv_int_ (sv_mul (sv_add (sv_add (sv_mod (sv_int_ (sv_sub_ (hu1 hr) (sv_var 0) sv_int) (hm := g.z_int)) sv_int) (sv_mul (sv_mul (sv_var 1) (sv_var 1)) sv_int)) (sv_var 1)) sv_int) (hm := g.z_int)) sv_int)) (bv_cons (sv_set sc18.nd (sv_mod (sv_int_ (sv_mul (sv_var 2) (sv_var 2)) (hm := g.z_int)) sv_int)) (bv_cons (sv_ret (sv_fdiv (sv_mod (sv_int_ (sv_mul (sv_var 2) (sv_add (sv_var 2) sv_int)) (hm := g.z_int)) sv_int) sv_int)) bv_nil))))))
theorem ok19 (g : G K w mg fa fd fe cc pp) (h : Al P w K mg base fa fd n) : PVX.FnG P w K mg base (n + 1) (fa 19) (fd 19) ["_law_wood", "_law_item"] (spD K (callD defs globs ww (n + 1) 19)) :=
  def_s g.F19 sc19 rfl rfl rfl (by decide) fun cdv A outer s H E hr hgu =>
    (bv_cons (sv_set sc19.nd (sv_lst (pad_cons (sv_mv 1) pad_nil))) (bv_cons (sv_while PassesOwn.never (st_cmp (ck_ne (hu64 hr)) (sv_sub_ (hu1 hr) (sv_var 0) (sv_sub (sv_sub_ (hu1 hr) (sv_var 2) (sv_neg sv_int)) sv_int)) (sv_sub_ (hu1 hr) (sv_var 2) (sv_neg sv_int))) (bv_cons (sv_app pl_nil (sv_sub_ (hu1 hr) (sv_var 0) (sv_sub (sv_sub_ (hu1 hr) (sv_var 2) (sv_neg sv_int)) sv_int))) bv_nil)) (bv_cons (sv_ret (sv_mv 2)) bv_nil)))
theorem ok20 (g : G K w mg fa fd fe cc pp) (h : Al P w K mg base fa fd n) : PVX.FnG P w K mg base (n + 1) (fa 20) (fd 20) ["_law_wood", "_law_item"] (spD K (callD defs globs ww (n + 1) 20)) :=
  def_s g.F20 sc20 rfl rfl rfl (by decide) fun cdv A outer s H E hr hgu =>
    (bv_cons (sv_ret (sv_len (sv_lc (own := [("_law_one", 2)]) rfl sc20.nd (blkOk_by (by kernel_rfl)) (si_rng2 sv_int (sv_add (sv_len (sv_var 0) (hm := g.z_len)) sv_int) (hm := g.z_range)) (fun _ _ _ _ _ => (gv_nm sc20.nd)) (fun _ _ _ _ _ => (ts_one (st_cmp (ck_in (hu65 hr)) (sv_var 1) (sv_call h.c19 hr hgu g.B19 (paa_cons (sv_var 0) (paa_cons (sv_var 2) paa_nil)) (hm := g.M19) (hk := g.F19.kp))))) (fun _ _ _ _ _ => (sv_var 2))) (hm := g.z_len))) bv_nil)
theorem ok21 (g : G K w mg fa fd fe cc pp) (h : Al P w K mg base fa fd n) : PVX.FnG P w K mg base (n + 1) (fa 21) (fd 21) ["_law_wood", "_law_item"] (spD K (callD defs globs ww (n + 1) 21)) :=
  def_s g.F21 sc21 rfl rfl rfl (by decide) fun cdv A outer s H E hr hgu =>
    (bv_cons (sv_setLc (own := [("_law_one", 3)]) rfl sc21.nd (blkOk_by (by kernel_rfl)) (si_rng2 sv_int (sv_add (sv_len (sv_var 0) (hm := g.z_len)) sv_int) (hm := g.z_range)) (fun _ _ _ _ _ => (gv_nm sc21.nd)) (fun _ _ _ _ _ => ts_nil) (fun _ _ _ _ _ => (sv_call h.c19 hr hgu g.B19 (paa_cons (sv_var 0) (paa_cons (sv_var 3) paa_nil)) (hm := g.M19) (hk := g.F19.kp)))) (bv_cons (sv_ret (sv_max1 rfl (sv_lc (own := [("_law_row", 4)]) rfl sc21.nd (blkOk_by (by kernel_rfl)) (si_itr (sv_var 2)) (fun _ _ _ _ _ => (gv_nm sc21.nd)) (fun _ _ _ _ _ => (ts_one (st_cmp (ck_in (hu65 hr)) (sv_var 1) (sv_var 4)))) (fun _ _ _ _ _ => (sv_index (hu65 hr) (sv_var 4) (sv_var 1)))) (hm := g.z_max))) bv_nil))
theorem ok22 (g : G K w mg fa fd fe cc pp) (h : Al P w K mg base fa fd n) : PVX.FnG P w K mg base (n + 1) (fa 22) (fd 22) ["_law_draws_here", "_law_most"] (spD K (callD defs globs ww (n + 1) 22)) :=
  def_s g.F22 sc22 rfl rfl rfl (by decide) fun cdv A outer s H E hr hgu =>
    (bv_cons (sv_set sc22.nd (sv_add sv_int (sv_mod (sv_int_ (sv_call h.c18 hr hgu g.B18 (paa_io paa_nil) (hm := g.M18) (hk := g.F18.kp)) (hm := g.z_int)) (sv_var 1)))) (bv_cons (sv_set sc22.nd (sv_mod (sv_int_ (sv_call h.c18 hr hgu g.B18 (paa_io paa_nil) (hm := g.M18) (hk := g.F18.kp)) (hm := g.z_int)) sv_int)) (bv_cons (sv_set sc22.nd (sv_lrng2 rfl sv_int (sv_add (sv_var 2) sv_int) (hm := g.z_list) (hm2 := g.z_range))) (bv_cons (sv_for PassesOwn.never rfl (si_rng1 (sv_mul (sv_var 2) (sv_add sv_int (sv_mod (sv_int_ (sv_call h.c18 hr hgu g.B18 (paa_io paa_nil) (hm := g.M18) (hk := g.F18.kp)) (hm := g.z_int)) sv_int))) (hm := g.z_range)) (gv_nm sc22.nd) (bv_cons (sv_setLc (own := [("_law_k", 10)]) rfl sc22.nd (blkOk_by (by kernel_rfl)) (si_itr (sv_var 4)) (fun _ _ _ _ _ => (gv_nm sc22.nd)) (fun _ _ _ _ _ => (ts_one (st_cmp (ck_eq (hu64 hr)) (sv_sub_ (hu1 hr) (sv_var 4) (sv_sub (sv_var 10) sv_int)) (sv_var 10)))) (fun _ _ _ _ _ => (sv_var 10))) (bv_cons (sv_set sc22.nd (sv_sub_ (hu1 hr) (sv_var 6) (sv_mod (sv_int_ (sv_call h.c18 hr hgu g.B18 (paa_io paa_nil) (hm := g.M18) (hk := g.F18.kp)) (hm := g.z_int)) (sv_len (sv_var 6) (hm := g.z_len))))) (bv_cons (sv_set sc22.nd (sv_sub_ (hu1 hr) (sv_var 6) (sv_mod (sv_int_ (sv_call h.c18 hr hgu g.B18 (paa_io paa_nil) (hm := g.M18) (hk := g.F18.kp)) (hm := g.z_int)) (sv_len (sv_var 6) (hm := g.z_len))))) (bv_cons (sv_if (st_cmp (ck_ne (hu64 hr)) (sv_var 7) (sv_var 8)) (bv_cons (sv_set sc22.nd (sv_lst (pad_cons (sv_sub_ (hu1 hr) (sv_lst (pad_cons sv_int (pad_cons (sv_var 7) (pad_cons (sv_call h.c20 hr hgu g.B20 (paa_cons (sv_var 4) (paa_cons (sv_var 7) paa_nil)) (hm := g.M20) (hk := g.F20.kp)) (pad_cons (sv_call h.c21 hr hgu g.B21 (paa_cons (sv_var 4) (paa_cons (sv_var 7) paa_nil)) (hm := g.M21) (hk := g.F21.kp)) (pad_cons sv_int pad_nil)))))) (sv_var 3)) pad_nil))) (bv_cons (sv_app pl_nil (sv_sub_ (hu1 hr) (sv_lst (pad_cons sv_int (pad_cons (sv_var 8) (pad_cons (sv_call h.c20 hr hgu g.B20 (paa_cons (sv_var 4) (paa_cons (sv_var 8) paa_nil)) (hm := g.M20) (hk := g.F20.kp)) (pad_cons (sv_call h.c21 hr hgu g.B21 (paa_cons (sv_var 4) (paa_cons (sv_var 8) paa_nil)) (hm := g.M21) (hk := g.F21.kp)) (pad_cons sv_int pad_nil)))))) (sv_var 3))) (bv_cons (sv_asg (sv_ite (st_cmp ck_lt (sv_sub_ (hu1 hr) (sv_var 9) sv_int) (sv_sub_ (hu1 hr) (sv_var 9) sv_int)) (sv_tup (pad_cons (sv_var 8) (pad_cons (sv_var 7) pad_nil))) (sv_tup (pad_cons (sv_var 7) (pad_cons (sv_var 8) pad_nil)))) (gv_tp rfl (gv_cons (gv_nm sc22.nd) (gv_cons (gv_nm sc22.nd) gv_nil)))) (bv_cons (sv_put (hu1 hr) (sv_mv 12) pl_nil (sv_sub (sv_var 11) sv_int)) bv_nil)))) bv_nil) bv_nil))))) (bv_cons (sv_ret (sv_mv 4)) bv_nil)))))
theorem ok53 (g : G K w mg fa fd fe cc pp) (gb : GB base mg cc pp) (h : Al P w K mg base fa fd n) : PVX.FnG P w K mg base (n + 1 + 2) (fa 53) (fd 53) ["_law_wood"] (spD K (callD defs globs ww (n + 1) 53)) :=
  (def_sT (k := n + 2) g.F53 sc53 rfl rfl rfl (by decide) fun cdv A outer s H E hc hr hgu =>
    (bv_cons (sv_set sc53.nd (sv_lst (pad_cons sv_non (pad_cons sv_int (pad_cons (sv_neg sv_int) (pad_cons (sv_add (sv_len (sv_var 0) (hm := g.z_len)) sv_int) (pad_cons sv_bl (pad_cons sv_bl (pad_cons sv_str (pad_cons (sv_lst (pad_cons sv_int pad_nil)) (pad_cons sv_dct0 (pad_cons (sv_pow sv_int sv_int) pad_nil)))))))))))) (bv_cons (sv_for PassesOwn.never rfl (si_itr (sv_var 1)) (gv_nm sc53.nd) (bv_cons (sv_if (st_cmp (ck_ne (hu64 hr)) (sv_tld (tg900 g) rfl (ans900 g.Y0 g.Y2 g.Y9) (by exact h.x51) (gb.T53) (hc.symm.trans g.D53) cx_qual g.Q53 g.U53 hr hgu g.B51 (fun _ _ _ _ _ _ _ hr hgu => (paa_cons (sv_var 0) (paa_cons (sv_var 2) (paa_cons sv_non paa_nil)))) (LamX.lamS_by (by rfl)) (hm := g.M900) (hk := g.F900.kp) (hmf := g.M51) (hkf := g.F51.kp)) (sv_reprl hgu (hu64 hr) (pav_cons sv_str (pav_cons (sv_var 2) pav_nil)) (hm := g.z_repr))) (bv_cons (sv_ret sv_bl) bv_nil) bv_nil) (bv_cons (sv_for PassesOwn.never rfl (si_itr (sv_lst (pad_cons (sv_lst (pad_cons (sv_var 2) pad_nil)) (pad_cons (sv_lst (pad_cons sv_int (pad_cons (sv_var 2) (pad_cons sv_non pad_nil)))) (pad_cons (sv_lst (pad_cons (sv_len (sv_var 0) (hm := g.z_len)) (pad_cons sv_int (pad_cons (sv_var 2) (pad_cons (sv_neg sv_int) pad_nil))))) pad_nil))))) (gv_nm sc53.nd) (bv_cons (sv_if (st_cmp (ck_ne (hu64 hr)) (sv_tld (tg900 g) rfl (ans900 g.Y0 g.Y2 g.Y9) (by exact h.x52) (gb.T53) (hc.symm.trans g.D53) cx_qual g.Q53 g.U53 hr hgu g.B52 (fun _ _ _ _ _ _ _ hr hgu => (paa_cons (sv_var 0) (paa_cons (sv_var 4) (paa_cons sv_non paa_nil)))) (LamX.lamS_by (by rfl)) (hm := g.M900) (hk := g.F900.kp) (hmf := g.M52) (hkf := g.F52.kp)) (sv_reprl hgu (hu64 hr) (pav_cons sv_str (pav_cons (sv_var 2) pav_nil)) (hm := g.z_repr))) (bv_cons (sv_ret sv_bl) bv_nil) bv_nil) bv_nil)) bv_nil))) (bv_cons (sv_for PassesOwn.never rfl (si_itr (sv_lst (pad_cons sv_non (pad_cons (sv_tup (pad_cons sv_int pad_nil)) (pad_cons sv_dct0 (pad_cons sv_str (pad_cons sv_int (pad_cons sv_int (pad_cons sv_bl pad_nil))))))))) (gv_nm sc53.nd) (bv_cons (sv_if (st_cmp (ck_ne (hu64 hr)) (sv_tld (tg900 g) rfl (ans900 g.Y0 g.Y2 g.Y9) (by exact h.x52) (gb.T53) (hc.symm.trans g.D53) cx_qual g.Q53 g.U53 hr hgu g.B52 (fun _ _ _ _ _ _ _ hr hgu => (paa_cons (sv_var 0) (paa_cons (sv_var 2) (paa_cons sv_non paa_nil)))) (LamX.lamS_by (by rfl)) (hm := g.M900) (hk := g.F900.kp) (hmf := g.M52) (hkf := g.F52.kp)) (sv_reprl hgu (hu64 hr) (pav_cons sv_str (pav_cons (sv_var 2) pav_nil)) (hm := g.z_repr))) (bv_cons (sv_ret sv_bl) bv_nil) bv_nil) bv_nil)) (bv_cons (sv_for PassesOwn.never rfl (si_itr (sv_lst (pad_cons sv_non (pad_cons sv_int (pad_cons sv_str (pad_cons sv_str (pad_cons sv_str (pad_cons sv_str (pad_cons (sv_lst (pad_cons sv_str pad_nil)) (pad_cons (sv_tup (pad_cons sv_str pad_nil)) (pad_cons sv_dct0 (pad_cons sv_bl pad_nil)))))))))))) (gv_nm sc53.nd) (bv_cons (sv_if (st_cmp (ck_ne (hu64 hr)) (sv_tld (tg900 g) rfl (ans900 g.Y0 g.Y2 g.Y9) (by exact h.x51) (gb.T53) (hc.symm.trans g.D53) cx_qual g.Q53 g.U53 hr hgu g.B51 (fun _ _ _ _ _ _ _ hr hgu => (paa_cons (sv_var 0) (paa_cons sv_int (paa_cons (sv_var 2) paa_nil)))) (LamX.lamS_by (by rfl)) (hm := g.M900) (hk := g.F900.kp) (hmf := g.M51) (hkf := g.F51.kp)) (sv_reprl hgu (hu64 hr) (pav_cons sv_str (pav_cons (sv_var 2) pav_nil)) (hm := g.z_repr))) (bv_cons (sv_ret sv_bl) bv_nil) bv_nil) (bv_cons (sv_for PassesOwn.never rfl (si_itr (sv_lst (pad_cons (sv_lst pad_nil) (pad_cons (sv_lst (pad_cons sv_int pad_nil)) (pad_cons (sv_lst (pad_cons (sv_len (sv_var 0) (hm := g.z_len)) pad_nil)) pad_nil))))) (gv_nm sc53.nd) (bv_cons (sv_if (st_cmp (ck_ne (hu64 hr)) (sv_tld (tg900 g) rfl (ans900 g.Y0 g.Y2 g.Y9) (by exact h.x52) (gb.T53) (hc.symm.trans g.D53) cx_qual g.Q53 g.U53 hr hgu g.B52 (fun _ _ _ _ _ _ _ hr hgu => (paa_cons (sv_var 0) (paa_cons (sv_var 4) (paa_cons (sv_var 2) paa_nil)))) (LamX.lamS_by (by rfl)) (hm := g.M900) (hk := g.F900.kp) (hmf := g.M52) (hkf := g.F52.kp)) (sv_reprl hgu (hu64 hr) (pav_cons sv_str (pav_cons (sv_var 2) pav_nil)) (hm := g.z_repr))) (bv_cons (sv_ret sv_bl) bv_nil) bv_nil) bv_nil)) bv_nil))) (bv_cons (sv_setLc (own := [("_law_item", 7)]) rfl sc53.nd (blkOk_by (by kernel_rfl)) (si_itr (sv_lst (pad_cons sv_non (pad_cons (sv_tup pad_nil) (pad_cons (sv_tup (pad_cons sv_int pad_nil)) (pad_cons sv_dct0 (pad_cons sv_str (pad_cons sv_int (pad_cons (sv_lst pad_nil) (pad_cons (sv_mul (sv_lst (pad_cons sv_int pad_nil)) sv_int) pad_nil)))))))))) (fun _ _ _ _ _ => (gv_nm sc53.nd)) (fun _ _ _ _ _ => ts_nil) (fun _ _ _ _ _ => (sv_tup (pad_cons (sv_var 7) (pad_cons sv_non pad_nil))))) (bv_cons (sv_set sc53.nd (sv_add (sv_var 3) (sv_lc (own := [("_law_item", 7)]) rfl sc53.nd (blkOk_by (by kernel_rfl)) (si_itr (sv_lst (pad_cons sv_non (pad_cons sv_bl (pad_cons sv_int (pad_cons sv_int pad_nil)))))) (fun _ _ _ _ _ => (gv_nm sc53.nd)) (fun _ _ _ _ _ => ts_nil) (fun _ _ _ _ _ => (sv_tup (pad_cons (sv_lst (pad_cons (sv_var 7) pad_nil)) (pad_cons sv_int pad_nil))))))) (bv_cons (sv_for PassesOwn.never rfl (si_itr (sv_add (sv_var 3) (sv_lst (pad_cons (sv_tup (pad_cons (sv_lst (pad_cons sv_int (pad_cons sv_int (pad_cons sv_int pad_nil)))) (pad_cons sv_int pad_nil))) (pad_cons (sv_tup (pad_cons (sv_lst (pad_cons sv_int (pad_cons sv_int pad_nil))) (pad_cons sv_int pad_nil))) (pad_cons (sv_tup (pad_cons (sv_lst (pad_cons sv_int (pad_cons sv_int (pad_cons sv_int (pad_cons sv_non pad_nil))))) (pad_cons sv_int pad_nil))) pad_nil)))))) (gv_tp rfl (gv_cons (gv_nm sc53.nd) (gv_cons (gv_nm sc53.nd) gv_nil))) (bv_cons (sv_set sc53.nd (sv_lst (pad_cons (sv_tld (tg900 g) rfl (ans900 g.Y0 g.Y2 g.Y9) (by exact h.x51) (gb.T53) (hc.symm.trans g.D53) cx_qual g.Q53 g.U53 hr hgu g.B51 (fun _ _ _ _ _ _ _ hr hgu => (paa_cons (sv_var 2) (paa_cons sv_non (paa_cons sv_non paa_nil)))) (LamX.lamS_by (by rfl)) (hm := g.M900) (hk := g.F900.kp) (hmf := g.M51) (hkf := g.F51.kp)) pad_nil))) (bv_cons (sv_app pl_nil (sv_tld (tg900 g) rfl (ans900 g.Y0 g.Y2 g.Y9) (by exact h.x52) (gb.T53) (hc.symm.trans g.D53) cx_qual g.Q53 g.U53 hr hgu g.B52 (fun _ _ _ _ _ _ _ hr hgu => (paa_cons (sv_var 2) (paa_cons sv_non (paa_cons sv_non paa_nil)))) (LamX.lamS_by (by rfl)) (hm := g.M900) (hk := g.F900.kp) (hmf := g.M52) (hkf := g.F52.kp))) (bv_cons (sv_if (st_cmp (ck_ne (hu64 hr)) (sv_var 6) (sv_mul (sv_lst (pad_cons (sv_reprl hgu (hu64 hr) (pav_cons sv_str (pav_cons (sv_var 5) pav_nil)) (hm := g.z_repr)) pad_nil)) sv_int)) (bv_cons (sv_ret sv_bl) bv_nil) bv_nil) bv_nil)))) (bv_cons (sv_ret sv_bl) bv_nil))))))))).mono (by omega)
theorem ok54 (g : G K w mg fa fd fe cc pp) (gb : GB base mg cc pp) (h : Al P w K mg base fa fd n) : PVX.FnG P w K mg base (n + 1 + 2) (fa 54) (fd 54) ["_law_script"] (spD K (callD defs globs ww (n + 1) 54)) :=
  (def_sT (k := n + 2) g.F54 sc54 rfl rfl rfl (by decide) fun cdv A outer s H E hc hr hgu =>
    (bv_cons (sv_forown PassesOwn.never rfl (sv_lc (own := [("_law_cell", 4)]) rfl sc54.nd (blkOk_by (by kernel_rfl)) (si_itr (sv_add (sv_slc (sv_var 0) po_nv (po_sv sv_int)) (sv_lst (pad_cons sv_int pad_nil)))) (fun _ _ _ _ _ => (gv_nm sc54.nd)) (fun _ _ _ _ _ => ts_nil) (fun _ _ _ _ _ => (sv_call h.c17 (hr.mono (by omega)) hgu g.B17 (paa_cons (sv_var 4) paa_nil) (hm := g.M17) (hk := g.F17.kp)))) (gv_nm sc54.nd) (bv_cons (sv_set sc54.nd (sv_call h.c22 (hr.mono (by omega)) hgu g.B22 (paa_io (paa_cons sv_int paa_nil)) (hm := g.M22) (hk := g.F22.kp))) (bv_cons (sv_set sc54.nd (sv_repr hgu (hu64 hr) (sv_var 2) (hm := g.z_repr))) (bv_cons (sv_if (st_or (pwo_cons (st_not (st_tv (sv_call h.c53 (hr.mono (by omega)) hgu g.B53 (paa_cons (sv_var 2) paa_nil) (hm := g.M53) (hk := g.F53.kp)))) (pwo_one (st_cmp (ck_ne (hu64 hr)) (sv_repr hgu (hu64 hr) (sv_var 2) (hm := g.z_repr)) (sv_var 3))))) (bv_cons (sv_ret sv_bl) bv_nil) bv_nil) bv_nil)))) (bv_cons (sv_ret (sv_and (pea_cons (sv_call h.c53 (hr.mono (by omega)) hgu g.B53 (paa_cons (sv_lst (pad_cons sv_int pad_nil)) paa_nil) (hm := g.M53) (hk := g.F53.kp)) (pea_one (sv_cmp (ck_eq (hu64 hr)) (sv_tld (tg900 g) rfl (ans900 g.Y0 g.Y2 g.Y9) (by exact h.x52) (gb.T54) (hc.symm.trans g.D54) cx_qual g.Q54 g.U54 hr hgu g.B52 (fun _ _ _ _ _ _ _ hr hgu => (paa_cons (sv_lst (pad_cons sv_int (pad_cons sv_int pad_nil))) (paa_cons (sv_lst (pad_cons sv_int (pad_cons sv_int pad_nil))) (paa_cons sv_str paa_nil)))) (LamX.lamS_by (by rfl)) (hm := g.M900) (hk := g.F900.kp) (hmf := g.M52) (hkf := g.F52.kp)) sv_str))))) bv_nil))).mono (by omega)
theorem al (g : G K w mg fa fd fe cc pp) (gb : GB base mg cc pp) : ∀ n, Al P w K mg base fa fd n
  | 0 => ⟨def_0, (fnx_g defx_0), defx_0, def_0, (fnx_g defx_0), defx_0, def_0, (fnx_g defx_0), defx_0, def_0, (fnx_g defx_0), defx_0, (fnx_g defx_0), defx_0, def_0, def_0, def_0, def_0, def_0, def_0, (def_0.mono (Nat.zero_le _)), (def_0.mono (Nat.zero_le _))⟩
  | n + 1 => have h := al g gb n; ⟨ok0 g h, (fnx_g (ox47 g h)), (ox47 g h), ok2 g h, (fnx_g (ox48 g h)), (ox48 g h), ok5 g h, (fnx_g (ox49 g h)), (ox49 g h), ok50 g h, (fnx_g (ox51 g h)), (ox51 g h), (fnx_g (ox52 g h)), (ox52 g h), ok17 g h, ok18 g h, ok19 g h, ok20 g h, ok21 g h, ok22 g h, ok53 g gb h, ok54 g gb h⟩
end
end
set_option maxHeartbeats 0 in
theorem all_mk {l : PySem.W.OpenLaw} {q : Program} {w : World} {K : PySem.W.Frag} {h : Heap} {mg : Str → Option Value} {fl : Addr} {f0 : Addr} {od0 an0 : Option Addr} {sl0 : Array (Option Value)} {oc0 kV0 dc0 pm0 cd0 ct0 : Value} {f47 : Addr} {od47 an47 : Option Addr} {sl47 : Array (Option Value)} {oc47 kV47 dc47 pm47 cd47 ct47 : Value} {f2 : Addr} {od2 an2 : Option Addr} {sl2 : Array (Option Value)} {oc2 kV2 dc2 pm2 cd2 ct2 : Value} {f48 : Addr} {od48 an48 : Option Addr} {sl48 : Array (Option Value)} {oc48 kV48 dc48 pm48 cd48 ct48 : Value} {f5 : Addr} {od5 an5 : Option Addr} {sl5 : Array (Option Value)} {oc5 kV5 dc5 pm5 cd5 ct5 : Value} {f49 : Addr} {od49 an49 : Option Addr} {sl49 : Array (Option Value)} {oc49 kV49 dc49 pm49 cd49 ct49 : Value} {f50 : Addr} {od50 an50 : Option Addr} {sl50 : Array (Option Value)} {oc50 kV50 dc50 pm50 cd50 ct50 : Value} {f51 : Addr} {od51 an51 : Option Addr} {sl51 : Array (Option Value)} {oc51 kV51 dc51 pm51 cd51 ct51 : Value} {f52 : Addr} {od52 an52 : Option Addr} {sl52 : Array (Option Value)} {oc52 kV52 dc52 pm52 cd52 ct52 : Value} {f17 : Addr} {od17 an17 : Option Addr} {sl17 : Array (Option Value)} {oc17 kV17 dc17 pm17 cd17 ct17 : Value} {f18 : Addr} {od18 an18 : Option Addr} {sl18 : Array (Option Value)} {oc18 kV18 dc18 pm18 cd18 ct18 : Value} {f19 : Addr} {od19 an19 : Option Addr} {sl19 : Array (Option Value)} {oc19 kV19 dc19 pm19 cd19 ct19 : Value} {f20 : Addr} {od20 an20 : Option Addr} {sl20 : Array (Option Value)} {oc20 kV20 dc20 pm20 cd20 ct20 : Value} {f21 : Addr} {od21 an21 : Option Addr} {sl21 : Array (Option Value)} {oc21 kV21 dc21 pm21 cd21 ct21 : Value} {f22 : Addr} {od22 an22 : Option Addr} {sl22 : Array (Option Value)} {oc22 kV22 dc22 pm22 cd22 ct22 : Value} {f53 : Addr} {od53 an53 : Option Addr} {sl53 : Array (Option Value)} {oc53 kV53 dc53 pm53 cd53 ct53 : Value} {f54 : Addr} {od54 an54 : Option Addr} {sl54 : Array (Option Value)} {oc54 kV54 dc54 pm54 cd54 ct54 : Value} {f900 : Addr} {od900 an900 : Option Addr} {sl900 : Array (Option Value)} {oc900 kV900 dc900 pm900 cd900 ct900 : Value} {C0 I0 N0 : Addr} {nm0 qn0 qi0 : Str} {bs0 su0 : List Value} {sn0 : List Str} {ab0 : Bool} {co0 : Option Bool} {dd0 oI0 aI0 : Option Addr} {j00 j10 j20 j30 j50 : Option Value} {sI0 : Array (Option Value)} {tI0 dI0 mI0 gI0 hI0 : Value} {C2 I2 N2 : Addr} {nm2 qn2 qi2 : Str} {bs2 su2 : List Value} {sn2 : List Str} {ab2 : Bool} {co2 : Option Bool} {dd2 oI2 aI2 : Option Addr} {j02 j12 j22 j32 j52 : Option Value} {sI2 : Array (Option Value)} {tI2 dI2 mI2 gI2 hI2 : Value} {C9 I9 N9 : Addr} {nm9 qn9 qi9 : Str} {bs9 su9 : List Value} {sn9 : List Str} {ab9 : Bool} {co9 : Option Bool} {dd9 oI9 aI9 : Option Addr} {j09 j19 j29 j39 j59 : Option Value} {sI9 : Array (Option Value)} {tI9 dI9 mI9 gI9 hI9 : Value} {t_MOST_THINGS : Tok} {p_WAYS : Addr} {od_WAYS : Option Addr} {n_WAYS : Nat} {sl_WAYS : Array (Option Value)} {t0_WAYS t1_WAYS t2_WAYS t3_WAYS : Tok}
    (X : K.In h) (G0 : h.Ns mainGlobals mg) (hfa : mg "law" = some (.ref fl)) (tabs : ∀ (d : DefRec) (x : Str) (c P : Addr), (recsOf q).find? (fun e => e.name == x) = some d → PySem.W.tabIn K x = some (c, P) → PySem.W.CodeHd h c P ∧ h.get? P = some (PySem.W.tabObj #[]))
    (a0 : PySem.W.nsIn K mainGlobals "is_whole" = some (some (.ref f0)))
    (l0 : K.lookup f0 = some ⟨oc0, od0, .func (PySem.W.fnOf "is_whole" "is_whole" (defArgs s0) (defBody s0) (defScope s0) .none kV0 dc0 pm0 an0 cd0 ct0), sl0⟩)
    (c0 : PySem.W.codeIn K cd0 "is_whole" = true)
    (k0 : PySem.W.keepIn K (.ref f0) = true)
    (a47 : PySem.W.nsIn K mainGlobals "check_forest" = some (some (.ref f47)))
    (l47 : K.lookup f47 = some ⟨oc47, od47, .func (PySem.W.fnOf "check_forest" "check_forest" (defArgs s47) (defBody s47) (defScope s47) .none kV47 dc47 pm47 an47 cd47 ct47), sl47⟩)
    (c47 : PySem.W.codeIn K cd47 "check_forest" = true)
    (k47 : PySem.W.keepIn K (.ref f47) = true)
    (a2 : PySem.W.nsIn K mainGlobals "on_ring" = some (some (.ref f2)))
    (l2 : K.lookup f2 = some ⟨oc2, od2, .func (PySem.W.fnOf "on_ring" "on_ring" (defArgs s2) (defBody s2) (defScope s2) .none kV2 dc2 pm2 an2 cd2 ct2), sl2⟩)
    (c2 : PySem.W.codeIn K cd2 "on_ring" = true)
    (k2 : PySem.W.keepIn K (.ref f2) = true)
    (a48 : PySem.W.nsIn K mainGlobals "check_thing" = some (some (.ref f48)))
    (l48 : K.lookup f48 = some ⟨oc48, od48, .func (PySem.W.fnOf "check_thing" "check_thing" (defArgs s48) (defBody s48) (defScope s48) .none kV48 dc48 pm48 an48 cd48 ct48), sl48⟩)
    (c48 : PySem.W.codeIn K cd48 "check_thing" = true)
    (k48 : PySem.W.keepIn K (.ref f48) = true)
    (a5 : PySem.W.nsIn K mainGlobals "way_in" = some (some (.ref f5)))
    (l5 : K.lookup f5 = some ⟨oc5, od5, .func (PySem.W.fnOf "way_in" "way_in" (defArgs s5) (defBody s5) (defScope s5) .none kV5 dc5 pm5 an5 cd5 ct5), sl5⟩)
    (c5 : PySem.W.codeIn K cd5 "way_in" = true)
    (k5 : PySem.W.keepIn K (.ref f5) = true)
    (a49 : PySem.W.nsIn K mainGlobals "check_way" = some (some (.ref f49)))
    (l49 : K.lookup f49 = some ⟨oc49, od49, .func (PySem.W.fnOf "check_way" "check_way" (defArgs s49) (defBody s49) (defScope s49) .none kV49 dc49 pm49 an49 cd49 ct49), sl49⟩)
    (c49 : PySem.W.codeIn K cd49 "check_way" = true)
    (k49 : PySem.W.keepIn K (.ref f49) = true)
    (a50 : PySem.W.nsIn K mainGlobals "moved_on" = some (some (.ref f50)))
    (l50 : K.lookup f50 = some ⟨oc50, od50, .func (PySem.W.fnOf "moved_on" "moved_on" (defArgs s50) (defBody s50) (defScope s50) .none kV50 dc50 pm50 an50 cd50 ct50), sl50⟩)
    (c50 : PySem.W.codeIn K cd50 "moved_on" = true)
    (k50 : PySem.W.keepIn K (.ref f50) = true)
    (a51 : PySem.W.nsIn K mainGlobals "found" = some (some (.ref f51)))
    (l51 : K.lookup f51 = some ⟨oc51, od51, .func (PySem.W.fnOf "found" "found" (defArgs s51) (defBody s51) (defScope s51) .none kV51 dc51 pm51 an51 cd51 ct51), sl51⟩)
    (c51 : PySem.W.codeIn K cd51 "found" = true)
    (k51 : PySem.W.keepIn K (.ref f51) = true)
    (a52 : PySem.W.nsIn K mainGlobals "finds" = some (some (.ref f52)))
    (l52 : K.lookup f52 = some ⟨oc52, od52, .func (PySem.W.fnOf "finds" "finds" (defArgs s52) (defBody s52) (defScope s52) .none kV52 dc52 pm52 an52 cd52 ct52), sl52⟩)
    (c52 : PySem.W.codeIn K cd52 "finds" = true)
    (k52 : PySem.W.keepIn K (.ref f52) = true)
    (a17 : PySem.W.nsIn K mainGlobals "_law_draws" = some (some (.ref f17)))
    (l17 : K.lookup f17 = some ⟨oc17, od17, .func (PySem.W.fnOf "_law_draws" "_law_draws" (defArgs s17) (defBody s17) (defScope s17) .none kV17 dc17 pm17 an17 cd17 ct17), sl17⟩)
    (c17 : PySem.W.codeIn K cd17 "_law_draws" = true)
    (k17 : PySem.W.keepIn K (.ref f17) = true)
    (a18 : PySem.W.nsIn K mainGlobals "_law_next" = some (some (.ref f18)))
    (l18 : K.lookup f18 = some ⟨oc18, od18, .func (PySem.W.fnOf "_law_next" "_law_next" (defArgs s18) (defBody s18) (defScope s18) .none kV18 dc18 pm18 an18 cd18 ct18), sl18⟩)
    (c18 : PySem.W.codeIn K cd18 "_law_next" = true)
    (k18 : PySem.W.keepIn K (.ref f18) = true)
    (a19 : PySem.W.nsIn K mainGlobals "_law_way" = some (some (.ref f19)))
    (l19 : K.lookup f19 = some ⟨oc19, od19, .func (PySem.W.fnOf "_law_way" "_law_way" (defArgs s19) (defBody s19) (defScope s19) .none kV19 dc19 pm19 an19 cd19 ct19), sl19⟩)
    (c19 : PySem.W.codeIn K cd19 "_law_way" = true)
    (k19 : PySem.W.keepIn K (.ref f19) = true)
    (a20 : PySem.W.nsIn K mainGlobals "_law_size" = some (some (.ref f20)))
    (l20 : K.lookup f20 = some ⟨oc20, od20, .func (PySem.W.fnOf "_law_size" "_law_size" (defArgs s20) (defBody s20) (defScope s20) .none kV20 dc20 pm20 an20 cd20 ct20), sl20⟩)
    (c20 : PySem.W.codeIn K cd20 "_law_size" = true)
    (k20 : PySem.W.keepIn K (.ref f20) = true)
    (a21 : PySem.W.nsIn K mainGlobals "_law_height" = some (some (.ref f21)))
    (l21 : K.lookup f21 = some ⟨oc21, od21, .func (PySem.W.fnOf "_law_height" "_law_height" (defArgs s21) (defBody s21) (defScope s21) .none kV21 dc21 pm21 an21 cd21 ct21), sl21⟩)
    (c21 : PySem.W.codeIn K cd21 "_law_height" = true)
    (k21 : PySem.W.keepIn K (.ref f21) = true)
    (a22 : PySem.W.nsIn K mainGlobals "_law_forest" = some (some (.ref f22)))
    (l22 : K.lookup f22 = some ⟨oc22, od22, .func (PySem.W.fnOf "_law_forest" "_law_forest" (defArgs s22) (defBody s22) (defScope s22) .none kV22 dc22 pm22 an22 cd22 ct22), sl22⟩)
    (c22 : PySem.W.codeIn K cd22 "_law_forest" = true)
    (k22 : PySem.W.keepIn K (.ref f22) = true)
    (a53 : PySem.W.nsIn K mainGlobals "_law_right" = some (some (.ref f53)))
    (l53 : K.lookup f53 = some ⟨oc53, od53, .func (PySem.W.fnOf "_law_right" "_law_right" (defArgs s53) (defBody s53) (defScope s53) .none kV53 dc53 pm53 an53 cd53 ct53), sl53⟩)
    (c53 : PySem.W.codeIn K cd53 "_law_right" = true)
    (k53 : PySem.W.keepIn K (.ref f53) = true)
    (a54 : PySem.W.nsIn K mainGlobals "law" = some (some (.ref f54)))
    (l54 : K.lookup f54 = some ⟨oc54, od54, .func (PySem.W.fnOf "law" "law" (defArgs s54) (defBody s54) (defScope s54) .none kV54 dc54 pm54 an54 cd54 ct54), sl54⟩)
    (c54 : PySem.W.codeIn K cd54 "law" = true)
    (k54 : PySem.W.keepIn K (.ref f54) = true)
    (a900 : PySem.W.nsIn K mainGlobals "_law_told" = some (some (.ref f900)))
    (l900 : K.lookup f900 = some ⟨oc900, od900, .func (PySem.W.fnOf "_law_told" "_law_told" (defArgs s900) (defBody s900) (defScope s900) .none kV900 dc900 pm900 an900 cd900 ct900), sl900⟩)
    (c900 : PySem.W.codeIn K cd900 "_law_told" = true)
    (k900 : PySem.W.keepIn K (.ref f900) = true)
    (t1_53 : (PySem.W.tabIn K "_law_right").map (fun p => Value.ref p.1) = some cd53)
    (t2_53 : ((PySem.W.tabIn K "_law_right").all fun p => (K.lookup p.2).isNone) = true)
    (rr_53 : ((recsOf q).find? (fun e => e.name == ("_law_right" : Str))).isSome = true)
    (t1_54 : (PySem.W.tabIn K "law").map (fun p => Value.ref p.1) = some cd54)
    (t2_54 : ((PySem.W.tabIn K "law").all fun p => (K.lookup p.2).isNone) = true)
    (rr_54 : ((recsOf q).find? (fun e => e.name == ("law" : Str))).isSome = true)
    (ne_53_54 : ((PySem.W.tabIn K "_law_right").map (·.2) == (PySem.W.tabIn K "law").map (·.2)) = false)
    (xa0 : PySem.W.nsIn K mainGlobals "InvalidForest" = some (some (.ref C0)))
    (xl0 : K.lookup C0 = some (excClassObj nm0 qn0 C0 N0 bs0 PVE.tailVE true sn0 su0 ab0 co0 dd0 j00 j10 j20 j30 j50 "ValueError.__new__"))
    (xn0 : PySem.W.nsOkIn K N0 = true)
    (xf0 : PySem.W.nsIn K N0 "index" = some none)
    (xs0 : PySem.W.findIn K (.ref C0) "__setattr__" = some (some (.builtin "object.__setattr__")))
    (xi0 : PySem.W.findIn K (.ref C0) "__init__" = some (some (.ref I0)))
    (xt0 : PySem.W.typeIn K (.ref I0) = some (.type "function"))
    (xk0 : PySem.W.keepIn K (.ref C0) = true)
    (xe0 : PySem.W.subIn K (.ref C0) (.type "BaseException") = some true)
    (xy0 : PySem.W.typeIn K (.ref C0) = some (.type "type"))
    (xg0 : PySem.W.findIn K (.ref C0) "__getattribute__" = some (some (.builtin "BaseException.__getattribute__")))
    (xh0 : PySem.W.findIn K (.ref C0) "__getattr__" = some none)
    (xd0 : PySem.W.hasDictIn K C0 = true)
    (xc0 : PySem.W.findIn K (.ref C0) "__class__" = some (some (.builtin "object.__class__")))
    (xm0 : PySem.W.mroIn K C0 (.type "object") = some true)
    (xo0 : PySem.W.findIn K (.ref C0) "index" = some none)
    (il0 : K.lookup I0 = some ⟨tI0, oI0, .func (PySem.W.fnOf "__init__" qi0 (defArgs i0) (defBody i0) (defScope i0) .none .none dI0 mI0 aI0 gI0 hI0), sI0⟩)
    (ic0 : PySem.W.codeIn K gI0 qi0 = true)
    (xa2 : PySem.W.nsIn K mainGlobals "InvalidWay" = some (some (.ref C2)))
    (xl2 : K.lookup C2 = some (excClassObj nm2 qn2 C2 N2 bs2 PVE.tailVE true sn2 su2 ab2 co2 dd2 j02 j12 j22 j32 j52 "ValueError.__new__"))
    (xn2 : PySem.W.nsOkIn K N2 = true)
    (xf2 : PySem.W.nsIn K N2 "way" = some none)
    (xs2 : PySem.W.findIn K (.ref C2) "__setattr__" = some (some (.builtin "object.__setattr__")))
    (xi2 : PySem.W.findIn K (.ref C2) "__init__" = some (some (.ref I2)))
    (xt2 : PySem.W.typeIn K (.ref I2) = some (.type "function"))
    (xk2 : PySem.W.keepIn K (.ref C2) = true)
    (xe2 : PySem.W.subIn K (.ref C2) (.type "BaseException") = some true)
    (xy2 : PySem.W.typeIn K (.ref C2) = some (.type "type"))
    (xg2 : PySem.W.findIn K (.ref C2) "__getattribute__" = some (some (.builtin "BaseException.__getattribute__")))
    (xh2 : PySem.W.findIn K (.ref C2) "__getattr__" = some none)
    (xd2 : PySem.W.hasDictIn K C2 = true)
    (xc2 : PySem.W.findIn K (.ref C2) "__class__" = some (some (.builtin "object.__class__")))
    (xm2 : PySem.W.mroIn K C2 (.type "object") = some true)
    (xo2 : PySem.W.findIn K (.ref C2) "way" = some none)
    (il2 : K.lookup I2 = some ⟨tI2, oI2, .func (PySem.W.fnOf "__init__" qi2 (defArgs i2) (defBody i2) (defScope i2) .none .none dI2 mI2 aI2 gI2 hI2), sI2⟩)
    (ic2 : PySem.W.codeIn K gI2 qi2 = true)
    (xa9 : PySem.W.nsIn K mainGlobals "UnknownThing" = some (some (.ref C9)))
    (xl9 : K.lookup C9 = some (excClassObj nm9 qn9 C9 N9 bs9 PVE.tailLE true sn9 su9 ab9 co9 dd9 j09 j19 j29 j39 j59 "LookupError.__new__"))
    (xn9 : PySem.W.nsOkIn K N9 = true)
    (xf9 : PySem.W.nsIn K N9 "thing" = some none)
    (xs9 : PySem.W.findIn K (.ref C9) "__setattr__" = some (some (.builtin "object.__setattr__")))
    (xi9 : PySem.W.findIn K (.ref C9) "__init__" = some (some (.ref I9)))
    (xt9 : PySem.W.typeIn K (.ref I9) = some (.type "function"))
    (xk9 : PySem.W.keepIn K (.ref C9) = true)
    (xe9 : PySem.W.subIn K (.ref C9) (.type "BaseException") = some true)
    (xy9 : PySem.W.typeIn K (.ref C9) = some (.type "type"))
    (xg9 : PySem.W.findIn K (.ref C9) "__getattribute__" = some (some (.builtin "BaseException.__getattribute__")))
    (xh9 : PySem.W.findIn K (.ref C9) "__getattr__" = some none)
    (xd9 : PySem.W.hasDictIn K C9 = true)
    (xc9 : PySem.W.findIn K (.ref C9) "__class__" = some (some (.builtin "object.__class__")))
    (xm9 : PySem.W.mroIn K C9 (.type "object") = some true)
    (xo9 : PySem.W.findIn K (.ref C9) "thing" = some none)
    (il9 : K.lookup I9 = some ⟨tI9, oI9, .func (PySem.W.fnOf "__init__" qi9 (defArgs i9) (defBody i9) (defScope i9) .none .none dI9 mI9 aI9 gI9 hI9), sI9⟩)
    (ic9 : PySem.W.codeIn K gI9 qi9 = true)
    (xp : PySem.W.specialIn K (.builtin "object.__class__") "__get__" = some (some (.builtin "getset_descriptor.__get__")))
    (xq : PySem.W.takesIn K (.builtin "object.__class__") = some true)
    (em900_0 : PySem.W.exmAny K (.ref C0) [.ref C0, .ref C2, .ref C9] = some true)
    (em900_2 : PySem.W.exmAny K (.ref C2) [.ref C0, .ref C2, .ref C9] = some true)
    (em900_9 : PySem.W.exmAny K (.ref C9) [.ref C0, .ref C2, .ref C9] = some true)
    (kt900_own9_0 : PySem.W.kitOne K (.ref C0) (.ref C9) = some false)
    (kt900_own9_2 : PySem.W.kitOne K (.ref C2) (.ref C9) = some false)
    (kt900_own9_9 : PySem.W.kitOne K (.ref C9) (.ref C9) = some true)
    (kt900_tyLookupError_0 : PySem.W.kitOne K (.ref C0) (.type "LookupError") = some false)
    (kt900_tyLookupError_2 : PySem.W.kitOne K (.ref C2) (.type "LookupError") = some false)
    (kt900_tyLookupError_9 : PySem.W.kitOne K (.ref C9) (.type "LookupError") = some true)
    (kt900_tyValueError_0 : PySem.W.kitOne K (.ref C0) (.type "ValueError") = some true)
    (kt900_tyValueError_2 : PySem.W.kitOne K (.ref C2) (.type "ValueError") = some true)
    (kt900_tyValueError_9 : PySem.W.kitOne K (.ref C9) (.type "ValueError") = some false)
    (kt900_own0_0 : PySem.W.kitOne K (.ref C0) (.ref C0) = some true)
    (kt900_own0_2 : PySem.W.kitOne K (.ref C2) (.ref C0) = some false)
    (kt900_own0_9 : PySem.W.kitOne K (.ref C9) (.ref C0) = some false)
    (z_LookupError : PySem.W.nsIn K mainGlobals "LookupError" = some none)
    (z_ValueError : PySem.W.nsIn K mainGlobals "ValueError" = some none)
    (z_bool : PySem.W.nsIn K mainGlobals "bool" = some none)
    (z_enumerate : PySem.W.nsIn K mainGlobals "enumerate" = some none)
    (z_int : PySem.W.nsIn K mainGlobals "int" = some none)
    (z_isinstance : PySem.W.nsIn K mainGlobals "isinstance" = some none)
    (z_len : PySem.W.nsIn K mainGlobals "len" = some none)
    (z_list : PySem.W.nsIn K mainGlobals "list" = some none)
    (z_max : PySem.W.nsIn K mainGlobals "max" = some none)
    (z_range : PySem.W.nsIn K mainGlobals "range" = some none)
    (z_repr : PySem.W.nsIn K mainGlobals "repr" = some none)
    (z_str : PySem.W.nsIn K mainGlobals "str" = some none)
    (g_MOST_THINGS : PySem.W.nsIn K mainGlobals "MOST_THINGS" = some (some (.int 40 t_MOST_THINGS)))
    (g_WAYS : PySem.W.nsIn K mainGlobals "WAYS" = some (some (.ref p_WAYS)))
    (gl_WAYS : K.lookup p_WAYS = some ⟨.type "tuple", od_WAYS, .seq #[.str "none" t0_WAYS, .str "all" t1_WAYS, .str "halves" t2_WAYS, .str "splits" t3_WAYS] n_WAYS, sl_WAYS⟩)
    : LawT l.prog w K q defs globs ww 210 54 212 "_law_script" mg fl h := by
  have e := hfa.symm.trans (PySem.W.mg_of X G0 a54)
  cases e
  let fa : Nat → Addr := fun i => match i with | 0 => f0 | 47 => f47 | 2 => f2 | 48 => f48 | 5 => f5 | 49 => f49 | 50 => f50 | 51 => f51 | 52 => f52 | 17 => f17 | 18 => f18 | 19 => f19 | 20 => f20 | 21 => f21 | 22 => f22 | 53 => f53 | 54 => fl | 900 => f900 | _ => 0
  let fd : Nat → FuncData := fun i => match i with | 0 => PySem.W.fnOf "is_whole" "is_whole" (defArgs s0) (defBody s0) (defScope s0) .none kV0 dc0 pm0 an0 cd0 ct0 | 47 => PySem.W.fnOf "check_forest" "check_forest" (defArgs s47) (defBody s47) (defScope s47) .none kV47 dc47 pm47 an47 cd47 ct47 | 2 => PySem.W.fnOf "on_ring" "on_ring" (defArgs s2) (defBody s2) (defScope s2) .none kV2 dc2 pm2 an2 cd2 ct2 | 48 => PySem.W.fnOf "check_thing" "check_thing" (defArgs s48) (defBody s48) (defScope s48) .none kV48 dc48 pm48 an48 cd48 ct48 | 5 => PySem.W.fnOf "way_in" "way_in" (defArgs s5) (defBody s5) (defScope s5) .none kV5 dc5 pm5 an5 cd5 ct5 | 49 => PySem.W.fnOf "check_way" "check_way" (defArgs s49) (defBody s49) (defScope s49) .none kV49 dc49 pm49 an49 cd49 ct49 | 50 => PySem.W.fnOf "moved_on" "moved_on" (defArgs s50) (defBody s50) (defScope s50) .none kV50 dc50 pm50 an50 cd50 ct50 | 51 => PySem.W.fnOf "found" "found" (defArgs s51) (defBody s51) (defScope s51) .none kV51 dc51 pm51 an51 cd51 ct51 | 52 => PySem.W.fnOf "finds" "finds" (defArgs s52) (defBody s52) (defScope s52) .none kV52 dc52 pm52 an52 cd52 ct52 | 17 => PySem.W.fnOf "_law_draws" "_law_draws" (defArgs s17) (defBody s17) (defScope s17) .none kV17 dc17 pm17 an17 cd17 ct17 | 18 => PySem.W.fnOf "_law_next" "_law_next" (defArgs s18) (defBody s18) (defScope s18) .none kV18 dc18 pm18 an18 cd18 ct18 | 19 => PySem.W.fnOf "_law_way" "_law_way" (defArgs s19) (defBody s19) (defScope s19) .none kV19 dc19 pm19 an19 cd19 ct19 | 20 => PySem.W.fnOf "_law_size" "_law_size" (defArgs s20) (defBody s20) (defScope s20) .none kV20 dc20 pm20 an20 cd20 ct20 | 21 => PySem.W.fnOf "_law_height" "_law_height" (defArgs s21) (defBody s21) (defScope s21) .none kV21 dc21 pm21 an21 cd21 ct21 | 22 => PySem.W.fnOf "_law_forest" "_law_forest" (defArgs s22) (defBody s22) (defScope s22) .none kV22 dc22 pm22 an22 cd22 ct22 | 53 => PySem.W.fnOf "_law_right" "_law_right" (defArgs s53) (defBody s53) (defScope s53) .none kV53 dc53 pm53 an53 cd53 ct53 | 54 => PySem.W.fnOf "law" "law" (defArgs s54) (defBody s54) (defScope s54) .none kV54 dc54 pm54 an54 cd54 ct54 | 900 => PySem.W.fnOf "_law_told" "_law_told" (defArgs s900) (defBody s900) (defScope s900) .none kV900 dc900 pm900 an900 cd900 ct900 | _ => PySem.W.fnOf "law" "law" (defArgs s54) (defBody s54) (defScope s54) .none kV54 dc54 pm54 an54 cd54 ct54
  obtain ⟨cq53, pq53, tb_53, cc_53, np_53⟩ := PV.tab_ex t1_53 t2_53
  obtain ⟨dr53, rd_53⟩ := Option.isSome_iff_exists.mp rr_53
  have tt_53 := tabs dr53 "_law_right" cq53 pq53 rd_53 tb_53
  obtain ⟨cq54, pq54, tb_54, cc_54, np_54⟩ := PV.tab_ex t1_54 t2_54
  obtain ⟨dr54, rd_54⟩ := Option.isSome_iff_exists.mp rr_54
  have tt_54 := tabs dr54 "law" cq54 pq54 rd_54 tb_54
  have nq_53_54 : pq53 ≠ pq54 := PV.tab_ne tb_53 tb_54 ne_53_54
  let cc : Nat → Addr := fun i => match i with | 53 => cq53 | 54 => cq54 | _ => 0
  let pp : Nat → Addr := fun i => match i with | 53 => pq53 | 54 => pq54 | _ => 0
  let fe : Nat → Addr := fun i => match i with | 0 => I0 | 2 => I2 | 9 => I9 | _ => 0
  letI T0 : Tbs := ⟨[(pq53, ("_law_right" : Str) ++ ".<locals>." ++ "<lambda>"), (pq54, ("law" : Str) ++ ".<locals>." ++ "<lambda>")]⟩
  letI E0 : Exs := ⟨fun c => match c with | 0 => C0 | 2 => C2 | 9 => C9 | _ => 0, fun c => match c with | 0 => ["index"] | 2 => ["way"] | 9 => ["thing"] | _ => []⟩
  have F0 : L2.Fun K "is_whole" "is_whole" s0 (fa 0) (fd 0) := fun_mk (st := s0) l0 c0 k0
  have B0 : Binds K (fd 0) ["thing"] [] := F0.binds (ps := ["thing"]) fun _ _ _ _ _ _ us hl => match us, hl with | [_], _ => rfl
  have F47 : L2.Fun K "check_forest" "check_forest" s47 (fa 47) (fd 47) := fun_mk (st := s47) l47 c47 k47
  have B47 : Binds K (fd 47) ["forest"] [] := F47.binds (ps := ["forest"]) fun _ _ _ _ _ _ us hl => match us, hl with | [_], _ => rfl
  have F2 : L2.Fun K "on_ring" "on_ring" s2 (fa 2) (fd 2) := fun_mk (st := s2) l2 c2 k2
  have B2 : Binds K (fd 2) ["forest", "thing"] [] := F2.binds (ps := ["forest", "thing"]) fun _ _ _ _ _ _ us hl => match us, hl with | [_, _], _ => rfl
  have F48 : L2.Fun K "check_thing" "check_thing" s48 (fa 48) (fd 48) := fun_mk (st := s48) l48 c48 k48
  have B48 : Binds K (fd 48) ["thing", "forest"] [] := F48.binds (ps := ["thing", "forest"]) fun _ _ _ _ _ _ us hl => match us, hl with | [_, _], _ => rfl
  have F5 : L2.Fun K "way_in" "way_in" s5 (fa 5) (fd 5) := fun_mk (st := s5) l5 c5 k5
  have B5 : Binds K (fd 5) ["forest", "thing"] [] := F5.binds (ps := ["forest", "thing"]) fun _ _ _ _ _ _ us hl => match us, hl with | [_, _], _ => rfl
  have F49 : L2.Fun K "check_way" "check_way" s49 (fa 49) (fd 49) := fun_mk (st := s49) l49 c49 k49
  have B49 : Binds K (fd 49) ["way"] [] := F49.binds (ps := ["way"]) fun _ _ _ _ _ _ us hl => match us, hl with | [_], _ => rfl
  have F50 : L2.Fun K "moved_on" "moved_on" s50 (fa 50) (fd 50) := fun_mk (st := s50) l50 c50 k50
  have B50 : Binds K (fd 50) ["row", "way"] [] := F50.binds (ps := ["row", "way"]) fun _ _ _ _ _ _ us hl => match us, hl with | [_, _], _ => rfl
  have F51 : L2.Fun K "found" "found" s51 (fa 51) (fd 51) := fun_mk (st := s51) l51 c51 k51
  have B51 : Binds K (fd 51) ["forest", "thing", "way"] [] := F51.binds (ps := ["forest", "thing", "way"]) fun _ _ _ _ _ _ us hl => match us, hl with | [_, _, _], _ => rfl
  have F52 : L2.Fun K "finds" "finds" s52 (fa 52) (fd 52) := fun_mk (st := s52) l52 c52 k52
  have B52 : Binds K (fd 52) ["forest", "things", "way"] [] := F52.binds (ps := ["forest", "things", "way"]) fun _ _ _ _ _ _ us hl => match us, hl with | [_, _, _], _ => rfl
  have F17 : L2.Fun K "_law_draws" "_law_draws" s17 (fa 17) (fd 17) := fun_mk (st := s17) l17 c17 k17
  have B17 : Binds K (fd 17) ["_law_cell"] [] := F17.binds (ps := ["_law_cell"]) fun _ _ _ _ _ _ us hl => match us, hl with | [_], _ => rfl
  have F18 : L2.Fun K "_law_next" "_law_next" s18 (fa 18) (fd 18) := fun_mk (st := s18) l18 c18 k18
  have B18 : Binds K (fd 18) ["_law_draws_here"] [] := F18.binds (ps := ["_law_draws_here"]) fun _ _ _ _ _ _ us hl => match us, hl with | [_], _ => rfl
  have F19 : L2.Fun K "_law_way" "_law_way" s19 (fa 19) (fd 19) := fun_mk (st := s19) l19 c19 k19
  have B19 : Binds K (fd 19) ["_law_wood", "_law_item"] [] := F19.binds (ps := ["_law_wood", "_law_item"]) fun _ _ _ _ _ _ us hl => match us, hl with | [_, _], _ => rfl
  have F20 : L2.Fun K "_law_size" "_law_size" s20 (fa 20) (fd 20) := fun_mk (st := s20) l20 c20 k20
  have B20 : Binds K (fd 20) ["_law_wood", "_law_item"] [] := F20.binds (ps := ["_law_wood", "_law_item"]) fun _ _ _ _ _ _ us hl => match us, hl with | [_, _], _ => rfl
  have F21 : L2.Fun K "_law_height" "_law_height" s21 (fa 21) (fd 21) := fun_mk (st := s21) l21 c21 k21
  have B21 : Binds K (fd 21) ["_law_wood", "_law_item"] [] := F21.binds (ps := ["_law_wood", "_law_item"]) fun _ _ _ _ _ _ us hl => match us, hl with | [_, _], _ => rfl
  have F22 : L2.Fun K "_law_forest" "_law_forest" s22 (fa 22) (fd 22) := fun_mk (st := s22) l22 c22 k22
  have B22 : Binds K (fd 22) ["_law_draws_here", "_law_most"] [] := F22.binds (ps := ["_law_draws_here", "_law_most"]) fun _ _ _ _ _ _ us hl => match us, hl with | [_, _], _ => rfl
  have F53 : L2.Fun K "_law_right" "_law_right" s53 (fa 53) (fd 53) := fun_mk (st := s53) l53 c53 k53
  have B53 : Binds K (fd 53) ["_law_wood"] [] := F53.binds (ps := ["_law_wood"]) fun _ _ _ _ _ _ us hl => match us, hl with | [_], _ => rfl
  have F54 : L2.Fun K "law" "law" s54 (fa 54) (fd 54) := fun_mk (st := s54) l54 c54 k54
  have B54 : Binds K (fd 54) ["_law_script"] [] := F54.binds (ps := ["_law_script"]) fun _ _ _ _ _ _ us hl => match us, hl with | [_], _ => rfl
  have F900 : L2.Fun K "_law_told" "_law_told" s900 (fa 900) (fd 900) := fun_mk (st := s900) l900 c900 k900
  have B900 : Binds K (fd 900) ["_law_ask"] [] := F900.binds (ps := ["_law_ask"]) fun _ _ _ _ _ _ us hl => match us, hl with | [_], _ => rfl
  have X0 : PVE.ClsE K mg "InvalidForest" "index" "ValueError" "ValueError.__new__" "ValueError.__init__" PVE.tailVE (Exs.cls 0) (fe 0) := by
    obtain ⟨p1, p2, q1, q2, q3, q4, e1, e2, e3⟩ := it0
    rw [e1, e2, e3] at il0
    exact ⟨PySem.F.excBase_ValueError, PySem.F.store_ValueError, nb0, PySem.W.mg_of X G0 xa0, ⟨_, _, _, _, _, _, _, _, _, _, _, _, _, _, xl0, xn0, xf0⟩, xs0, xi0, xt0, xk0, xe0, xy0, ⟨_, _, _, _, _, _, _, _, _, p1, p2, q1, q2, q3, q4, il0, ic0⟩, fun _ _ _ _ _ _ _ _ _ _ _ _ _ _ => rfl, by decide, by decide⟩
  have X2 : PVE.ClsE K mg "InvalidWay" "way" "ValueError" "ValueError.__new__" "ValueError.__init__" PVE.tailVE (Exs.cls 2) (fe 2) := by
    obtain ⟨p1, p2, q1, q2, q3, q4, e1, e2, e3⟩ := it2
    rw [e1, e2, e3] at il2
    exact ⟨PySem.F.excBase_ValueError, PySem.F.store_ValueError, nb2, PySem.W.mg_of X G0 xa2, ⟨_, _, _, _, _, _, _, _, _, _, _, _, _, _, xl2, xn2, xf2⟩, xs2, xi2, xt2, xk2, xe2, xy2, ⟨_, _, _, _, _, _, _, _, _, p1, p2, q1, q2, q3, q4, il2, ic2⟩, fun _ _ _ _ _ _ _ _ _ _ _ _ _ _ => rfl, by decide, by decide⟩
  have X9 : PVE.ClsE K mg "UnknownThing" "thing" "LookupError" "LookupError.__new__" "LookupError.__init__" PVE.tailLE (Exs.cls 9) (fe 9) := by
    obtain ⟨p1, p2, q1, q2, q3, q4, e1, e2, e3⟩ := it9
    rw [e1, e2, e3] at il9
    exact ⟨PySem.F.excBase_LookupError, PVE.store_LE, nb9, PySem.W.mg_of X G0 xa9, ⟨_, _, _, _, _, _, _, _, _, _, _, _, _, _, xl9, xn9, xf9⟩, xs9, xi9, xt9, xk9, xe9, xy9, ⟨_, _, _, _, _, _, _, _, _, p1, p2, q1, q2, q3, q4, il9, ic9⟩, fun _ _ _ _ _ _ _ _ _ _ _ _ _ _ => rfl, by decide, by decide⟩
  have g : G K w mg fa fd fe cc pp := ⟨F0, B0, PySem.W.mg_of X G0 a0, F47, B47, PySem.W.mg_of X G0 a47, F2, B2, PySem.W.mg_of X G0 a2, F48, B48, PySem.W.mg_of X G0 a48, F5, B5, PySem.W.mg_of X G0 a5, F49, B49, PySem.W.mg_of X G0 a49, F50, B50, PySem.W.mg_of X G0 a50, F51, B51, PySem.W.mg_of X G0 a51, F52, B52, PySem.W.mg_of X G0 a52, F17, B17, PySem.W.mg_of X G0 a17, F18, B18, PySem.W.mg_of X G0 a18, F19, B19, PySem.W.mg_of X G0 a19, F20, B20, PySem.W.mg_of X G0 a20, F21, B21, PySem.W.mg_of X G0 a21, F22, B22, PySem.W.mg_of X G0 a22, F53, B53, PySem.W.mg_of X G0 a53, F54, B54, PySem.W.mg_of X G0 a54, cc_53, List.mem_cons_self, (List.forall_mem_cons.mpr ⟨fun _ => rfl, (List.forall_mem_cons.mpr ⟨fun z => absurd z (Ne.symm nq_53_54), (fun _ h => (List.not_mem_nil h).elim)⟩)⟩), cc_54, (List.mem_cons_of_mem _ List.mem_cons_self), (List.forall_mem_cons.mpr ⟨fun z => absurd z nq_53_54, (List.forall_mem_cons.mpr ⟨fun _ => rfl, (fun _ h => (List.not_mem_nil h).elim)⟩)⟩), X0, rfl, X2, rfl, X9, rfl, F900, B900, PySem.W.mg_of X G0 a900, ⟨(List.forall_mem_cons.mpr ⟨⟨xg0, xh0, xe0, xd0, xc0, xp, xq, xm0⟩, (List.forall_mem_cons.mpr ⟨⟨xg2, xh2, xe2, xd2, xc2, xp, xq, xm2⟩, (List.forall_mem_cons.mpr ⟨⟨xg9, xh9, xe9, xd9, xc9, xp, xq, xm9⟩, (fun _ h => (List.not_mem_nil h).elim)⟩)⟩)⟩), (List.forall_mem_cons.mpr ⟨(List.forall_mem_cons.mpr ⟨xo0, (fun _ h => (List.not_mem_nil h).elim)⟩), (List.forall_mem_cons.mpr ⟨(List.forall_mem_cons.mpr ⟨xo2, (fun _ h => (List.not_mem_nil h).elim)⟩), (List.forall_mem_cons.mpr ⟨(List.forall_mem_cons.mpr ⟨xo9, (fun _ h => (List.not_mem_nil h).elim)⟩), (fun _ h => (List.not_mem_nil h).elim)⟩)⟩)⟩)⟩, (List.forall_mem_cons.mpr ⟨PVE.mt3 em900_0, (List.forall_mem_cons.mpr ⟨PVE.mt3 em900_2, (List.forall_mem_cons.mpr ⟨PVE.mt3 em900_9, (fun _ h => (List.not_mem_nil h).elim)⟩)⟩)⟩), (List.forall_mem_cons.mpr ⟨kt900_own9_0, (List.forall_mem_cons.mpr ⟨kt900_own9_2, (List.forall_mem_cons.mpr ⟨kt900_own9_9, (fun _ h => (List.not_mem_nil h).elim)⟩)⟩)⟩), (List.forall_mem_cons.mpr ⟨kt900_tyLookupError_0, (List.forall_mem_cons.mpr ⟨kt900_tyLookupError_2, (List.forall_mem_cons.mpr ⟨kt900_tyLookupError_9, (fun _ h => (List.not_mem_nil h).elim)⟩)⟩)⟩), (List.forall_mem_cons.mpr ⟨kt900_tyValueError_0, (List.forall_mem_cons.mpr ⟨kt900_tyValueError_2, (List.forall_mem_cons.mpr ⟨kt900_tyValueError_9, (fun _ h => (List.not_mem_nil h).elim)⟩)⟩)⟩), (List.forall_mem_cons.mpr ⟨kt900_own0_0, (List.forall_mem_cons.mpr ⟨kt900_own0_2, (List.forall_mem_cons.mpr ⟨kt900_own0_9, (fun _ h => (List.not_mem_nil h).elim)⟩)⟩)⟩), PySem.W.mg_none_of X G0 z_LookupError, PySem.W.mg_none_of X G0 z_ValueError, PySem.W.mg_none_of X G0 z_bool, PySem.W.mg_none_of X G0 z_enumerate, PySem.W.mg_none_of X G0 z_int, PySem.W.mg_none_of X G0 z_isinstance, PySem.W.mg_none_of X G0 z_len, PySem.W.mg_none_of X G0 z_list, PySem.W.mg_none_of X G0 z_max, PySem.W.mg_none_of X G0 z_range, PySem.W.mg_none_of X G0 z_repr, PySem.W.mg_none_of X G0 z_str, ⟨_, PySem.W.mg_of X G0 g_MOST_THINGS⟩, ⟨_, PySem.W.mg_of X G0 g_WAYS, _, rfl, _, _, _, gl_WAYS, rfl, rfl, (show 4 ≤ sizeLine by decide), [.str "none", .str "all", .str "halves", .str "splits"], .cons ⟨_, rfl⟩ (.cons ⟨_, rfl⟩ (.cons ⟨_, rfl⟩ (.cons ⟨_, rfl⟩ (.nil)))), ⟨rfl, ⟨rfl, ⟨rfl, ⟨rfl, trivial⟩⟩⟩⟩⟩⟩
  refine ⟨T0, [(cq53, pq53), (cq54, pq54)], fd 54, PV.tt_of rfl, (List.forall_mem_cons.mpr ⟨tt_53.2, (List.forall_mem_cons.mpr ⟨tt_54.2, (fun _ h => (List.not_mem_nil h).elim)⟩)⟩), (List.forall_mem_cons.mpr ⟨np_53, (List.forall_mem_cons.mpr ⟨np_54, (fun _ h => (List.not_mem_nil h).elim)⟩)⟩), (List.forall_mem_cons.mpr ⟨tt_53.1, (List.forall_mem_cons.mpr ⟨tt_54.1, (fun _ h => (List.not_mem_nil h).elim)⟩)⟩), fun s u => .of_eq rfl, fun base _ _ tb => (al (P := l.prog) (w := w) (base := base) g ⟨tb _ List.mem_cons_self, tb _ (List.mem_cons_of_mem _ List.mem_cons_self)⟩ 210).c54⟩

end K36
end

section
set_option Elab.async false
set_option maxRecDepth 100000
namespace K36
open PySem PySem.Spec PyProof.Rows L2 PV
theorem plain (ns : List Int) (hl : ns.length ≤ 63) (hb : ∀ z ∈ ns, Builtin.Int.intBits z ≤ 1048576) : ∃ m ios, callD defs globs ww 210 54 [(.shr, .list (ns.map .int))] = .ret m (.bool true) ios := ⟨_, _, plain36 ns hl⟩
end K36
open PySem PySem.W PyProof.Rows
set_option maxHeartbeats 0 in
theorem PySem.Challenge.cw_headtrees_k36_what_finds_refuse_holds : PySem.Challenge.rw_headtrees_k36_what_finds_refuse.Holds := by
  w_on; o_law; k_head; (case hw => w_witness2)
  k_fill
  refine PV.walkT (l := PySem.Challenge.rw_headtrees_k36_what_finds_refuse) (n := 210) (nm := 63) (li := 54) (rm := 212) (ww := K36.ww) (x := "_law_script") (defs := K36.defs) (globs := K36.globs) rfl (by decide) rfl ⟨rfl, by decide, by decide⟩ (fun w h Y => by first | exact PySem.W.km_in_of Y | exact PySem.W.kIn_of Y) ?F K36.plain
  case F =>
    intro w mg fa h KX G hmg tabs
    refine' K36.all_mk KX G hmg tabs ?a0 ?l0 ?c0 ?k0 ?a47 ?l47 ?c47 ?k47 ?a2 ?l2 ?c2 ?k2 ?a48 ?l48 ?c48 ?k48 ?a5 ?l5 ?c5 ?k5 ?a49 ?l49 ?c49 ?k49 ?a50 ?l50 ?c50 ?k50 ?a51 ?l51 ?c51 ?k51 ?a52 ?l52 ?c52 ?k52 ?a17 ?l17 ?c17 ?k17 ?a18 ?l18 ?c18 ?k18 ?a19 ?l19 ?c19 ?k19 ?a20 ?l20 ?c20 ?k20 ?a21 ?l21 ?c21 ?k21 ?a22 ?l22 ?c22 ?k22 ?a53 ?l53 ?c53 ?k53 ?a54 ?l54 ?c54 ?k54 ?a900 ?l900 ?c900 ?k900 ?t1_53 ?t2_53 ?rr_53 ?t1_54 ?t2_54 ?rr_54 ?ne_53_54 ?xa0 ?xl0 ?xn0 ?xf0 ?xs0 ?xi0 ?xt0 ?xk0 ?xe0 ?xy0 ?xg0 ?xh0 ?xd0 ?xc0 ?xm0 ?xo0 ?il0 ?ic0 ?xa2 ?xl2 ?xn2 ?xf2 ?xs2 ?xi2 ?xt2 ?xk2 ?xe2 ?xy2 ?xg2 ?xh2 ?xd2 ?xc2 ?xm2 ?xo2 ?il2 ?ic2 ?xa9 ?xl9 ?xn9 ?xf9 ?xs9 ?xi9 ?xt9 ?xk9 ?xe9 ?xy9 ?xg9 ?xh9 ?xd9 ?xc9 ?xm9 ?xo9 ?il9 ?ic9 ?xp ?xq ?em900_0 ?em900_2 ?em900_9 ?kt900_own9_0 ?kt900_own9_2 ?kt900_own9_9 ?kt900_tyLookupError_0 ?kt900_tyLookupError_2 ?kt900_tyLookupError_9 ?kt900_tyValueError_0 ?kt900_tyValueError_2 ?kt900_tyValueError_9 ?kt900_own0_0 ?kt900_own0_2 ?kt900_own0_9 ?z_LookupError ?z_ValueError ?z_bool ?z_enumerate ?z_int ?z_isinstance ?z_len ?z_list ?z_max ?z_range ?z_repr ?z_str ?g_MOST_THINGS ?g_WAYS ?gl_WAYS
    (case a0 => k_is); (case l0 => k_is); (case c0 => k_is); (case k0 => k_is); (case a47 => k_is); (case l47 => k_is); (case c47 => k_is); (case k47 => k_is); (case a2 => k_is); (case l2 => k_is); (case c2 => k_is); (case k2 => k_is); (case a48 => k_is); (case l48 => k_is); (case c48 => k_is); (case k48 => k_is); (case a5 => k_is); (case l5 => k_is); (case c5 => k_is); (case k5 => k_is); (case a49 => k_is); (case l49 => k_is); (case c49 => k_is); (case k49 => k_is); (case a50 => k_is); (case l50 => k_is); (case c50 => k_is); (case k50 => k_is); (case a51 => k_is); (case l51 => k_is); (case c51 => k_is); (case k51 => k_is); (case a52 => k_is); (case l52 => k_is); (case c52 => k_is); (case k52 => k_is); (case a17 => k_is); (case l17 => k_is); (case c17 => k_is); (case k17 => k_is); (case a18 => k_is); (case l18 => k_is); (case c18 => k_is); (case k18 => k_is); (case a19 => k_is); (case l19 => k_is); (case c19 => k_is); (case k19 => k_is); (case a20 => k_is); (case l20 => k_is); (case c20 => k_is); (case k20 => k_is); (case a21 => k_is); (case l21 => k_is); (case c21 => k_is); (case k21 => k_is); (case a22 => k_is); (case l22 => k_is); (case c22 => k_is); (case k22 => k_is); (case a53 => k_is); (case l53 => k_is); (case c53 => k_is); (case k53 => k_is); (case a54 => k_is); (case l54 => k_is); (case c54 => k_is); (case k54 => k_is); (case a900 => k_is); (case l900 => k_is); (case c900 => k_is); (case k900 => k_is); (case t1_53 => kernel_rfl); (case t2_53 => kernel_rfl); (case rr_53 => kernel_rfl); (case t1_54 => kernel_rfl); (case t2_54 => kernel_rfl); (case rr_54 => kernel_rfl); (case ne_53_54 => kernel_rfl); (case xa0 => k_is); (case xl0 => k_is); (case xn0 => kernel_rfl); (case xf0 => k_is); (case xs0 => k_is); (case xi0 => k_is); (case xt0 => k_is); (case xk0 => k_is); (case xe0 => k_is); (case xy0 => k_is); (case xg0 => k_is); (case xh0 => k_is); (case xd0 => k_is); (case xc0 => k_is); (case xm0 => k_is); (case xo0 => k_is); (case il0 => k_is); (case ic0 => k_is); (case xa2 => k_is); (case xl2 => k_is); (case xn2 => kernel_rfl); (case xf2 => k_is); (case xs2 => k_is); (case xi2 => k_is); (case xt2 => k_is); (case xk2 => k_is); (case xe2 => k_is); (case xy2 => k_is); (case xg2 => k_is); (case xh2 => k_is); (case xd2 => k_is); (case xc2 => k_is); (case xm2 => k_is); (case xo2 => k_is); (case il2 => k_is); (case ic2 => k_is); (case xa9 => k_is); (case xl9 => k_is); (case xn9 => kernel_rfl); (case xf9 => k_is); (case xs9 => k_is); (case xi9 => k_is); (case xt9 => k_is); (case xk9 => k_is); (case xe9 => k_is); (case xy9 => k_is); (case xg9 => k_is); (case xh9 => k_is); (case xd9 => k_is); (case xc9 => k_is); (case xm9 => k_is); (case xo9 => k_is); (case il9 => k_is); (case ic9 => k_is); (case xp => k_is); (case xq => k_is); (case em900_0 => kernel_rfl); (case em900_2 => kernel_rfl); (case em900_9 => kernel_rfl); (case kt900_own9_0 => kernel_rfl); (case kt900_own9_2 => kernel_rfl); (case kt900_own9_9 => kernel_rfl); (case kt900_tyLookupError_0 => kernel_rfl); (case kt900_tyLookupError_2 => kernel_rfl); (case kt900_tyLookupError_9 => kernel_rfl); (case kt900_tyValueError_0 => kernel_rfl); (case kt900_tyValueError_2 => kernel_rfl); (case kt900_tyValueError_9 => kernel_rfl); (case kt900_own0_0 => kernel_rfl); (case kt900_own0_2 => kernel_rfl); (case kt900_own0_9 => kernel_rfl); (case z_LookupError => k_is); (case z_ValueError => k_is); (case z_bool => k_is); (case z_enumerate => k_is); (case z_int => k_is); (case z_isinstance => k_is); (case z_len => k_is); (case z_list => k_is); (case z_max => k_is); (case z_range => k_is); (case z_repr => k_is); (case z_str => k_is); (case g_MOST_THINGS => k_is); (case g_WAYS => k_is); (case gl_WAYS => k_is)
end
