import PyProof.Rows.All
import HandS.ForMost
import HandS.ForExc
import HandS.EndTab
import HandS.HeadWalk
import HandS.HeadHook4
import HandS.TupAny
import HandS.TupMul
import HandS.Conv
import HandS.Zip
import HandS.Strs
import HandS.Defaults
import HandS.Head0
import HandS.Head1
import HandS.Head2
import HandS.Flow
import HandS.Style
import KE.DataCmp
import KE.SortData
import KE.DataMinMax
import HandS.IsInst
import KE.DataFind
import HandS.SetFor
import HandS.Iter
import PyProof.Draws
import PyProof.EnumMake
import HandS.SetBool
import KE.KRevSl
import HandS.TupSets
import HandS.WordsExc
import HandS.ExcField
import HandS.ExcSuper
import KE.KExcSuper
import PySem.Challenge.RW_stackfirm_k00_whole_boxes_and_their_side
set_option Elab.async false
set_option linter.all false
set_option maxRecDepth 100000
set_option maxHeartbeats 4000000
/-! EvA: values, heaps, a small syntax and its evaluator. -/
namespace Ev
open PySem
/-- values: `tl` a list just made that no name holds; `fl` a list that never changes; `ref` an object by its number -/
inductive D where
  | non | bl (b : Bool) | int (i : Int) | str (s : Str) | tup (xs : List D) | tl (xs : List D) | fl (xs : List D) | ref (n : Nat) | bw (xs : List D) | dv (ks vs : List D) | sv (xs : List D)
  deriving Inhabited
inductive GO where
  | lst (xs : List D) | llk (xs : List D) | dct (kvs : List (D × D)) | dlk (kvs : List (D × D)) | inst (c : Nat) (fs : List (Str × D))
  deriving Inhabited
abbrev GH := List GO
inductive R (α : Type) where
  | ok (a : α) (S : GH) | exc (c : Nat) (d : D) (S : GH) | bad
def R.bind {α β : Type} (r : R α) (f : α → GH → R β) : R β := match r with
  | .ok a S => f a S
  | .exc c d S => .exc c d S
  | .bad => .bad
@[simp] theorem R.bind_ok {α β : Type} (a : α) (S : GH) (f : α → GH → R β) : (R.ok a S).bind f = f a S := rfl
@[simp] theorem R.bind_exc {α β : Type} (c : Nat) (d : D) (S : GH) (f : α → GH → R β) : (R.exc c d S : R α).bind f = .exc c d S := rfl
@[simp] theorem R.bind_bad {α β : Type} (f : α → GH → R β) : (R.bad : R α).bind f = .bad := rfl
/-! ### data -/
mutual
def D.py : D → PyData
  | .non => .none
  | .bl b => .bool b
  | .int i => .int i
  | .str s => .str s
  | .tup xs => .tuple (D.pyAll xs)
  | .tl xs => .list (D.pyAll xs)
  | .fl xs => .list (D.pyAll xs)
  | .ref _ => .none
  | .bw _ => .none
  | .dv _ _ => .none
  | .sv _ => .none
def D.pyAll : List D → List PyData
  | [] => []
  | x :: xs => x.py :: D.pyAll xs
end
/-- clean data: no references, depth at most n -/
def ck : Nat → D → Bool
  | _, .non => true
  | _, .bl _ => true
  | _, .int _ => true
  | _, .str s => PyData.strOk s
  | _, .ref _ => false
  | _, .bw _ => false
  | _, .dv _ _ => false
  | _, .sv _ => false
  | 0, .tup _ => false
  | 0, .tl _ => false
  | 0, .fl _ => false
  | n + 1, .tup xs => xs.all (ck n)
  | n + 1, .tl xs => xs.all (ck n)
  | n + 1, .fl xs => xs.all (ck n)
abbrev cl (d : D) : Bool := ck 20 d
def deq (d e : D) : Bool := PyData.eqv d.py e.py
def dlt (d e : D) : Bool := PySem.W.dataLt d.py e.py
def alk (d e : D) : Bool := PySem.W.alike d.py e.py
def isNon : D → Bool
  | .non => true
  | _ => false
def isTl : D → Bool
  | .tl _ => true
  | _ => false
/-! ### the heap -/
/-- a value that is to be held by a name or an object: a list just made becomes an object -/
def fix (d : D) (S : GH) : R D := match d with
  | .tl xs => .ok (.ref S.length) (S ++ [.lst xs])
  | d => .ok d S
def lsv (d : D) (S : GH) : Option (List D) := match d with
  | .tl xs => some xs
  | .fl xs => some xs
  | .ref n => match S[n]? with
    | some (.lst xs) => some xs
    | some (.llk xs) => some xs
    | _ => none
  | _ => none
def seqv (d : D) (S : GH) : Option (List D) := match d with
  | .tup xs => some xs
  | d => lsv d S
/-- a list that is none of the frozen ones -/
def lsw (d : D) (S : GH) : Option (List D) := match d with
  | .tl xs => some xs
  | .ref n => match S[n]? with
    | some (.lst xs) => some xs
    | some (.llk xs) => some xs
    | _ => none
  | _ => none
/-- a list by value -/
def res (d : D) (S : GH) : D := match d with
  | .ref n => match S[n]? with
    | some (.lst xs) => .tl xs
    | some (.llk xs) => .tl xs
    | _ => d
  | d => d
def isRef : D → Bool
  | .ref _ => true
  | _ => false
/-- may the value v be stored in the object n, b the region's first object: into older objects clean data alone -/
def may (b n : Nat) (v : D) : Bool := !isTl v && (if n < b then cl v else true)
def lim : Nat := 16777216
/-! ### operations -/
inductive BOp where
  | add | sub | mul | fdiv | mod | pow
inductive COp where
  | lt | le | gt | ge | eq | ne | is_ | isnt | in_ | nin
inductive B1 where
  | len | sum | all | any | max | min | sorted | tuple | list | abs | int | str | sset
inductive Ty where
  | int | bool | tuple | str
inductive M0 where
  | pop
inductive M1 where
  | append | extend | remove | index | popat
inductive M2 where
  | insert
def mulOk (a b : Int) : Bool := (decide (-(2 ^ 64) < a) && decide (a < 2 ^ 64)) || (decide (-(2 ^ 64) < b) && decide (b < 2 ^ 64))
def opBin (op : BOp) (d e : D) (S : GH) : R D := match op with
  | .add => match d, e with
    | .int i, .int j => .ok (.int (i + j)) S
    | .tup xs, .tup ys => if xs.length + ys.length ≤ lim then .ok (.tup (xs ++ ys)) S else .bad
    | d, e => match lsw d S, lsw e S with
      | some xs, some ys => if xs.length + ys.length ≤ lim then .ok (.tl (xs ++ ys)) S else .bad
      | _, _ => .bad
  | .sub => match d, e with
    | .int i, .int j => .ok (.int (i - j)) S
    | _, _ => .bad
  | .mul => match d, e with
    | .int i, .int j => if mulOk i j then .ok (.int (i * j)) S else .bad
    | .tup xs, .int k => if xs.length ≤ 1000 ∧ -1000 ≤ k ∧ k ≤ 1000 then .ok (.tup (List.replicate k.toNat xs).flatten) S else .bad
    | .tl xs, .int k => if xs.length * k.toNat ≤ lim && decide (-(2 ^ 63) ≤ k) && decide (k < 2 ^ 63) then .ok (.tl (List.replicate k.toNat xs).flatten) S else .bad
    | _, _ => .bad
  | .fdiv => match d, e with
    | .int i, .int j => if 0 < j ∧ j < 1073741824 then .ok (.int (i / j)) S else .bad
    | _, _ => .bad
  | .mod => match d, e with
    | .int i, .int j => if 0 < j then .ok (.int (i % j)) S else .bad
    | _, _ => .bad
  | .pow => match d, e with
    | .int i, .int j => if 0 ≤ j ∧ j ≤ 1000000 ∧ i.natAbs < 2 ^ 64 then .ok (.int (i ^ j.toNat)) S else .bad
    | _, _ => .bad
def ckEq (d e : D) : Bool := cl d && cl e
def memD (d : D) (xs : List D) : Bool := xs.any fun y => deq y d
def opCmp (op : COp) (d e : D) (S : GH) : R D := match op with
  | .lt => match d, e with
    | .int i, .int j => .ok (.bl (decide (i < j))) S
    | d, e => if cl d && cl e && alk d e && !isNon d then .ok (.bl (dlt d e)) S else .bad
  | .le => match d, e with
    | .int i, .int j => .ok (.bl (decide (i ≤ j))) S
    | d, e => if cl d && cl e && alk d e && !isNon d then .ok (.bl (!dlt e d)) S else .bad
  | .gt => match d, e with
    | .int i, .int j => .ok (.bl (decide (j < i))) S
    | d, e => if cl d && cl e && alk d e && !isNon d then .ok (.bl (dlt e d)) S else .bad
  | .ge => match d, e with
    | .int i, .int j => .ok (.bl (decide (j ≤ i))) S
    | d, e => if cl d && cl e && alk d e && !isNon d then .ok (.bl (!dlt d e)) S else .bad
  | .eq => match d, e with
    | .int i, .int j => .ok (.bl (decide (i = j))) S
    | d, e => if cl (res d S) && cl (res e S) then .ok (.bl (deq (res d S) (res e S))) S else .bad
  | .ne => match d, e with
    | .int i, .int j => .ok (.bl (!decide (i = j))) S
    | d, e => if cl (res d S) && cl (res e S) then .ok (.bl (!deq (res d S) (res e S))) S else .bad
  | .is_ => match e with
    | .non => .ok (.bl (isNon d)) S
    | _ => .bad
  | .isnt => match e with
    | .non => .ok (.bl (!isNon d)) S
    | _ => .bad
  | .in_ => match e with
    | .sv xs => (match d with
      | .int k => .ok (.bl (memD (.int k) xs)) S
      | _ => .bad)
    | e => match seqv e S with
      | some xs => if cl d && xs.all cl then .ok (.bl (memD d xs)) S else .bad
      | none => .bad
  | .nin => match e with
    | .sv xs => (match d with
      | .int k => .ok (.bl (!memD (.int k) xs)) S
      | _ => .bad)
    | e => match seqv e S with
      | some xs => if cl d && xs.all cl then .ok (.bl (!memD d xs)) S else .bad
      | none => .bad
def intsD : List D → Option (List Int)
  | [] => some []
  | .int i :: r => (intsD r).map (i :: ·)
  | _ :: _ => none
def boolsD : List D → Option (List Bool)
  | [] => some []
  | .bl b :: r => (boolsD r).map (b :: ·)
  | _ :: _ => none
def maxI : Int → List Int → Int := List.foldl max
def minI : Int → List Int → Int := List.foldl min
def ins (le : D → D → Bool) (a : D) : List D → List D
  | [] => [a]
  | b :: r => if le a b then a :: b :: r else b :: ins le a r
def isort (le : D → D → Bool) : List D → List D
  | [] => []
  | a :: r => ins le a (isort le r)
def dle (d e : D) : Bool := !dlt e d
def neTup : D → Bool
  | .tup (_ :: _) => true
  | _ => false
def noTup : D → Bool
  | .tup _ => false
  | .non => false
  | _ => true
def sortOk (xs : List D) : Bool := xs.all cl && (xs.all fun x => xs.all fun y => alk x y) && (xs.all neTup || xs.all noTup)
def minDD (x : D) (xs : List D) : D := xs.foldl (fun a y => if dlt y a then y else a) x
def maxDD (x : D) (xs : List D) : D := xs.foldl (fun a y => if dlt a y then y else a) x
def alkAll (xs : List D) : Bool := xs.all cl && (xs.all fun x => xs.all fun y => alk x y) && xs.all fun x => !isNon x
def opMax (xs : List D) (S : GH) : R D := match intsD xs with
  | some (n :: ns) => .ok (.int (maxI n ns)) S
  | some [] => .bad
  | none => match xs with
    | x :: r => if alkAll (x :: r) then .ok (maxDD x r) S else .bad
    | [] => .bad
def opMin (xs : List D) (S : GH) : R D := match intsD xs with
  | some (n :: ns) => .ok (.int (minI n ns)) S
  | some [] => .bad
  | none => match xs with
    | x :: r => if alkAll (x :: r) then .ok (minDD x r) S else .bad
    | [] => .bad
/-- each once, as they come -/
def dedupD (xs : List D) : List D := xs.foldl (fun acc x => if memD x acc then acc else acc ++ [x]) []
def tupI : D → Option (List Int)
  | .tup ys => intsD ys
  | _ => none
/-- few tuples of ints, of one length, from 0 on -/
def ssOk (xs : List D) : Bool := decide (xs.length < 64) && (match xs with
  | [] => true
  | x :: _ => (match tupI x with
    | some k0 => decide (0 < k0.length) && xs.all fun y => (match tupI y with
      | some k => decide (k.length = k0.length) && k.all fun i => decide (0 ≤ i ∧ i < 1048576)
      | none => false)
    | none => false))
def opB1 (f : B1) (d : D) (S : GH) : R D := match f with
  | .len => match d with
    | .str s => if s.length ≤ lim then .ok (.int s.length) S else .bad
    | d => match seqv d S with
      | some xs => .ok (.int xs.length) S
      | none => .bad
  | .sum => match (lsv d S).bind intsD with
    | some ns => .ok (.int ns.sum) S
    | none => .bad
  | .all => match (lsv d S).bind boolsD with
    | some bs => .ok (.bl (bs.all id)) S
    | none => .bad
  | .any => match (lsv d S).bind boolsD with
    | some bs => .ok (.bl (bs.any id)) S
    | none => .bad
  | .max => match lsv d S with
    | some xs => opMax xs S
    | none => .bad
  | .min => match lsv d S with
    | some xs => opMin xs S
    | none => .bad
  | .sorted => match lsv d S with
    | some xs => if sortOk xs then .ok (.tl (isort dle xs)) S else .bad
    | none => .bad
  | .tuple => match d with
    | .tup xs => .ok (.tup xs) S
    | d => match lsv d S with
      | some xs => .ok (.tup xs) S
      | none => .bad
  | .list => match seqv d S with
    | some xs => .ok (.tl xs) S
    | none => .bad
  | .abs => match d with
    | .int i => .ok (.int (if i < 0 then -i else i)) S
    | _ => .bad
  | .int => match d with
    | .int i => .ok (.int i) S
    | .bl b => .ok (.int (if b then 1 else 0)) S
    | _ => .bad
  | .str => .bad
  | .sset => match lsv d S with
    | some xs => if ssOk xs then .ok (.tl (isort dle (dedupD xs))) S else .bad
    | none => .bad
def isTy (t : Ty) (d : D) : Option Bool := match t, d with
  | .int, .int _ => some true
  | .int, .bl _ => some true
  | .int, .non => some false
  | .int, .str _ => some false
  | .int, .tup _ => some false
  | .int, .ref _ => some false
  | .int, .fl _ => some false
  | .bool, .bl _ => some true
  | .bool, .int _ => some false
  | .bool, .non => some false
  | .bool, .str _ => some false
  | .bool, .tup _ => some false
  | .bool, .ref _ => some false
  | .bool, .fl _ => some false
  | .tuple, .tup _ => some true
  | .tuple, .int _ => some false
  | .tuple, .bl _ => some false
  | .tuple, .non => some false
  | .tuple, .str _ => some false
  | .tuple, .ref _ => some false
  | .tuple, .fl _ => some false
  | .str, .str _ => some true
  | .str, .int _ => some false
  | .str, .bl _ => some false
  | .str, .non => some false
  | .str, .tup _ => some false
  | .str, .ref _ => some false
  | .str, .fl _ => some false
  | _, _ => none
def opIdx (d e : D) (S : GH) : R D := match seqv d S, e with
  | some xs, .int i => match L2.atI xs i with
    | some v => .ok v S
    | none => .bad
  | _, _ => .bad
def cutD (xs : List D) (lo hi : Option Int) : List D := (xs.drop (HT.sIx xs.length 0 lo)).take (HT.sIx xs.length xs.length hi - HT.sIx xs.length 0 lo)
def opSl (d : D) (lo hi : Option Int) (S : GH) : R D := match d with
  | .tup xs => .ok (.tup (cutD xs lo hi)) S
  | d => match lsv d S with
    | some xs => .ok (.tl (cutD xs lo hi)) S
    | none => .bad
def opRev (d : D) (S : GH) : R D := match d with
  | .tup xs => .ok (.tup xs.reverse) S
  | d => match lsv d S with
    | some xs => .ok (.tl xs.reverse) S
    | none => .bad
/-- a list's method: what it gives, what the list is then -/
def opM (b : Nat) (o : D) (S : GH) (f : List D → Option (D × List D × Option D)) : R D := match o with
  | .ref n => match S[n]? with
    | some (.lst xs) => match f xs with
      | some (v, ys, new) => match new with
        | some u => if may b n u then .ok v (S.set n (.lst ys)) else .bad
        | none => .ok v (S.set n (.lst ys))
      | none => .bad
    | _ => .bad
  | _ => .bad
def opM0 (f : M0) (b : Nat) (o : D) (S : GH) : R D := match f with
  | .pop => opM b o S fun xs => xs.getLast?.map fun v => (v, xs.dropLast, none)
def opM1 (f : M1) (b : Nat) (o a : D) (S : GH) : R D := match f with
  | .append => opM b o S fun xs => if xs.length < lim then some (.non, xs ++ [a], some a) else none
  | .extend => match lsw a S with
    | some ys => opM b o S fun xs => if xs.length + ys.length ≤ lim && (ys.all cl) then some (.non, xs ++ ys, none) else none
    | none => .bad
  | .remove => match a with
    | .int k => opM b o S fun xs => (intsD xs).bind fun ns => (ns.idxOf? k).map fun j => (.non, xs.eraseIdx j, none)
    | _ => .bad
  | .popat => match a with
    | .int i => opM b o S fun xs => (L2.ixN xs.length i).bind fun j => xs[j]?.map fun v => (v, xs.eraseIdx j, none)
    | _ => .bad
  | .index => .bad
def truth (d : D) (S : GH) : Option Bool := match d with
  | .bl b => some b
  | .non => some false
  | .int i => some (decide (i ≠ 0))
  | d => (seqv d S).map fun xs => !xs.isEmpty
/-! ### the syntax -/
inductive X where
  | var (i : Nat) | cint (i : Int) | cstr (s : Str) | cbl (b : Bool) | cnon | glob (k : Nat)
  | bin (op : BOp) (a b : X) | neg (a : X) | not (a : X) | and (a b : X) | or (a b : X)
  | cmp (op : COp) (a b : X) | chain (op op' : COp) (a b c : X) | ite (t a b : X)
  | tup (as : X) | lst (as : X) | nil | cons (a as : X)
  | idx (a i : X) | slc (a lo hi : X) | rev (a : X)
  | call (j : Nat) (as : X) | callk (j : Nat) (p : List Nat) (as : X) | b1 (f : B1) (a : X) | mx (a b : X) | mn (a b : X) | isi (t : Ty) (a : X)
  | lrng (as : X) | m0 (f : M0) (o : X) | m1 (f : M1) (o a : X)
  | comp (e tg it cond : X) (own : List Nat) | scomp (j : Nat) (tg a : X) (own : List Nat) | frz (a : X)
  | thunk (k : Nat) (e : X)
  -- what is walked
  | iseq (e : X) | irng (as : X) | ienum (e : X) | izip (a b : X)
  -- statements
  | skip | seq (a b : X) | asg (tg e : X) | aug (i : Nat) (op : BOp) (e : X) | expr (e : X) | ret (e : X) | retn | ifs (t a b : X)
  | whl (sc : Bool) (t body : X) | forr (sc : Bool) (tg it body : X) | brk | cnt | rais (c : Nat) (e : X) | sset (o i e : X)
  deriving Inhabited
abbrev Sg := List (Option D)
/-- a def: its arity, its slots, whether its objects are forgotten behind it, its body -/
structure Fn where
  ar : Nat
  sl : Nat
  keep : Bool
  body : X
structure Pr where
  fns : List Fn
  cs : List D
  w : Nat
  /-- the exception class that the thunk-takers catch, what they give otherwise -/
  th : List (Nat × Option Str)
def Pr.keepOf (P : Pr) (j : Nat) : Bool := match P.fns[j]? with
  | some f => f.keep
  | none => false
abbrev Cl := Nat → Nat → List D → GH → R D
/-- behind a def: its objects are forgotten; a list of clean data is handed out by value -/
def drop (b : Nat) (r : R D) : R D := match r with
  | .ok d S => if cl d then .ok d (S.take b) else (match d with
    | .ref n => match S[n]? with
      | some (.lst xs) => if b ≤ n && xs.all (ck 19) then .ok (.tl xs) (S.take b) else .bad
      | _ => .bad
    | _ => .bad)
  | .exc c d S => if cl d then .exc c d (S.take b) else .bad
  | .bad => .bad
def asTup (r : R D) (f : List D → GH → R D) : R D := r.bind fun d S => match d with
  | .tup ds => f ds S
  | _ => .bad
/-! targets: slots to be set -/
mutual
def bindT : X → D → Sg → Option Sg
  | .var i, d, σ => some (σ.set i (some d))
  | .tup ts, .tup ds, σ => bindTs ts ds σ
  | _, _, _ => none
def bindTs : X → List D → Sg → Option Sg
  | .nil, [], σ => some σ
  | .cons t ts, d :: ds, σ => (bindT t d σ).bind fun σ' => bindTs ts ds σ'
  | _, _, _ => none
end
def wipeS (σ : Sg) : List Nat → Sg
  | [] => σ
  | v :: vs => (wipeS σ vs).set v none
/-- a list just made that is to be read alone from now on -/
def frzD : D → D
  | .tl xs => .fl xs
  | d => d
def intO : Option (Option D) → Option D
  | some (some (.int k)) => some (.int k)
  | _ => none
/-- the ints that a name takes, one turn after the other -/
def scol (j : Nat) (tg : X) (σ0 : Sg) : List D → Option (List D)
  | [] => some []
  | d :: ds => match bindT tg d σ0 with
    | some σ' => (match intO σ'[j]? with
      | some k => (scol j tg σ0 ds).map (k :: ·)
      | none => none)
    | none => none
def rngD (lo : Int) (n : Nat) : List D := (List.range n).map fun (i : Nat) => D.int (lo + i)
def opRng (ds : List D) : Option (List D) := match ds with
  | [.int j] => if -(2 ^ 62) ≤ j ∧ j ≤ lim then some (rngD 0 j.toNat) else none
  | [.int i, .int j] => if -(2 ^ 62) ≤ i ∧ i < 2 ^ 62 ∧ -(2 ^ 62) ≤ j ∧ j < 2 ^ 62 ∧ j - i ≤ lim then some (rngD i (j - i).toNat) else none
  | _ => none
def permD (p : List Nat) (ds : List D) : Option (List D) := p.mapM fun i => ds[i]?
def compLoop (f : D → GH → R (Option D)) : List D → GH → R (List D)
  | [], S => .ok [] S
  | d :: ds, S => (f d S).bind fun o S1 => (compLoop f ds S1).bind fun r S2 => .ok (match o with | some v => v :: r | none => r) S2
/-- a loop's list, the state behind it put right -/
def unlR (f : GH → GH) (r : R (List D)) : R D := match r with
  | .ok r S => .ok (.tl r) (f S)
  | .exc c d S => .exc c d (f S)
  | .bad => .bad
/-- what a def makes of a call that it is handed: try: call() .. except c as e: return e.f / return ''; or try: return call() except c as e: return pre + e.f -/
def thunkR (t : Option (Nat × Option Str)) (r : R D) : R D := match t with
  | some (c, none) => (match r with
    | .ok _ S => .ok (.str Str.empty) S
    | .exc c' d S => if c' = c then .ok d S else .bad
    | .bad => .bad)
  | some (c, some pre) => (match r with
    | .ok d S => .ok d S
    | .exc c' (.str w) S => if c' = c ∧ pre.length + w.length ≤ lim then .ok (.str (pre ++ w)) S else .bad
    | _ => .bad)
  | none => .bad
/-- what is walked: its items, the lists that are locked meanwhile -/
def itD (xs : List D) (lk : List D) : D := .tup (.tup xs :: lk)
def asIt (r : R D) (f : List D → List D → GH → R D) : R D := r.bind fun d S => match d with
  | .tup (.tup xs :: lk) => f xs lk S
  | _ => .bad
def lkOf : D → List D
  | .ref n => [.ref n]
  | _ => []
def lock1 : GO → GO
  | .lst xs => .llk xs
  | .dct kvs => .dlk kvs
  | o => o
def lock : List D → GH → GH
  | [], S => S
  | .ref n :: r, S => lock r (match S[n]? with | some o => S.set n (lock1 o) | none => S)
  | _ :: r, S => lock r S
def unlock : List D → GH → GH → GH
  | [], _, S => S
  | .ref n :: r, S0, S => unlock r S0 (match S0[n]? with | some o => S.set n o | none => S)
  | _ :: r, S0, S => unlock r S0 S
def isCnon : X → Bool
  | .cnon => true
  | _ => false
/-- a slice's bound: left out (written cnon), or an int -/
def partX (x : X) (d : D) : Option (Option Int) := if isCnon x then some none else match d with
  | .int i => some (some i)
  | _ => none
/-- expressions; an argument list gives the tuple of its values -/
def ev (P : Pr) (C : Cl) : X → Nat → Sg → GH → R D
  | .var i, _, σ, S => match σ[i]? with
    | some (some d) => .ok d S
    | _ => .bad
  | .cint i, _, _, S => .ok (.int i) S
  | .cstr s, _, _, S => .ok (.str s) S
  | .cbl b, _, _, S => .ok (.bl b) S
  | .cnon, _, _, S => .ok .non S
  | .glob k, _, _, S => match P.cs[k]? with
    | some d => .ok d S
    | none => .bad
  | .bin op a c, b, σ, S => (ev P C a b σ S).bind fun d S1 => (ev P C c b σ S1).bind fun e S2 => opBin op d e S2
  | .neg a, b, σ, S => (ev P C a b σ S).bind fun d S1 => match d with
    | .int i => .ok (.int (-i)) S1
    | _ => .bad
  | .not a, b, σ, S => (ev P C a b σ S).bind fun d S1 => match d with
    | .bl k => .ok (.bl (!k)) S1
    | _ => .bad
  | .and a c, b, σ, S => (ev P C a b σ S).bind fun d S1 => match d with
    | .bl true => ev P C c b σ S1
    | .bl false => .ok (.bl false) S1
    | _ => .bad
  | .or a c, b, σ, S => (ev P C a b σ S).bind fun d S1 => match d with
    | .bl false => ev P C c b σ S1
    | .bl true => .ok (.bl true) S1
    | _ => .bad
  | .cmp op a c, b, σ, S => (ev P C a b σ S).bind fun d S1 => (ev P C c b σ S1).bind fun e S2 => opCmp op d e S2
  | .chain op op' a c e, b, σ, S => (ev P C a b σ S).bind fun d S1 => (ev P C c b σ S1).bind fun d' S2 => (opCmp op d d' S2).bind fun k S3 => match k with
    | .bl true => (ev P C e b σ S3).bind fun d'' S4 => opCmp op' d' d'' S4
    | .bl false => .ok (.bl false) S3
    | _ => .bad
  | .ite t a c, b, σ, S => (ev P C t b σ S).bind fun d S1 => match truth d S1 with
    | some true => ev P C a b σ S1
    | some false => ev P C c b σ S1
    | none => .bad
  | .tup as, b, σ, S => ev P C as b σ S
  | .lst as, b, σ, S => asTup (ev P C as b σ S) fun ds S1 => .ok (.tl ds) S1
  | .nil, _, _, S => .ok (.tup []) S
  | .cons a as, b, σ, S => (ev P C a b σ S).bind fun d S1 => (fix d S1).bind fun d' S2 => asTup (ev P C as b σ S2) fun ds S3 => .ok (.tup (d' :: ds)) S3
  | .idx a i, b, σ, S => (ev P C a b σ S).bind fun d S1 => (ev P C i b σ S1).bind fun e S2 => opIdx d e S2
  | .slc a lo hi, b, σ, S => (ev P C a b σ S).bind fun d S1 => (ev P C lo b σ S1).bind fun l S2 => match partX lo l with
    | some i => (ev P C hi b σ S2).bind fun h S3 => (match partX hi h with
      | some j => opSl d i j S3
      | none => .bad)
    | none => .bad
  | .rev a, b, σ, S => (ev P C a b σ S).bind fun d S1 => opRev d S1
  | .call j as, b, σ, S => if P.keepOf j then asTup (ev P C as b σ S) fun ds S1 => C j b ds S1 else drop S.length (asTup (ev P C as S.length σ S) fun ds S1 => C j S.length ds S1)
  | .callk j p as, b, σ, S => drop S.length (asTup (ev P C as S.length σ S) fun ds S1 => match permD p ds with
    | some ds' => C j S.length ds' S1
    | none => .bad)
  | .b1 f a, b, σ, S => (ev P C a b σ S).bind fun d S1 => opB1 f d S1
  | .mx a c, b, σ, S => (ev P C a b σ S).bind fun d S1 => (ev P C c b σ S1).bind fun e S2 => match d, e with
    | .int i, .int j => .ok (.int (max i j)) S2
    | _, _ => .bad
  | .mn a c, b, σ, S => (ev P C a b σ S).bind fun d S1 => (ev P C c b σ S1).bind fun e S2 => match d, e with
    | .int i, .int j => .ok (.int (min i j)) S2
    | _, _ => .bad
  | .isi t a, b, σ, S => (ev P C a b σ S).bind fun d S1 => match isTy t d with
    | some k => .ok (.bl k) S1
    | none => .bad
  | .lrng as, b, σ, S => asTup (ev P C as b σ S) fun ds S1 => match opRng ds with
    | some xs => .ok (.tl xs) S1
    | none => .bad
  | .m0 f o, b, σ, S => (ev P C o b σ S).bind fun d S1 => if (lsv d S1).isSome then opM0 f b d S1 else .bad
  | .m1 f o a, b, σ, S => (ev P C o b σ S).bind fun d S1 => if (lsv d S1).isSome then ((ev P C a b σ S1).bind fun e S2 => (fix e S2).bind fun e' S3 => opM1 f b d e' S3) else .bad
  | .comp e tg it cond own, b, σ, S => asIt (ev P C it b σ S) fun items lk S1 => if items.length > lim then .bad else
    unlR (unlock lk S1) (compLoop (fun d S2 => match bindT tg d (wipeS σ own) with
      | some σ' => (ev P C cond b σ' S2).bind fun k S3 => match truth k S3 with
        | some true => (ev P C e b σ' S3).bind fun v S4 => (fix v S4).bind fun v' S5 => .ok (some v') S5
        | some false => .ok none S3
        | none => .bad
      | none => .bad) items (lock lk S1))
  | .scomp j tg a own, b, σ, S => (ev P C a b σ S).bind fun d S1 => match seqv d S1 with
    | some items => if items.length > 1000 then .bad else (match scol j tg (wipeS σ own) items with
      | some xs => .ok (.sv xs) S1
      | none => .bad)
    | none => .bad
  | .frz a, b, σ, S => (ev P C a b σ S).bind fun d S1 => .ok (frzD d) S1
  | .thunk k e, b, σ, S => thunkR (P.th[k]?) (drop S.length (ev P C e S.length σ S))
  | .iseq e, b, σ, S => (ev P C e b σ S).bind fun d S1 => match seqv d S1 with
    | some xs => .ok (itD xs (lkOf d)) S1
    | none => .bad
  | .irng as, b, σ, S => asTup (ev P C as b σ S) fun ds S1 => match opRng ds with
    | some xs => .ok (itD xs []) S1
    | none => .bad
  | .ienum e, b, σ, S => (ev P C e b σ S).bind fun d S1 => match seqv d S1 with
    | some xs => .ok (itD (xs.zipIdx.map fun p => .tup [.int p.2, p.1]) (lkOf d)) S1
    | none => .bad
  | .izip a c, b, σ, S => (ev P C a b σ S).bind fun d S1 => (ev P C c b σ S1).bind fun e S2 => match seqv d S2, seqv e S2 with
    | some xs, some ys => .ok (itD ((xs.zip ys).map fun p => .tup [p.1, p.2]) (lkOf d ++ lkOf e)) S2
    | _, _ => .bad
  | _, _, _, _ => .bad
/-! ### statements -/
inductive RS where
  | nxt (σ : Sg) (S : GH) | ret (d : D) (S : GH) | brk (σ : Sg) (S : GH) | cnt (σ : Sg) (S : GH) | exc (c : Nat) (d : D) (S : GH) | bad
def RS.of {α : Type} (r : R α) (f : α → GH → RS) : RS := match r with
  | .ok a S => f a S
  | .exc c d S => .exc c d S
  | .bad => .bad
@[simp] theorem RS.of_ok {α : Type} (a : α) (S : GH) (f : α → GH → RS) : RS.of (.ok a S) f = f a S := rfl
@[simp] theorem RS.of_exc {α : Type} (c : Nat) (d : D) (S : GH) (f : α → GH → RS) : RS.of (.exc c d S) f = .exc c d S := rfl
@[simp] theorem RS.of_bad {α : Type} (f : α → GH → RS) : RS.of .bad f = .bad := rfl
/-- what a name still tells behind a turn whose objects are forgotten -/
def keepV (n : Nat) : Option D → Option D
  | some (.ref m) => if m < n then some (.ref m) else none
  | some d => if cl d then some d else none
  | none => none
def scop (sc : Bool) (b : Nat) (S : GH) (f : Nat → RS) : RS := if sc then (match f S.length with
  | .nxt σ S' => .nxt (σ.map (keepV S.length)) (S'.take S.length)
  | .brk σ S' => .brk (σ.map (keepV S.length)) (S'.take S.length)
  | .cnt σ S' => .cnt (σ.map (keepV S.length)) (S'.take S.length)
  | r => r) else f b
def forL (f : D → Sg → GH → RS) : List D → Sg → GH → RS
  | [], σ, S => .nxt σ S
  | d :: ds, σ, S => match f d σ S with
    | .nxt σ' S' => forL f ds σ' S'
    | .cnt σ' S' => forL f ds σ' S'
    | .brk σ' S' => .nxt σ' S'
    | r => r
def whL (t : Sg → GH → R D) (f : Sg → GH → RS) : Nat → Sg → GH → RS
  | 0, _, _ => .bad
  | n + 1, σ, S => RS.of (t σ S) fun k S1 => match truth k S1 with
    | some true => (match f σ S1 with
      | .nxt σ' S' => whL t f n σ' S'
      | .cnt σ' S' => whL t f n σ' S'
      | .brk σ' S' => .nxt σ' S'
      | r => r)
    | some false => .nxt σ S1
    | none => .bad
def RS.mapS (r : RS) (f : GH → GH) : RS := match r with
  | .nxt σ S => .nxt σ (f S)
  | .ret d S => .ret d (f S)
  | .brk σ S => .brk σ (f S)
  | .cnt σ S => .cnt σ (f S)
  | .exc c d S => .exc c d (f S)
  | .bad => .bad
def opSet (b : Nat) (o i v : D) (S : GH) : Option GH := match o, i with
  | .ref n, .int k => match S[n]? with
    | some (.lst xs) => if may b n v then (L2.ixN xs.length k).map fun j => S.set n (.lst (xs.set j v)) else none
    | _ => none
  | _, _ => none
def evS (P : Pr) (C : Cl) : X → Nat → Sg → GH → RS
  | .skip, _, σ, S => .nxt σ S
  | .seq a c, b, σ, S => match evS P C a b σ S with
    | .nxt σ' S' => evS P C c b σ' S'
    | r => r
  | .asg tg e, b, σ, S => RS.of (ev P C e b σ S) fun d S1 => RS.of (fix d S1) fun d' S2 => match bindT tg d' σ with
    | some σ' => .nxt σ' S2
    | none => .bad
  | .aug i op e, b, σ, S => match σ[i]? with
    | some (some d) => RS.of (ev P C e b σ S) fun v S1 => match d, v with
      | .int _, .int _ => RS.of (opBin op d v S1) fun r S2 => .nxt (σ.set i (some r)) S2
      | _, _ => .bad
    | _ => .bad
  | .expr e, b, σ, S => RS.of (ev P C e b σ S) fun _ S1 => .nxt σ S1
  | .ret e, b, σ, S => RS.of (ev P C e b σ S) fun d S1 => .ret d S1
  | .retn, _, _, S => .ret .non S
  | .ifs t a c, b, σ, S => RS.of (ev P C t b σ S) fun k S1 => match truth k S1 with
    | some true => evS P C a b σ S1
    | some false => evS P C c b σ S1
    | none => .bad
  | .whl sc t body, b, σ, S => whL (fun σ' S' => ev P C t b σ' S') (fun σ' S' => scop sc b S' fun b' => evS P C body b' σ' S') P.w σ S
  | .forr sc tg it body, b, σ, S => match ev P C it b σ S with
    | .ok (.tup (.tup items :: lk)) S1 => (forL (fun d σ' S' => scop sc b S' fun b' => match bindT tg d σ' with
        | some σ2 => evS P C body b' σ2 S'
        | none => .bad) items σ (lock lk S1)).mapS (unlock lk S1)
    | .exc c d S1 => .exc c d S1
    | _ => .bad
  | .brk, _, σ, S => .brk σ S
  | .cnt, _, σ, S => .cnt σ S
  | .rais c e, b, σ, S => RS.of (ev P C e b σ S) fun d S1 => if cl d && !isTl d then .exc c d S1 else .bad
  | .sset o i e, b, σ, S => RS.of (ev P C e b σ S) fun v S1 => RS.of (fix v S1) fun v' S2 => RS.of (ev P C o b σ S2) fun od S3 => RS.of (ev P C i b σ S3) fun k S4 => match opSet b od k v' S4 with
    | some S5 => .nxt σ S5
    | none => .bad
  | _, _, _, _ => .bad
def RS.toR : RS → R D
  | .ret d S => .ok d S
  | .nxt _ S => .ok .non S
  | .exc c d S => .exc c d S
  | _ => .bad
/-- a call of the def j: n calls deep at most -/
def callO (P : Pr) : Nat → Cl
  | 0 => fun _ _ _ _ => .bad
  | n + 1 => fun j b ds S => match P.fns[j]? with
    | some f => if ds.length = f.ar then (evS P (callO P n) f.body b (ds.map some ++ List.replicate (f.sl - f.ar) none) S).toR else .bad
    | none => .bad
end Ev
set_option Elab.async false
set_option linter.all false
set_option maxRecDepth 100000
set_option maxHeartbeats 4000000
/-! EvB: how the evaluator's values and heaps lie in the layer's heap. -/
namespace Ev
open PySem PySem.Spec PyProof.Rows L2
/-- a list that never changes -/
def SqF (K : PySem.W.Frag) (H : Hp) (a : Addr) (xs : List V) : Prop :=
  (∃ o, H a = some (.frz o (.lst xs))) ∨
    ∃ (o : Obj) (its : Array Value) (n : Nat), K.lookup a = some o ∧ o.cls = .type "list" ∧ o.dict = none ∧ o.data = .seq its n ∧ its.size ≤ sizeLine ∧ Vals xs its.toList
theorem SqF.sq {K : PySem.W.Frag} {H : Hp} {a : Addr} {xs : List V} (h : SqF K H a xs) : SqL K H a xs := h.imp (fun ⟨o, e⟩ => .inr ⟨o, e⟩) id
mutual
inductive RD (K : PySem.W.Frag) (ρ : List Addr) (H : Hp) : D → V → Prop
  | non : RD K ρ H .non .non
  | bl (b : Bool) : RD K ρ H (.bl b) (.bl b)
  | int (i : Int) : RD K ρ H (.int i) (.int i)
  | str (s : Str) : RD K ρ H (.str s) (.str s)
  | tup {a : Addr} {xs : List V} {ds : List D} : SqT K H a xs → RDs K ρ H ds xs → RD K ρ H (.tup ds) (.ref a)
  | fl {a : Addr} {xs : List V} {ds : List D} : SqF K H a xs → RDs K ρ H ds xs → RD K ρ H (.fl ds) (.ref a)
  | ref {n : Nat} {a : Addr} : ρ[n]? = some a → RD K ρ H (.ref n) (.ref a)
  | sv {a : Addr} {T : Int → Bool} {n : Nat} {ds : List D} {ns : List Int} : H a = some (.set T n) → intsD ds = some ns → (∀ k, T k = decide (k ∈ ns)) → RD K ρ H (.sv ds) (.ref a)
inductive RDs (K : PySem.W.Frag) (ρ : List Addr) (H : Hp) : List D → List V → Prop
  | nil : RDs K ρ H [] []
  | cons {d : D} {v : V} {ds : List D} {vs : List V} : RD K ρ H d v → RDs K ρ H ds vs → RDs K ρ H (d :: ds) (v :: vs)
end
def RO (K : PySem.W.Frag) (ρ : List Addr) (H : Hp) (a : Addr) : GO → Prop
  | .lst ds => ∃ xs, H a = some (.lst xs) ∧ RDs K ρ H ds xs
  | .llk ds => ∃ xs, H a = some (.lst xs) ∧ RDs K ρ H ds xs
  | .dct _ => False
  | .dlk _ => False
  | .inst _ _ => False
/-- the static part: the written objects, the tables of code objects that are told -/
structure SC where
  K : PySem.W.Frag
  T : List (Addr × Str)
structure RH (c : SC) (ρ : List Addr) (H : Hp) (G : GH) : Prop where
  len : ρ.length = G.length
  nd : ρ.Nodup
  ob : ∀ (n : Nat) (a : Addr) (o : GO), ρ[n]? = some a → G[n]? = some o → RO c.K ρ H a o
  tb : LamX.Tabs c.T H
/-- nothing is told of that place, or a table -/
def nt (H : Hp) (a : Addr) : Prop := ∀ o, H a = some o → ∃ ps, o = .tbl ps
theorem nt.of {H : Hp} {a : Addr} (h : H a = none) : nt H a := fun o e => by rw [h] at e; cases e
theorem nt.no {H : Hp} {a : Addr} {o : HO} (h : nt H a) (e : H a = some o) (q : ∀ ps, o ≠ .tbl ps) : False := let ⟨ps, z⟩ := h o e; q ps z
/-- from one heap to a later one -/
structure Stp (ρ : List Addr) (H : Hp) (ρ' : List Addr) (H' : Hp) : Prop where
  pre : ∃ t, ρ' = ρ ++ t
  old : ∀ (a : Addr) (o : HO), H a = some o → a ∉ ρ → (∀ ps, o ≠ .tbl ps) → H' a = some o
  new : ∀ a, a ∈ ρ' → a ∈ ρ ∨ nt H a
  dom : ∀ a, nt H' a → nt H a
theorem Stp.refl (ρ : List Addr) (H : Hp) : Stp ρ H ρ H := ⟨⟨[], by simp⟩, fun _ _ h _ _ => h, fun _ h => .inl h, fun _ h => h⟩
theorem Stp.trans {ρ ρ1 ρ2 : List Addr} {H H1 H2 : Hp} (x : Stp ρ H ρ1 H1) (y : Stp ρ1 H1 ρ2 H2) : Stp ρ H ρ2 H2 where
  pre := by
    obtain ⟨t, e⟩ := x.pre
    obtain ⟨u, e'⟩ := y.pre
    exact ⟨t ++ u, by rw [e', e, List.append_assoc]⟩
  old := fun a o h n q => y.old a o (x.old a o h n q) (fun m => by
    rcases x.new a m with z | z
    · exact n z
    · exact z.no h q) q
  new := fun a h => by
    rcases y.new a h with z | z
    · exact x.new a z
    · exact .inr (x.dom a z)
  dom := fun a h => x.dom a (y.dom a h)
variable {c : SC} {ρ ρ' : List Addr} {H H' : Hp} {G G' : GH}
theorem RH.isl (h : RH c ρ H G) {a : Addr} (m : a ∈ ρ) : ∃ xs, H a = some (.lst xs) := by
  obtain ⟨n, hn⟩ := List.mem_iff_getElem?.mp m
  have hl : n < G.length := by
    rw [← h.len]
    exact (List.getElem?_eq_some_iff.mp hn).1
  have ho := h.ob n a G[n] hn (List.getElem?_eq_getElem hl)
  cases e : G[n] with
  | lst ds =>
    rw [e] at ho
    obtain ⟨xs, q, _⟩ := ho
    exact ⟨xs, q⟩
  | llk ds =>
    rw [e] at ho
    obtain ⟨xs, q, _⟩ := ho
    exact ⟨xs, q⟩
  | dct _ => rw [e] at ho; exact ho.elim
  | dlk _ => rw [e] at ho; exact ho.elim
  | inst _ _ => rw [e] at ho; exact ho.elim
theorem RH.ne (h : RH c ρ H G) {a : Addr} (m : a ∈ ρ) : H a ≠ Option.none := by
  obtain ⟨xs, q⟩ := h.isl m
  rw [q]; intro z; cases z
theorem RH.fresh (h : RH c ρ H G) {a : Addr} (n : H a = none) : a ∉ ρ := fun m => h.ne m n
theorem RH.notTup (h : RH c ρ H G) {a : Addr} {xs : List V} (q : H a = some (.tup xs)) : a ∉ ρ := fun m => by
  obtain ⟨ys, e⟩ := h.isl m
  rw [q] at e; cases e
theorem RH.notSet (h : RH c ρ H G) {a : Addr} {T : Int → Bool} {n : Nat} (q : H a = some (.set T n)) : a ∉ ρ := fun m => by
  obtain ⟨ys, e⟩ := h.isl m
  rw [q] at e; cases e
theorem RH.notFT (h : RH c ρ H G) {a : Addr} {u : HO} {o : Obj} (q : H a = some (.frz o u)) : a ∉ ρ := fun m => by
  obtain ⟨ys, e⟩ := h.isl m
  rw [q] at e; cases e
theorem sqT_step {K : PySem.W.Frag} {a : Addr} {xs : List V} (hT : SqT K H a xs) (h1 : ∀ xs, H a = some (.tup xs) → H' a = some (.tup xs)) (h2 : ∀ xs o, H a = some (.frz o (.tup xs)) → H' a = some (.frz o (.tup xs))) : SqT K H' a xs := by
  rcases hT with (z | ⟨o, z⟩) | z
  · exact .inl (.inl (h1 _ z))
  · exact .inl (.inr ⟨o, h2 _ _ z⟩)
  · exact .inr z
mutual
theorem RD.mono {K : PySem.W.Frag} (hp : ∃ t, ρ' = ρ ++ t) (ht : ∀ a xs, H a = some (.tup xs) → H' a = some (.tup xs)) (hf : ∀ a xs o, H a = some (.frz o xs) → H' a = some (.frz o xs)) (hs : ∀ a T n, H a = some (.set T n) → H' a = some (.set T n)) :
    ∀ (d : D) (v : V), RD K ρ H d v → RD K ρ' H' d v
  | .non, _, h => by cases h; exact .non
  | .bl _, _, h => by cases h; exact .bl _
  | .int _, _, h => by cases h; exact .int _
  | .str _, _, h => by cases h; exact .str _
  | .tup ds, _, h => by
    cases h with
    | tup h1 h2 => exact .tup (sqT_step h1 (ht _) (fun xs o q => hf _ _ o q)) (RDs.mono hp ht hf hs ds _ h2)
  | .tl ds, _, h => by cases h
  | .fl ds, _, h => by
    cases h with
    | fl h1 h2 => exact .fl (h1.imp (fun ⟨o, e⟩ => ⟨o, hf _ _ o e⟩) id) (RDs.mono hp ht hf hs ds _ h2)
  | .sv ds, _, h => by
    cases h with
    | sv h1 h2 h3 => exact .sv (hs _ _ _ h1) h2 h3
  | .ref n, _, h => by
    cases h with
    | ref h1 =>
      obtain ⟨t, e⟩ := hp
      refine .ref ?_
      rw [e, List.getElem?_append_left (List.getElem?_eq_some_iff.mp h1).1]
      exact h1
theorem RDs.mono {K : PySem.W.Frag} (hp : ∃ t, ρ' = ρ ++ t) (ht : ∀ a xs, H a = some (.tup xs) → H' a = some (.tup xs)) (hf : ∀ a xs o, H a = some (.frz o xs) → H' a = some (.frz o xs)) (hs : ∀ a T n, H a = some (.set T n) → H' a = some (.set T n)) :
    ∀ (ds : List D) (vs : List V), RDs K ρ H ds vs → RDs K ρ' H' ds vs
  | [], _, h => by cases h; exact .nil
  | d :: ds, _, h => by
    cases h with
    | cons h1 h2 => exact .cons (RD.mono hp ht hf hs d _ h1) (RDs.mono hp ht hf hs ds _ h2)
end
theorem Stp.rd (x : Stp ρ H ρ' H') (h : RH c ρ H G) {d : D} {v : V} (r : RD c.K ρ H d v) : RD c.K ρ' H' d v :=
  RD.mono x.pre (fun a xs q => x.old a _ q (h.notTup q) (fun _ z => by cases z)) (fun a xs o q => x.old a _ q (h.notFT q) (fun _ z => by cases z)) (fun a T n q => x.old a _ q (h.notSet q) (fun _ z => by cases z)) d v r
theorem Stp.rds (x : Stp ρ H ρ' H') (h : RH c ρ H G) {ds : List D} {vs : List V} (r : RDs c.K ρ H ds vs) : RDs c.K ρ' H' ds vs :=
  RDs.mono x.pre (fun a xs q => x.old a _ q (h.notTup q) (fun _ z => by cases z)) (fun a xs o q => x.old a _ q (h.notFT q) (fun _ z => by cases z)) (fun a T n q => x.old a _ q (h.notSet q) (fun _ z => by cases z)) ds vs r
/-- a value in the hand: a list just made, or what a name may hold -/
def RV (c : SC) (ρ : List Addr) (H : Hp) : D → V → Prop
  | .tl ds, v => ∃ a xs, v = .ref a ∧ H a = some (.lst xs) ∧ a ∉ ρ ∧ RDs c.K ρ H ds xs
  | d, v => RD c.K ρ H d v
theorem RV.of {d : D} {v : V} (h : RD c.K ρ H d v) : RV c ρ H d v := by
  cases d with
  | tl ds => cases h
  | _ => exact h
theorem RV.rd {d : D} {v : V} (h : RV c ρ H d v) (n : isTl d = false) : RD c.K ρ H d v := by
  cases d with
  | tl ds => cases n
  | _ => exact h
theorem Stp.rv (x : Stp ρ H ρ' H') (h : RH c ρ H G) {d : D} {v : V} (r : RV c ρ H d v) : RV c ρ' H' d v := by
  cases d with
  | tl ds =>
    obtain ⟨a, xs, e, q, n, r2⟩ := r
    exact ⟨a, xs, e, x.old a _ q n (fun _ z => by cases z), (fun m => by
      rcases x.new a m with z | z
      · exact n z
      · exact z.no q (fun _ w => by cases w)), x.rds h r2⟩
  | _ => exact x.rd h r
/-- a list just made stands at a place that was free -/
def Fr0 (H : Hp) (d : D) (v : V) : Prop := isTl d = true → ∀ a, v = .ref a → nt H a
theorem Fr0.of {d : D} {v : V} (n : isTl d = false) : Fr0 H d v := fun z => by rw [n] at z; cases z
theorem RDs.length {K : PySem.W.Frag} : ∀ {ds : List D} {vs : List V}, RDs K ρ H ds vs → ds.length = vs.length
  | [], _, h => by cases h; rfl
  | d :: ds, _, h => by
    cases h with
    | cons h1 h2 => rw [List.length_cons, List.length_cons, RDs.length h2]
theorem RDs.get {K : PySem.W.Frag} : ∀ {ds : List D} {vs : List V} {i : Nat} {d : D}, RDs K ρ H ds vs → ds[i]? = some d → ∃ v, vs[i]? = some v ∧ RD K ρ H d v
  | [], _, i, d, h, e => by simp at e
  | x :: ds, _, 0, d, h, e => by
    cases h with
    | cons h1 h2 =>
      have e' : x = d := by simpa using e
      subst e'
      exact ⟨_, rfl, h1⟩
  | x :: ds, _, i + 1, d, h, e => by
    cases h with
    | cons h1 h2 =>
      obtain ⟨v, q, r⟩ := RDs.get (i := i) h2 (by simpa using e)
      exact ⟨v, by simpa using q, r⟩
theorem RDs.append {K : PySem.W.Frag} : ∀ {ds es : List D} {vs us : List V}, RDs K ρ H ds vs → RDs K ρ H es us → RDs K ρ H (ds ++ es) (vs ++ us)
  | [], _, _, _, h, h' => by cases h; exact h'
  | d :: ds, _, _, _, h, h' => by
    cases h with
    | cons h1 h2 => exact .cons h1 (RDs.append h2 h')
theorem RDs.take {K : PySem.W.Frag} : ∀ {ds : List D} {vs : List V} (n : Nat), RDs K ρ H ds vs → RDs K ρ H (ds.take n) (vs.take n)
  | _, _, 0, _ => .nil
  | [], _, n + 1, h => by cases h; exact .nil
  | d :: ds, _, n + 1, h => by
    cases h with
    | cons h1 h2 => exact .cons h1 (RDs.take n h2)
theorem RDs.drop {K : PySem.W.Frag} : ∀ {ds : List D} {vs : List V} (n : Nat), RDs K ρ H ds vs → RDs K ρ H (ds.drop n) (vs.drop n)
  | _, _, 0, h => h
  | [], _, n + 1, h => by cases h; exact .nil
  | d :: ds, _, n + 1, h => by
    cases h with
    | cons h1 h2 => exact RDs.drop n h2
theorem RDs.set {K : PySem.W.Frag} {d : D} {v : V} (r : RD K ρ H d v) : ∀ {ds : List D} {vs : List V} (n : Nat), RDs K ρ H ds vs → RDs K ρ H (ds.set n d) (vs.set n v)
  | [], _, _, h => by cases h; exact .nil
  | x :: ds, _, 0, h => by
    cases h with
    | cons h1 h2 => exact .cons r h2
  | x :: ds, _, n + 1, h => by
    cases h with
    | cons h1 h2 => exact .cons h1 (RDs.set r n h2)
theorem RDs.erase {K : PySem.W.Frag} : ∀ {ds : List D} {vs : List V} (n : Nat), RDs K ρ H ds vs → RDs K ρ H (ds.eraseIdx n) (vs.eraseIdx n)
  | [], _, _, h => by cases h; exact .nil
  | x :: ds, _, 0, h => by
    cases h with
    | cons h1 h2 => exact h2
  | x :: ds, _, n + 1, h => by
    cases h with
    | cons h1 h2 => exact .cons h1 (RDs.erase n h2)
theorem RDs.reverse {K : PySem.W.Frag} : ∀ {ds : List D} {vs : List V}, RDs K ρ H ds vs → RDs K ρ H ds.reverse vs.reverse
  | [], _, h => by cases h; exact .nil
  | d :: ds, _, h => by
    cases h with
    | cons h1 h2 =>
      rw [List.reverse_cons, List.reverse_cons]
      exact (RDs.reverse h2).append (.cons h1 .nil)
theorem RDs.dropLast {K : PySem.W.Frag} {ds : List D} {vs : List V} (h : RDs K ρ H ds vs) : RDs K ρ H ds.dropLast vs.dropLast := by
  rw [List.dropLast_eq_take, List.dropLast_eq_take, h.length]
  exact h.take _
theorem RDs.rep {K : PySem.W.Frag} {ds : List D} {vs : List V} (h : RDs K ρ H ds vs) : ∀ k : Nat, RDs K ρ H (List.replicate k ds).flatten (List.replicate k vs).flatten
  | 0 => .nil
  | k + 1 => by
    rw [List.replicate_succ, List.replicate_succ, List.flatten_cons, List.flatten_cons]
    exact h.append (RDs.rep h k)
/-- ints and bools among the values -/
theorem RDs.ints {K : PySem.W.Frag} : ∀ {ds : List D} {vs : List V} {ns : List Int}, RDs K ρ H ds vs → intsD ds = some ns → vs = ns.map V.int
  | [], _, ns, h, e => by
    cases h
    have e' : ([] : List Int) = ns := Option.some.inj e
    subst e'
    rfl
  | .int i :: ds, _, ns, h, e => by
    cases h with
    | cons h1 h2 =>
      cases h1
      have e' : (intsD ds).map (i :: ·) = some ns := e
      cases q : intsD ds with
      | none => rw [q] at e'; cases e'
      | some ms =>
        rw [q] at e'
        have e2 : i :: ms = ns := Option.some.inj e'
        rw [← e2, RDs.ints h2 q]
        rfl
  | .non :: _, _, _, _, e => by cases e
  | .bl _ :: _, _, _, _, e => by cases e
  | .str _ :: _, _, _, _, e => by cases e
  | .tup _ :: _, _, _, _, e => by cases e
  | .tl _ :: _, _, _, _, e => by cases e
  | .fl _ :: _, _, _, _, e => by cases e
  | .ref _ :: _, _, _, _, e => by cases e
  | .bw _ :: _, _, _, _, e => by cases e
  | .dv _ _ :: _, _, _, _, e => by cases e
  | .sv _ :: _, _, _, _, e => by cases e
theorem RDs.bools {K : PySem.W.Frag} : ∀ {ds : List D} {vs : List V} {ns : List Bool}, RDs K ρ H ds vs → boolsD ds = some ns → vs = ns.map V.bl
  | [], _, ns, h, e => by
    cases h
    have e' : ([] : List Bool) = ns := Option.some.inj e
    subst e'
    rfl
  | .bl i :: ds, _, ns, h, e => by
    cases h with
    | cons h1 h2 =>
      cases h1
      have e' : (boolsD ds).map (i :: ·) = some ns := e
      cases q : boolsD ds with
      | none => rw [q] at e'; cases e'
      | some ms =>
        rw [q] at e'
        have e2 : i :: ms = ns := Option.some.inj e'
        rw [← e2, RDs.bools h2 q]
        rfl
  | .non :: _, _, _, _, e => by cases e
  | .int _ :: _, _, _, _, e => by cases e
  | .str _ :: _, _, _, _, e => by cases e
  | .tup _ :: _, _, _, _, e => by cases e
  | .tl _ :: _, _, _, _, e => by cases e
  | .fl _ :: _, _, _, _, e => by cases e
  | .ref _ :: _, _, _, _, e => by cases e
  | .bw _ :: _, _, _, _, e => by cases e
  | .dv _ _ :: _, _, _, _, e => by cases e
  | .sv _ :: _, _, _, _, e => by cases e
/-! ### new objects, changed objects -/
theorem tabs_step (hE : ∀ a o, H a = some o → a ∉ ρ → H' a = some o) (h : RH c ρ H G) : LamX.Tabs c.T H' := fun p hp => by
  obtain ⟨ps, h1, h2, h3⟩ := h.tb p hp
  have nl : ∀ a o, H a = some o → (∀ xs, o ≠ .lst xs) → (∀ xs ob, o ≠ .frz ob (.lst xs)) → a ∉ ρ := fun a o e q1 q2 m => by
    obtain ⟨ys, z⟩ := h.isl m
    rw [e] at z; exact q1 ys (Option.some.inj z)
  refine ⟨ps, hE _ _ h1 (nl _ _ h1 (fun _ z => by cases z) (fun _ _ z => by cases z)), h2, fun pos cv hc => ?_⟩
  obtain ⟨cc, e1, e2⟩ := h3 pos cv hc
  exact ⟨cc, e1, hE _ _ e2 (nl _ _ e2 (fun _ z => by unfold LamX.CodeO at z; cases z) (fun _ _ z => by unfold LamX.CodeO at z; cases z))⟩
/-- a new object that has no number -/
theorem Stp.alloc (h : RH c ρ H G) {p : Addr} {o : HO} (n : H p = none) : Stp ρ H ρ (upd H p o) :=
  ⟨⟨[], by simp⟩, fun a u e _ _ => by rw [upd_ne (ne_of_none e n)]; exact e, fun _ m => .inl m, fun a z => by
    by_cases e : a = p
    · rw [e]; exact .of n
    · exact fun u q => z u (by rw [upd_ne e]; exact q)⟩
theorem RH.alloc (h : RH c ρ H G) {p : Addr} {o : HO} (n : H p = none) : RH c ρ (upd H p o) G := by
  have st : Stp ρ H ρ (upd H p o) := Stp.alloc h n
  have keep : ∀ a u, H a = some u → upd H p o a = some u := fun a u e => by rw [upd_ne (ne_of_none e n)]; exact e
  refine ⟨h.len, h.nd, fun m a ob e1 e2 => ?_, tabs_step (fun a u e _ => keep a u e) h⟩
  have q := h.ob m a ob e1 e2
  cases ob with
  | lst ds => obtain ⟨xs, z, r⟩ := q; exact ⟨xs, keep _ _ z, st.rds h r⟩
  | llk ds => obtain ⟨xs, z, r⟩ := q; exact ⟨xs, keep _ _ z, st.rds h r⟩
  | dct _ => exact q.elim
  | dlk _ => exact q.elim
  | inst _ _ => exact q.elim
/-- a list just made gets a number -/
theorem Stp.name {a : Addr} {H0 : Hp} (x : Stp ρ H0 ρ' H') (n : nt H0 a) : Stp ρ H0 (ρ' ++ [a]) H' :=
  ⟨by obtain ⟨t, e⟩ := x.pre; exact ⟨t ++ [a], by rw [e, List.append_assoc]⟩, x.old, fun b m => by
    rcases List.mem_append.mp m with z | z
    · exact x.new b z
    · have e : b = a := by simpa using z
      subst e
      exact .inr n, x.dom⟩
theorem RDs.more {K : PySem.W.Frag} {ds : List D} {vs : List V} (t : List Addr) (h : RDs K ρ H ds vs) : RDs K (ρ ++ t) H ds vs := RDs.mono ⟨t, rfl⟩ (fun _ _ q => q) (fun _ _ _ q => q) (fun _ _ _ q => q) ds vs h
theorem RO.more {K : PySem.W.Frag} {a : Addr} {o : GO} (t : List Addr) (h : RO K ρ H a o) : RO K (ρ ++ t) H a o := by
  cases o with
  | lst ds => obtain ⟨xs, z, r⟩ := h; exact ⟨xs, z, r.more t⟩
  | llk ds => obtain ⟨xs, z, r⟩ := h; exact ⟨xs, z, r.more t⟩
  | dct _ => exact h.elim
  | dlk _ => exact h.elim
  | inst _ _ => exact h.elim
theorem RH.name (h : RH c ρ H G) {a : Addr} {xs : List V} {ds : List D} (e : H a = some (.lst xs)) (n : a ∉ ρ) (r : RDs c.K ρ H ds xs) : RH c (ρ ++ [a]) H (G ++ [.lst ds]) := by
  refine ⟨by rw [List.length_append, List.length_append, h.len]; rfl, ?_, fun m b o e1 e2 => ?_, h.tb⟩
  · rw [List.nodup_append]
    exact ⟨h.nd, by simp, fun x hx y hy z => by
      have e' : y = a := by simpa using hy
      rw [z, e'] at hx
      exact n hx⟩
  · by_cases hm : m < ρ.length
    · rw [List.getElem?_append_left hm] at e1
      rw [List.getElem?_append_left (by rw [← h.len]; exact hm)] at e2
      exact (h.ob m b o e1 e2).more [a]
    · have hl := h.len
      rw [List.getElem?_append_right (by omega)] at e1
      rw [List.getElem?_append_right (by omega)] at e2
      have em : m - ρ.length = 0 := by
        have := (List.getElem?_eq_some_iff.mp e1).1
        simp at this
        omega
      have em2 : m - G.length = 0 := by omega
      rw [em] at e1
      rw [em2] at e2
      have eb : a = b := by simpa using e1
      have eo : GO.lst ds = o := by simpa using e2
      subst eb eo
      exact ⟨xs, e, r.more [a]⟩
/-- the object n is changed -/
theorem Stp.upd (h : RH c ρ H G) {n : Nat} {a : Addr} {o : HO} (e : ρ[n]? = some a) (hd : ∀ ps, o ≠ .tbl ps) : Stp ρ H ρ (L2.upd H a o) :=
  ⟨⟨[], by simp⟩, fun b u q m _ => by rw [upd_ne (fun z => m (by rw [z]; exact List.mem_of_getElem? e))]; exact q, fun _ m => .inl m, fun b z => by
    by_cases eb : b = a
    · rw [eb] at z; exact (z.no upd_same hd).elim
    · exact fun u q => z u (by rw [upd_ne eb]; exact q)⟩
theorem RH.upd (h : RH c ρ H G) {n : Nat} {a : Addr} {xs : List V} {ds : List D} (e : ρ[n]? = some a) (r : RDs c.K ρ H ds xs) (hn : n < G.length) : RH c ρ (L2.upd H a (.lst xs)) (G.set n (.lst ds)) := by
  have st : Stp ρ H ρ (L2.upd H a (.lst xs)) := Stp.upd h e (fun _ z => by cases z)
  refine ⟨by rw [List.length_set]; exact h.len, h.nd, fun m b o e1 e2 => ?_, tabs_step (fun b u q m => by rw [upd_ne (fun z => m (by rw [z]; exact List.mem_of_getElem? e))]; exact q) h⟩
  by_cases hm : m = n
  · subst hm
    rw [List.getElem?_set_self hn] at e2
    have eo : GO.lst ds = o := Option.some.inj e2
    rw [e] at e1
    have eb : a = b := Option.some.inj e1
    subst eo eb
    exact ⟨xs, upd_same, st.rds h r⟩
  · rw [List.getElem?_set_ne (Ne.symm hm)] at e2
    have nb : b ≠ a := fun z => by
      rw [z] at e1
      have h1 := (List.getElem?_eq_some_iff.mp e1)
      have h2 := (List.getElem?_eq_some_iff.mp e)
      obtain ⟨l1, q1⟩ := h1
      obtain ⟨l2, q2⟩ := h2
      exact hm ((List.getElem_inj h.nd).mp (q1.trans q2.symm))
    have q := h.ob m b o e1 e2
    cases o with
    | lst ds => obtain ⟨ys, z, r⟩ := q; exact ⟨ys, by rw [upd_ne nb]; exact z, st.rds h r⟩
    | llk ds => obtain ⟨ys, z, r⟩ := q; exact ⟨ys, by rw [upd_ne nb]; exact z, st.rds h r⟩
    | dct _ => exact q.elim
    | dlk _ => exact q.elim
    | inst _ _ => exact q.elim
/-- how a sequence lies -/
theorem lsw_at (h : RH c ρ H G) {d : D} {v : V} {ds : List D} (r : RV c ρ H d v) (e : lsw d G = some ds) : ∃ a xs, v = .ref a ∧ H a = some (.lst xs) ∧ RDs c.K ρ H ds xs := by
  cases d with
  | tl es =>
    have e' : es = ds := Option.some.inj e
    subst e'
    obtain ⟨a, xs, q1, q2, _, q3⟩ := r
    exact ⟨a, xs, q1, q2, q3⟩
  | ref n =>
    have r' : RD c.K ρ H (.ref n) v := r
    cases r' with
    | ref hr =>
      rename_i a
      unfold lsw at e
      cases q : G[n]? with
      | none => simp only [q] at e; cases e
      | some o =>
        simp only [q] at e
        have z := h.ob n a o hr q
        cases o with
        | lst es =>
          have e' : es = ds := Option.some.inj e
          subst e'
          obtain ⟨xs, q1, q2⟩ := z
          exact ⟨a, xs, rfl, q1, q2⟩
        | llk es =>
          have e' : es = ds := Option.some.inj e
          subst e'
          obtain ⟨xs, q1, q2⟩ := z
          exact ⟨a, xs, rfl, q1, q2⟩
        | _ => cases e
  | _ => cases e
theorem lsv_at (h : RH c ρ H G) {d : D} {v : V} {ds : List D} (r : RV c ρ H d v) (e : lsv d G = some ds) : ∃ a xs, v = .ref a ∧ SqL c.K H a xs ∧ RDs c.K ρ H ds xs := by
  cases d with
  | tl es =>
    have e' : es = ds := Option.some.inj e
    subst e'
    obtain ⟨a, xs, q1, q2, _, q3⟩ := r
    exact ⟨a, xs, q1, .of q2, q3⟩
  | fl es =>
    have e' : es = ds := Option.some.inj e
    subst e'
    have r' : RD c.K ρ H (.fl es) v := r
    cases r' with
    | fl h1 h2 => exact ⟨_, _, rfl, h1.sq, h2⟩
  | ref n =>
    have r' : RD c.K ρ H (.ref n) v := r
    cases r' with
    | ref hr =>
      rename_i a
      unfold lsv at e
      cases q : G[n]? with
      | none => simp only [q] at e; cases e
      | some o =>
        simp only [q] at e
        have z := h.ob n a o hr q
        cases o with
        | lst es =>
          have e' : es = ds := Option.some.inj e
          subst e'
          obtain ⟨xs, q1, q2⟩ := z
          exact ⟨a, xs, rfl, .of q1, q2⟩
        | llk es =>
          have e' : es = ds := Option.some.inj e
          subst e'
          obtain ⟨xs, q1, q2⟩ := z
          exact ⟨a, xs, rfl, .of q1, q2⟩
        | _ => cases e
  | _ => cases e
theorem tup_at {v : V} {ds : List D} (r : RV c ρ H (.tup ds) v) : ∃ a xs, v = .ref a ∧ SqT c.K H a xs ∧ RDs c.K ρ H ds xs := by
  have r' : RD c.K ρ H (.tup ds) v := r
  cases r' with
  | tup h1 h2 => exact ⟨_, _, rfl, h1, h2⟩
theorem seqv_at (h : RH c ρ H G) {d : D} {v : V} {ds : List D} (r : RV c ρ H d v) (e : seqv d G = some ds) : ∃ a xs, v = .ref a ∧ (SqL c.K H a xs ∨ SqT c.K H a xs) ∧ RDs c.K ρ H ds xs := by
  by_cases ht : ∃ es, d = .tup es
  · obtain ⟨es, rfl⟩ := ht
    have e' : es = ds := Option.some.inj e
    subst e'
    obtain ⟨a, xs, q1, q2, q3⟩ := tup_at r
    exact ⟨a, xs, q1, .inr q2, q3⟩
  · have e' : lsv d G = some ds := by
      cases d with
      | tup es => exact absurd ⟨es, rfl⟩ ht
      | _ => exact e
    obtain ⟨a, xs, q1, q2, q3⟩ := lsv_at h r e'
    exact ⟨a, xs, q1, .inl q2, q3⟩
end Ev
set_option Elab.async false
set_option linter.all false
set_option maxRecDepth 100000
set_option maxHeartbeats 4000000
/-! EvC: what is wanted of a result; the operations keep to the layer's rules. -/
namespace Ev
open PySem PySem.Spec PyProof.Rows L2
structure SX extends SC where
  /-- an exception's class, its field -/
  cls : Nat → Addr
  fld : Nat → Str
/-- what is wanted of a result: Z of a value and the heaps behind it, W of an exception -/
def PX (c : SX) (W : XK) (ρ : List Addr) (H : Hp) (r : R D) (Z : D → GH → List Addr → Hp → Prop) : Prop := match r with
  | .ok d G' => ∀ ρ' H', Stp ρ H ρ' H' → RH c.toSC ρ' H' G' → Z d G' ρ' H'
  | .exc k d G' => ∀ ρ' H' dx v, Stp ρ H ρ' H' → RH c.toSC ρ' H' G' → RD c.K ρ' H' d v → H' dx = some (.xd [(c.fld k, v)]) → W (.ref (c.cls k)) (some dx) H'
  | .bad => False
/-- a value is wanted -/
def zV (c : SX) (H0 : Hp) (Q : VK) : D → GH → List Addr → Hp → Prop := fun d _ ρ' H' => ∀ v, RV c.toSC ρ' H' d v → Fr0 H0 d v → Q v H'
variable {c : SX} {W : XK} {ρ ρ1 : List Addr} {H H1 : Hp} {G G1 : GH} {r : R D} {Q : VK} {Z Z' : D → GH → List Addr → Hp → Prop}
theorem PX.step (x : Stp ρ H ρ1 H1) (h : PX c W ρ H r Z) : PX c W ρ1 H1 r Z := by
  cases r with
  | ok d G' => exact fun ρ' H' y => h ρ' H' (x.trans y)
  | exc k d G' => exact fun ρ' H' dx v y => h ρ' H' dx v (x.trans y)
  | bad => exact h
theorem PX.bind {f : D → GH → R D} (h : PX c W ρ H (r.bind f) Z) (k : ∀ d G' ρ' H', r = .ok d G' → Stp ρ H ρ' H' → RH c.toSC ρ' H' G' → PX c W ρ' H' (f d G') Z → Z' d G' ρ' H') : PX c W ρ H r Z' := by
  cases r with
  | ok d G' => exact fun ρ' H' y rh => k d G' ρ' H' rfl y rh (PX.step y h)
  | exc k d G' => exact h
  | bad => exact h
theorem PX.imp (h : PX c W ρ H r Z) (k : ∀ d G' ρ' H', r = .ok d G' → Stp ρ H ρ' H' → RH c.toSC ρ' H' G' → Z d G' ρ' H' → Z' d G' ρ' H') : PX c W ρ H r Z' := by
  cases r with
  | ok d G' => exact fun ρ' H' y rh => k d G' ρ' H' rfl y rh (h ρ' H' y rh)
  | exc k d G' => exact h
  | bad => exact h
theorem Fr0.back {d : D} {v : V} (x : Stp ρ H ρ1 H1) (f : Fr0 H1 d v) : Fr0 H d v := fun t a e => x.dom a (f t a e)
theorem zV.to {Q : VK} {d : D} {G' : GH} {ρ' : List Addr} {H' : Hp} (x : Stp ρ H ρ1 H1) (h : zV c H Q d G' ρ' H') : zV c H1 Q d G' ρ' H' := fun v rv fr => h v rv (fr.back x)
/-- a value's result seen from a later heap -/
theorem PX.stepV (x : Stp ρ H ρ1 H1) (h : PX c W ρ1 H1 r (zV c H Q)) : PX c W ρ1 H1 r (zV c H1 Q) := h.imp fun _ _ _ _ _ _ _ z => z.to x
/-- an operation's reading -/
def rOp (c : SX) (g : D → D → GH → R D) : R2 := fun x y H Q => ∃ W ρ G d e, RH c.toSC ρ H G ∧ RV c.toSC ρ H d x ∧ RV c.toSC ρ H e y ∧ PX c W ρ H (g d e G) (zV c H Q)
/-- what a value is as data -/
theorem vals_len {xs : List V} {us : List Value} (r : Vals xs us) : xs.length = us.length := r.length
theorem ck_mono : ∀ (n : Nat) (d : D), ck n d = true → ck (n + 1) d = true
  | 0, .non, _ => rfl
  | 0, .bl _, _ => rfl
  | 0, .int _, _ => rfl
  | 0, .str _, h => h
  | 0, .tup _, h => by cases h
  | 0, .tl _, h => by cases h
  | 0, .fl _, h => by cases h
  | 0, .ref _, h => by cases h
  | 0, .bw _, h => by cases h
  | 0, .dv _ _, h => by cases h
  | 0, .sv _, h => by cases h
  | n + 1, .non, _ => rfl
  | n + 1, .bl _, _ => rfl
  | n + 1, .int _, _ => rfl
  | n + 1, .str _, h => h
  | n + 1, .tup xs, h => List.all_eq_true.mpr fun x hx => ck_mono n x (List.all_eq_true.mp h x hx)
  | n + 1, .tl xs, h => List.all_eq_true.mpr fun x hx => ck_mono n x (List.all_eq_true.mp h x hx)
  | n + 1, .fl xs, h => List.all_eq_true.mpr fun x hx => ck_mono n x (List.all_eq_true.mp h x hx)
  | n + 1, .ref _, h => by cases h
  | n + 1, .bw _, h => by cases h
  | n + 1, .dv _ _, h => by cases h
  | n + 1, .sv _, h => by cases h
theorem depth_all {n : Nat} : ∀ {xs : List D}, (∀ x ∈ xs, x.py.depth ≤ n ∧ x.py.canLay0 = true) → PyData.depthAll (D.pyAll xs) ≤ n ∧ PyData.canLayAll0 (D.pyAll xs) = true
  | [], _ => ⟨Nat.zero_le _, rfl⟩
  | x :: xs, h => by
    obtain ⟨h1, h2⟩ := h x List.mem_cons_self
    obtain ⟨h3, h4⟩ := depth_all fun y hy => h y (List.mem_cons_of_mem _ hy)
    refine ⟨?_, ?_⟩
    · simp only [D.pyAll, PyData.depthAll]
      omega
    · simp only [D.pyAll, PyData.canLayAll0, h2, h4, Bool.and_self]
theorem ck_py : ∀ (n : Nat) (d : D), ck n d = true → d.py.depth ≤ n ∧ d.py.canLay0 = true
  | n, .non, _ => ⟨Nat.zero_le _, rfl⟩
  | n, .bl _, _ => ⟨Nat.zero_le _, rfl⟩
  | n, .int _, _ => ⟨Nat.zero_le _, rfl⟩
  | n, .str s, h => ⟨Nat.zero_le _, by cases n <;> exact h⟩
  | 0, .tup _, h => by cases h
  | 0, .tl _, h => by cases h
  | 0, .fl _, h => by cases h
  | n + 1, .tup xs, h => by
    obtain ⟨h1, h2⟩ := depth_all (n := n) (xs := xs) fun x hx => ck_py n x (List.all_eq_true.mp h x hx)
    exact ⟨by simp only [D.py, PyData.depth]; omega, by simp only [D.py, PyData.canLay0]; exact h2⟩
  | n + 1, .tl xs, h => by
    obtain ⟨h1, h2⟩ := depth_all (n := n) (xs := xs) fun x hx => ck_py n x (List.all_eq_true.mp h x hx)
    exact ⟨by simp only [D.py, PyData.depth]; omega, by simp only [D.py, PyData.canLay0]; exact h2⟩
  | n + 1, .fl xs, h => by
    obtain ⟨h1, h2⟩ := depth_all (n := n) (xs := xs) fun x hx => ck_py n x (List.all_eq_true.mp h x hx)
    exact ⟨by simp only [D.py, PyData.depth]; omega, by simp only [D.py, PyData.canLay0]; exact h2⟩
  | 0, .ref _, h => by cases h
  | 0, .bw _, h => by cases h
  | 0, .dv _ _, h => by cases h
  | 0, .sv _, h => by cases h
  | n + 1, .ref _, h => by cases h
  | n + 1, .bw _, h => by cases h
  | n + 1, .dv _ _, h => by cases h
  | n + 1, .sv _, h => by cases h
theorem cl_shaped {d : D} (h : cl d = true) : SeqAt.shaped d.py = true := by
  obtain ⟨h1, h2⟩ := ck_py 20 d h
  show (d.py.canLay0 && decide (d.py.depth ≤ 64)) = true
  rw [h2, decide_eq_true (by omega)]
  rfl
mutual
theorem RD.dp {K : PySem.W.Frag} : ∀ (n : Nat) (d : D) (v : V), RD K ρ H d v → ck n d = true → Dp K H v d.py
  | _, .non, _, h, _ => by cases h; exact .non
  | _, .bl _, _, h, _ => by cases h; exact .bl _
  | _, .int _, _, h, _ => by cases h; exact .int _
  | _, .str _, _, h, _ => by cases h; exact .str _
  | 0, .tup _, _, _, e => by cases e
  | n + 1, .tup ds, _, h, e => by
    cases h with
    | tup h1 h2 =>
      rw [D.py]
      exact .tup h1 (RDs.dp n ds _ h2 e)
  | _, .tl _, _, h, _ => by cases h
  | 0, .fl _, _, _, e => by cases e
  | n + 1, .fl ds, _, h, e => by
    cases h with
    | fl h1 h2 =>
      rw [D.py]
      exact .lst h1.sq (RDs.dp n ds _ h2 e)
  | 0, .ref _, _, _, e => by cases e
  | 0, .bw _, _, _, e => by cases e
  | 0, .dv _ _, _, _, e => by cases e
  | 0, .sv _, _, _, e => by cases e
  | n + 1, .ref _, _, _, e => by cases e
  | n + 1, .bw _, _, _, e => by cases e
  | n + 1, .dv _ _, _, _, e => by cases e
  | n + 1, .sv _, _, _, e => by cases e
theorem RDs.dp {K : PySem.W.Frag} : ∀ (n : Nat) (ds : List D) (vs : List V), RDs K ρ H ds vs → ds.all (ck n) = true → DpAll K H vs (D.pyAll ds)
  | _, [], _, h, _ => by cases h; exact .nil
  | n, d :: ds, _, h, e => by
    cases h with
    | cons h1 h2 =>
      rw [List.all_cons, Bool.and_eq_true] at e
      rw [D.pyAll]
      exact .cons (RD.dp n d _ h1 e.1) (RDs.dp n ds _ h2 e.2)
end
theorem RV.dp {d : D} {v : V} (h : RV c.toSC ρ H d v) (e : cl d = true) : Dp c.K H v d.py := by
  cases d with
  | tl ds =>
    obtain ⟨a, xs, rfl, q, _, r⟩ := h
    rw [D.py]
    exact .lst (.of q) (RDs.dp 19 ds xs r e)
  | _ => exact RD.dp 20 _ _ h e
theorem res_dp (rh : RH c.toSC ρ H G) {d : D} {v : V} (h : RV c.toSC ρ H d v) (e : cl (res d G) = true) : Dp c.K H v (res d G).py := by
  cases d with
  | ref n =>
    cases q : G[n]? with
    | none =>
      have e2 : res (.ref n) G = .ref n := by unfold res; simp only [q]
      rw [e2] at e; cases e
    | some o =>
      have other : (∀ xs, lsv (.ref n) G ≠ some xs) → False := fun z => by
        have e2 : res (.ref n) G = .ref n := by
          unfold res; simp only [q]
          cases o with
          | lst xs => exact absurd (by unfold lsv; simp only [q]) (z xs)
          | llk xs => exact absurd (by unfold lsv; simp only [q]) (z xs)
          | _ => rfl
        rw [e2] at e; cases e
      cases w : lsv (.ref n) G with
      | none => exact (other fun xs z => by rw [w] at z; cases z).elim
      | some xs =>
        have e2 : res (.ref n) G = .tl xs := by
          unfold lsv at w
          unfold res
          simp only [q] at w ⊢
          cases o with
          | lst ys => have := Option.some.inj w; subst this; rfl
          | llk ys => have := Option.some.inj w; subst this; rfl
          | _ => cases w
        rw [e2] at e ⊢
        obtain ⟨a, ys, rfl, hs, hr⟩ := lsv_at rh h w
        rw [D.py]
        exact .lst hs (RDs.dp 19 xs ys hr e)
  | tl ds => exact RV.dp h e
  | _ => exact RV.dp h e
section
variable {X : Cx}
theorem hands {d : D} {v : V} (h : PX c W ρ H (.ok d G1) (zV c H Q)) (st : Stp ρ H ρ1 H1) (rh : RH c.toSC ρ1 H1 G1) (rv : RD c.K ρ1 H1 d v) (n : isTl d = false := by rfl) : Q v H1 :=
  h ρ1 H1 st rh v (.of rv) (.of n)
theorem handsL {ds : List D} {xs : List V} {p : Addr} (h : PX c W ρ H (.ok (.tl ds) G) (zV c H Q)) (rh : RH c.toSC ρ H G) (r : RDs c.K ρ H ds xs) (n : H p = none) : Q (.ref p) (upd H p (.lst xs)) := by
  have st : Stp ρ H ρ (upd H p (.lst xs)) := Stp.alloc rh n
  exact h ρ _ st (rh.alloc n) (.ref p) ⟨p, xs, rfl, upd_same, rh.fresh n, st.rds rh r⟩ fun _ a e => by cases e; exact .of n
theorem handsT {ds : List D} {xs : List V} {p : Addr} (h : PX c W ρ H (.ok (.tup ds) G) (zV c H Q)) (rh : RH c.toSC ρ H G) (r : RDs c.K ρ H ds xs) (n : H p = none) : Q (.ref p) (upd H p (.tup xs)) := by
  have st : Stp ρ H ρ (upd H p (.tup xs)) := Stp.alloc rh n
  exact hands h st (rh.alloc n) (.tup (.of upd_same) (st.rds rh r))
theorem lim_line {n : Nat} (h : n ≤ lim) : n ≤ sizeLine := by rw [sizeLine_eq]; exact h
theorem or_add (hK : c.K = X.K) : OpR X (binaryOp .Add) (rOp c (opBin .add)) := by
  intro pins s σV H x y v u Q I rx ry ⟨W, ρ, G, d, e, rh, rd, re, h⟩
  have lists : ∀ {xs ys : List D}, lsw d G = some xs → lsw e G = some ys → PX c W ρ H (if xs.length + ys.length ≤ lim then .ok (.tl (xs ++ ys)) G else .bad) (zV c H Q) → wpAny (model X.prog X.w) X.A (binaryOp .Add v u) (EP X pins σV Q) X.xe s := fun {xs ys} e1 e2 h => by
    obtain ⟨a, vs, rfl, h1, h2⟩ := lsw_at rh rd e1
    obtain ⟨b, us, rfl, h3, h4⟩ := lsw_at rh re e2
    split at h
    · rename_i hl
      exact op_cat pins s σV H _ _ v u Q I rx ry ⟨a, b, vs, us, rfl, rfl, h1, h3, by rw [← h2.length, ← h4.length]; exact lim_line hl, fun p n => handsL h rh (h2.append h4) n⟩
    · exact h.elim
  have more : (match lsw d G, lsw e G with
      | some xs, some ys => if xs.length + ys.length ≤ lim then R.ok (.tl (xs ++ ys)) G else .bad
      | _, _ => .bad) = opBin .add d e G → wpAny (model X.prog X.w) X.A (binaryOp .Add v u) (EP X pins σV Q) X.xe s := fun eq => by
    rw [← eq] at h
    cases e1 : lsw d G with
    | none => rw [e1] at h; exact h.elim
    | some xs =>
      cases e2 : lsw e G with
      | none => rw [e1, e2] at h; exact h.elim
      | some ys =>
        rw [e1, e2] at h
        exact lists e1 e2 h
  cases d with
  | int i =>
    cases e with
    | int j =>
      cases rd
      cases re
      exact op_add pins s σV H _ _ v u Q I rx ry ⟨i, j, rfl, rfl, hands h (.refl _ _) rh (.int _)⟩
    | _ => exact h.elim
  | tup xs =>
    cases e with
    | tup ys =>
      obtain ⟨a, vs, rfl, h1, h2⟩ := tup_at rd
      obtain ⟨b, us, rfl, h3, h4⟩ := tup_at re
      have h' : PX c W ρ H (if xs.length + ys.length ≤ lim then .ok (.tup (xs ++ ys)) G else .bad) (zV c H Q) := h
      split at h'
      · rename_i hl
        have l1 := h2.length
        have l2 := h4.length
        rw [hK] at h1 h3
        refine op_catA pins s σV H _ _ v u Q I rx ry ⟨a, b, vs, us, rfl, rfl, h1, h3, by rw [← l1, ← l2]; exact lim_line hl, fun z => ?_, fun z1 z2 => ?_, fun _ _ p n => handsT h' rh (h2.append h4) n⟩
        · have ex : xs = [] := List.eq_nil_of_length_eq_zero (by rw [l1, z]; rfl)
          rw [ex, List.nil_append] at h'
          exact hands h' (.refl _ _) rh re
        · have ey : ys = [] := List.eq_nil_of_length_eq_zero (by rw [l2, z2]; rfl)
          rw [ey, List.append_nil] at h'
          exact hands h' (.refl _ _) rh rd
      · exact h'.elim
    | _ => exact h.elim
  | tl xs =>
    cases e with
    | tl ys => exact more rfl
    | ref m => exact more rfl
    | _ => exact h.elim
  | ref n =>
    refine more ?_
    cases e <;> rfl
  | _ => cases e <;> exact h.elim
end
end Ev
set_option Elab.async false
set_option linter.all false
set_option maxRecDepth 100000
set_option maxHeartbeats 8000000
/-! EvTm: tuple * int, whatever the number (after HandS.TupMul). -/
namespace Ev
open PySem PySem.Spec PyProof.Rows L2
theorem tuple_mul1 (l : Addr) (items : Array Value) (n : Nat) (dd : Option Addr) (sl : Array (Option Value)) (x : Int) (u : Tok) (c0 : (decide (x < -(2 ^ 63)) || decide (x ≥ 2 ^ 63)) = false) (c1 : (items.isEmpty || x == 1) = true) :
    Meets (Builtin.«tuple.__mul__» ⟨[.ref l, .int x u], []⟩) (fun _ R s => s.heap.get? l = some { cls := .type "tuple", dict := dd, data := .seq items n, slots := sl } ∧ R (.ok (.ret (Value.ref l))) s) :=
  .of_wp fun prog w A R s h => by
    obtain ⟨hp, g, d, tk, os⟩ := s
    obtain ⟨hl, h⟩ := h
    have f1 := AutoSeq1.idx_int
    wp_walk using wpAny_loadPart' hl
    repeat (first
      | (refine wpAny_ite_false (decide_eq_false (by rw [c0]; exact Bool.false_ne_true)) ?_; wp_walk using wpAny_loadPart' hl)
      | (refine wpAny_ite_true (decide_eq_true c1) ?_; wp_walk using wpAny_loadPart' hl))
    exact ⟨_, rfl, h⟩
theorem tuple_mul0 (l : Addr) (items : Array Value) (n : Nat) (dd : Option Addr) (sl : Array (Option Value)) (x : Int) (u : Tok) (c0 : (decide (x < -(2 ^ 63)) || decide (x ≥ 2 ^ 63)) = false) (c1 : (items.isEmpty || x == 1) = false) (c2 : (decide (x ≤ 0) || items.isEmpty) = true) :
    Meets (Builtin.«tuple.__mul__» ⟨[.ref l, .int x u], []⟩) (fun _ R s => s.heap.get? l = some { cls := .type "tuple", dict := dd, data := .seq items n, slots := sl } ∧
      R (.ok (.ret (Value.ref s.heap.objs.size))) { s with heap := s.heap.push { cls := Value.type "tuple", data := Data.seq (#[] : Array Value) }, toks := s.toks }) :=
  .of_wp fun prog w A R s h => by
    obtain ⟨hp, g, d, tk, os⟩ := s
    obtain ⟨hl, h⟩ := h
    have f1 := AutoSeq1.idx_int
    wp_walk using wpAny_loadPart' hl
    repeat (first
      | (refine wpAny_ite_false (decide_eq_false (by rw [c0]; exact Bool.false_ne_true)) ?_; wp_walk using wpAny_loadPart' hl)
      | (refine wpAny_ite_false (decide_eq_false (by rw [c1]; exact Bool.false_ne_true)) ?_; wp_walk using wpAny_loadPart' hl)
      | (refine wpAny_ite_true (decide_eq_true c2) ?_; wp_walk using wpAny_loadPart' hl))
    exact ⟨_, rfl, h⟩
def rRepA (K : PySem.W.Frag) : R2 := fun x y H Q => ∃ l k xs, x = .ref l ∧ y = .int k ∧ SqT K H l xs ∧ -1000 ≤ k ∧ k ≤ 1000 ∧ xs.length ≤ 1000 ∧ (xs = [] ∨ k = 1 → Q (.ref l) H) ∧ (xs ≠ [] → k ≠ 1 → ∀ p, H p = none → Q (.ref p) (upd H p (.tup (List.replicate k.toNat xs).flatten)))
section
variable {X : Cx}
theorem op_repA : OpR X (binaryOp .Mult) (rRepA X.K) := by
  intro pins s σ H x y v u Q I rx ry h
  obtain ⟨l, k, xs, rfl, rfl, hT, h1, h2, hz, q1, q2⟩ := h
  by_cases big : xs ≠ [] ∧ 2 ≤ k
  · exact op_repT pins s σ H _ _ v u Q I rx ry ⟨l, k, xs, rfl, rfl, hT, big.1, big.2, h2, hz, q2 big.1 (by omega)⟩
  cases rx
  obtain ⟨t, rfl⟩ := ry
  obtain ⟨its, r, ⟨⟨cls, dd, data, sl⟩, ho, hc, n, hd⟩, hs⟩ := I.tuple hT
  simp only at hc hd
  subst hc hd
  have hle : its.length = xs.length := r.length.symm
  have c0 : (decide (k < -(2 ^ 63)) || decide (k ≥ 2 ^ 63)) = false := by
    rw [decide_eq_false (by omega), decide_eq_false (by omega)] <;> rfl
  have hi : its.toArray.isEmpty = decide (xs = []) := by
    cases its with
    | nil => rw [decide_eq_true (List.eq_nil_of_length_eq_zero hle.symm)]; rfl
    | cons a b => rw [decide_eq_false (fun e => by rw [e] at hle; simp at hle)]; rfl
  by_cases one : xs = [] ∨ k = 1
  · have c1 : (its.toArray.isEmpty || k == 1) = true := by
      rw [hi]
      rcases one with z | z
      · rw [decide_eq_true z]; rfl
      · rw [z]; simp
    exact wpAny_binaryOp_repeat_ref (T := "tuple") (U := "int") (by decide) ⟨_, ho, rfl⟩ (fun s' => typeIs_int s' k t) noFill_tuple_mul F.fills_int_mul F.slot_int_rmul repeat_tuple F.slot_int_index.lookup
      (call_meets F.slot_int_rmul (typeIs_int s k t) F.entry_int_rmul (F.args_int_rmul_2 _ _) (int_rmul_tuple k t l its.toArray n dd sl)
        ⟨ho, rfl, ⟨_, ho, rfl⟩, call_meets F.slot_tuple_mul ⟨_, ho, rfl⟩ F.entry_tuple_mul (F.args_tuple_mul_2 _ _) (tuple_mul1 l its.toArray n dd sl k t c0 c1) ⟨ho, ⟨.ref l, H, I, rfl, q1 one⟩⟩⟩)
  · have hn : xs ≠ [] := fun z => one (.inl z)
    have hk : k ≠ 1 := fun z => one (.inr z)
    have hk0 : k ≤ 0 := by
      have : ¬ 2 ≤ k := fun z => big ⟨hn, z⟩
      omega
    have c1 : (its.toArray.isEmpty || k == 1) = false := by
      rw [hi, decide_eq_false hn, Bool.false_or]
      exact beq_eq_false_iff_ne.mpr hk
    have c2 : (decide (k ≤ 0) || its.toArray.isEmpty) = true := by rw [decide_eq_true hk0]; rfl
    refine wpAny_binaryOp_repeat_ref (T := "tuple") (U := "int") (by decide) ⟨_, ho, rfl⟩ (fun s' => typeIs_int s' k t) noFill_tuple_mul F.fills_int_mul F.slot_int_rmul repeat_tuple F.slot_int_index.lookup
      (call_meets F.slot_int_rmul (typeIs_int s k t) F.entry_int_rmul (F.args_int_rmul_2 _ _) (int_rmul_tuple k t l its.toArray n dd sl)
        ⟨ho, rfl, ⟨_, ho, rfl⟩, call_meets F.slot_tuple_mul ⟨_, ho, rfl⟩ F.entry_tuple_mul (F.args_tuple_mul_2 _ _) (tuple_mul0 l its.toArray n dd sl k t c0 c1 c2) ⟨ho, ?_⟩⟩)
    have e : (List.replicate k.toNat xs).flatten = [] := by rw [show k.toNat = 0 by omega]; rfl
    have q := q2 hn hk s.heap.objs.size (I.hok.fresh (Nat.le_refl _))
    rw [e] at q
    exact ⟨.ref s.heap.objs.size, _, I.laid (t' := s.toks) (o := .tup []) (fun b ob q => Heap.get?_push_of_some _ q) (Nat.le_refl _) ⟨Nat.zero_le _, [], .nil, IsTup.new _ _⟩, rfl, q⟩
end
end Ev
set_option Elab.async false
set_option linter.all false
set_option maxRecDepth 100000
set_option maxHeartbeats 4000000
/-! EvD: more operations. -/
namespace Ev
open PySem PySem.Spec PyProof.Rows L2
variable {c : SX} {W : XK} {ρ ρ1 : List Addr} {H H1 : Hp} {G G1 : GH} {r : R D} {Q : VK}
section
variable {X : Cx}
theorem or_sub : OpR X (binaryOp .Sub) (rOp c (opBin .sub)) := by
  intro pins s σV H x y v u Q I rx ry ⟨W, ρ, G, d, e, rh, rd, re, h⟩
  cases d with
  | int i =>
    cases e with
    | int j =>
      cases rd
      cases re
      exact op_sub pins s σV H _ _ v u Q I rx ry ⟨i, j, rfl, rfl, hands h (.refl _ _) rh (.int _)⟩
    | _ => exact h.elim
  | _ => cases e <;> exact h.elim
theorem mulOk_of {i j : Int} (h : mulOk i j = true) : CMul i j := by
  unfold mulOk at h
  simp only [Bool.or_eq_true, Bool.and_eq_true, decide_eq_true_eq] at h
  exact h
theorem or_mul (hK : c.K = X.K) : OpR X (binaryOp .Mult) (rOp c (opBin .mul)) := by
  intro pins s σV H x y v u Q I rx ry ⟨W, ρ, G, d, e, rh, rd, re, h⟩
  cases d with
  | int i =>
    cases e with
    | int j =>
      cases rd
      cases re
      have h' : PX c W ρ H (if mulOk i j then .ok (.int (i * j)) G else .bad) (zV c H Q) := h
      split at h'
      · rename_i hm
        exact op_mul pins s σV H _ _ v u Q I rx ry ⟨i, j, rfl, rfl, mulOk_of hm, hands h' (.refl _ _) rh (.int _)⟩
      · exact h'.elim
    | _ => exact h.elim
  | tup xs =>
    cases e with
    | int k =>
      obtain ⟨a, vs, rfl, h1, h2⟩ := tup_at rd
      cases re
      have h' : PX c W ρ H (if xs.length ≤ 1000 ∧ -1000 ≤ k ∧ k ≤ 1000 then .ok (.tup (List.replicate k.toNat xs).flatten) G else .bad) (zV c H Q) := h
      split at h'
      · rename_i hm
        have l1 := h2.length
        rw [hK] at h1
        refine op_repA pins s σV H _ _ v u Q I rx ry ⟨a, k, vs, rfl, rfl, h1, hm.2.1, hm.2.2, by rw [← l1]; exact hm.1, fun z => ?_, fun _ _ p n => handsT h' rh (h2.rep _) n⟩
        have e : (List.replicate k.toNat xs).flatten = xs := by
          rcases z with z | z
          · have : xs = [] := List.eq_nil_of_length_eq_zero (by rw [l1, z]; rfl)
            rw [this]
            simp
          · rw [z]
            simp
        rw [e] at h'
        exact hands h' (.refl _ _) rh rd
      · exact h'.elim
    | _ => exact h.elim
  | tl xs =>
    cases e with
    | int k =>
      obtain ⟨a, vs, rfl, h1, _, h2⟩ := rd
      cases re
      have h' : PX c W ρ H (if xs.length * k.toNat ≤ lim && decide (-(2 ^ 63) ≤ k) && decide (k < 2 ^ 63) then .ok (.tl (List.replicate k.toNat xs).flatten) G else .bad) (zV c H Q) := h
      split at h'
      · rename_i hm
        simp only [Bool.and_eq_true, decide_eq_true_eq] at hm
        exact op_rep pins s σV H _ _ v u Q I rx ry ⟨a, k, vs, rfl, rfl, h1, hm.1.2, hm.2, by rw [← h2.length]; exact lim_line hm.1.1, fun p n => handsL h' rh (h2.rep _) n⟩
      · exact h'.elim
    | _ => exact h.elim
  | _ => cases e <;> exact h.elim
theorem or_fdiv : OpR X (binaryOp .FloorDiv) (rOp c (opBin .fdiv)) := by
  intro pins s σV H x y v u Q I rx ry ⟨W, ρ, G, d, e, rh, rd, re, h⟩
  cases d with
  | int i =>
    cases e with
    | int j =>
      cases rd
      cases re
      have h' : PX c W ρ H (if 0 < j ∧ j < 1073741824 then .ok (.int (i / j)) G else .bad) (zV c H Q) := h
      split at h'
      · rename_i hm
        exact op_fdiv pins s σV H _ _ v u Q I rx ry ⟨i, j, rfl, rfl, hm, hands h' (.refl _ _) rh (.int _)⟩
      · exact h'.elim
    | _ => exact h.elim
  | _ => cases e <;> exact h.elim
theorem or_mod : OpR X (binaryOp .Mod) (rOp c (opBin .mod)) := by
  intro pins s σV H x y v u Q I rx ry ⟨W, ρ, G, d, e, rh, rd, re, h⟩
  cases d with
  | int i =>
    cases e with
    | int j =>
      cases rd
      cases re
      have h' : PX c W ρ H (if 0 < j then .ok (.int (i % j)) G else .bad) (zV c H Q) := h
      split at h'
      · rename_i hm
        exact op_mod pins s σV H _ _ v u Q I rx ry ⟨i, j, rfl, rfl, hm, hands h' (.refl _ _) rh (.int _)⟩
      · exact h'.elim
    | _ => exact h.elim
  | _ => cases e <;> exact h.elim
theorem or_pow : OpR X (binaryOp .Pow) (rOp c (opBin .pow)) := by
  intro pins s σV H x y v u Q I rx ry ⟨W, ρ, G, d, e, rh, rd, re, h⟩
  cases d with
  | int i =>
    cases e with
    | int j =>
      cases rd
      cases re
      have h' : PX c W ρ H (if 0 ≤ j ∧ j ≤ 1000000 ∧ i.natAbs < 2 ^ 64 then .ok (.int (i ^ j.toNat)) G else .bad) (zV c H Q) := h
      split at h'
      · rename_i hm
        exact op_pow pins s σV H _ _ v u Q I rx ry ⟨i, j, rfl, rfl, hm, hands h' (.refl _ _) rh (.int _)⟩
      · exact h'.elim
    | _ => exact h.elim
  | _ => cases e <;> exact h.elim
def bOp : BOp → Operator
  | .add => .Add
  | .sub => .Sub
  | .mul => .Mult
  | .fdiv => .FloorDiv
  | .mod => .Mod
  | .pow => .Pow
theorem or_bin (hK : c.K = X.K) (op : BOp) : OpR X (binaryOp (bOp op)) (rOp c (opBin op)) := by
  cases op
  · exact or_add hK
  · exact or_sub
  · exact or_mul hK
  · exact or_fdiv
  · exact or_mod
  · exact or_pow
/-! ### comparisons -/
theorem dp_reads {pins : List (Addr × Obj)} {s : Shared} {σV : L2.St} (hK : c.K = X.K) (I : Inv X pins σV H s) {d : D} {x : V} {v : Value} (h : Dp c.K H x d.py) (r : RelV x v) : ∃ as, Reads s.heap v d.py as := by
  rw [hK] at h
  exact Dp.reads I d.py x v h r
theorem non_of {d : D} (h : isNon d = false) (hc : cl d = true) : d.py ≠ .none := by
  cases d with
  | non => cases h
  | ref n => cases hc
  | bw n => cases hc
  | dv _ _ => cases hc
  | sv _ => cases hc
  | _ => intro z; simp only [D.py] at z; cases z
def cOp : COp → CmpOp
  | .lt => .Lt
  | .le => .LtE
  | .gt => .Gt
  | .ge => .GtE
  | .eq => .Eq
  | .ne => .NotEq
  | .is_ => .Is
  | .isnt => .IsNot
  | .in_ => .In
  | .nin => .NotIn
theorem isNon_dec {d : D} {x : V} (r : RV c.toSC ρ H d x) : decide (x = .non) = isNon d := by
  cases d with
  | tl ds =>
    obtain ⟨a, xs, rfl, _⟩ := r
    rfl
  | non => cases (show RD c.K ρ H _ x from r); rfl
  | bl b => cases (show RD c.K ρ H _ x from r); rfl
  | int i => cases (show RD c.K ρ H _ x from r); rfl
  | str z => cases (show RD c.K ρ H _ x from r); rfl
  | tup ds => cases (show RD c.K ρ H _ x from r); rfl
  | fl ds => cases (show RD c.K ρ H _ x from r); rfl
  | ref n => cases (show RD c.K ρ H _ x from r); rfl
  | bw n => cases (show RD c.K ρ H _ x from r)
  | dv _ _ => cases (show RD c.K ρ H _ x from r)
  | sv _ => cases (show RD c.K ρ H _ x from r); rfl
theorem or_isN : OpR X (compareOp .Is) (rOp c (opCmp .is_)) := by
  intro pins s σV H x y v u Q I rx ry ⟨W, ρ, G, d, e, rh, rd, re, h⟩
  cases e with
  | non =>
    cases (show RD c.K ρ H _ y from re)
    refine op_isN pins s σV H _ _ v u Q I rx ry ⟨rfl, ?_⟩
    rw [isNon_dec rd]
    exact hands h (.refl _ _) rh (.bl _)
  | _ => exact h.elim
theorem or_notN : OpR X (compareOp .IsNot) (rOp c (opCmp .isnt)) := by
  intro pins s σV H x y v u Q I rx ry ⟨W, ρ, G, d, e, rh, rd, re, h⟩
  cases e with
  | non =>
    cases (show RD c.K ρ H _ y from re)
    refine op_notN pins s σV H _ _ v u Q I rx ry ⟨rfl, ?_⟩
    rw [isNon_dec rd]
    exact hands h (.refl _ _) rh (.bl _)
  | _ => exact h.elim
theorem both {a b k : Bool} (h : (a && b && k) = true) : a = true ∧ b = true ∧ k = true := by
  simp only [Bool.and_eq_true] at h
  exact ⟨h.1.1, h.1.2, h.2⟩
theorem or_eq (hK : c.K = X.K) (hu : X.A.units + 66 < cLine) : OpR X (compareOp .Eq) (rOp c (opCmp .eq)) := by
  intro pins s σV H x y v u Q I rx ry ⟨W, ρ, G, d, e, rh, rd, re, h⟩
  have gen : PX c W ρ H (if cl (res d G) && cl (res e G) then .ok (.bl (deq (res d G) (res e G))) G else .bad) (zV c H Q) → wpAny (model X.prog X.w) X.A (compareOp .Eq v u) (EP X pins σV Q) X.xe s := fun h => by
    split at h
    · rename_i hc
      simp only [Bool.and_eq_true] at hc
      have h1 := res_dp rh rd hc.1
      have h2 := res_dp rh re hc.2
      rw [hK] at h1 h2
      exact op_eqD (by omega) pins s σV H x y v u Q I rx ry ⟨_, _, h1, h2, cl_shaped hc.1, cl_shaped hc.2, hands h (.refl _ _) rh (.bl _)⟩
    · exact h.elim
  cases d with
  | int i =>
    cases e with
    | int j =>
      cases (show RD c.K ρ H _ x from rd)
      cases (show RD c.K ρ H _ y from re)
      refine op_eq pins s σV H _ _ v u Q I rx ry ⟨rfl, ?_⟩
      have e1 : decide (V.int i = V.int j) = decide (i = j) := by rw [dec_int, Bool.beq_eq_decide_eq]
      rw [e1]
      exact hands h (.refl _ _) rh (.bl _)
    | _ => exact gen h
  | _ => exact gen h
theorem or_ne (hK : c.K = X.K) (hu : X.A.units + 66 < cLine) : OpR X (compareOp .NotEq) (rOp c (opCmp .ne)) := by
  intro pins s σV H x y v u Q I rx ry ⟨W, ρ, G, d, e, rh, rd, re, h⟩
  have gen : PX c W ρ H (if cl (res d G) && cl (res e G) then .ok (.bl (!deq (res d G) (res e G))) G else .bad) (zV c H Q) → wpAny (model X.prog X.w) X.A (compareOp .NotEq v u) (EP X pins σV Q) X.xe s := fun h => by
    split at h
    · rename_i hc
      simp only [Bool.and_eq_true] at hc
      have h1 := res_dp rh rd hc.1
      have h2 := res_dp rh re hc.2
      rw [hK] at h1 h2
      exact op_neD (by omega) pins s σV H x y v u Q I rx ry ⟨_, _, h1, h2, cl_shaped hc.1, cl_shaped hc.2, hands h (.refl _ _) rh (.bl _)⟩
    · exact h.elim
  cases d with
  | int i =>
    cases e with
    | int j =>
      cases (show RD c.K ρ H _ x from rd)
      cases (show RD c.K ρ H _ y from re)
      refine op_ne pins s σV H _ _ v u Q I rx ry ⟨rfl, ?_⟩
      have e1 : decide (V.int i = V.int j) = decide (i = j) := by rw [dec_int, Bool.beq_eq_decide_eq]
      rw [e1]
      exact hands h (.refl _ _) rh (.bl _)
    | _ => exact gen h
  | _ => exact gen h
theorem depth_min {d e : D} (h1 : cl d = true) (h2 : cl e = true) : min d.py.depth e.py.depth ≤ 20 := by
  have := (ck_py 20 d h1).1
  omega
theorem or_lt (hK : c.K = X.K) (hu : X.A.units + 66 < cLine) : OpR X (compareOp .Lt) (rOp c (opCmp .lt)) := by
  intro pins s σV H x y v u Q I rx ry ⟨W, ρ, G, d, e, rh, rd, re, h⟩
  have gen : PX c W ρ H (if cl d && cl e && alk d e && !isNon d then .ok (.bl (dlt d e)) G else .bad) (zV c H Q) → wpAny (model X.prog X.w) X.A (compareOp .Lt v u) (EP X pins σV Q) X.xe s := fun h => by
    split at h
    · rename_i hc
      simp only [Bool.and_eq_true, Bool.not_eq_true'] at hc
      obtain ⟨as, r1⟩ := dp_reads hK I (rd.dp hc.1.1.1) rx
      obtain ⟨bs, r2⟩ := dp_reads hK I (re.dp hc.1.1.2) ry
      have := depth_min hc.1.1.1 hc.1.1.2
      exact PySem.W.lt_data r1 r2 hc.1.2 (non_of hc.2 hc.1.1.1) (by omega) ⟨.bl _, H, I, rfl, hands h (.refl _ _) rh (.bl _)⟩
    · exact h.elim
  cases d with
  | int i =>
    cases e with
    | int j =>
      cases (show RD c.K ρ H _ x from rd)
      cases (show RD c.K ρ H _ y from re)
      exact op_lt pins s σV H _ _ v u Q I rx ry ⟨i, j, rfl, rfl, hands h (.refl _ _) rh (.bl _)⟩
    | _ => exact gen h
  | _ => exact gen h
theorem or_le (hK : c.K = X.K) (hu : X.A.units + 66 < cLine) : OpR X (compareOp .LtE) (rOp c (opCmp .le)) := by
  intro pins s σV H x y v u Q I rx ry ⟨W, ρ, G, d, e, rh, rd, re, h⟩
  have gen : PX c W ρ H (if cl d && cl e && alk d e && !isNon d then .ok (.bl (!dlt e d)) G else .bad) (zV c H Q) → wpAny (model X.prog X.w) X.A (compareOp .LtE v u) (EP X pins σV Q) X.xe s := fun h => by
    split at h
    · rename_i hc
      simp only [Bool.and_eq_true, Bool.not_eq_true'] at hc
      obtain ⟨as, r1⟩ := dp_reads hK I (rd.dp hc.1.1.1) rx
      obtain ⟨bs, r2⟩ := dp_reads hK I (re.dp hc.1.1.2) ry
      have := depth_min hc.1.1.1 hc.1.1.2
      exact PySem.W.le_data r1 r2 hc.1.2 (non_of hc.2 hc.1.1.1) (by omega) ⟨.bl _, H, I, rfl, hands h (.refl _ _) rh (.bl _)⟩
    · exact h.elim
  cases d with
  | int i =>
    cases e with
    | int j =>
      cases (show RD c.K ρ H _ x from rd)
      cases (show RD c.K ρ H _ y from re)
      exact op_le pins s σV H _ _ v u Q I rx ry ⟨i, j, rfl, rfl, hands h (.refl _ _) rh (.bl _)⟩
    | _ => exact gen h
  | _ => exact gen h
theorem or_gt (hK : c.K = X.K) (hu : X.A.units + 66 < cLine) : OpR X (compareOp .Gt) (rOp c (opCmp .gt)) := by
  intro pins s σV H x y v u Q I rx ry ⟨W, ρ, G, d, e, rh, rd, re, h⟩
  have gen : PX c W ρ H (if cl d && cl e && alk d e && !isNon d then .ok (.bl (dlt e d)) G else .bad) (zV c H Q) → wpAny (model X.prog X.w) X.A (compareOp .Gt v u) (EP X pins σV Q) X.xe s := fun h => by
    split at h
    · rename_i hc
      simp only [Bool.and_eq_true, Bool.not_eq_true'] at hc
      obtain ⟨as, r1⟩ := dp_reads hK I (rd.dp hc.1.1.1) rx
      obtain ⟨bs, r2⟩ := dp_reads hK I (re.dp hc.1.1.2) ry
      have := depth_min hc.1.1.1 hc.1.1.2
      exact PySem.W.gt_data r1 r2 hc.1.2 (non_of hc.2 hc.1.1.1) (by omega) ⟨.bl _, H, I, rfl, hands h (.refl _ _) rh (.bl _)⟩
    · exact h.elim
  cases d with
  | int i =>
    cases e with
    | int j =>
      cases (show RD c.K ρ H _ x from rd)
      cases (show RD c.K ρ H _ y from re)
      exact op_gt pins s σV H _ _ v u Q I rx ry ⟨i, j, rfl, rfl, hands h (.refl _ _) rh (.bl _)⟩
    | _ => exact gen h
  | _ => exact gen h
theorem or_ge (hK : c.K = X.K) (hu : X.A.units + 66 < cLine) : OpR X (compareOp .GtE) (rOp c (opCmp .ge)) := by
  intro pins s σV H x y v u Q I rx ry ⟨W, ρ, G, d, e, rh, rd, re, h⟩
  have gen : PX c W ρ H (if cl d && cl e && alk d e && !isNon d then .ok (.bl (!dlt d e)) G else .bad) (zV c H Q) → wpAny (model X.prog X.w) X.A (compareOp .GtE v u) (EP X pins σV Q) X.xe s := fun h => by
    split at h
    · rename_i hc
      simp only [Bool.and_eq_true, Bool.not_eq_true'] at hc
      obtain ⟨as, r1⟩ := dp_reads hK I (rd.dp hc.1.1.1) rx
      obtain ⟨bs, r2⟩ := dp_reads hK I (re.dp hc.1.1.2) ry
      have := depth_min hc.1.1.1 hc.1.1.2
      exact PySem.W.ge_data r1 r2 hc.1.2 (non_of hc.2 hc.1.1.1) (by omega) ⟨.bl _, H, I, rfl, hands h (.refl _ _) rh (.bl _)⟩
    · exact h.elim
  cases d with
  | int i =>
    cases e with
    | int j =>
      cases (show RD c.K ρ H _ x from rd)
      cases (show RD c.K ρ H _ y from re)
      exact op_ge pins s σV H _ _ v u Q I rx ry ⟨i, j, rfl, rfl, hands h (.refl _ _) rh (.bl _)⟩
    | _ => exact gen h
  | _ => exact gen h
end
end Ev
set_option Elab.async false
set_option linter.all false
set_option maxRecDepth 100000
set_option maxHeartbeats 4000000
/-! EvE: in, subscripts, slices, built-in functions, methods of lists. -/
namespace Ev
open PySem PySem.Spec PyProof.Rows L2
variable {c : SX} {W : XK} {ρ ρ1 : List Addr} {H H1 : Hp} {G G1 : GH} {r : R D} {Q : VK}
theorem pyAll_any (d : D) : ∀ xs : List D, (D.pyAll xs).any (fun y => PyData.eqv y d.py) = memD d xs
  | [] => rfl
  | x :: xs => by
    have ih := pyAll_any d xs
    unfold memD at ih ⊢
    rw [D.pyAll, List.any_cons, List.any_cons, ih]
    rfl
theorem all19 {xs : List D} (h : xs.all cl = true) : PyData.canLayAll0 (D.pyAll xs) = true ∧ PyData.depthAll (D.pyAll xs) ≤ 20 := by
  obtain ⟨h1, h2⟩ := depth_all (n := 20) (xs := xs) fun x hx => ck_py 20 x (List.all_eq_true.mp h x hx)
  exact ⟨h2, h1⟩
section
variable {X : Cx}
theorem seq_dp (rh : RH c.toSC ρ H G) {d : D} {v : V} {xs : List D} (r : RV c.toSC ρ H d v) (e : seqv d G = some xs) (k : xs.all cl = true) : Dp c.K H v (.list (D.pyAll xs)) ∨ Dp c.K H v (.tuple (D.pyAll xs)) := by
  obtain ⟨a, vs, rfl, h1, h2⟩ := seqv_at rh r e
  rcases h1 with h1 | h1
  · exact .inl (.lst h1 (RDs.dp 20 xs vs h2 k))
  · exact .inr (.tup h1 (RDs.dp 20 xs vs h2 k))
theorem memD_ints {k : Int} : ∀ {ds : List D} {ns : List Int}, intsD ds = some ns → memD (.int k) ds = decide (k ∈ ns)
  | [], ns, e => by
    have e' : some [] = some ns := e
    cases e'
    simp [memD]
  | .int i :: ds, ns, e => by
    have e' : (intsD ds).map (i :: ·) = some ns := e
    cases q : intsD ds with
    | none => rw [q] at e'; cases e'
    | some ms =>
      rw [q] at e'
      cases e'
      have ih := memD_ints (k := k) q
      have h1 : memD (.int k) (.int i :: ds) = (deq (.int i) (.int k) || memD (.int k) ds) := rfl
      have h2 : deq (.int i) (.int k) = decide (i = k) := by
        show PyData.eqv (.int i) (.int k) = _
        unfold PyData.eqv
        by_cases hk : i = k
        · simp [hk]
        · simp [hk]
      rw [h1, ih, h2]
      by_cases hk : i = k
      · simp [hk]
      · have hk' : ¬ k = i := fun z => hk z.symm
        simp [hk, hk']
  | .non :: _, _, e => by cases e
  | .bl _ :: _, _, e => by cases e
  | .str _ :: _, _, e => by cases e
  | .tup _ :: _, _, e => by cases e
  | .tl _ :: _, _, e => by cases e
  | .fl _ :: _, _, e => by cases e
  | .ref _ :: _, _, e => by cases e
  | .bw _ :: _, _, e => by cases e
  | .dv _ _ :: _, _, e => by cases e
  | .sv _ :: _, _, e => by cases e
theorem or_in (hK : c.K = X.K) (hu : X.A.units + 66 < cLine) : OpR X (compareOp .In) (rOp c (opCmp .in_)) := by
  intro pins s σV H x y v u Q I rx ry ⟨W, ρ, G, d, e, rh, rd, re, h⟩
  by_cases hsv : ∃ xs, e = .sv xs
  · obtain ⟨xs, rfl⟩ := hsv
    cases d with
    | int k =>
      have h : PX c W ρ H (.ok (.bl (memD (.int k) xs)) G) (zV c H Q) := h
      have rd : RD c.K ρ H (.int k) x := rd
      have re : RD c.K ρ H (.sv xs) y := re
      cases rd
      cases re with
      | sv h1 h2 h3 =>
        obtain ⟨tk, rfl⟩ := rx
        cases ry
        refine wpAny_inSet_of (knd := intKind X.prog X.w) (intKind_is _ _ _ _) rfl (I.hok _ _ h1) ⟨.bl _, H, I.tok _, rfl, ?_⟩
        rw [h3, ← memD_ints h2]
        exact hands h (.refl _ _) rh (.bl _)
    | _ => exact False.elim h
  have h : PX c W ρ H (match seqv e G with | some xs => if cl d && xs.all cl then .ok (.bl (memD d xs)) G else .bad | none => .bad) (zV c H Q) := by
    unfold opCmp at h
    cases e with
    | sv xs => exact absurd ⟨xs, rfl⟩ hsv
    | _ => exact h
  cases q : seqv e G with
  | none => rw [q] at h; exact h.elim
  | some xs =>
    simp only [q] at h
    split at h
    · rename_i hc
      rw [Bool.and_eq_true] at hc
      obtain ⟨as, r1⟩ := dp_reads hK I (rd.dp hc.1) rx
      have hs := cl_shaped hc.1
      obtain ⟨l1, l2⟩ := all19 hc.2
      rcases seq_dp rh re q hc.2 with z | z
      · rw [hK] at z
        obtain ⟨bs, r2⟩ := Dp.reads I _ y u z ry
        refine SeqAt.in_list_reads r2 r1 l1 (SeqAt.canLay_of_shaped hs) (by omega) ⟨.bl _, H, I, rfl, ?_⟩
        rw [pyAll_any]
        exact hands h (.refl _ _) rh (.bl _)
      · rw [hK] at z
        obtain ⟨bs, r2⟩ := Dp.reads I _ y u z ry
        refine SeqAt.in_tuple_reads r2 r1 l1 (SeqAt.canLay_of_shaped hs) (by omega) ⟨.bl _, H, I, rfl, ?_⟩
        rw [pyAll_any]
        exact hands h (.refl _ _) rh (.bl _)
    · exact h.elim
theorem or_nin (hK : c.K = X.K) (hu : X.A.units + 66 < cLine) : OpR X (compareOp .NotIn) (rOp c (opCmp .nin)) := by
  intro pins s σV H x y v u Q I rx ry ⟨W, ρ, G, d, e, rh, rd, re, h⟩
  by_cases hsv : ∃ xs, e = .sv xs
  · obtain ⟨xs, rfl⟩ := hsv
    cases d with
    | int k =>
      have h : PX c W ρ H (.ok (.bl (!memD (.int k) xs)) G) (zV c H Q) := h
      have rd : RD c.K ρ H (.int k) x := rd
      have re : RD c.K ρ H (.sv xs) y := re
      cases rd
      cases re with
      | sv h1 h2 h3 =>
        obtain ⟨tk, rfl⟩ := rx
        cases ry
        refine wpAny_notInSet_of (knd := intKind X.prog X.w) (intKind_is _ _ _ _) rfl (I.hok _ _ h1) ⟨.bl _, H, I.tok _, rfl, ?_⟩
        rw [h3, ← memD_ints h2]
        exact hands h (.refl _ _) rh (.bl _)
    | _ => exact False.elim h
  have h : PX c W ρ H (match seqv e G with | some xs => if cl d && xs.all cl then .ok (.bl (!memD d xs)) G else .bad | none => .bad) (zV c H Q) := by
    unfold opCmp at h
    cases e with
    | sv xs => exact absurd ⟨xs, rfl⟩ hsv
    | _ => exact h
  cases q : seqv e G with
  | none => rw [q] at h; exact h.elim
  | some xs =>
    simp only [q] at h
    split at h
    · rename_i hc
      rw [Bool.and_eq_true] at hc
      obtain ⟨as, r1⟩ := dp_reads hK I (rd.dp hc.1) rx
      have hs := cl_shaped hc.1
      obtain ⟨l1, l2⟩ := all19 hc.2
      rcases seq_dp rh re q hc.2 with z | z
      · rw [hK] at z
        obtain ⟨bs, r2⟩ := Dp.reads I _ y u z ry
        refine SeqAt.notIn_list_reads r2 r1 l1 (SeqAt.canLay_of_shaped hs) (by omega) ⟨.bl _, H, I, rfl, ?_⟩
        rw [pyAll_any]
        exact hands h (.refl _ _) rh (.bl _)
      · rw [hK] at z
        obtain ⟨bs, r2⟩ := Dp.reads I _ y u z ry
        refine SeqAt.notIn_tuple_reads r2 r1 l1 (SeqAt.canLay_of_shaped hs) (by omega) ⟨.bl _, H, I, rfl, ?_⟩
        rw [pyAll_any]
        exact hands h (.refl _ _) rh (.bl _)
    · exact h.elim
theorem or_cmp (hK : c.K = X.K) (hu : X.A.units + 66 < cLine) (op : COp) : OpR X (compareOp (cOp op)) (rOp c (opCmp op)) := by
  cases op
  · exact or_lt hK hu
  · exact or_le hK hu
  · exact or_gt hK hu
  · exact or_ge hK hu
  · exact or_eq hK hu
  · exact or_ne hK hu
  · exact or_isN
  · exact or_notN
  · exact or_in hK hu
  · exact or_nin hK hu
/-! ### subscripts -/
theorem atI_rd {K : PySem.W.Frag} {ds : List D} {vs : List V} {i : Int} {d : D} (r : RDs K ρ H ds vs) (e : atI ds i = some d) : ∃ v, atI vs i = some v ∧ RD K ρ H d v := by
  unfold atI at e ⊢
  rw [← r.length]
  cases q : ixN ds.length i with
  | none => rw [q] at e; cases e
  | some j =>
    rw [q] at e
    exact r.get e
theorem ix_seqD (hK : c.K = X.K) : IxR X (rOp c opIdx) := by
  intro value slice pins s σV H x y v u Q I rx ry ⟨W, ρ, G, d, e, rh, rd, re, h⟩ hs
  unfold opIdx at h
  cases q : seqv d G with
  | none => rw [q] at h; exact h.elim
  | some xs =>
    cases e with
    | int i =>
      cases (show RD c.K ρ H _ y from re)
      simp only [q] at h
      cases w : L2.atI xs i with
      | none => rw [w] at h; exact h.elim
      | some d' =>
        simp only [w] at h
        obtain ⟨a, vs, rfl, h1, h2⟩ := seqv_at rh rd q
        obtain ⟨v', e', r'⟩ := atI_rd h2 w
        have fin : Q v' H := h ρ H (.refl _ _) rh v' (.of r') (.of (by cases r' <;> rfl))
        rw [hK] at h1
        rcases h1 with h1 | h1
        · exact ix_list value slice pins s σV H _ _ v u Q I rx ry ⟨a, vs, i, v', rfl, rfl, h1, e', fin⟩ hs
        · exact ix_tup value slice pins s σV H _ _ v u Q I rx ry ⟨a, vs, i, v', rfl, rfl, h1, e', fin⟩ hs
    | _ => simp only [q] at h; exact h.elim
/-- a slice's reading -/
def rSlD (c : SX) : V → Option Int → Option Int → Hp → VK → Prop := fun x lo hi H Q => ∃ W ρ G d, RH c.toSC ρ H G ∧ RV c.toSC ρ H d x ∧ PX c W ρ H (opSl d lo hi G) (zV c H Q)
theorem cutD_rd {K : PySem.W.Frag} {ds : List D} {vs : List V} (lo hi : Option Int) (r : RDs K ρ H ds vs) : RDs K ρ H (cutD ds lo hi) (cutV vs lo hi) := by
  unfold cutD cutV
  rw [r.length]
  exact (r.drop _).take _
theorem sl_D (hK : c.K = X.K) : SlR X (rSlD c) := by
  intro pins s σV H x v vl vu lo hi sl Q I rx hs pl pu ⟨W, ρ, G, d, rh, rd, h⟩
  by_cases ht : ∃ es, d = .tup es
  · obtain ⟨es, rfl⟩ := ht
    obtain ⟨a, vs, rfl, h1, h2⟩ := tup_at rd
    have h' : PX c W ρ H (.ok (.tup (cutD es lo hi)) G) (zV c H Q) := h
    have h1' := h1
    rw [hK] at h1'
    refine sl_tupA pins s σV H _ v vl vu lo hi sl Q I rx hs pl pu ⟨a, vs, rfl, h1', fun ⟨z1, z2⟩ => ?_, fun _ p n => handsT h' rh (cutD_rd lo hi h2) n⟩
    have e1 : cutD es lo hi = es := by
      unfold cutD
      rw [h2.length, z1, z2, List.drop_zero, Nat.sub_zero, ← h2.length, List.take_length]
    rw [e1] at h'
    exact hands h' (.refl _ _) rh rd
  · have h' : PX c W ρ H (match lsv d G with | some xs => .ok (.tl (cutD xs lo hi)) G | none => .bad) (zV c H Q) := by
      cases d with
      | tup es => exact absurd ⟨es, rfl⟩ ht
      | _ => exact h
    cases q : lsv d G with
    | none => rw [q] at h'; exact h'.elim
    | some xs =>
      rw [q] at h'
      obtain ⟨a, vs, rfl, h1, h2⟩ := lsv_at rh rd q
      rw [hK] at h1
      exact sl_list pins s σV H _ v vl vu lo hi sl Q I rx hs pl pu ⟨a, vs, rfl, h1, fun p n => handsL h' rh (cutD_rd lo hi h2) n⟩
/-! ### built-in functions of one argument -/
def rB1 (c : SX) (f : B1) : List V → Hp → VK → Prop := fun xs H Q => ∃ W ρ G d x, xs = [x] ∧ RH c.toSC ρ H G ∧ RV c.toSC ρ H d x ∧ PX c W ρ H (opB1 f d G) (zV c H Q)
theorem cb_len (hK : c.K = X.K) : CallR X (.builtin "len") (rB1 c .len) := by
  intro pins s σV H xs us Q I r ⟨W, ρ, G, d, x, ex, rh, rd, h⟩
  subst ex
  have gen : PX c W ρ H (match seqv d G with | some xs => .ok (.int xs.length) G | none => .bad) (zV c H Q) → wpAny (model X.prog X.w) X.A (call (.builtin "len") us) (EP X pins σV Q) X.xe s := fun h => by
    cases q : seqv d G with
    | none => rw [q] at h; exact h.elim
    | some ys =>
      rw [q] at h
      obtain ⟨a, vs, rfl, h1, h2⟩ := seqv_at rh rd q
      have hl := h2.length
      rw [hK] at h1
      refine call_len_seq pins s σV H _ us Q I r ⟨a, vs, rfl, h1, ?_⟩
      rw [← hl]
      exact hands h (.refl _ _) rh (.int _)
  cases d with
  | str z =>
    cases (show RD c.K ρ H _ x from rd)
    have h' : PX c W ρ H (if z.length ≤ lim then .ok (.int z.length) G else .bad) (zV c H Q) := h
    split at h'
    · rename_i hl
      exact call_len_str pins s σV H _ us Q I r ⟨z, rfl, lim_line hl, hands h' (.refl _ _) rh (.int _)⟩
    · exact h'.elim
  | _ => exact gen h
theorem PX.noBad {Z : D → GH → List Addr → Hp → Prop} (h : PX c W ρ H .bad Z) : False := h
theorem cb_sum (hK : c.K = X.K) (hc : X.calm = true) : CallR X (.builtin "sum") (rB1 c .sum) := by
  intro pins s σV H xs us Q I r ⟨W, ρ, G, d, x, ex, rh, rd, h⟩
  subst ex
  unfold opB1 at h
  cases q : lsv d G with
  | none => simp only [q, Option.bind_none] at h; exact h.noBad.elim
  | some ys =>
    cases w : intsD ys with
    | none => simp only [q, Option.bind_some, w] at h; exact h.noBad.elim
    | some ns =>
      simp only [q, Option.bind_some, w] at h
      obtain ⟨a, vs, rfl, h1, h2⟩ := lsv_at rh rd q
      have hv := h2.ints w
      subst hv
      rw [hK] at h1
      exact cr_sum hc pins s σV H _ us Q I r ⟨a, ns, rfl, h1, hands h (.refl _ _) rh (.int _)⟩
theorem cb_all (hK : c.K = X.K) (hc : X.calm = true) : CallR X (.builtin "all") (rB1 c .all) := by
  intro pins s σV H xs us Q I r ⟨W, ρ, G, d, x, ex, rh, rd, h⟩
  subst ex
  unfold opB1 at h
  cases q : lsv d G with
  | none => simp only [q, Option.bind_none] at h; exact h.noBad.elim
  | some ys =>
    cases w : boolsD ys with
    | none => simp only [q, Option.bind_some, w] at h; exact h.noBad.elim
    | some ns =>
      simp only [q, Option.bind_some, w] at h
      obtain ⟨a, vs, rfl, h1, h2⟩ := lsv_at rh rd q
      have hv := h2.bools w
      subst hv
      rw [hK] at h1
      exact cr_all hc pins s σV H _ us Q I r ⟨a, ns, rfl, h1, hands h (.refl _ _) rh (.bl _)⟩
theorem cb_any (hK : c.K = X.K) (hc : X.calm = true) : CallR X (.builtin "any") (rB1 c .any) := by
  intro pins s σV H xs us Q I r ⟨W, ρ, G, d, x, ex, rh, rd, h⟩
  subst ex
  unfold opB1 at h
  cases q : lsv d G with
  | none => simp only [q, Option.bind_none] at h; exact h.noBad.elim
  | some ys =>
    cases w : boolsD ys with
    | none => simp only [q, Option.bind_some, w] at h; exact h.noBad.elim
    | some ns =>
      simp only [q, Option.bind_some, w] at h
      obtain ⟨a, vs, rfl, h1, h2⟩ := lsv_at rh rd q
      have hv := h2.bools w
      subst hv
      rw [hK] at h1
      exact cr_any hc pins s σV H _ us Q I r ⟨a, ns, rfl, h1, hands h (.refl _ _) rh (.bl _)⟩
theorem foldl_max_ge : ∀ (ns : List Int) (n : Int), n ≤ ns.foldl max n ∧ (∀ y ∈ ns, y ≤ ns.foldl max n) ∧ (ns.foldl max n = n ∨ ns.foldl max n ∈ ns)
  | [], n => ⟨Int.le_refl _, ⟨fun y h => (by cases h), Or.inl rfl⟩⟩
  | m :: ns, n => by
    obtain ⟨h1, h2, h3⟩ := foldl_max_ge ns (max n m)
    refine ⟨?_, fun y hy => ?_, ?_⟩
    · show n ≤ ns.foldl max (max n m)
      omega
    · rcases List.mem_cons.mp hy with e | hy
      · show y ≤ ns.foldl max (max n m)
        omega
      · exact h2 y hy
    · show ns.foldl max (max n m) = n ∨ ns.foldl max (max n m) ∈ m :: ns
      rcases h3 with e | hm
      · by_cases q : n ≤ m
        · right
          rw [e, Int.max_eq_right q]
          exact List.mem_cons_self
        · left
          rw [e, Int.max_eq_left (by omega)]
      · exact .inr (List.mem_cons_of_mem _ hm)
theorem foldl_min_le : ∀ (ns : List Int) (n : Int), ns.foldl min n ≤ n ∧ (∀ y ∈ ns, ns.foldl min n ≤ y) ∧ (ns.foldl min n = n ∨ ns.foldl min n ∈ ns)
  | [], n => ⟨Int.le_refl _, ⟨fun y h => (by cases h), Or.inl rfl⟩⟩
  | m :: ns, n => by
    obtain ⟨h1, h2, h3⟩ := foldl_min_le ns (min n m)
    refine ⟨?_, fun y hy => ?_, ?_⟩
    · show ns.foldl min (min n m) ≤ n
      omega
    · rcases List.mem_cons.mp hy with e | hy
      · show ns.foldl min (min n m) ≤ y
        omega
      · exact h2 y hy
    · show ns.foldl min (min n m) = n ∨ ns.foldl min (min n m) ∈ m :: ns
      rcases h3 with e | hm
      · by_cases q : n ≤ m
        · left
          rw [e, Int.min_eq_left q]
        · right
          rw [e, Int.min_eq_right (by omega)]
          exact List.mem_cons_self
      · exact .inr (List.mem_cons_of_mem _ hm)
theorem pyAll_mem {xs : List D} {p : PyData} (h : p ∈ D.pyAll xs) : ∃ x ∈ xs, p = x.py := by
  induction xs with
  | nil => simp [D.pyAll] at h
  | cons x xs ih =>
    rw [D.pyAll, List.mem_cons] at h
    rcases h with h | h
    · exact ⟨x, List.mem_cons_self, h⟩
    · obtain ⟨y, hy, e⟩ := ih h
      exact ⟨y, List.mem_cons_of_mem _ hy, e⟩
theorem alkAll_of {xs : List D} (h : alkAll xs = true) : xs.all cl = true ∧ PySem.W.AlikeAll (D.pyAll xs) := by
  unfold alkAll at h
  simp only [Bool.and_eq_true] at h
  obtain ⟨⟨h1, h2⟩, h3⟩ := h
  refine ⟨h1, fun p hp q hq => ?_, fun p hp => ?_⟩
  · obtain ⟨x, hx, rfl⟩ := pyAll_mem hp
    obtain ⟨y, hy, rfl⟩ := pyAll_mem hq
    exact List.all_eq_true.mp (List.all_eq_true.mp h2 x hx) y hy
  · obtain ⟨x, hx, rfl⟩ := pyAll_mem hp
    have h4 := List.all_eq_true.mp h3 x hx
    rw [Bool.not_eq_true'] at h4
    exact non_of h4 (List.all_eq_true.mp h1 x hx)
theorem minD_py : ∀ (xs : List D) (x : D), PySem.W.minD x.py (D.pyAll xs) = (minDD x xs).py
  | [], x => rfl
  | y :: ys, x => by
    show PySem.W.minD (if PySem.W.dataLt y.py x.py then y.py else x.py) (D.pyAll ys) = (minDD (if dlt y x then y else x) ys).py
    have e : (if PySem.W.dataLt y.py x.py then y.py else x.py) = (if dlt y x then y else x).py := by
      unfold dlt
      split <;> rfl
    rw [e]
    exact minD_py ys _
theorem maxD_py : ∀ (xs : List D) (x : D), PySem.W.maxD x.py (D.pyAll xs) = (maxDD x xs).py
  | [], x => rfl
  | y :: ys, x => by
    show PySem.W.maxD (if PySem.W.dataLt x.py y.py then y.py else x.py) (D.pyAll ys) = (maxDD (if dlt x y then y else x) ys).py
    have e : (if PySem.W.dataLt x.py y.py then y.py else x.py) = (if dlt x y then y else x).py := by
      unfold dlt
      split <;> rfl
    rw [e]
    exact maxD_py ys _
mutual
theorem py_inj {K : PySem.W.Frag} {ρ' : List Addr} {H' : Hp} : ∀ (n : Nat) (d e : D) (v u : V), RD K ρ H d v → RD K ρ' H' e u → ck n d = true → ck n e = true → d.py = e.py → d = e
  | n, .non, e, _, _, _, r, _, k, q => by
    cases e with
    | non => rfl
    | ref m => cases n <;> exact absurd k (by simp [ck])
    | bw m => cases r
    | dv _ _ => cases r
    | sv _ => cases n <;> exact absurd k (by simp [ck])
    | _ => simp only [D.py] at q; cases q
  | _, .bl b, e, _, _, _, r, _, k, q => by
    cases e with
    | bl b' => simp only [D.py] at q; cases q; rfl
    | _ => simp only [D.py] at q; cases q
  | _, .int i, e, _, _, _, r, _, k, q => by
    cases e with
    | int j => simp only [D.py] at q; cases q; rfl
    | _ => simp only [D.py] at q; cases q
  | _, .str z, e, _, _, _, r, _, k, q => by
    cases e with
    | str z' => simp only [D.py] at q; cases q; rfl
    | _ => simp only [D.py] at q; cases q
  | 0, .tup _, _, _, _, _, _, k, _, _ => by cases k
  | n + 1, .tup ds, e, _, _, h, r, k, k', q => by
    cases e with
    | tup es =>
      simp only [D.py] at q
      cases h with
      | tup h1 h2 =>
        cases r with
        | tup r1 r2 =>
          have z : D.pyAll ds = D.pyAll es := by injection q
          rw [pyAll_inj n ds es _ _ h2 r2 k k' z]
    | _ => simp only [D.py] at q; cases q
  | _, .tl _, _, _, _, h, _, _, _, _ => by cases h
  | 0, .fl _, _, _, _, _, _, k, _, _ => by cases k
  | n + 1, .fl ds, e, _, _, h, r, k, k', q => by
    cases e with
    | fl es =>
      simp only [D.py] at q
      cases h with
      | fl h1 h2 =>
        cases r with
        | fl r1 r2 =>
          have z : D.pyAll ds = D.pyAll es := by injection q
          rw [pyAll_inj n ds es _ _ h2 r2 k k' z]
    | tl es => cases r
    | _ => simp only [D.py] at q; cases q
  | 0, .ref _, _, _, _, _, _, k, _, _ => by cases k
  | 0, .bw _, _, _, _, _, _, k, _, _ => by cases k
  | 0, .dv _ _, _, _, _, _, _, k, _, _ => by cases k
  | 0, .sv _, _, _, _, _, _, k, _, _ => by cases k
  | n + 1, .ref _, _, _, _, _, _, k, _, _ => by cases k
  | n + 1, .bw _, _, _, _, _, _, k, _, _ => by cases k
  | n + 1, .dv _ _, _, _, _, _, _, k, _, _ => by cases k
  | n + 1, .sv _, _, _, _, _, _, k, _, _ => by cases k
theorem pyAll_inj {K : PySem.W.Frag} {ρ' : List Addr} {H' : Hp} : ∀ (n : Nat) (ds es : List D) (vs us : List V), RDs K ρ H ds vs → RDs K ρ' H' es us → ds.all (ck n) = true → es.all (ck n) = true → D.pyAll ds = D.pyAll es → ds = es
  | _, [], [], _, _, _, _, _, _, _ => rfl
  | _, [], e :: es, _, _, _, _, _, _, q => by simp only [D.pyAll] at q; cases q
  | _, d :: ds, [], _, _, _, _, _, _, q => by simp only [D.pyAll] at q; cases q
  | n, d :: ds, e :: es, _, _, h, r, k, k', q => by
    simp only [D.pyAll] at q
    rw [List.all_cons, Bool.and_eq_true] at k k'
    cases h with
    | cons h1 h2 =>
      cases r with
      | cons r1 r2 =>
        injection q with q1 q2
        rw [py_inj n d e _ _ h1 r1 k.1 k'.1 q1, pyAll_inj n ds es _ _ h2 r2 k.2 k'.2 q2]
end
theorem RD.ntl {K : PySem.W.Frag} {d : D} {v : V} (h : RD K ρ H d v) : isTl d = false := by cases h <;> rfl
theorem minDD_mem : ∀ (xs : List D) (x : D), minDD x xs ∈ x :: xs
  | [], x => List.mem_cons_self
  | y :: ys, x => by
    have ih := minDD_mem ys (if dlt y x then y else x)
    have e : minDD x (y :: ys) = minDD (if dlt y x then y else x) ys := rfl
    rw [e]
    rcases List.mem_cons.mp ih with q | q
    · rw [q]
      split
      · exact List.mem_cons_of_mem _ List.mem_cons_self
      · exact List.mem_cons_self
    · exact List.mem_cons_of_mem _ (List.mem_cons_of_mem _ q)
theorem maxDD_mem : ∀ (xs : List D) (x : D), maxDD x xs ∈ x :: xs
  | [], x => List.mem_cons_self
  | y :: ys, x => by
    have ih := maxDD_mem ys (if dlt x y then y else x)
    have e : maxDD x (y :: ys) = maxDD (if dlt x y then y else x) ys := rfl
    rw [e]
    rcases List.mem_cons.mp ih with q | q
    · rw [q]
      split
      · exact List.mem_cons_of_mem _ List.mem_cons_self
      · exact List.mem_cons_self
    · exact List.mem_cons_of_mem _ (List.mem_cons_of_mem _ q)
/-- the item among the values that reads as the chosen datum is the chosen datum's -/
theorem chosen {pins : List (Addr × Obj)} {s : Shared} {σV : L2.St} (hK : c.K = X.K) (I : Inv X pins σV H s) {ds : List D} {vs : List V} {its : List Value} (h2 : RDs c.K ρ H ds vs) (rv : Vals vs its) (hc : ds.all cl = true) {i : Nat} {v : Value} (hv : its.toArray[i]? = some v)
    {d : D} (hd : d ∈ ds) {h' : Heap} {bs : List Addr} (hr : Reads h' v d.py bs) (k : ∀ b o, s.heap.get? b = some o → h'.get? b = some o) : ∃ x, RelV x v ∧ RD c.K ρ H d x := by
  have hv' : its[i]? = some v := by simpa using hv
  have hi : i < ds.length := by
    rw [h2.length, rv.length]
    exact (List.getElem?_eq_some_iff.mp hv').1
  obtain ⟨x, hx, rx⟩ := h2.get (List.getElem?_eq_getElem hi)
  obtain ⟨u, hu, ru⟩ := rv.get hx
  rw [hv'] at hu
  have e := Option.some.inj hu
  subst e
  have hm : ds[i] ∈ ds := List.getElem_mem hi
  have k1 := List.all_eq_true.mp hc _ hm
  have k2 := List.all_eq_true.mp hc _ hd
  obtain ⟨as, r1⟩ := dp_reads hK I (RV.dp (RV.of rx) k1) ru
  have r2 := PySem.W.reads_keeps k r1
  have e2 : ds[i].py = d.py := PySem.SeqAt.Reads.unique _ _ _ _ _ (ck_py 20 _ k1).2 r2 hr
  obtain ⟨j, hj⟩ := List.mem_iff_getElem?.mp hd
  obtain ⟨y, _, ry⟩ := h2.get hj
  have e3 := py_inj 20 _ _ _ _ rx ry k1 k2 e2
  rw [← e3]
  exact ⟨x, ru, rx⟩
theorem cb_min (hK : c.K = X.K) (hc : X.calm = true) (hu : X.A.units + 66 < cLine) : CallR X (.builtin "min") (rB1 c .min) := by
  intro pins s σV H xs us Q I r ⟨W, ρ, G, d, x, ex, rh, rd, h⟩
  subst ex
  unfold opB1 at h
  cases q : lsv d G with
  | none => simp only [q] at h; exact h.noBad.elim
  | some ys =>
    simp only [q, opMin] at h
    obtain ⟨a, vs, rfl, h1, h2⟩ := lsv_at rh rd q
    cases w : intsD ys with
    | some ns =>
      simp only [w] at h
      have hv := h2.ints w
      subst hv
      rw [hK] at h1
      cases ns with
      | nil => exact h.noBad.elim
      | cons n ns =>
        refine cr_min hc pins s σV H _ us Q I r ⟨a, n :: ns, rfl, h1, Nat.zero_lt_succ _, fun m hm hle => ?_⟩
        obtain ⟨f1, f2, f3⟩ := foldl_min_le ns n
        have e : m = minI n ns := by
          show m = ns.foldl min n
          rcases List.mem_cons.mp hm with e1 | e1
          · have := hle (ns.foldl min n) (by
              rcases f3 with z | z
              · rw [z]; exact List.mem_cons_self
              · exact List.mem_cons_of_mem _ z)
            omega
          · have := hle (ns.foldl min n) (by
              rcases f3 with z | z
              · rw [z]; exact List.mem_cons_self
              · exact List.mem_cons_of_mem _ z)
            have := f2 m e1
            omega
        rw [e]
        exact hands h (.refl _ _) rh (.int _)
    | none =>
      simp only [w] at h
      cases ys with
      | nil => exact h.noBad.elim
      | cons y ys =>
        simp only at h
        split at h
        · rename_i ha
          obtain ⟨hcl, hal⟩ := alkAll_of ha
          have rb : Vals [V.ref a] us := r
          have eu : us = [Value.ref a] := rb.ref1
          subst eu
          rw [hK] at h1
          obtain ⟨its, rv, pl, hz⟩ := I.list h1
          have hD : DpAll X.K H vs (D.pyAll (y :: ys)) := by
            rw [← hK]
            exact RDs.dp 20 _ _ h2 hcl
          obtain ⟨as, hr⟩ := Dp.readsAll I _ vs its hD rv
          obtain ⟨l1, l2⟩ := all19 hcl
          rw [D.pyAll] at hr hal l2
          refine PySem.W.min_list_data (I.ok.hd hc) pl.isList (by simpa using hr) hal (by omega) fun i v h' tk bs hv hrd k => ?_
          rw [minD_py] at hrd
          obtain ⟨z, rz, hz⟩ := chosen hK I h2 rv hcl hv (minDD_mem ys y) hrd k
          exact ⟨z, H, I.kept k, rz, hands h (.refl _ _) rh hz hz.ntl⟩
        · exact h.noBad.elim
theorem cb_max (hK : c.K = X.K) (hc : X.calm = true) (hu : X.A.units + 66 < cLine) : CallR X (.builtin "max") (rB1 c .max) := by
  intro pins s σV H xs us Q I r ⟨W, ρ, G, d, x, ex, rh, rd, h⟩
  subst ex
  unfold opB1 at h
  cases q : lsv d G with
  | none => simp only [q] at h; exact h.noBad.elim
  | some ys =>
    simp only [q, opMax] at h
    obtain ⟨a, vs, rfl, h1, h2⟩ := lsv_at rh rd q
    cases w : intsD ys with
    | some ns =>
      simp only [w] at h
      have hv := h2.ints w
      subst hv
      rw [hK] at h1
      cases ns with
      | nil => exact h.noBad.elim
      | cons n ns =>
        refine cr_max hc pins s σV H _ us Q I r ⟨a, n :: ns, rfl, h1, Nat.zero_lt_succ _, fun m hm hle => ?_⟩
        obtain ⟨f1, f2, f3⟩ := foldl_max_ge ns n
        have e : m = maxI n ns := by
          show m = ns.foldl max n
          rcases List.mem_cons.mp hm with e1 | e1
          · have := hle (ns.foldl max n) (by
              rcases f3 with z | z
              · rw [z]; exact List.mem_cons_self
              · exact List.mem_cons_of_mem _ z)
            omega
          · have := hle (ns.foldl max n) (by
              rcases f3 with z | z
              · rw [z]; exact List.mem_cons_self
              · exact List.mem_cons_of_mem _ z)
            have := f2 m e1
            omega
        rw [e]
        exact hands h (.refl _ _) rh (.int _)
    | none =>
      simp only [w] at h
      cases ys with
      | nil => exact h.noBad.elim
      | cons y ys =>
        simp only at h
        split at h
        · rename_i ha
          obtain ⟨hcl, hal⟩ := alkAll_of ha
          have rb : Vals [V.ref a] us := r
          have eu : us = [Value.ref a] := rb.ref1
          subst eu
          rw [hK] at h1
          obtain ⟨its, rv, pl, hz⟩ := I.list h1
          have hD : DpAll X.K H vs (D.pyAll (y :: ys)) := by
            rw [← hK]
            exact RDs.dp 20 _ _ h2 hcl
          obtain ⟨as, hr⟩ := Dp.readsAll I _ vs its hD rv
          obtain ⟨l1, l2⟩ := all19 hcl
          rw [D.pyAll] at hr hal l2
          refine PySem.W.max_list_data (I.ok.hd hc) pl.isList (by simpa using hr) hal (by omega) fun i v h' tk bs hv hrd k => ?_
          rw [maxD_py] at hrd
          obtain ⟨z, rz, hz⟩ := chosen hK I h2 rv hcl hv (maxDD_mem ys y) hrd k
          exact ⟨z, H, I.kept k, rz, hands h (.refl _ _) rh hz hz.ntl⟩
        · exact h.noBad.elim
end
end Ev
set_option Elab.async false
set_option linter.all false
set_option maxRecDepth 100000
set_option maxHeartbeats 4000000
/-! EvF: tuple, list, int, abs, sorted; isinstance; methods of lists; truth. -/
namespace Ev
open PySem PySem.Spec PyProof.Rows L2
variable {c : SX} {W : XK} {ρ ρ1 : List Addr} {H H1 : Hp} {G G1 : GH} {r : R D} {Q : VK}
section
variable {X : Cx}
theorem ct_tuple (hK : c.K = X.K) : CallR X (.type "tuple") (rB1 c .tuple) := by
  intro pins s σV H xs us Q I r ⟨W, ρ, G, d, x, ex, rh, rd, h⟩
  subst ex
  by_cases ht : ∃ es, d = .tup es
  · obtain ⟨es, rfl⟩ := ht
    have rd' := rd
    obtain ⟨a, vs, rfl, h1, h2⟩ := tup_at rd
    rw [hK] at h1
    exact call_tuple_of pins s σV H _ us Q I r ⟨a, vs, rfl, .inr ⟨h1, hands (d := .tup es) h (.refl _ _) rh rd'⟩⟩
  · have h' : PX c W ρ H (match lsv d G with | some xs => .ok (.tup xs) G | none => .bad) (zV c H Q) := by
      cases d with
      | tup es => exact absurd ⟨es, rfl⟩ ht
      | _ => exact h
    cases q : lsv d G with
    | none => rw [q] at h'; exact h'.noBad.elim
    | some ys =>
      rw [q] at h'
      obtain ⟨a, vs, rfl, h1, h2⟩ := lsv_at rh rd q
      rw [hK] at h1
      exact call_tuple_of pins s σV H _ us Q I r ⟨a, vs, rfl, .inl ⟨h1, fun p n => handsT h' rh h2 n⟩⟩
theorem ct_list (hK : c.K = X.K) : CallR X (.type "list") (rB1 c .list) := by
  intro pins s σV H xs us Q I r ⟨W, ρ, G, d, x, ex, rh, rd, h⟩
  subst ex
  unfold opB1 at h
  cases q : seqv d G with
  | none => simp only [q] at h; exact h.noBad.elim
  | some ys =>
    simp only [q] at h
    obtain ⟨a, vs, rfl, h1, h2⟩ := seqv_at rh rd q
    rw [hK] at h1
    exact call_list_of pins s σV H _ us Q I r ⟨a, vs, rfl, h1, fun p n => handsL h rh h2 n⟩
theorem cb_abs : CallR X (.builtin "abs") (rB1 c .abs) := by
  intro pins s σV H xs us Q I r ⟨W, ρ, G, d, x, ex, rh, rd, h⟩
  subst ex
  cases d with
  | int i =>
    cases (show RD c.K ρ H _ x from rd)
    exact call_abs pins s σV H _ us Q I r ⟨i, rfl, hands h (.refl _ _) rh (.int _)⟩
  | _ => exact h.noBad.elim
theorem ct_int : CallR X (.type "int") (rB1 c .int) := by
  intro pins s σV H xs us Q I r ⟨W, ρ, G, d, x, ex, rh, rd, h⟩
  subst ex
  cases d with
  | int i =>
    cases (show RD c.K ρ H _ x from rd)
    exact call_int1 pins s σV H _ us Q I r (.inl ⟨i, rfl, hands h (.refl _ _) rh (.int _)⟩)
  | bl k =>
    cases (show RD c.K ρ H _ x from rd)
    exact call_int1 pins s σV H _ us Q I r (.inr ⟨k, rfl, hands h (.refl _ _) rh (.int _)⟩)
  | _ => exact h.noBad.elim
/-! ### sorted -/
theorem ins_mid {α : Type} {le : α → α → Bool} (ins' : α → List α → List α) (h0 : ∀ a, ins' a [] = [a]) (h1 : ∀ a b r, ins' a (b :: r) = if le a b then a :: b :: r else b :: ins' a r) (a : α) : ∀ (l1 l2 : List α), (∀ b ∈ l1, le a b = false) → (∀ b r, l2 = b :: r → le a b = true) → ins' a (l1 ++ l2) = l1 ++ a :: l2
  | [], [], _, _ => h0 a
  | [], b :: r, _, k => by
    rw [List.nil_append, h1, if_pos (k b r rfl)]
    rfl
  | b :: l1, l2, k1, k2 => by
    rw [List.cons_append, h1, if_neg (by rw [k1 b List.mem_cons_self]; exact Bool.false_ne_true), ins_mid ins' h0 h1 a l1 l2 (fun x hx => k1 x (List.mem_cons_of_mem _ hx)) k2]
    rfl
theorem isort_eq {le : D → D → Bool} (T : PySem.W.TotalLe le) : ∀ l : List D, isort le l = l.mergeSort le
  | [] => by simp [isort]
  | a :: l => by
    have ih := isort_eq T l
    obtain ⟨l1, l2, e1, e2, e3⟩ := List.mergeSort_cons (le := le) (fun a b c h1 h2 => T.trans a b c h1 h2) (fun a b => Bool.or_eq_true_iff.mpr (T.total a b)) a l
    rw [isort, ih, e2, e1]
    refine ins_mid (le := le) (ins le) (fun _ => rfl) (fun _ _ _ => rfl) a l1 l2 (fun b hb => ?_) (fun b r q => ?_)
    · have := e3 b hb
      simpa using this
    · have hp := PySem.W.sort_pairwise T (a :: l)
      rw [e1, q] at hp
      have hp2 := (List.pairwise_append.mp hp).2.1
      exact List.rel_of_pairwise_cons hp2 List.mem_cons_self
theorem dle_total : PySem.W.TotalLe dle := by
  have T := PySem.W.sortLe_total (PyProof.Rows.listOrd PyProof.Rows.itemOrd) false fun d : D => PySem.W.keyToks d.py
  exact ⟨T.trans, T.total⟩
theorem each_of : ∀ {ds : List D} {vs : List V} {its : List Value}, RDs c.K ρ H ds vs → Vals vs its → PySem.W.EachIs (fun v (p : D × V) => RelV p.2 v ∧ RD c.K ρ H p.1 p.2) its (ds.zip vs)
  | [], _, _, h, r => by cases h; cases r; exact .nil
  | d :: ds, _, _, h, r => by
    cases h with
    | cons h1 h2 =>
      cases r with
      | cons r1 r2 => exact .cons ⟨r1, h1⟩ (each_of h2 r2)
theorem of_each : ∀ {ps : List (D × V)} {its : List Value}, PySem.W.EachIs (fun v (p : D × V) => RelV p.2 v ∧ RD c.K ρ H p.1 p.2) its ps → RDs c.K ρ H (ps.map Prod.fst) (ps.map Prod.snd) ∧ Vals (ps.map Prod.snd) its
  | [], _, h => by cases h; exact ⟨.nil, .nil⟩
  | p :: ps, _, h => by
    cases h with
    | cons h1 h2 =>
      obtain ⟨a, b⟩ := of_each h2
      exact ⟨.cons h1.2 a, .cons h1.1 b⟩
theorem zip_fst {K : PySem.W.Frag} : ∀ {ds : List D} {vs : List V}, RDs K ρ H ds vs → (ds.zip vs).map Prod.fst = ds
  | [], _, h => by cases h; rfl
  | d :: ds, _, h => by
    cases h with
    | cons h1 h2 =>
      show d :: (ds.zip _).map Prod.fst = d :: ds
      rw [zip_fst h2]
theorem cb_sorted (hK : c.K = X.K) (hu : X.A.units + 66 < cLine) : CallR X (.builtin "sorted") (rB1 c .sorted) := by
  intro pins s σV H xs us Q I r ⟨W, ρ, G, d, x, ex, rh, rd, h⟩
  subst ex
  unfold opB1 at h
  cases q : lsv d G with
  | none => simp only [q] at h; exact h.noBad.elim
  | some ys =>
    simp only [q] at h
    split at h
    · rename_i hs
      unfold sortOk at hs
      simp only [Bool.and_eq_true, Bool.or_eq_true] at hs
      obtain ⟨⟨hcl, hal⟩, hso⟩ := hs
      obtain ⟨a, vs, rfl, h1, h2⟩ := lsv_at rh rd q
      have eu : us = [Value.ref a] := r.ref1
      subst eu
      rw [hK] at h1
      obtain ⟨its, rv, pl, hz⟩ := I.list h1
      have hm : ∀ p ∈ ys.zip vs, p.1 ∈ ys := fun p hp => (List.of_mem_zip hp).1
      have len := h2.length
      have zl : (ys.zip vs).length = ys.length := by rw [List.length_zip, ← len, Nat.min_self]
      refine PySem.W.sorted_data (enc := fun p : D × V => p.1.py) pl.isList (each_of h2 rv) ?_ (fun d1 h1 d2 h2 => ?_) ?_ (by rw [zl, len]; exact hz) (fun p hp => ?_) fun out ol oe => ?_
      · have e := each_of h2 rv
        have : ∀ {its : List Value} {ps : List (D × V)}, (∀ p ∈ ps, p.1 ∈ ys) → PySem.W.EachIs (fun v (p : D × V) => RelV p.2 v ∧ RD c.K ρ H p.1 p.2) its ps → PySem.W.EachIs (fun v (p : D × V) => ∃ as, Reads s.heap v p.1.py as) its ps := by
          intro its ps hm e
          induction e with
          | nil => exact .nil
          | cons h1 h2 ih => exact .cons (dp_reads hK I (RV.dp (RV.of h1.2) (List.all_eq_true.mp hcl _ (hm _ List.mem_cons_self))) h1.1) (ih fun p hp => hm p (List.mem_cons_of_mem _ hp))
        exact this hm e
      · obtain ⟨p1, m1, rfl⟩ := List.mem_map.mp h1
        obtain ⟨p2, m2, rfl⟩ := List.mem_map.mp h2
        exact List.all_eq_true.mp (List.all_eq_true.mp hal _ (hm _ m1)) _ (hm _ m2)
      · rcases hso with z | z
        · refine .inl fun d hd => ?_
          obtain ⟨p, m, rfl⟩ := List.mem_map.mp hd
          have := List.all_eq_true.mp z _ (hm _ m)
          cases e : p.1 with
          | tup es =>
            rw [e] at this
            cases es with
            | nil => cases this
            | cons y es => exact ⟨y.py, D.pyAll es, by simp only [D.py, D.pyAll]⟩
          | _ => rw [e] at this; cases this
        · refine .inr fun d hd => ?_
          obtain ⟨p, m, rfl⟩ := List.mem_map.mp hd
          have k1 := List.all_eq_true.mp z _ (hm _ m)
          have k2 := List.all_eq_true.mp hcl _ (hm _ m)
          cases e : p.1 with
          | tup es => rw [e] at k1; cases k1
          | non => rw [e] at k1; cases k1
          | ref n => rw [e] at k2; cases k2
          | bw n => rw [e] at k2; cases k2
          | dv _ _ => rw [e] at k2; cases k2
          | sv _ => rw [e] at k2; cases k2
          | _ => exact ⟨(by simp only [e, D.py]; intro z; cases z), fun xs => (by simp only [e, D.py]; intro z; cases z)⟩
      · have := (ck_py 20 _ (List.all_eq_true.mp hcl _ (hm p hp))).1
        show X.A.units + 2 + p.1.py.depth < cLine
        omega
      · obtain ⟨oa, ob⟩ := of_each oe
        have em : ((ys.zip vs).mergeSort (PySem.W.dataLe false fun p : D × V => p.1.py)).map Prod.fst = isort dle ys := by
          rw [isort_eq dle_total]
          have := PySem.W.sort_maps (f := fun p : D × V => p.1) (l := ys.zip vs) (r := PySem.W.dataLe false fun p : D × V => p.1.py) (s := dle) (fun a _ b _ => rfl)
          rw [this]
          exact congrArg (fun l => List.mergeSort l dle) (zip_fst h2)
        rw [em] at oa
        obtain ⟨e, he⟩ := sortedAll_at s.heap its out.toArray
        have hf : H (s.heap.objs.size + 1) = none := I.hok.fresh (Nat.le_succ _)
        have I1 : Inv X pins σV (upd H (s.heap.objs.size + 1) (.lst (((ys.zip vs).mergeSort (PySem.W.dataLe false fun p : D × V => p.1.py)).map Prod.snd))) { s with heap := PyProof.Rows.sortedAll s.heap its out.toArray } := by
          refine I.laid (t' := s.toks) (a := s.heap.objs.size + 1) (fun b o z => PyProof.Rows.sortedAll_old z) (Nat.le_succ _) ⟨?_, out, e, ob, he⟩
          rw [List.length_map, List.length_mergeSort, zl, len]
          exact hz
        exact ⟨.ref _, _, I1, rfl, handsL h rh oa hf⟩
    · exact h.noBad.elim
end
end Ev
set_option Elab.async false
set_option linter.all false
set_option maxRecDepth 100000
set_option maxHeartbeats 4000000
/-! EvG: isinstance, methods of lists, truth. -/
namespace Ev
open PySem PySem.Spec PyProof.Rows L2
variable {c : SX} {W : XK} {ρ ρ1 : List Addr} {H H1 : Hp} {G G1 : GH} {r : R D} {Q : VK}
def tyN : Ty → String
  | .int => "int"
  | .bool => "bool"
  | .tuple => "tuple"
  | .str => "str"
/-- the name of a value's type -/
def nmD : D → String
  | .non => "NoneType"
  | .bl _ => "bool"
  | .int _ => "int"
  | .str _ => "str"
  | .tup _ => "tuple"
  | .tl _ => "list"
  | .fl _ => "list"
  | .ref _ => "list"
  | .bw _ => "bad"
  | .dv _ _ => "dict"
  | .sv _ => "set"
theorem kits : ∀ t : Ty, kitB "NoneType" (tyN t) = some false ∧ kitB "bool" (tyN t) = some (match t with | .int => true | .bool => true | _ => false) ∧ kitB "int" (tyN t) = some (match t with | .int => true | _ => false) ∧
    kitB "str" (tyN t) = some (match t with | .str => true | _ => false) ∧ kitB "tuple" (tyN t) = some (match t with | .tuple => true | _ => false) ∧ kitB "list" (tyN t) = some false := by
  intro t
  cases t <;> decide +kernel
theorem isTy_kit {t : Ty} {d : D} {k : Bool} (h : isTy t d = some k) : kitB (nmD d) (tyN t) = some k := by
  obtain ⟨k1, k2, k3, k4, k5, k6⟩ := kits t
  cases d with
  | non => rw [show nmD .non = "NoneType" from rfl, k1]; cases t <;> exact h
  | bl b => rw [show nmD (.bl b) = "bool" from rfl, k2]; cases t <;> exact h
  | int b => rw [show nmD (.int b) = "int" from rfl, k3]; cases t <;> exact h
  | str b => rw [show nmD (.str b) = "str" from rfl, k4]; cases t <;> exact h
  | tup b => rw [show nmD (.tup b) = "tuple" from rfl, k5]; cases t <;> exact h
  | tl b => cases t <;> cases h
  | fl b => rw [show nmD (.fl b) = "list" from rfl, k6]; cases t <;> exact h
  | ref b => rw [show nmD (.ref b) = "list" from rfl, k6]; cases t <;> exact h
  | bw b => cases t <;> cases h
  | dv _ _ => cases t <;> cases h
  | sv b => cases t <;> cases h
theorem ty_of (rh : RH c.toSC ρ H G) {d : D} {v : V} (r : RV c.toSC ρ H d v) : TyX c.K H v (.type (nmD d)) := by
  cases d with
  | non => cases (show RD c.K ρ H _ v from r); exact .base .non
  | bl b => cases (show RD c.K ρ H _ v from r); exact .base (.bl b)
  | int i => cases (show RD c.K ρ H _ v from r); exact .base (.int i)
  | str z => cases (show RD c.K ρ H _ v from r); exact .base (.str z)
  | tup ds =>
    obtain ⟨a, xs, rfl, h1, h2⟩ := tup_at r
    rcases h1 with (z | ⟨o, z⟩) | ⟨o, its, n, z, zc, _⟩
    · exact .base (.tup z)
    · exact .fTuple z
    · exact .kTuple z zc
  | tl ds =>
    obtain ⟨a, xs, rfl, h1, _⟩ := r
    exact .base (.lst h1)
  | ref n =>
    cases (show RD c.K ρ H _ v from r) with
    | ref hr =>
      rename_i a
      obtain ⟨xs, q⟩ := rh.isl (List.mem_of_getElem? hr)
      exact .base (.lst q)
  | fl ds =>
    cases (show RD c.K ρ H _ v from r) with
    | fl h1 _ =>
      rcases h1 with ⟨o, z⟩ | ⟨o, its, n, z, zc, _⟩
      · exact .base (.frz z)
      · exact .kList z zc
  | bw ds => cases (show RD c.K ρ H _ v from r)
  | dv _ _ => cases (show RD c.K ρ H _ v from r)
  | sv ds =>
    cases (show RD c.K ρ H _ v from r) with
    | sv h1 _ _ => exact .set h1
section
variable {X : Cx}
def rIsD (c : SX) (t : Ty) : List V → Hp → VK → Prop := fun xs H Q => ∃ W ρ G d x, xs = [x, .ty (tyN t)] ∧ RH c.toSC ρ H G ∧ RV c.toSC ρ H d x ∧ PX c W ρ H (match isTy t d with | some k => .ok (.bl k) G | none => .bad) (zV c H Q)
theorem cb_isi (hK : c.K = X.K) (t : Ty) : CallR X (.builtin "isinstance") (rIsD c t) := by
  intro pins s σV H xs us Q I r ⟨W, ρ, G, d, x, ex, rh, rd, h⟩
  subst ex
  cases q : isTy t d with
  | none => rw [q] at h; exact h.noBad.elim
  | some k =>
    rw [q] at h
    have ty := ty_of rh rd
    rw [hK] at ty
    exact call_isi pins s σV H _ us Q I r ⟨x, .ty (tyN t), _, _, k, rfl, .ty _, ty, kit_ty (isTy_kit q), hands h (.refl _ _) rh (.bl _)⟩
/-! ### methods of lists -/
def rM (c : SX) (g : D → List D → GH → R D) : V → List V → Hp → VK → Prop := fun x xs H Q => ∃ W ρ G d ds, RH c.toSC ρ H G ∧ RV c.toSC ρ H d x ∧ RDs c.K ρ H ds xs ∧ PX c W ρ H (g d ds G) (zV c H Q)
theorem opM_at {b : Nat} {o : D} {x : V} {f : List D → Option (D × List D × Option D)} (rh : RH c.toSC ρ H G) (rd : RV c.toSC ρ H o x) (h : PX c W ρ H (opM b o G f) (zV c H Q)) :
    ∃ n a ds vs v ys new, o = .ref n ∧ x = .ref a ∧ ρ[n]? = some a ∧ n < G.length ∧ H a = some (.lst vs) ∧ RDs c.K ρ H ds vs ∧ f ds = some (v, ys, new) ∧ PX c W ρ H (.ok v (G.set n (.lst ys))) (zV c H Q) := by
  cases o with
  | ref n =>
    cases (show RD c.K ρ H _ x from rd) with
    | ref hr =>
      rename_i a
      unfold opM at h
      cases q : G[n]? with
      | none => simp only [q] at h; exact h.noBad.elim
      | some ob =>
        simp only [q] at h
        cases ob with
        | lst ds =>
          obtain ⟨vs, z1, z2⟩ := rh.ob n a _ hr q
          simp only at h
          cases w : f ds with
          | none => simp only [w] at h; exact h.noBad.elim
          | some p =>
            obtain ⟨v, ys, new⟩ := p
            simp only [w] at h
            have hn := (List.getElem?_eq_some_iff.mp q).1
            cases new with
            | none => exact ⟨n, a, ds, vs, v, ys, none, rfl, rfl, hr, hn, z1, z2, w, h⟩
            | some u =>
              simp only at h
              split at h
              · exact ⟨n, a, ds, vs, v, ys, some u, rfl, rfl, hr, hn, z1, z2, w, h⟩
              · exact h.noBad.elim
        | _ => exact h.noBad.elim
  | _ => exact h.noBad.elim
/-- behind a change of the list -/
theorem handsU {n : Nat} {a : Addr} {ys : List D} {us : List V} {v : D} {z : V} (h : PX c W ρ H (.ok v (G.set n (.lst ys))) (zV c H Q)) (rh : RH c.toSC ρ H G) (hr : ρ[n]? = some a) (hn : n < G.length) (r : RDs c.K ρ H ys us) (rv : RD c.K ρ H v z) : Q z (upd H a (.lst us)) := by
  have st : Stp ρ H ρ (upd H a (.lst us)) := Stp.upd rh hr (fun _ z => by cases z)
  exact hands h st (rh.upd hr r hn) (st.rd rh rv) rv.ntl
def gM1 (f : M1) (b : Nat) : D → List D → GH → R D := fun d ds S => match ds with
  | [a] => opM1 f b d a S
  | _ => .bad
theorem one_of {K : PySem.W.Frag} {f : M1} {b : Nat} {d : D} {ds : List D} {xs : List V} (r : RDs K ρ H ds xs) (h : PX c W ρ H (gM1 f b d ds G) (zV c H Q)) : ∃ a x, ds = [a] ∧ xs = [x] ∧ RD K ρ H a x ∧ PX c W ρ H (opM1 f b d a G) (zV c H Q) := by
  cases r with
  | nil => exact h.noBad.elim
  | cons r1 r2 =>
    cases r2 with
    | nil => exact ⟨_, _, rfl, rfl, r1, h⟩
    | cons _ _ => exact h.noBad.elim
theorem md_append {b : Nat} : MtR X "list.append" (rM c (gM1 .append b)) := by
  intro pins s σV H x xs v us Q I rx rxs ⟨W, ρ, G, d, ds, rh, rd, rs, h⟩
  obtain ⟨a, y, rfl, rfl, ra, h⟩ := one_of rs h
  obtain ⟨n, p, es, vs, w, ys, new, rfl, rfl, hr, hn, h1, h2, e, h⟩ := opM_at rh rd h
  split at e
  · rename_i hl
    cases e
    refine mt_append pins s σV H _ _ v us Q I rx rxs ⟨p, vs, y, rfl, rfl, h1, ?_, handsU h rh hr hn (h2.append (.cons ra .nil)) .non⟩
    rw [← h2.length, sizeLine_eq]
    exact hl
  · cases e
theorem md_extend {b : Nat} : MtR X "list.extend" (rM c (gM1 .extend b)) := by
  intro pins s σV H x xs v us Q I rx rxs ⟨W, ρ, G, d, ds, rh, rd, rs, h⟩
  obtain ⟨a, y, rfl, rfl, ra, h⟩ := one_of rs h
  unfold opM1 at h
  cases q : lsw a G with
  | none => simp only [q] at h; exact h.noBad.elim
  | some zs =>
    simp only [q] at h
    obtain ⟨p2, us2, rfl, k1, k2⟩ := lsw_at rh (RV.of ra) q
    obtain ⟨n, p, es, vs, w, ys, new, rfl, rfl, hr, hn, h1, h2, e, h⟩ := opM_at rh rd h
    split at e
    · rename_i hl
      cases e
      simp only [Bool.and_eq_true, decide_eq_true_eq] at hl
      refine mt_extend pins s σV H _ _ v us Q I rx rxs ⟨p, p2, vs, us2, rfl, rfl, h1, k1, ?_, handsU h rh hr hn (h2.append k2) .non⟩
      rw [← h2.length, ← k2.length]
      exact lim_line hl.1
    · cases e
theorem idxOf_spec {k : Int} {j : Nat} : ∀ {ns : List Int}, ns.idxOf? k = some j → ns[j]? = some k ∧ ∀ m : Nat, m < j → ns[m]? ≠ some k := by
  intro ns h
  have h' : ns.findIdx? (· == k) = some j := h
  rw [List.findIdx?_eq_some_iff_getElem] at h'
  obtain ⟨h1, h2, h3⟩ := h'
  refine ⟨by rw [List.getElem?_eq_getElem h1]; exact congrArg some (by simpa using h2), fun m hm z => ?_⟩
  have hml : m < ns.length := by omega
  have := h3 m hm
  rw [List.getElem?_eq_getElem hml] at z
  have e := Option.some.inj z
  simp [e] at this
theorem md_remove {b : Nat} : MtR X "list.remove" (rM c (gM1 .remove b)) := by
  intro pins s σV H x xs v us Q I rx rxs ⟨W, ρ, G, d, ds, rh, rd, rs, h⟩
  obtain ⟨a, y, rfl, rfl, ra, h⟩ := one_of rs h
  cases a with
  | int k =>
    cases ra
    obtain ⟨n, p, es, vs, w, ys, new, rfl, rfl, hr, hn, h1, h2, e, h⟩ := opM_at rh rd h
    cases q : intsD es with
    | none => rw [q] at e; cases e
    | some ns =>
      rw [q, Option.bind_some] at e
      have hv := h2.ints q
      cases q2 : ns.idxOf? k with
      | none => rw [q2] at e; cases e
      | some j =>
        rw [q2] at e
        cases e
        obtain ⟨j1, j2⟩ := idxOf_spec q2
        rw [hv] at h1
        refine mt_remove pins s σV H _ _ v us Q I rx rxs ⟨p, ns, k, j, rfl, rfl, h1, j1, j2, ?_⟩
        have := handsU h rh hr hn (h2.erase j) .non
        rw [hv, erase_mapI] at this
        exact this
  | _ => exact h.noBad.elim
theorem seqIx {n : Nat} {i : Int} {j : Nat} (h : ixN n i = some j) : seqIndex? i n = some j ∧ j < n ∧ -(n : Int) ≤ i ∧ i < n := ixN_seq h
theorem md_popat {b : Nat} : MtR X "list.pop" (rM c (gM1 .popat b)) := by
  intro pins s σV H x xs v us Q I rx rxs ⟨W, ρ, G, d, ds, rh, rd, rs, h⟩
  obtain ⟨a, y, rfl, rfl, ra, h⟩ := one_of rs h
  cases a with
  | int i =>
    cases ra
    obtain ⟨n, p, es, vs, w, ys, new, rfl, rfl, hr, hn, h1, h2, e, h⟩ := opM_at rh rd h
    cases q : ixN es.length i with
    | none => rw [q] at e; cases e
    | some j =>
      rw [q, Option.bind_some] at e
      obtain ⟨s1, s2, s3, s4⟩ := seqIx q
      rw [List.getElem?_eq_getElem s2] at e
      cases e
      obtain ⟨z, hz, rz⟩ := h2.get (List.getElem?_eq_getElem s2)
      have hlen := h2.length
      obtain ⟨zl, _⟩ := I.lstM h1
      have sl := sizeLine_eq
      refine mt_popAt pins s σV H _ _ v us Q I rx rxs ⟨p, vs, i, j, z, rfl, rfl, h1, by omega, by omega, by rw [← hlen]; exact s1, hz, ?_⟩
      exact handsU h rh hr hn (h2.erase j) rz
  | _ => exact h.noBad.elim
def gM0 (f : M0) (b : Nat) : D → List D → GH → R D := fun d ds S => match ds with
  | [] => opM0 f b d S
  | _ => .bad
theorem md_pop {b : Nat} : MtR X "list.pop" (rM c (gM0 .pop b)) := by
  intro pins s σV H x xs v us Q I rx rxs ⟨W, ρ, G, d, ds, rh, rd, rs, h⟩
  cases rs with
  | cons _ _ => exact h.noBad.elim
  | nil =>
    have h : PX c W ρ H (opM0 .pop b d G) (zV c H Q) := h
    obtain ⟨n, p, es, vs, w, ys, new, rfl, rfl, hr, hn, h1, h2, e, h⟩ := opM_at rh rd h
    cases q : es.getLast? with
    | none => rw [q] at e; cases e
    | some z =>
      rw [q] at e
      cases e
      rw [List.getLast?_eq_getElem?] at q
      obtain ⟨y, hy, ry⟩ := h2.get q
      rw [h2.length] at hy
      exact mt_pop pins s σV H _ _ v us Q I rx rxs ⟨p, vs, y, rfl, rfl, h1, hy, handsU h rh hr hn h2.dropLast ry⟩
/-! ### truth -/
theorem truth_at (hK : c.K = X.K) (rh : RH c.toSC ρ H G) {d : D} {x : V} {k : Bool} (r : RV c.toSC ρ H d x) (e : truth d G = some k) : TruV X.K x H k := by
  have gen : (seqv d G).map (fun xs => !xs.isEmpty) = some k → TruV X.K x H k := fun e => by
    cases q : seqv d G with
    | none => rw [q] at e; cases e
    | some xs =>
      rw [q] at e
      have e' : (!xs.isEmpty) = k := Option.some.inj e
      obtain ⟨a, vs, rfl, h1, h2⟩ := seqv_at rh r q
      rw [hK] at h1
      have ee : xs.isEmpty = vs.isEmpty := by cases h2 <;> rfl
      rw [ee] at e'
      rcases h1 with h1 | h1
      · exact .inl ⟨vs, h1, e'.symm⟩
      · exact .inr (.inl ⟨vs, h1, e'.symm⟩)
  cases d with
  | non =>
    cases (show RD c.K ρ H _ x from r)
    have e' : false = k := Option.some.inj e
    exact e'.symm
  | bl b =>
    cases (show RD c.K ρ H _ x from r)
    have e' : b = k := Option.some.inj e
    exact e'.symm
  | int i =>
    cases (show RD c.K ρ H _ x from r)
    have e' : decide (i ≠ 0) = k := Option.some.inj e
    show k = (i != 0)
    rw [← e']
    by_cases z : i = 0 <;> simp [z]
  | _ => exact gen e
end
end Ev
set_option Elab.async false
set_option linter.all false
set_option maxRecDepth 100000
set_option maxHeartbeats 4000000
/-! EvH: what the evaluator leaves alone: older objects get no newer ones. -/
namespace Ev
open PySem
mutual
def lowD (b : Nat) : D → Bool
  | .ref n => decide (n < b)
  | .tup xs => lowA b xs
  | .tl xs => lowA b xs
  | .fl xs => lowA b xs
  | _ => true
def lowA (b : Nat) : List D → Bool
  | [] => true
  | d :: ds => lowD b d && lowA b ds
end
def lowO (b : Nat) : GO → Bool
  | .lst xs => lowA b xs
  | .llk xs => lowA b xs
  | _ => true
def Clo (b : Nat) (S : GH) : Prop := ∀ (n : Nat) (o : GO), n < b → S[n]? = some o → lowO b o = true
def isLk : GO → Bool
  | .llk _ => true
  | .dlk _ => true
  | _ => false
/-- longer, the locked ones as they were -/
def Ext (S S' : GH) : Prop := S.length ≤ S'.length ∧ ∀ (n : Nat) (o : GO), S[n]? = some o → isLk o = true → S'[n]? = some o
theorem Ext.refl (S : GH) : Ext S S := ⟨Nat.le_refl _, fun _ _ h _ => h⟩
theorem Ext.trans {S S1 S2 : GH} (h : Ext S S1) (k : Ext S1 S2) : Ext S S2 := ⟨Nat.le_trans h.1 k.1, fun n o e i => k.2 n o (h.2 n o e i) i⟩
theorem Ext.append (S T : GH) : Ext S (S ++ T) := ⟨by rw [List.length_append]; omega, fun n o e _ => by rw [List.getElem?_append_left (List.getElem?_eq_some_iff.mp e).1]; exact e⟩
theorem Ext.set {S : GH} {n : Nat} {o : GO} (h : ∀ u, S[n]? = some u → isLk u = true → o = u) : Ext S (S.set n o) := ⟨by rw [List.length_set]; omega, fun m u e i => by
  by_cases x : n = m
  · subst x
    rw [List.getElem?_set_self (List.getElem?_eq_some_iff.mp e).1, h u e i]
  · rw [List.getElem?_set_ne x]; exact e⟩
theorem Ext.lst {S : GH} {n : Nat} {o : GO} {xs : List D} (e : S[n]? = some (.lst xs)) : Ext S (S.set n o) := Ext.set fun u e2 i => by
  rw [e] at e2; cases e2; cases i
def Gd {α : Type} (b : Nat) (T : GH) (r : R α) : Prop := match r with
  | .ok _ S => Ext T S ∧ Clo b S
  | .exc _ _ S => Ext T S ∧ Clo b S
  | .bad => True
theorem lowA_all {b : Nat} : ∀ {xs : List D}, lowA b xs = true ↔ ∀ x ∈ xs, lowD b x = true
  | [] => by simp [lowA]
  | x :: xs => by simp [lowA, lowA_all (xs := xs)]
theorem ck_low {b : Nat} : ∀ (n : Nat) (d : D), ck n d = true → lowD b d = true
  | n, .non, _ => rfl
  | n, .bl _, _ => rfl
  | n, .int _, _ => rfl
  | n, .str _, _ => rfl
  | 0, .ref _, h => by cases h
  | 0, .bw _, h => by cases h
  | 0, .dv _ _, h => by cases h
  | 0, .sv _, h => by cases h
  | n + 1, .ref _, h => by cases h
  | n + 1, .bw _, h => by cases h
  | n + 1, .dv _ _, h => by cases h
  | n + 1, .sv _, h => by cases h
  | 0, .tup _, h => by cases h
  | 0, .tl _, h => by cases h
  | 0, .fl _, h => by cases h
  | n + 1, .tup xs, h => lowA_all.mpr fun x hx => ck_low n x (List.all_eq_true.mp h x hx)
  | n + 1, .tl xs, h => lowA_all.mpr fun x hx => ck_low n x (List.all_eq_true.mp h x hx)
  | n + 1, .fl xs, h => lowA_all.mpr fun x hx => ck_low n x (List.all_eq_true.mp h x hx)
theorem lowA_append {b : Nat} {xs ys : List D} (h : lowA b xs = true) (k : lowA b ys = true) : lowA b (xs ++ ys) = true :=
  lowA_all.mpr fun x hx => (List.mem_append.mp hx).elim (lowA_all.mp h x) (lowA_all.mp k x)
theorem lowA_sub {b : Nat} {xs ys : List D} (h : lowA b xs = true) (k : ∀ x ∈ ys, x ∈ xs) : lowA b ys = true := lowA_all.mpr fun x hx => lowA_all.mp h x (k x hx)
variable {α β : Type} {b : Nat} {S S' T T' : GH}
theorem Gd.bad : Gd b T (.bad : R α) := trivial
theorem Gd.less {r : R α} (h : Gd b T r) (k : Ext T' T) : Gd b T' r := by
  cases r with
  | ok a S => exact ⟨k.trans h.1, h.2⟩
  | exc c d S => exact ⟨k.trans h.1, h.2⟩
  | bad => trivial
theorem Gd.bind {r : R α} {f : α → GH → R β} (h : Gd b T r) (k : ∀ a S', r = .ok a S' → Ext T S' → Clo b S' → Gd b T (f a S')) : Gd b T (r.bind f) := by
  cases r with
  | ok a S => exact k a S rfl h.1 h.2
  | exc c d S => exact h
  | bad => trivial
/-- nothing is changed -/
def Same (S : GH) (r : R α) : Prop := match r with
  | .ok _ S' => S' = S
  | .exc _ _ _ => False
  | .bad => True
theorem Same.gd {r : R α} (h : Same S r) (k : Ext T S) (c : Clo b S) : Gd b T r := by
  cases r with
  | ok a S' => obtain rfl : S' = S := h; exact ⟨k, c⟩
  | exc c d S' => exact h.elim
  | bad => trivial
theorem Same.ok {a : α} : Same S (.ok a S) := rfl
theorem Same.bad : Same S (.bad : R α) := trivial
theorem same_bin (op : BOp) (d e : D) : Same S (opBin op d e S) := by
  unfold opBin
  cases op <;> (repeat' split) <;> first | rfl | trivial
theorem same_cmp (op : COp) (d e : D) : Same S (opCmp op d e S) := by
  unfold opCmp
  cases op <;> (repeat' split) <;> first | rfl | trivial
theorem same_max (xs : List D) : Same S (opMax xs S) := by
  unfold opMax
  (repeat' split) <;> first | rfl | trivial
theorem same_min (xs : List D) : Same S (opMin xs S) := by
  unfold opMin
  (repeat' split) <;> first | rfl | trivial
theorem same_b1 (f : B1) (d : D) : Same S (opB1 f d S) := by
  unfold opB1
  cases f <;> (repeat' split) <;> first | rfl | trivial | exact same_max _ | exact same_min _
theorem same_idx (d e : D) : Same S (opIdx d e S) := by
  unfold opIdx
  (repeat' split) <;> first | rfl | trivial
theorem same_sl (d : D) (lo hi : Option Int) : Same S (opSl d lo hi S) := by
  unfold opSl
  (repeat' split) <;> first | rfl | trivial
theorem same_rev (d : D) : Same S (opRev d S) := by
  unfold opRev
  (repeat' split) <;> first | rfl | trivial
theorem Clo.append (h : Clo b S) (k : b ≤ S.length) (T : GH) : Clo b (S ++ T) := fun n o hn e => by
  rw [List.getElem?_append_left (by omega)] at e
  exact h n o hn e
theorem Clo.set {n : Nat} {o : GO} (h : Clo b S) (k : n < b → lowO b o = true) : Clo b (S.set n o) := fun m u hm e => by
  by_cases x : n = m
  · subst x
    by_cases y : n < S.length
    · rw [List.getElem?_set_self y] at e
      cases e
      exact k hm
    · rw [List.getElem?_eq_none (by rw [List.length_set]; omega)] at e
      cases e
  · rw [List.getElem?_set_ne x] at e
    exact h m u hm e
theorem Clo.take (h : Clo b S) (n : Nat) : Clo b (S.take n) := fun m u hm e => by
  rw [List.getElem?_take] at e
  split at e
  · exact h m u hm e
  · cases e
theorem gd_fix (d : D) (h : Ext T S) (k : b ≤ S.length) (c : Clo b S) : Gd b T (fix d S) := by
  unfold fix
  split
  · exact ⟨h.trans (.append _ _), c.append k _⟩
  · exact ⟨h, c⟩
theorem lock1_low (o : GO) (h : lowO b o = true) : lowO b (lock1 o) = true := by
  cases o <;> exact h
theorem lock_gd : ∀ (lk : List D) {S : GH}, Clo b S → Clo b (lock lk S) ∧ (lock lk S).length = S.length
  | [], S, c => ⟨c, rfl⟩
  | d :: lk, S, c => by
    cases d with
    | ref n =>
      unfold lock
      cases e : S[n]? with
      | none => exact lock_gd lk c
      | some o =>
        obtain ⟨h1, h2⟩ := lock_gd lk (S := S.set n (lock1 o)) (c.set fun hn => lock1_low o (c n o hn e))
        exact ⟨h1, by rw [h2, List.length_set]⟩
    | _ => exact lock_gd lk c
theorem unlock_gd : ∀ (lk : List D) {S0 S : GH}, Clo b S0 → Clo b S → Clo b (unlock lk S0 S) ∧ (unlock lk S0 S).length = S.length
  | [], S0, S, c0, c => ⟨c, rfl⟩
  | d :: lk, S0, S, c0, c => by
    cases d with
    | ref n =>
      unfold unlock
      cases e : S0[n]? with
      | none => exact unlock_gd lk c0 c
      | some o =>
        obtain ⟨h1, h2⟩ := unlock_gd lk (S := S.set n o) c0 (c.set fun hn => c0 n o hn e)
        exact ⟨h1, by rw [h2, List.length_set]⟩
    | _ => exact unlock_gd lk c0 c
theorem lock1_lk {o : GO} (h : isLk o = true) : lock1 o = o := by cases o <;> first | rfl | cases h
theorem lock_at {n : Nat} {o : GO} (i : isLk o = true) : ∀ (lk : List D) {S : GH}, S[n]? = some o → (lock lk S)[n]? = some o
  | [], S, e => e
  | d :: lk, S, e => by
    cases d with
    | ref m =>
      unfold lock
      cases q : S[m]? with
      | none => exact lock_at i lk e
      | some u =>
        refine lock_at i lk ?_
        by_cases x : m = n
        · subst x
          rw [q] at e; cases e
          rw [List.getElem?_set_self (List.getElem?_eq_some_iff.mp q).1, lock1_lk i]
        · rw [List.getElem?_set_ne x]; exact e
    | _ => exact lock_at i lk e
theorem unlock_at {n : Nat} {o : GO} {S0 : GH} (e0 : S0[n]? = some o) : ∀ (lk : List D) {S : GH}, S[n]? = some o → (unlock lk S0 S)[n]? = some o
  | [], S, e => e
  | d :: lk, S, e => by
    cases d with
    | ref m =>
      unfold unlock
      cases q : S0[m]? with
      | none => exact unlock_at e0 lk e
      | some u =>
        refine unlock_at e0 lk ?_
        by_cases x : m = n
        · subst x
          rw [q] at e0; cases e0
          rw [List.getElem?_set_self (List.getElem?_eq_some_iff.mp e).1]
        · rw [List.getElem?_set_ne x]; exact e
    | _ => exact unlock_at e0 lk e
theorem unlock_ext {lk : List D} {S0 S : GH} (h : Ext (lock lk S0) S) (l : (lock lk S0).length = S0.length) (u : (unlock lk S0 S).length = S.length) : Ext S0 (unlock lk S0 S) :=
  ⟨by rw [u, ← l]; exact h.1, fun n o e i => unlock_at e lk (h.2 n o (lock_at i lk e) i)⟩
/-- a method's change -/
def Mk (f : List D → Option (D × List D × Option D)) : Prop := ∀ (b : Nat) (xs ys : List D) (v : D) (u : Option D), f xs = some (v, ys, u) → lowA b xs = true → (∀ w, u = some w → lowD b w = true) → lowA b ys = true
theorem gd_opM {b0 : Nat} {o : D} {f : List D → Option (D × List D × Option D)} (m : Mk f) (hb : b0 ≤ b) (h : Ext T S) (c : Clo b0 S) : Gd b0 T (opM b o S f) := by
  unfold opM
  split
  · rename_i n
    split
    · rename_i xs e
      split
      · rename_i v ys new hf
        have low : n < b0 → lowA b0 xs = true := fun hn => c n _ hn e
        split
        · rename_i u
          split
          · rename_i hm
            refine ⟨h.trans (.lst e), c.set fun hn => m b0 xs ys v _ hf (low hn) fun w hw => ?_⟩
            cases hw
            unfold may at hm
            rw [if_pos (by omega), Bool.and_eq_true] at hm
            exact ck_low 20 u hm.2
          · trivial
        · exact ⟨h.trans (.lst e), c.set fun hn => m b0 xs ys v _ hf (low hn) fun w hw => by cases hw⟩
      · trivial
    · trivial
  · trivial
theorem mk_pop : Mk fun xs => xs.getLast?.map fun v => (v, xs.dropLast, none) := fun b xs ys v u e h _ => by
  dsimp only at e
  cases q : xs.getLast? with
  | none => rw [q] at e; cases e
  | some w =>
    rw [q] at e
    cases e
    exact lowA_sub h fun x hx => List.dropLast_subset _ hx
theorem gd_m0 {b0 : Nat} (f : M0) (o : D) (hb : b0 ≤ b) (h : Ext T S) (c : Clo b0 S) : Gd b0 T (opM0 f b o S) := by
  cases f
  exact gd_opM mk_pop hb h c
theorem gd_m1 {b0 : Nat} (f : M1) (o a : D) (hb : b0 ≤ b) (h : Ext T S) (c : Clo b0 S) : Gd b0 T (opM1 f b o a S) := by
  cases f with
  | append =>
    refine gd_opM (fun b xs ys v u e hx hu => ?_) hb h c
    split at e
    · cases e
      exact lowA_append hx (by simp [lowA, hu a rfl])
    · cases e
  | extend =>
    unfold opM1
    try dsimp only
    cases q : lsw a S with
    | none => trivial
    | some zs =>
      refine gd_opM (fun b xs ys v u e hx hu => ?_) hb h c
      split at e
      · rename_i k
        cases e
        rw [Bool.and_eq_true] at k
        exact lowA_append hx (lowA_all.mpr fun x hx => ck_low 20 x (List.all_eq_true.mp k.2 x hx))
      · cases e
  | remove =>
    unfold opM1
    try dsimp only
    split
    · refine gd_opM (fun b xs ys v u e hx hu => ?_) hb h c
      cases q : intsD xs with
      | none => rw [q] at e; cases e
      | some ns =>
        rw [q] at e
        rename_i k
        cases q2 : ns.idxOf? k with
        | none => simp only [Option.bind_some, q2] at e; cases e
        | some j =>
          simp only [Option.bind_some, q2] at e
          cases e
          exact lowA_sub hx fun x hx => List.mem_of_mem_eraseIdx hx
    · trivial
  | popat =>
    unfold opM1
    try dsimp only
    split
    · refine gd_opM (fun b xs ys v u e hx hu => ?_) hb h c
      rename_i k
      cases q : L2.ixN xs.length k with
      | none => rw [q] at e; cases e
      | some j =>
        rw [q] at e
        simp only [Option.bind_some] at e
        cases q2 : xs[j]? with
        | none => rw [q2] at e; cases e
        | some w =>
          rw [q2] at e
          cases e
          exact lowA_sub hx fun x hx => List.mem_of_mem_eraseIdx hx
    · trivial
  | index => trivial
theorem gd_comp {f : D → GH → R (Option D)} (h : ∀ d S, Ext T S → Clo b S → Gd b T (f d S)) : ∀ (ds : List D) {S : GH}, Ext T S → Clo b S → Gd b T (compLoop f ds S)
  | [], S, k, c => ⟨k, c⟩
  | d :: ds, S, k, c => by
    unfold compLoop
    exact (h d S k c).bind fun o S1 _ k1 c1 => (gd_comp h ds k1 c1).bind fun r S2 _ k2 c2 => ⟨k2, c2⟩
theorem Gd.unlR {r : R (List D)} {f : GH → GH} (h : Gd b T' r) (k : ∀ S', Ext T' S' → Clo b S' → Ext T (f S') ∧ Clo b (f S')) : Gd b T (unlR f r) := by
  cases r with
  | ok a S => exact k S h.1 h.2
  | exc c d S => exact k S h.1 h.2
  | bad => trivial
theorem Gd.asTup {r : R D} {f : List D → GH → R D} (h : Gd b T r) (k : ∀ a S', Ext T S' → Clo b S' → Gd b T (f a S')) : Gd b T (asTup r f) :=
  h.bind fun a S' _ k1 c1 => by
    cases a with
    | tup ds => exact k ds S' k1 c1
    | _ => trivial
theorem Gd.asIt {r : R D} {f : List D → List D → GH → R D} (h : Gd b T r) (k : ∀ a l S', Ext T S' → Clo b S' → Gd b T (f a l S')) : Gd b T (asIt r f) :=
  h.bind fun a S' _ k1 c1 => by
    try dsimp only
    split
    · exact k _ _ S' k1 c1
    · trivial
theorem Ext.take (h : Ext T S) (k : T.length ≤ b) (hb : b ≤ S.length) : Ext T (S.take b) := ⟨by rw [List.length_take]; have := h.1; omega, fun n o e i => by
  have := (List.getElem?_eq_some_iff.mp e).1
  rw [List.getElem?_take_of_lt (by omega)]
  exact h.2 n o e i⟩
theorem Gd.drop {r : R D} {b0 : Nat} (h : Gd b0 T r) : Gd b0 T (drop T.length r) := by
  cases r with
  | ok d S =>
    have g : Gd b0 T (.ok d (S.take T.length)) := ⟨h.1.take (Nat.le_refl _) h.1.1, h.2.take _⟩
    unfold Ev.drop
    dsimp only
    split
    · exact g
    · split
      · split
        · split
          · exact g
          · trivial
        · trivial
      · trivial
  | exc c d S =>
    unfold Ev.drop
    dsimp only
    split
    · exact ⟨h.1.take (Nat.le_refl _) h.1.1, h.2.take _⟩
    · trivial
  | bad => trivial
theorem gd_thunk {t : Option (Nat × Option Str)} {r : R D} (g : Gd b T r) : Gd b T (thunkR t r) := by
  cases t with
  | none => trivial
  | some t =>
    obtain ⟨k, o⟩ := t
    cases o with
    | none =>
      cases r with
      | ok d S => exact ⟨g.1, g.2⟩
      | exc c' d S =>
        show Gd b T (if c' = k then .ok d S else .bad)
        split
        · exact ⟨g.1, g.2⟩
        · trivial
      | bad => trivial
    | some pre =>
      cases r with
      | ok d S => exact ⟨g.1, g.2⟩
      | exc c' d S =>
        cases d with
        | str w =>
          show Gd b T (if c' = k ∧ pre.length + w.length ≤ lim then R.ok (D.str (pre ++ w)) S else .bad)
          split
          · exact ⟨g.1, g.2⟩
          · trivial
        | _ => trivial
      | bad => trivial
def GC (C : Cl) : Prop := ∀ (j b : Nat) (ds : List D) (S : GH) (b0 : Nat), b0 ≤ b → b ≤ S.length → Clo b0 S → Gd b0 S (C j b ds S)
theorem gd_ev {P : Pr} {C : Cl} (hC : GC C) (x : X) : ∀ (b : Nat) (σ : Sg) (S : GH) (b0 : Nat), b0 ≤ b → b ≤ S.length → Clo b0 S → Gd b0 S (ev P C x b σ S) := by
  induction x with
  | var i =>
    intro b σ S b0 h1 h2 c
    unfold ev
    split
    · exact ⟨.refl _, c⟩
    · trivial
  | cint i => intro b σ S b0 h1 h2 c; exact ⟨.refl _, c⟩
  | cstr i => intro b σ S b0 h1 h2 c; exact ⟨.refl _, c⟩
  | cbl i => intro b σ S b0 h1 h2 c; exact ⟨.refl _, c⟩
  | cnon => intro b σ S b0 h1 h2 c; exact ⟨.refl _, c⟩
  | nil => intro b σ S b0 h1 h2 c; exact ⟨.refl _, c⟩
  | glob k =>
    intro b σ S b0 h1 h2 c
    unfold ev
    split
    · exact ⟨.refl _, c⟩
    · trivial
  | bin op a e ia ie =>
    intro b σ S b0 h1 h2 c
    unfold ev
    refine (ia b σ S b0 h1 h2 c).bind fun d S1 _ k1 c1 => ((ie b σ S1 b0 h1 (Nat.le_trans h2 k1.1) c1).less k1).bind fun e S2 _ k2 c2 => (same_bin op d e).gd k2 c2
  | neg a ia =>
    intro b σ S b0 h1 h2 c
    unfold ev
    refine (ia b σ S b0 h1 h2 c).bind fun d S1 _ k1 c1 => ?_
    try dsimp only
    split
    · exact ⟨k1, c1⟩
    · trivial
  | not a ia =>
    intro b σ S b0 h1 h2 c
    unfold ev
    refine (ia b σ S b0 h1 h2 c).bind fun d S1 _ k1 c1 => ?_
    try dsimp only
    split
    · exact ⟨k1, c1⟩
    · trivial
  | and a e ia ie =>
    intro b σ S b0 h1 h2 c
    unfold ev
    refine (ia b σ S b0 h1 h2 c).bind fun d S1 _ k1 c1 => ?_
    try dsimp only
    split
    · exact (ie b σ S1 b0 h1 (Nat.le_trans h2 k1.1) c1).less k1
    · exact ⟨k1, c1⟩
    · trivial
  | or a e ia ie =>
    intro b σ S b0 h1 h2 c
    unfold ev
    refine (ia b σ S b0 h1 h2 c).bind fun d S1 _ k1 c1 => ?_
    try dsimp only
    split
    · exact (ie b σ S1 b0 h1 (Nat.le_trans h2 k1.1) c1).less k1
    · exact ⟨k1, c1⟩
    · trivial
  | cmp op a e ia ie =>
    intro b σ S b0 h1 h2 c
    unfold ev
    refine (ia b σ S b0 h1 h2 c).bind fun d S1 _ k1 c1 => ((ie b σ S1 b0 h1 (Nat.le_trans h2 k1.1) c1).less k1).bind fun e S2 _ k2 c2 => (same_cmp op d e).gd k2 c2
  | chain op op' a e e' ia ie ie' =>
    intro b σ S b0 h1 h2 c
    unfold ev
    refine (ia b σ S b0 h1 h2 c).bind fun d S1 _ k1 c1 => ((ie b σ S1 b0 h1 (Nat.le_trans h2 k1.1) c1).less k1).bind fun e S2 _ k2 c2 => Gd.bind ((same_cmp op d e).gd k2 c2) fun k S3 _ k3 c3 => ?_
    try dsimp only
    split
    · exact ((ie' b σ S3 b0 h1 (Nat.le_trans h2 k3.1) c3).less k3).bind fun d'' S4 _ k4 c4 => (same_cmp op' e d'').gd k4 c4
    · exact ⟨k3, c3⟩
    · trivial
  | ite t a e it ia ie =>
    intro b σ S b0 h1 h2 c
    unfold ev
    refine (it b σ S b0 h1 h2 c).bind fun d S1 _ k1 c1 => ?_
    try dsimp only
    split
    · exact (ia b σ S1 b0 h1 (Nat.le_trans h2 k1.1) c1).less k1
    · exact (ie b σ S1 b0 h1 (Nat.le_trans h2 k1.1) c1).less k1
    · trivial
  | tup as ia =>
    intro b σ S b0 h1 h2 c
    unfold ev
    exact ia b σ S b0 h1 h2 c
  | lst as ia =>
    intro b σ S b0 h1 h2 c
    unfold ev
    exact (ia b σ S b0 h1 h2 c).asTup fun ds S1 k1 c1 => ⟨k1, c1⟩
  | cons a as ia ias =>
    intro b σ S b0 h1 h2 c
    unfold ev
    exact (ia b σ S b0 h1 h2 c).bind fun d S1 _ k1 c1 => (gd_fix d k1 (Nat.le_trans h1 (Nat.le_trans h2 k1.1)) c1).bind fun d' S2 _ k2 c2 => ((ias b σ S2 b0 h1 (Nat.le_trans h2 k2.1) c2).less k2).asTup fun ds S3 k3 c3 => ⟨k3, c3⟩
  | idx a e ia ie =>
    intro b σ S b0 h1 h2 c
    unfold ev
    refine (ia b σ S b0 h1 h2 c).bind fun d S1 _ k1 c1 => ((ie b σ S1 b0 h1 (Nat.le_trans h2 k1.1) c1).less k1).bind fun e S2 _ k2 c2 => (same_idx d e).gd k2 c2
  | slc a lo hi ia il ih =>
    intro b σ S b0 h1 h2 c
    unfold ev
    refine (ia b σ S b0 h1 h2 c).bind fun d S1 _ k1 c1 => ((il b σ S1 b0 h1 (Nat.le_trans h2 k1.1) c1).less k1).bind fun l S2 _ k2 c2 => ?_
    try dsimp only
    split
    · refine ((ih b σ S2 b0 h1 (Nat.le_trans h2 k2.1) c2).less k2).bind fun h S3 _ k3 c3 => ?_
      try dsimp only
      split
      · exact (same_sl _ _ _).gd k3 c3
      · trivial
    · trivial
  | rev a ia =>
    intro b σ S b0 h1 h2 c
    unfold ev
    exact (ia b σ S b0 h1 h2 c).bind fun d S1 _ k1 c1 => (same_rev d).gd k1 c1
  | call j as ia =>
    intro b σ S b0 h1 h2 c
    unfold ev
    split
    · exact (ia b σ S b0 h1 h2 c).asTup fun ds S1 k1 c1 => (hC j b ds S1 b0 h1 (Nat.le_trans h2 k1.1) c1).less k1
    · refine Gd.drop ((ia S.length σ S b0 (by omega) (Nat.le_refl _) c).asTup fun ds S1 k1 c1 => (hC j S.length ds S1 b0 (by omega) k1.1 c1).less k1)
  | callk j p as ia =>
    intro b σ S b0 h1 h2 c
    unfold ev
    refine Gd.drop ((ia S.length σ S b0 (by omega) (Nat.le_refl _) c).asTup fun ds S1 k1 c1 => ?_)
    try dsimp only
    split
    · exact (hC j S.length _ S1 b0 (by omega) k1.1 c1).less k1
    · trivial
  | b1 f a ia =>
    intro b σ S b0 h1 h2 c
    unfold ev
    exact (ia b σ S b0 h1 h2 c).bind fun d S1 _ k1 c1 => (same_b1 f d).gd k1 c1
  | mx a e ia ie =>
    intro b σ S b0 h1 h2 c
    unfold ev
    refine (ia b σ S b0 h1 h2 c).bind fun d S1 _ k1 c1 => ((ie b σ S1 b0 h1 (Nat.le_trans h2 k1.1) c1).less k1).bind fun e S2 _ k2 c2 => ?_
    try dsimp only
    split
    · exact ⟨k2, c2⟩
    · trivial
  | mn a e ia ie =>
    intro b σ S b0 h1 h2 c
    unfold ev
    refine (ia b σ S b0 h1 h2 c).bind fun d S1 _ k1 c1 => ((ie b σ S1 b0 h1 (Nat.le_trans h2 k1.1) c1).less k1).bind fun e S2 _ k2 c2 => ?_
    try dsimp only
    split
    · exact ⟨k2, c2⟩
    · trivial
  | isi t a ia =>
    intro b σ S b0 h1 h2 c
    unfold ev
    refine (ia b σ S b0 h1 h2 c).bind fun d S1 _ k1 c1 => ?_
    try dsimp only
    split
    · exact ⟨k1, c1⟩
    · trivial
  | lrng as ia =>
    intro b σ S b0 h1 h2 c
    unfold ev
    refine (ia b σ S b0 h1 h2 c).asTup fun ds S1 k1 c1 => ?_
    try dsimp only
    split
    · exact ⟨k1, c1⟩
    · trivial
  | m0 f o io =>
    intro b σ S b0 h1 h2 c
    unfold ev
    refine (io b σ S b0 h1 h2 c).bind fun d S1 _ k1 c1 => ?_
    try dsimp only
    split
    · exact gd_m0 f d h1 k1 c1
    · trivial
  | m1 f o a io ia =>
    intro b σ S b0 h1 h2 c
    unfold ev
    refine (io b σ S b0 h1 h2 c).bind fun d S1 _ k1 c1 => ?_
    try dsimp only
    split
    · exact ((ia b σ S1 b0 h1 (Nat.le_trans h2 k1.1) c1).less k1).bind fun e S2 _ k2 c2 => (gd_fix e k2 (Nat.le_trans h1 (Nat.le_trans h2 k2.1)) c2).bind fun e' S3 _ k3 c3 => gd_m1 f d e' h1 k3 c3
    · trivial
  | comp e tg it cond own ie itg iit icond =>
    intro b σ S b0 h1 h2 c
    unfold ev
    refine (iit b σ S b0 h1 h2 c).asIt fun items lk S1 k1 c1 => ?_
    try dsimp only
    split
    · trivial
    obtain ⟨l1, l2⟩ := lock_gd lk c1
    have h3 : b ≤ (lock lk S1).length := by rw [l2]; exact Nat.le_trans h2 k1.1
    refine Gd.unlR (gd_comp (fun d S2 k2 c2 => ?_) items (.refl _) l1) fun S2 k2 c2 => ?_
    · try dsimp only
      split
      · refine ((icond b _ S2 b0 h1 (Nat.le_trans h3 k2.1) c2).less k2).bind fun k S3 _ k3 c3 => ?_
        try dsimp only
        split
        · exact ((ie b _ S3 b0 h1 (Nat.le_trans h3 k3.1) c3).less k3).bind fun v S4 _ k4 c4 => (gd_fix v k4 (Nat.le_trans h1 (Nat.le_trans h3 k4.1)) c4).bind fun v' S5 _ k5 c5 => ⟨k5, c5⟩
        · exact ⟨k3, c3⟩
        · trivial
      · trivial
    · obtain ⟨u1, u2⟩ := unlock_gd lk c1 c2
      exact ⟨k1.trans (unlock_ext k2 l2 u2), u1⟩
  | frz a ia =>
    intro b σ S b0 h1 h2 c
    unfold ev
    exact (ia b σ S b0 h1 h2 c).bind fun d S1 _ k1 c1 => ⟨k1, c1⟩
  | scomp j tg a own itg ia =>
    intro b σ S b0 h1 h2 c
    unfold ev
    refine (ia b σ S b0 h1 h2 c).bind fun d S1 _ k1 c1 => ?_
    try dsimp only
    split
    · split
      · trivial
      · split
        · exact ⟨k1, c1⟩
        · trivial
    · trivial
  | thunk k e ie =>
    intro b σ S b0 h1 h2 c
    have g := Gd.drop (ie S.length σ S b0 (by omega) (Nat.le_refl _) c)
    unfold ev
    exact gd_thunk g
  | iseq e ie =>
    intro b σ S b0 h1 h2 c
    unfold ev
    refine (ie b σ S b0 h1 h2 c).bind fun d S1 _ k1 c1 => ?_
    try dsimp only
    split
    · exact ⟨k1, c1⟩
    · trivial
  | irng as ia =>
    intro b σ S b0 h1 h2 c
    unfold ev
    refine (ia b σ S b0 h1 h2 c).asTup fun ds S1 k1 c1 => ?_
    try dsimp only
    split
    · exact ⟨k1, c1⟩
    · trivial
  | ienum e ie =>
    intro b σ S b0 h1 h2 c
    unfold ev
    refine (ie b σ S b0 h1 h2 c).bind fun d S1 _ k1 c1 => ?_
    try dsimp only
    split
    · exact ⟨k1, c1⟩
    · trivial
  | izip a e ia ie =>
    intro b σ S b0 h1 h2 c
    unfold ev
    refine (ia b σ S b0 h1 h2 c).bind fun d S1 _ k1 c1 => ((ie b σ S1 b0 h1 (Nat.le_trans h2 k1.1) c1).less k1).bind fun e S2 _ k2 c2 => ?_
    try dsimp only
    split
    · exact ⟨k2, c2⟩
    · trivial
  | _ => intro b σ S b0 h1 h2 c; unfold ev; trivial
end Ev
set_option Elab.async false
set_option linter.all false
set_option maxRecDepth 100000
set_option maxHeartbeats 4000000
/-! EvI: slots, readings; forgetting a callee's objects; lists locked. -/
namespace Ev
open PySem PySem.Spec PyProof.Rows L2
variable {c : SX} {W : XK} {ρ ρ' ρ1 : List Addr} {H H' H1 : Hp} {G G' G1 : GH} {Q : VK} {Z Z' : D → GH → List Addr → Hp → Prop}
/-! ### forgetting -/
mutual
theorem RD.cut {K : PySem.W.Frag} {t : List Addr} : ∀ (d : D) (v : V), RD K (ρ ++ t) H d v → lowD ρ.length d = true → RD K ρ H d v
  | .non, _, h, _ => by cases h; exact .non
  | .bl _, _, h, _ => by cases h; exact .bl _
  | .int _, _, h, _ => by cases h; exact .int _
  | .str _, _, h, _ => by cases h; exact .str _
  | .tup ds, _, h, e => by
    cases h with
    | tup h1 h2 => exact .tup h1 (RDs.cut ds _ h2 e)
  | .tl ds, _, h, _ => by cases h
  | .fl ds, _, h, e => by
    cases h with
    | fl h1 h2 => exact .fl h1 (RDs.cut ds _ h2 e)
  | .sv ds, _, h, _ => by
    cases h with
    | sv h1 h2 h3 => exact .sv h1 h2 h3
  | .ref n, _, h, e => by
    cases h with
    | ref h1 =>
      have e' : n < ρ.length := of_decide_eq_true e
      rw [List.getElem?_append_left e'] at h1
      exact .ref h1
theorem RDs.cut {K : PySem.W.Frag} {t : List Addr} : ∀ (ds : List D) (vs : List V), RDs K (ρ ++ t) H ds vs → lowA ρ.length ds = true → RDs K ρ H ds vs
  | [], _, h, _ => by cases h; exact .nil
  | d :: ds, _, h, e => by
    cases h with
    | cons h1 h2 =>
      have e' : (lowD ρ.length d && lowA ρ.length ds) = true := e
      rw [Bool.and_eq_true] at e'
      exact .cons (RD.cut d _ h1 e'.1) (RDs.cut ds _ h2 e'.2)
end
theorem RO.cut {K : PySem.W.Frag} {t : List Addr} {a : Addr} {o : GO} (h : RO K (ρ ++ t) H a o) (e : lowO ρ.length o = true) : RO K ρ H a o := by
  cases o with
  | lst ds => obtain ⟨xs, z, r⟩ := h; exact ⟨xs, z, r.cut ds _ e⟩
  | llk ds => obtain ⟨xs, z, r⟩ := h; exact ⟨xs, z, r.cut ds _ e⟩
  | dct _ => exact h.elim
  | dlk _ => exact h.elim
  | inst _ _ => exact h.elim
theorem RH.cut {t : List Addr} (h : RH c.toSC (ρ ++ t) H G) (l : Clo ρ.length G) : RH c.toSC ρ H (G.take ρ.length) := by
  have hl := h.len
  rw [List.length_append] at hl
  refine ⟨by rw [List.length_take]; omega, (List.nodup_append.mp h.nd).1, fun n a o e1 e2 => ?_, h.tb⟩
  have hn : n < ρ.length := (List.getElem?_eq_some_iff.mp e1).1
  rw [List.getElem?_take_of_lt hn] at e2
  exact (h.ob n a o (by rw [List.getElem?_append_left hn]; exact e1) e2).cut (l n o hn e2)
theorem RH.clo (h : RH c.toSC ρ H G) : Clo G.length G := by
  have low : ∀ n, n < ρ.length → n < G.length := fun n hn => by rw [← h.len]; exact hn
  have ld : ∀ (d : D) (v : V), RD c.K ρ H d v → lowD G.length d = true := by
    intro d v r
    refine RD.rec (motive_1 := fun d _ _ => lowD G.length d = true) (motive_2 := fun ds _ _ => lowA G.length ds = true) rfl (fun _ => rfl) (fun _ => rfl) (fun _ => rfl) (fun _ _ ih => ih) (fun _ _ ih => ih) (fun {n a} e => ?_) (fun _ _ _ => rfl) rfl (fun _ _ i1 i2 => ?_) r
    · exact decide_eq_true (low n (List.getElem?_eq_some_iff.mp e).1)
    · show (_ && _) = true
      rw [i1, i2]; rfl
  have la : ∀ {ds : List D} {vs : List V}, RDs c.K ρ H ds vs → lowA G.length ds = true := by
    intro ds
    induction ds with
    | nil => intro _ _; rfl
    | cons d ds ih =>
      intro vs r
      cases r with
      | cons r1 r2 =>
        show (_ && _) = true
        rw [ld d _ r1, ih r2]; rfl
  intro n o hn e
  have hr : n < ρ.length := by rw [h.len]; exact hn
  have q := h.ob n ρ[n] o (List.getElem?_eq_getElem hr) e
  cases o with
  | lst ds => obtain ⟨xs, _, r⟩ := q; exact la r
  | llk ds => obtain ⟨xs, _, r⟩ := q; exact la r
  | dct _ => rfl
  | dlk _ => rfl
  | inst _ _ => rfl
theorem Stp.cut (x : Stp ρ H ρ' H') : Stp ρ H ρ H' := ⟨⟨[], by simp⟩, x.old, fun _ m => .inl m, x.dom⟩
/-- behind a callee: what is wanted of the value that is handed out -/
theorem PX.dropped {r : R D} (rh : RH c.toSC ρ H G) (g : Gd G.length G r) (h : PX c W ρ H (drop G.length r) (zV c H Q)) : PX c W ρ H r (zV c H Q) := by
  have hb : G.length = ρ.length := rh.len.symm
  cases r with
  | bad => exact h
  | exc k d S =>
    intro ρ' H' dx v st rh' rd hx
    unfold drop at h
    dsimp only at h
    split at h
    · rename_i hc
      obtain ⟨t, ht⟩ := st.pre
      have g2 : Clo ρ.length S := by rw [← hb]; exact g.2
      subst ht
      rw [hb] at h
      exact h ρ H' dx v st.cut (rh'.cut g2) (rd.cut d v (ck_low 20 d hc)) hx
    · exact h.elim
  | ok d S =>
    intro ρ' H' st rh' v rv fr
    obtain ⟨t, ht⟩ := st.pre
    have g2 : Clo ρ.length S := by rw [← hb]; exact g.2
    subst ht
    have rc := rh'.cut g2
    unfold drop at h
    dsimp only at h
    rw [hb] at h
    split at h
    · rename_i hc
      refine h ρ H' st.cut rc v ?_ fr
      have lo : lowD ρ.length d = true := ck_low 20 d hc
      cases d with
      | tl xs =>
        obtain ⟨a, ys, e1, e2, e3, e4⟩ := rv
        exact ⟨a, ys, e1, e2, fun m => e3 (List.mem_append_left _ m), e4.cut xs _ lo⟩
      | _ => exact RD.cut _ _ rv lo
    · split at h
      · rename_i n _
        split at h
        · rename_i xs q
          split at h
          · rename_i hk
            rw [Bool.and_eq_true] at hk
            obtain ⟨hk1, hk2⟩ := hk
            have hk1 : ρ.length ≤ n := of_decide_eq_true hk1
            have rv' : RD c.K (ρ ++ t) H' (.ref n) v := rv
            cases rv' with
            | @ref _ a e =>
              obtain ⟨ys, e2, e3⟩ := rh'.ob n a _ e q
              have na : a ∉ ρ := fun m => by
                obtain ⟨j, hj⟩ := List.mem_iff_getElem?.mp m
                have hj2 : j < ρ.length := (List.getElem?_eq_some_iff.mp hj).1
                have ej : (ρ ++ t)[j]? = some a := by rw [List.getElem?_append_left hj2]; exact hj
                obtain ⟨l1, q1⟩ := List.getElem?_eq_some_iff.mp e
                obtain ⟨l2, q2⟩ := List.getElem?_eq_some_iff.mp ej
                have := (List.getElem_inj rh'.nd).mp (q1.trans q2.symm)
                omega
              refine h ρ H' st.cut rc (.ref a) ⟨a, ys, rfl, e2, na, e3.cut xs _ (lowA_all.mpr fun x hx => ck_low 19 x (List.all_eq_true.mp hk2 x hx))⟩ fun _ b hb2 => ?_
              cases hb2
              rcases st.new a (List.mem_of_getElem? e) with z | z
              · exact absurd z na
              · exact z
          · exact h.elim
        · exact h.elim
      · exact h.elim
/-! ### slots -/
def slR (c : SX) (ρ : List Addr) (H : Hp) (σ : Sg) (σV : L2.St) : Prop := σ.length = σV.length ∧ ∀ (i : Nat) (d : D), σ[i]? = some (some d) → ∃ v, σV[i]? = some (some v) ∧ RD c.K ρ H d v
theorem Stp.sl {σ : Sg} {σV : L2.St} (x : Stp ρ H ρ' H') (rh : RH c.toSC ρ H G) (h : slR c ρ H σ σV) : slR c ρ' H' σ σV :=
  ⟨h.1, fun i d e => let ⟨v, e1, r⟩ := h.2 i d e; ⟨v, e1, x.rd rh r⟩⟩
theorem slR.set {σ : Sg} {σV : L2.St} {d : D} {v : V} (h : slR c ρ H σ σV) (r : RD c.K ρ H d v) (i : Nat) : slR c ρ H (σ.set i (some d)) (σV.set i (some v)) :=
  ⟨by rw [List.length_set, List.length_set]; exact h.1, fun j e q => by
    by_cases x : i = j
    · subst x
      by_cases y : i < σ.length
      · rw [List.getElem?_set_self y] at q
        have q' : some d = some e := Option.some.inj q
        cases q'
        exact ⟨v, List.getElem?_set_self (by rw [← h.1]; exact y), r⟩
      · rw [List.getElem?_eq_none (by rw [List.length_set]; omega)] at q
        cases q
    · rw [List.getElem?_set_ne x] at q
      rw [List.getElem?_set_ne x]
      exact h.2 j e q⟩
theorem wipeS_length (σ : Sg) : ∀ vs : List Nat, (wipeS σ vs).length = σ.length
  | [] => rfl
  | v :: vs => by unfold wipeS; rw [List.length_set, wipeS_length σ vs]
theorem wipe_at {α : Type} {w : List (Option α) → List Nat → List (Option α)} (h0 : ∀ σ, w σ [] = σ) (h1 : ∀ σ v vs, w σ (v :: vs) = (w σ vs).set v none) (hl : ∀ σ vs, (w σ vs).length = σ.length) (σ : List (Option α)) (i : Nat) :
    ∀ vs : List Nat, (w σ vs)[i]? = if i ∈ vs then (if i < σ.length then some none else none) else σ[i]?
  | [] => by rw [h0, if_neg (by simp)]
  | v :: vs => by
    rw [h1]
    have ih := wipe_at h0 h1 hl σ i vs
    by_cases x : v = i
    · subst x
      rw [if_pos List.mem_cons_self]
      by_cases y : v < σ.length
      · rw [List.getElem?_set_self (by rw [hl]; exact y), if_pos y]
      · rw [List.getElem?_eq_none (by rw [List.length_set, hl]; omega), if_neg y]
    · rw [List.getElem?_set_ne x, ih]
      by_cases z : i ∈ vs
      · rw [if_pos z, if_pos (List.mem_cons_of_mem _ z)]
      · rw [if_neg z, if_neg (by simp only [List.mem_cons, not_or]; exact ⟨fun e => x e.symm, z⟩)]
theorem wipeS_at (σ : Sg) (i : Nat) (vs : List Nat) : (wipeS σ vs)[i]? = if i ∈ vs then (if i < σ.length then some none else none) else σ[i]? :=
  wipe_at (w := wipeS) (fun _ => rfl) (fun _ _ _ => rfl) wipeS_length σ i vs
theorem wipeV_at (σ : L2.St) (i : Nat) (vs : List Nat) : (wipe σ vs)[i]? = if i ∈ vs then (if i < σ.length then some none else none) else σ[i]? :=
  wipe_at (w := wipe) (fun _ => rfl) (fun _ _ _ => rfl) wipe_length σ i vs
theorem slR.wipe {σ : Sg} {σV : L2.St} (h : slR c ρ H σ σV) (vs : List Nat) : slR c ρ H (wipeS σ vs) (L2.wipe σV vs) :=
  ⟨by rw [wipeS_length, wipe_length]; exact h.1, fun i d e => by
    rw [wipeS_at] at e
    rw [wipeV_at]
    by_cases m : i ∈ vs
    · rw [if_pos m] at e
      split at e <;> cases e
    · rw [if_neg m] at e ⊢
      exact h.2 i d e⟩
theorem wipe_same {σV τV : L2.St} {vs : List Nat} (hl : τV.length = σV.length) (h : ∀ i, i ∉ vs → τV[i]? = (L2.wipe σV vs)[i]?) : L2.wipe τV vs = L2.wipe σV vs := by
  refine List.ext_getElem? fun i => ?_
  rw [wipeV_at]
  by_cases m : i ∈ vs
  · rw [if_pos m, wipeV_at, if_pos m, hl]
  · rw [if_neg m]; exact h i m
/-! ### where the code stands -/
structure At (c : SX) (b : Nat) (ρ : List Addr) (G : GH) (σ : Sg) (σV : L2.St) (H : Hp) : Prop where
  rh : RH c.toSC ρ H G
  sl : slR c ρ H σ σV
  lb : b ≤ G.length
theorem At.step {b : Nat} {σ : Sg} {σV : L2.St} (A : At c b ρ G σ σV H) (x : Stp ρ H ρ' H') (rh : RH c.toSC ρ' H' G') (l : G.length ≤ G'.length) : At c b ρ' G' σ σV H' := ⟨rh, x.sl A.rh A.sl, Nat.le_trans A.lb l⟩
variable {P : Pr} {C : Ev.Cl}
theorem len_ev (hC : GC C) {x : X} {b : Nat} {σ : Sg} {d : D} (h : b ≤ G.length) (e : ev P C x b σ G = .ok d G') : Ext G G' := by
  have g := gd_ev (P := P) hC x b σ G 0 (Nat.zero_le _) h (fun n o hn => absurd hn (Nat.not_lt_zero n))
  rw [e] at g
  exact g.1
def tE (c : SX) (P : Pr) (C : Ev.Cl) (W : XK) (x : X) : TE := fun σV H Q => ∃ b ρ G σ, At c b ρ G σ σV H ∧ PX c W ρ H (ev P C x b σ G) (zV c H Q)
def zT (Q : Bool → Hp → Prop) : D → GH → List Addr → Hp → Prop := fun d G' _ H' => ∃ k, truth d G' = some k ∧ Q k H'
def tT (c : SX) (P : Pr) (C : Ev.Cl) (W : XK) (x : X) : TT := fun σV H Q => ∃ b ρ G σ, At c b ρ G σ σV H ∧ PX c W ρ H (ev P C x b σ G) (zT Q)
def zA (c : SX) (Q : List V → Hp → Prop) : D → GH → List Addr → Hp → Prop := fun d _ ρ' H' => ∀ ds vs, d = .tup ds → RDs c.K ρ' H' ds vs → Q vs H'
def tA (c : SX) (P : Pr) (C : Ev.Cl) (W : XK) (x : X) : TA := fun σV H Q => ∃ b ρ G σ, At c b ρ G σ σV H ∧ PX c W ρ H (ev P C x b σ G) (zA c Q)
/-- the first part of an expression has run -/
theorem tE_then {b : Nat} {σ : Sg} {σV : L2.St} {x : X} {f : D → GH → R D} {K : VK} (hC : GC C) (A : At c b ρ G σ σV H) (h : PX c W ρ H ((ev P C x b σ G).bind f) Z)
    (k : ∀ d G' ρ' H' v, Stp ρ H ρ' H' → At c b ρ' G' σ σV H' → Ext G G' → RV c.toSC ρ' H' d v → Fr0 H d v → PX c W ρ H (f d G') Z → K v H') : tE c P C W x σV H K := by
  refine ⟨b, ρ, G, σ, A, ?_⟩
  cases e : ev P C x b σ G with
  | ok d G' =>
    rw [e] at h
    have l := len_ev hC A.lb e
    exact fun ρ' H' st rh v rv fr => k d G' ρ' H' v st (A.step st rh l.1) l rv fr h
  | exc n d G' => rw [e] at h; exact h
  | bad => rw [e] at h; exact h
theorem tT_then {b : Nat} {σ : Sg} {σV : L2.St} {x : X} {f : D → GH → R D} {K : Bool → Hp → Prop} (hC : GC C) (A : At c b ρ G σ σV H) (h : PX c W ρ H ((ev P C x b σ G).bind f) Z)
    (k : ∀ d G' ρ' H', Stp ρ H ρ' H' → At c b ρ' G' σ σV H' → Ext G G' → PX c W ρ H (f d G') Z → ∃ t, truth d G' = some t ∧ K t H') : tT c P C W x σV H K := by
  refine ⟨b, ρ, G, σ, A, ?_⟩
  cases e : ev P C x b σ G with
  | ok d G' =>
    rw [e] at h
    have l := len_ev hC A.lb e
    exact fun ρ' H' st rh => k d G' ρ' H' st (A.step st rh l.1) l h
  | exc n d G' => rw [e] at h; exact h
  | bad => rw [e] at h; exact h
theorem tA_then {b : Nat} {σ : Sg} {σV : L2.St} {x : X} {f : List D → GH → R D} {K : List V → Hp → Prop} (hC : GC C) (A : At c b ρ G σ σV H) (h : PX c W ρ H (asTup (ev P C x b σ G) f) Z)
    (k : ∀ ds G' ρ' H' vs, Stp ρ H ρ' H' → At c b ρ' G' σ σV H' → Ext G G' → RDs c.K ρ' H' ds vs → PX c W ρ H (f ds G') Z → K vs H') : tA c P C W x σV H K := by
  refine ⟨b, ρ, G, σ, A, ?_⟩
  unfold asTup at h
  cases e : ev P C x b σ G with
  | ok d G' =>
    rw [e] at h
    have l := len_ev hC A.lb e
    intro ρ' H' st rh ds vs e2 rds
    subst e2
    exact k ds G' ρ' H' vs st (A.step st rh l.1) l rds h
  | exc n d G' => rw [e] at h; exact h
  | bad => rw [e] at h; exact h
/-- a value that is to be held -/
theorem fix_at {d : D} {v : V} (st : Stp ρ H ρ' H') (rh : RH c.toSC ρ' H' G') (rv : RV c.toSC ρ' H' d v) (fr : Fr0 H d v) :
    ∃ ρ2 d' G2, fix d G' = .ok d' G2 ∧ Stp ρ H ρ2 H' ∧ RH c.toSC ρ2 H' G2 ∧ RD c.K ρ2 H' d' v ∧ (∃ t, ρ2 = ρ' ++ t) ∧ Ext G' G2 := by
  cases d with
  | tl xs =>
    obtain ⟨a, ys, rfl, e, n, r⟩ := rv
    refine ⟨ρ' ++ [a], .ref G'.length, G' ++ [.lst xs], rfl, st.name (fr rfl a rfl), rh.name e n r, .ref ?_, ⟨_, rfl⟩, .append _ _⟩
    rw [← rh.len, List.getElem?_append_right (Nat.le_refl _)]
    simp
  | _ => exact ⟨ρ', _, G', rfl, st, rh, rv, ⟨[], by simp⟩, .refl _⟩
/-! ### locked lists -/
theorem RO.lock1 {K : PySem.W.Frag} {a : Addr} {o : GO} : RO K ρ H a (Ev.lock1 o) ↔ RO K ρ H a o := by cases o <;> exact Iff.rfl
theorem RH.set_same {n : Nat} {o o' : GO} (h : RH c.toSC ρ H G) (e : G[n]? = some o) (k : ∀ a, RO c.K ρ H a o → RO c.K ρ H a o') : RH c.toSC ρ H (G.set n o') :=
  ⟨by rw [List.length_set]; exact h.len, h.nd, fun m a u e1 e2 => by
    by_cases x : n = m
    · subst x
      rw [List.getElem?_set_self (List.getElem?_eq_some_iff.mp e).1] at e2
      cases e2
      exact k a (h.ob n a o e1 e)
    · rw [List.getElem?_set_ne x] at e2
      exact h.ob m a u e1 e2, h.tb⟩
theorem RH.lock : ∀ (lk : List D) {G : GH}, RH c.toSC ρ H G → RH c.toSC ρ H (Ev.lock lk G)
  | [], _, h => h
  | d :: lk, G, h => by
    cases d with
    | ref n =>
      unfold Ev.lock
      cases e : G[n]? with
      | none => exact RH.lock lk h
      | some o => exact RH.lock lk (h.set_same e fun a q => RO.lock1.mpr q)
    | _ => exact RH.lock lk h
theorem RH.unlock : ∀ (lk : List D) {G0 G : GH}, RH c.toSC ρ H G → (∀ n o, D.ref n ∈ lk → G0[n]? = some o → ∃ u, G[n]? = some u ∧ (u = o ∨ u = Ev.lock1 o)) → RH c.toSC ρ H (Ev.unlock lk G0 G)
  | [], _, _, h, _ => h
  | d :: lk, G0, G, h, k => by
    cases d with
    | ref n =>
      unfold Ev.unlock
      cases e : G0[n]? with
      | none => exact RH.unlock lk h fun m o hm => k m o (List.mem_cons_of_mem _ hm)
      | some o =>
        obtain ⟨u, e2, q⟩ := k n o List.mem_cons_self e
        refine RH.unlock lk (h.set_same e2 fun a r => ?_) fun m o' hm e' => ?_
        · rcases q with rfl | rfl
          · exact r
          · exact RO.lock1.mp r
        · by_cases x : n = m
          · subst x
            rw [e] at e'; cases e'
            exact ⟨o, by rw [List.getElem?_set_self (List.getElem?_eq_some_iff.mp e2).1], .inl rfl⟩
          · obtain ⟨u', e3, q'⟩ := k m o' (List.mem_cons_of_mem _ hm) e'
            exact ⟨u', by rw [List.getElem?_set_ne x]; exact e3, q'⟩
    | _ => exact RH.unlock lk h fun m o hm => k m o (List.mem_cons_of_mem _ hm)
theorem lock_is : ∀ (lk : List D) {G : GH} {n : Nat} {o : GO}, D.ref n ∈ lk → G[n]? = some o → ∃ u, (lock lk G)[n]? = some u ∧ u = lock1 o
  | [], _, _, _, h, _ => by cases h
  | d :: lk, G, n, o, h, e => by
    have idem : ∀ o : GO, lock1 (lock1 o) = lock1 o := fun o => by cases o <;> rfl
    rcases List.mem_cons.mp h with z | z
    · subst z
      unfold lock
      rw [e]
      have e2 : (G.set n (lock1 o))[n]? = some (lock1 o) := List.getElem?_set_self (List.getElem?_eq_some_iff.mp e).1
      have rest : ∀ (lk : List D) {G : GH}, G[n]? = some (lock1 o) → (lock lk G)[n]? = some (lock1 o) := by
        intro lk
        induction lk with
        | nil => intro G e; exact e
        | cons d lk ih =>
          intro G e
          cases d with
          | ref m =>
            unfold lock
            cases q : G[m]? with
            | none => exact ih e
            | some u =>
              refine ih ?_
              by_cases x : m = n
              · subst x
                rw [e] at q; cases q
                rw [List.getElem?_set_self (List.getElem?_eq_some_iff.mp e).1, idem]
              · rw [List.getElem?_set_ne x]; exact e
          | _ => exact ih e
      exact ⟨_, rest lk e2, rfl⟩
    · cases d with
      | ref m =>
        unfold lock
        cases q : G[m]? with
        | none => exact lock_is lk z e
        | some u =>
          by_cases x : m = n
          · subst x
            rw [e] at q; cases q
            obtain ⟨u', e3, q'⟩ := lock_is lk (G := G.set m (lock1 o)) z (List.getElem?_set_self (List.getElem?_eq_some_iff.mp e).1)
            exact ⟨u', e3, by rw [q', idem]⟩
          · exact lock_is lk z (by rw [List.getElem?_set_ne x]; exact e)
      | _ => exact lock_is lk z e
end Ev
set_option Elab.async false
set_option linter.all false
set_option maxRecDepth 100000
set_option maxHeartbeats 8000000
/-! EvNa: an exception that leaves a comprehension's block. -/
namespace Ev
open PySem PySem.Spec PyProof.Rows L2
theorem note_same {e : Value} {env env' : Env} (h : env.frame = env'.frame) : noteFrame e env = noteFrame e env' := by
  unfold noteFrame PySem.frameOf
  rw [h]
section
open PySem.HandSPX
variable {M : Model} {A : Around} {E : Value → Shared → Prop} {s : Shared} {Z : Obj → Prop} {base : Heap} {env : Env} {outer l : List Env} {L e : Addr}
/-- fresh, or traced with any flight -/
def SkyP (B : Heap) (l : List Env) (a : Addr) (Z : Obj → Prop) (h : Heap) : Prop :=
  B.StaysIn h ∧ B.get? a = none ∧ h.FunFrames B l ∧ ((∃ oe vs, h.get? a = some oe ∧ Z oe ∧ oe.data = .fields vs ∧ vs[1]? = some .none) ∨ ∃ fl, TracedZ h B a Z fl)
theorem SkyP.of (x : Sky base l e Z L s.heap) : SkyP base l e Z s.heap := by
  rcases x with ⟨a, b, c, d⟩ | ⟨a, b, c, d⟩ | ⟨a, b, c, d⟩
  · exact ⟨a, b, c, .inl d⟩
  · exact ⟨a, b, c, .inr ⟨_, d⟩⟩
  · exact ⟨a, b, c, .inr ⟨_, d⟩⟩
/-- noted -/
theorem noteP {Q : Unit → Shared → Prop} (hZ : Steady Z) (hfr : A.frames = some (env :: outer)) (hf : env.frame = some L) (x : SkyP base (env :: outer) e Z s.heap)
    (hQ : ∀ h', HeldZ base (env :: outer) e Z L h' → s.heap.UpToSlots h' → Q () { s with heap := h' }) : wpAny M A (noteFrame (.ref e) env) Q E s := by
  obtain ⟨hkb, hen, hl, ⟨oe, vs, he, hz, hd, h1⟩ | ⟨fl, ht⟩⟩ := x
  · exact look_newZ hZ hfr hl hf he hkb hen hd h1 hz hQ
  · by_cases hfl : fl = rawInt L
    · subst hfl
      exact againZ hf ht (hQ s.heap ⟨hkb, hen, hl, ht⟩ (Heap.UpToSlots.refl _))
    · obtain ⟨oe, vs, T, oT, ts, he, hz, hd, h1, hnT, hTe, hT, hdT, h3⟩ := ht
      unfold noteFrame
      simp only [hf]
      refine wpAny_bind (wpAny_field he hd h1 ?_)
      rw [if_pos (show (Value.ref T != Value.none) = true from by simp)]
      refine wpAny_bind (wpAny_field hT hdT h3 ?_)
      rw [if_neg (show ¬ ((fl == rawInt L) = true) from by simpa using hfl)]
      refine wpAny_bind (wpAny_setField hT hdT (Array.getElem?_eq_some_iff.mp h3).1 ?_)
      have other : ∀ b, b ≠ T → (s.heap.update T (Obj.mapFields (·.setIfInBounds 3 Value.none))).get? b = s.heap.get? b := fun b hb => Heap.get?_update_other _ _ (Ne.symm hb)
      have noRecord : ∀ b o, s.heap.get? b = some o → (∀ vs, o.data ≠ .fields vs) → b ≠ T := fun b o hb hnf q => by
        rw [q, hT] at hb; injection hb with hb; subst hb; exact hnf ts hdT
      refine wpAny_entryZ hZ hfr (hl.of_keeps fun b o hb hnf => ⟨o, (other b (noRecord b o hb hnf)).trans hb, rfl⟩) hf ((other e (Ne.symm hTe)).trans he)
        (fun b o hbo => (other b fun q => by rw [q, hnT] at hbo; cases hbo).trans (hkb b o hbo)) hen hd (Array.getElem?_eq_some_iff.mp h1).1 hz fun h' hN => ?_
      obtain ⟨x1, x2, x3, x4⟩ := hN
      exact hQ h' ⟨x1, hen, x2, x3⟩ fun b o hb hnf => x4 b o ((other b (noRecord b o hb hnf)).trans hb) hnf
theorem leaveP {Q : Unit → Shared → Prop} (hZ : Steady Z) (hfr : A.frames = some (env :: outer)) (hf : env.frame = some L) (x : SkyP base (env :: outer) e Z s.heap)
    (hQ : ∀ h', FlyingZ base outer e Z h' → s.heap.UpToSlots h' → Q () { s with heap := h' }) : wpAny M A (leaving env (.ref e)) Q E s := by
  unfold leaving
  refine wpAny_bind (noteP hZ hfr hf x fun h1 hh up => ?_)
  refine landsZ hh fun h' hfl k => ?_
  obtain ⟨k1, k2, ⟨_, _, k3⟩, k4⟩ := hfl
  exact hQ h' ⟨k1, k2, k3, k4⟩ (up.trans k)
end
/-- an exception in the air, its flight any -/
def XEp (X : Cx) (W : WX) (u : Value) (s' : Shared) : Prop :=
  ∃ (a : Addr) (B : Heap) (sI : Shared) (pins : List (Addr × Obj)) (σ : L2.St) (H : Hp) (cls : Value) (d : Option Addr),
    u = .ref a ∧ Inv X pins σ H sI ∧ (∀ b o, sI.heap.get? b = some o → b ∉ frs X.stack → B.get? b = some o) ∧ sI.heap.UpToSlots s'.heap ∧
      SkyP B X.stack a (Zc cls d) s'.heap ∧ H a = none ∧ s'.os = sI.os ∧ AllBare s'.gens ∧ W cls d σ H
def TakP (X : Cx) (W : WX) : Prop := ∀ u s', XEp X W u s' → X.xe u s'
section
variable {X : Cx} {W : WX}
theorem TakP.tk (t : TakP X W) : Takes X W := fun u s' ⟨a, B, sI, pins, σ, H, cls, d, e, I, nb, up, sky, r⟩ => t u s' ⟨a, B, sI, pins, σ, H, cls, d, e, I, nb, up, SkyP.of sky, r⟩
theorem takP0 : TakP X (fun _ _ _ _ => False) := fun _ _ x => by
  obtain ⟨_, _, _, _, _, _, _, _, _, _, _, _, _, _, _, _, z⟩ := x
  exact z.elim
theorem XEp.leave {E : XK} {s' : Shared} (hs : X.stack = X.env :: X.outer) (hf : X.env.frame = some X.env.locals) (hex : X.ex = []) {E₁ : Value → Shared → Prop} (hW : ∀ cls d σ H, W cls d σ H → E cls d H) {u : Value} (x : XEp X W u s') :
    wpAny (model X.prog X.w) X.A (leaving X.env u) (fun _ s'' => CX X.prog X.w X.outer X.H_0 X.s_0 E u s'') E₁ s' := by
  obtain ⟨a, B, sI, pins, σ, H, cls, d, rfl, I, nb, up, sky, na, os, ag, w⟩ := x
  have hfr : X.A.frames = some (X.env :: X.outer) := by rw [I.ok.frames, hs]
  have nst : ∀ b o, X.s_0.heap.get? b = some o → b ∉ X.fs → b ∉ frs X.stack := fun b o e hb hm => by
    rcases List.mem_cons.mp (I.stkSub b hm) with z | z
    · have h1 := Heap.lt_size e
      have h2 := I.ok.above
      rw [z] at h1
      exact absurd (Nat.lt_of_lt_of_le h1 h2) (Nat.lt_irrefl _)
    · exact hb z
  have hex' : ∀ b, b ∉ X.ex := fun b hb => by rw [hex] at hb; cases hb
  have hokB := I.inGround nb
  rw [hs] at sky
  refine leaveP Zc.steady hfr hf sky fun h' fl up' => ?_
  refine ⟨a, B, H, cls, d, rfl, fl, hokB, ⟨fun b o e n hb => nb b o (I.base.keep b o e n hb (hex' b)) (nst b o e hb), fun b o e hb => ?_, fun b o e n => I.base.free b o e n (hex' b), fun b o e hb => ?_, I.base.tups, I.base.frzs, I.base.tbls⟩,
    na, os.trans I.os, ag, hW _ _ _ _ w⟩
  · obtain ⟨_, o₀, e₀, hnf⟩ := I.ok.funs.mem hb
    rw [e] at e₀; cases e₀
    obtain ⟨sl, e1⟩ := I.base.slot b o e (I.ok.frf b hb) hb (hex' b)
    obtain ⟨sl2, e2⟩ := up b _ e1 hnf
    obtain ⟨sl3, e3⟩ := up' b _ e2 hnf
    exact ⟨sl3, e3⟩
  · obtain ⟨o', e1⟩ := I.base.there b o e (hex' b)
    exact ⟨o', nb b o' e1 (nst b o e hb)⟩
theorem takP_of {E : XK} (hs : X.stack = X.env :: X.outer) (hf : X.env.frame = some X.env.locals) (hex : X.ex = []) {E₁ : Value → Shared → Prop}
    (hx : X.xe = fun e s' => wpAny (model X.prog X.w) X.A (leaving X.env e) (fun _ s'' => CX X.prog X.w X.outer X.H_0 X.s_0 E e s'') E₁ s') : TakP X (fun cls d _ H => E cls d H) := fun u s' x => by
  rw [hx]
  exact XEp.leave (W := fun cls d _ H => E cls d H) (E := E) hs hf hex (fun _ _ _ _ h => h) x
end
/-- the frame of what runs, at the stack's head -/
def HeadFr (X : Cx) : Prop := ∃ (e0 : Env) (tl : List Env) (L : Addr), X.stack = e0 :: tl ∧ e0.frame = some L ∧ X.env.frame = some L
/-- the block's context, its exceptions wished for -/
abbrev blkE (X : Cx) (s : Shared) (H : Hp) (scope : Scope) (cenv : Env) (fp : List Addr) (xe : Value → Shared → Prop) : Cx := (X.blk s H scope cenv fp).tr [] xe
section
open PySem.HandSPX
variable {X : Cx} {pins : List (Addr × Obj)} {σ : L2.St} {H : Hp} {s : Shared}
theorem takP_blk {W : XK} {scope : Scope} {ce : Env} {fp : List Addr} {use : Option (Value → Sem Unit)} {Qf : Value → Shared → Prop} {acc : Value} {C : Addr} (I3 : Inv X pins σ H s) (fr : HeadFr X) (hce : ce.frame = X.env.frame) (hC : ce.locals = C) (hCs : C = s.heap.objs.size)
    (hfp : ∀ b ∈ fp, FpOk X pins H b) (t : TakP X (fun cls d _ H => W cls d H)) :
    TakP (blkE X s H scope ce fp (notedBy (model X.prog X.w) X.A ce fun e s' => compPost (model X.prog X.w) X.A X.xe use Qf acc C (.error e) s')) (fun cls d _ H => W cls d H) := by
  intro u s' x
  obtain ⟨a, B, sI, pins', σ', H', cls, d, rfl, I', nb, up, sky, na, os, ag, w⟩ := x
  obtain ⟨e0, tl, L, hs, hf0, hfe⟩ := fr
  have hfr : X.A.frames = some (e0 :: tl) := by rw [I3.ok.frames, hs]
  have sky : SkyP B (e0 :: tl) a (Zc cls d) s'.heap := by rw [← hs]; exact sky
  have nb : ∀ b o, sI.heap.get? b = some o → b ∉ frs X.stack → B.get? b = some o := nb
  show wpAny (model X.prog X.w) X.A (noteFrame (.ref a) ce) _ _ s'
  rw [note_same (env' := e0) (by rw [hce, hfe, hf0])]
  have skB := sky.1
  refine noteP Zc.steady hfr hf0 sky fun h1 held up1 => ?_
  have I1 : Inv (blkE X s H scope ce fp (notedBy (model X.prog X.w) X.A ce fun e s' => compPost (model X.prog X.w) X.A X.xe use Qf acc C (.error e) s')) pins' σ' H' { s' with heap := h1 } := I'.landed (s' := { s' with heap := h1 }) nb held.1 (up.trans up1) os ag
  obtain ⟨m, hn, _⟩ : ∃ m, h1.Ns C m ∧ True := by
    obtain ⟨m, hn, _⟩ := I1.loc
    exact ⟨m, by rw [← hC]; exact hn, trivial⟩
  have nC : H' C = none := by
    have z : H' ce.locals = none := I1.free
    rw [hC] at z
    exact z
  have fin : ∀ h' : Heap, Heap.SameBut C h1 h' → ∀ cenv : Env, cenv.locals = C → wpAny (model X.prog X.w) X.A (PySem.passOn "comprehension.variables-let-go" (.ref a) cenv : Sem Value) (fun _ _ => False) X.xe { s' with heap := h' } := by
    intro h' sb cenv _
    obtain ⟨hkb, hen, hl, oe, vs, T, oT, ts, he, hz, hd, hv1, hnT, hTe, hT, hdT, h3⟩ := held
    obtain ⟨oC, es, ep, hoC, hdC, _⟩ := id hn
    have aC : a ≠ C := fun z => by
      rw [z, hoC] at he
      cases he
      rw [hdC] at hd; cases hd
    have TC : T ≠ C := fun z => by
      rw [z, hoC] at hT
      cases hT
      rw [hdC] at hdT; cases hdT
    have inS : ∀ b o, s.heap.get? b = some o → b ≠ C := fun b o e z => by
      have := Heap.lt_size e
      rw [z, hCs] at this
      exact Nat.lt_irrefl _ this
    have frC : ∀ b ∈ frs X.stack, b ≠ C := fun b hb => by
      obtain ⟨_, o, ho, _⟩ := I3.stack.mem hb
      exact inS b o ho
    obtain ⟨B', b1, b2⟩ := restrict h' fun b => (B.get? b).isSome && decide (b ≠ C)
    obtain ⟨G, g1, g2⟩ := restrict h' fun b => ((B.get? b).isSome && decide (b ≠ C)) || decide (b ∈ frs X.stack)
    have stB : ∀ b o, B.get? b = some o → b ≠ C → h'.get? b = some o := fun b o e n => (sb.2 b n).trans (hkb b o e)
    have gB : ∀ b o, B.get? b = some o → b ≠ C → G.get? b = some o := fun b o e n => by
      rw [g1 b (by simp [e, n])]
      exact stB b o e n
    have gF : ∀ b, b ∈ frs X.stack → G.get? b = h'.get? b := fun b hb => g1 b (by simp [hb])
    have bB : ∀ b o, B'.get? b = some o → h'.get? b = some o ∧ B.get? b = some o ∧ b ≠ C := fun b o e => by
      cases q : ((B.get? b).isSome && decide (b ≠ C)) with
      | false => rw [b2 b q] at e; cases e
      | true =>
        rw [b1 b q] at e
        rw [Bool.and_eq_true] at q
        obtain ⟨o', q1⟩ := Option.isSome_iff_exists.mp q.1
        have q2 : b ≠ C := of_decide_eq_true q.2
        have z := stB b o' q1 q2
        rw [e] at z; cases z
        exact ⟨e, q1, q2⟩
    have og : ∀ b o, G.get? b = some o → h'.get? b = some o ∧ (b ∈ frs X.stack ∨ B'.get? b = some o) := fun b o e => by
      cases q : (((B.get? b).isSome && decide (b ≠ C)) || decide (b ∈ frs X.stack)) with
      | false => rw [g2 b q] at e; cases e
      | true =>
        rw [g1 b q] at e
        refine ⟨e, ?_⟩
        rw [Bool.or_eq_true] at q
        rcases q with q | q
        · exact .inr ((b1 b q).trans e)
        · exact .inl (of_decide_eq_true q)
    have hokB : HOk X.prog X.w H' B := I'.inGround nb
    have hokG : HOk X.prog X.w H' G := fun b o q => (hokB b o q).stay (fun c v hc r => gB c v r fun z => by
      rw [z] at hc
      rcases hc with hc | hc
      · rw [hc, q] at nC; cases nC
      · rw [hc] at nC; cases nC) (fun _ r => r) fun _ _ r => r
    have IG : Inv X pins σ H' { s' with heap := G } := by
      refine I3.call' (s' := { s' with heap := G }) (ch := fp) (os.trans I'.os) ⟨fun b o e n hb hx => gB b o (nb b o (I'.base.keep b o e n hb hx) hb) (inS b o e), fun b o e n hb hx => ?_, fun b o e n hx => I'.base.free b o e n hx, fun b o e hx => ?_, I'.base.tups, I'.base.frzs, I'.base.tbls⟩ hokG ag
        fun b hb => ⟨(hfp b hb).2.2.2.1, (hfp b hb).2.1, (hfp b hb).2.2.2.2.1, (hfp b hb).2.2.2.2.2⟩
      · obtain ⟨_, o₀, e₀, hnf⟩ := I3.stack.mem hb
        rw [e] at e₀; cases e₀
        obtain ⟨sl, e1⟩ := I'.base.slot b o e n hb hx
        obtain ⟨sl2, e2⟩ := up b _ e1 hnf
        obtain ⟨sl3, e3⟩ := up1 b _ e2 hnf
        exact ⟨sl3, by rw [gF b hb, sb.2 b (inS b o e)]; exact e3⟩
      · by_cases hb : b ∈ frs X.stack
        · obtain ⟨_, o₀, e₀, hnf⟩ := I3.stack.mem hb
          rw [e] at e₀; cases e₀
          obtain ⟨o', e1⟩ := I1.base.there b o e hx
          exact ⟨o', by rw [gF b hb, sb.2 b (inS b o e)]; exact e1⟩
        · obtain ⟨o', e1⟩ := I'.base.there b o e hx
          exact ⟨o', gB b o' (nb b o' e1 hb) (inS b o e)⟩
    have tr : TracedZ h' B' a (Zc cls d) (rawInt L) := by
      refine ⟨oe, vs, T, oT, ts, (sb.2 a aC).trans he, hz, hd, hv1, ?_, hTe, (sb.2 T TC).trans hT, hdT, h3⟩
      cases q : B'.get? T with
      | none => rfl
      | some o => have z := (bB T o q).2.1; rw [hnT] at z; cases z
    have hna : B'.get? a = none := by
      cases q : B'.get? a with
      | none => rfl
      | some o => have z := (bB a o q).2.1; rw [hen] at z; cases z
    have fl' : h'.FunFrames B' X.stack := by
      refine funFrames_none (base := X.base) ?_ fun b hb => ?_
      · have IH : Inv X pins σ H' { s' with heap := h' } := by
          refine I3.call' (s' := { s' with heap := h' }) (ch := fp) (os.trans I'.os) ⟨fun b o e n hb hx => stB b o (nb b o (I'.base.keep b o e n hb hx) hb) (inS b o e), fun b o e n hb hx => ?_, fun b o e n hx => I'.base.free b o e n hx, fun b o e hx => ?_, I'.base.tups, I'.base.frzs, I'.base.tbls⟩ (hokG.kept fun b o e => (og b o e).1) ag
            fun b hb => ⟨(hfp b hb).2.2.2.1, (hfp b hb).2.1, (hfp b hb).2.2.2.2.1, (hfp b hb).2.2.2.2.2⟩
          · obtain ⟨sl, e1⟩ := I1.base.slot b o e n hb hx
            exact ⟨sl, (sb.2 b (inS b o e)).trans e1⟩
          · obtain ⟨o', e1⟩ := I1.base.there b o e hx
            exact ⟨o', (sb.2 b (inS b o e)).trans e1⟩
        exact IH.stack
      · cases q : B'.get? b with
        | none => rfl
        | some o =>
          have z := (bB b o q).2.1
          have hb' : b ∈ frs (e0 :: tl) := by rw [← hs]; exact hb
          rw [(hl.mem hb').1] at z; cases z
    unfold PySem.passOn
    refine wpAny_bind (wpAny_field ((sb.2 a aC).trans he) hd hv1 ?_)
    rw [if_neg (by simp)]
    refine wpAny_bind (setFlight_anyZ (s := { s' with heap := h' }) (fun b o e => (bB b o e).1) fl' tr fun h2 k1 k2 k3 k4 => ?_)
    refine wpAny_throw (t _ _ ⟨a, B', { s' with heap := G }, pins, σ, H', cls, d, rfl, IG, fun b o e hb => ?_, (Heap.UpToSlots.of_keeps fun b o e => (og b o e).1).trans k4, ⟨k1, hna, k2, .inr ⟨_, k3⟩⟩, na, rfl, ag, w⟩)
    rcases (og b o e).2 with z | z
    · exact absurd z hb
    · exact z
  unfold compPost
  cases use with
  | none => exact ⟨m, hn, fin⟩
  | some u => exact ⟨m, hn, fin⟩
end
end Ev
set_option Elab.async false
set_option linter.all false
set_option maxRecDepth 100000
set_option maxHeartbeats 8000000
/-! EvNb: a list comprehension whose block may raise (after HandS.Comp's lc_core, pe_lc, ps_setLc; the block's exceptions wished for). -/
namespace Ev
open PySem PySem.Spec PyProof.Rows L2
section
variable {X : Cx}
theorem thnE {α : Type} {t : Sem α} {Q Q' : α → Shared → Prop} {M : Model} {A : Around} {E E' E0 : Value → Shared → Prop} {s : Shared} (e : E0 = E) (h : wpAny M A t Q E s) (hQ : ∀ a s, Q a s → Q' a s) (hE : E' = E0 := by rfl) : wpAny M A t Q' E' s := by
  subst e hE
  exact wpAny_mono h hQ fun _ _ z => z
theorem lc_coreE {W : XK} {pins : List (Addr × Obj)} {s : Shared} {σ : L2.St} {H : Hp} {Q : VK} {elt tg iter : Expr} {ifs : List Expr} {scope : Scope} {own : List (Str × Nat)} {pos pos' : Pos} {wi : TI} {g : TG} {tt : TT} {te : TE} {use : Option (Value → Sem Unit)} {Qf : Value → Shared → Prop}
    (tk : TakP X (fun cls d _ H => W cls d H)) (fr : HeadFr X) (hc : X.calm = true) (hN : X.N.Nodup) (I : Inv X pins σ H s) (hi : PI X tg iter wi) (ok : BlkOk X.N X.env.scope scope own)
    (hg : ∀ (s : Shared) (H : Hp) (C : Addr) (cl : List (Str × Addr)) (fp : List Addr) (xe : Value → Shared → Prop), TakP (blkE X s H scope (compEnvC scope cl C X.env) fp xe) (fun cls d _ H => W cls d H) → PG (blkE X s H scope (compEnvC scope cl C X.env) fp xe) tg g) (ht : ∀ (s : Shared) (H : Hp) (C : Addr) (cl : List (Str × Addr)) (fp : List Addr) (xe : Value → Shared → Prop), TakP (blkE X s H scope (compEnvC scope cl C X.env) fp xe) (fun cls d _ H => W cls d H) → PTs (blkE X s H scope (compEnvC scope cl C X.env) fp xe) ifs tt)
    (he : ∀ (s : Shared) (H : Hp) (C : Addr) (cl : List (Str × Addr)) (fp : List Addr) (xe : Value → Shared → Prop), TakP (blkE X s H scope (compEnvC scope cl C X.env) fp xe) (fun cls d _ H => W cls d H) → PE (blkE X s H scope (compEnvC scope cl C X.env) fp xe) elt te) (hs : ∀ x, foldedSetIterable iter X.env x = pure x)
    (h : tLc wi g tt te (own.map (·.2)) σ H Q)
    (hRR : ∀ D C s' m H', Inv X pins σ H' s' → Q (.ref D) H' → s'.heap.Ns C m → FpOk X pins H' C → compPost (model X.prog X.w) X.A X.xe use Qf (.ref D) C (.ok .next) s') :
    wpAny (model X.prog X.w) X.A (comprehension (.ListComp elt [⟨tg, iter, ifs, 0⟩] scope pos) scope X.env pos' (newList []) false (eval iter X.env) use) Qf X.xe s := by
  have hfree : ∀ y ∈ scope.names, y.2 = .free → ∃ c, X.env.cells.lookup y.1 = some c := fun y hy e => by
    rcases ok.free y hy e with k | k
    · exact I.ok.has _ (.inl k)
    · exact I.ok.has _ (.inr k)
  refine wpAny_comprehension_free (use := use) rfl hs (closure_ok hfree) ok.kind (fun y hy e => by rw [ok.uniq y hy, e])
    (thn (hi.run pins s σ H _ I h) fun xv s1 hx => thn hx fun itv s2 h2 => ?_)
  obtain ⟨it, fp, tn, J, H2, e, I2, T, st2, f2, q⟩ := h2
  subst e
  refine wpAny_newObj_type (newEnv_comp ?_) (by show 0 ≤ sizeLine; decide)
  generalize hD : s2.heap.objs.size = D
  have hDn : H2 D = none := I2.hok.fresh (Nat.le_of_eq hD)
  obtain ⟨Wm, ⟨m0, w0⟩, turn⟩ := q D hDn
  -- the new list
  generalize hs3 : ({ s2 with heap := s2.heap.push { cls := .type "list", data := .seq ([] : List Value).toArray } } : Shared) = s3
  have I3 : Inv X pins σ (upd H2 D (.lst [])) s3 := by
    rw [← hs3]
    refine I2.laid (t' := s2.toks) (fun b o e => Heap.get?_push_of_some _ e) (Nat.le_of_eq hD) ⟨Nat.zero_le _, [], 0, .nil, ?_⟩
    rw [← hD]
    exact Heap.get?_push_size _ rfl
  have h3 : s3.heap = s2.heap.push { cls := .type "list", data := .seq ([] : List Value).toArray } := by rw [← hs3]
  have sz : ∀ b ∈ fp, b < s2.heap.objs.size := fun b hb => by
    obtain ⟨o, e, _⟩ := T.obj _ _ st2 b hb
    exact Heap.lt_size e
  have f3 : ∀ b ∈ fp, FpOk X pins (upd H2 D (.lst [])) b ∧ b < s3.heap.objs.size := fun b hb => by
    have hlt := sz b hb
    refine ⟨⟨?_, (f2 b hb).2⟩, by rw [h3, Heap.size_push]; exact Nat.lt_succ_of_lt hlt⟩
    rw [upd_ne (by rw [← hD]; exact Nat.ne_of_lt hlt)]
    exact (f2 b hb).1
  have st3 : tn 0 s3.heap := T.keep _ _ _ st2 fun b _ o e => by rw [h3]; exact Heap.get?_push_of_some _ e
  have I4 := block_start I3 ok hN f3
  show codeAny _ _ (.compStart (.ListComp elt [⟨tg, iter, ifs, 0⟩] scope pos) 0 (.ref it) (.ref D) (compEnvC scope (cellsFrom (s3.heap.objs.size + 1) scope.names (cloFrom X.env.cells scope.names [])) s3.heap.objs.size X.env)) (compPost (model X.prog X.w) X.A X.xe use Qf (.ref D) s3.heap.objs.size) { s3 with heap := pushCells (s3.heap.push { cls := .type "dict", data := .dict #[] }) scope.names }
  have nfp : ∀ b ∈ fp, (upd H2 D (.lst [])) b = none := fun b hb => (f3 b hb).1.1
  have hgk := hg s3 (upd H2 D (.lst [])) s3.heap.objs.size (cellsFrom (s3.heap.objs.size + 1) scope.names (cloFrom X.env.cells scope.names [])) fp
  have htk := ht s3 (upd H2 D (.lst [])) s3.heap.objs.size (cellsFrom (s3.heap.objs.size + 1) scope.names (cloFrom X.env.cells scope.names [])) fp
  have hek := he s3 (upd H2 D (.lst [])) s3.heap.objs.size (cellsFrom (s3.heap.objs.size + 1) scope.names (cloFrom X.env.cells scope.names [])) fp
  generalize hce : compEnvC scope (cellsFrom (s3.heap.objs.size + 1) scope.names (cloFrom X.env.cells scope.names [])) s3.heap.objs.size X.env = ce at I4 hgk htk hek ⊢
  have cL : ce.locals = s3.heap.objs.size := by subst hce; rfl
  have cF : ce.frame = X.env.frame := by subst hce; rfl
  generalize hH3 : upd H2 D (.lst []) = H3 at I3 I4 hgk htk hek w0 nfp f3
  generalize hs4 : ({ s3 with heap := pushCells (s3.heap.push { cls := .type "dict", data := .dict #[] }) scope.names } : Shared) = s4 at I4 ⊢
  have tkb := takP_blk (scope := scope) (use := use) (Qf := Qf) (acc := .ref D) I3 fr cF cL rfl (fun b hb => (f3 b hb).1) tk
  generalize hxe : (notedBy (model X.prog X.w) X.A ce fun e s' => compPost (model X.prog X.w) X.A X.xe use Qf (.ref D) s3.heap.objs.size (.error e) s') = xe at tkb
  have pg := hgk xe tkb
  have pt := htk xe tkb
  have pe := hek xe tkb
  have I4 : L2.Inv (blkE X s3 H3 scope ce fp xe) [] (wipe σ (own.map (·.2))) H3 s4 := I4.toTry xe
  have st4 : tn 0 s4.heap := T.keep _ _ _ st3 fun b _ o e => by rw [← hs4]; exact pushCells_keeps _ _ _ _ (Heap.get?_push_of_some _ e)
  have stat : ∀ {σ' : L2.St} {H' : Hp} {s' : Shared}, Inv (blkE X s3 H3 scope ce fp xe) [] σ' H' s' → (∀ b ∈ fp, H' b = none) → ∀ b ∈ fp, FpOk (blkE X s3 H3 scope ce fp xe) [] H' b := fun {σ' H' s'} I' hn b hb =>
    ⟨hn b hb, (I'.ok.exf b hb).1, I'.ok.exfs b hb, .inl hb, fun x c e => (I'.ok.exf b hb).2 x c e, fun p hp => absurd (show p ∈ ([] : List (Addr × Obj)) ++ [] from hp) (by simp)⟩
  have loop : codeAny (model X.prog X.w) X.A (.compLoop (.ListComp elt [⟨tg, iter, ifs, 0⟩] scope pos) 0 (.ref it) (.ref D) ce) (compPost (model X.prog X.w) X.A X.xe use Qf (.ref D) s3.heap.objs.size) s4 := by
    refine compLoop_any (fun n s' => ∃ i H', Inv (blkE X s3 H3 scope ce fp xe) [] (wipe σ (own.map (·.2))) H' s' ∧ tn i s'.heap ∧ (∀ b ∈ fp, H' b = none) ∧ Wm i n H') ?_ m0 ⟨0, H3, I4, st4, nfp, w0⟩
    rintro n s5 ⟨i, H5, I5, st5, n5, w5⟩
    rcases turn i n H5 w5 with ⟨stop, qq⟩ | ⟨go, Nx, hNx, step⟩
    · have td := T.done (blkE X s3 H3 scope ce fp xe) rfl rfl rfl hc i [] s5 _ H5 (fun _ _ => False) I5 (stat I5 n5) st5 stop
      refine thnF td fun r s6 ⟨hr, I6⟩ => ?_
      subst hr
      -- back in the def's context
      have I7 : Inv X pins σ H5 s6 := I3.call' (ch := fp) I6.os I6.base I6.hok I6.bare fun b hb => ⟨(f3 b hb).1.2.2.2.1, (f3 b hb).1.2.1, (f3 b hb).1.2.2.2.2.1, (f3 b hb).1.2.2.2.2.2⟩
      have nC : H5 s3.heap.objs.size = none := by
        have z : H5 ce.locals = none := I6.free
        rw [cL] at z
        exact z
      obtain ⟨m, hn, _⟩ := I6.loc
      have hn : s6.heap.Ns ce.locals m := hn
      rw [cL] at hn
      exact hRR D s3.heap.objs.size s6 m H5 I7 qq hn (I3.fpOk (Nat.le_refl _) nC)
    · have ti := T.item (blkE X s3 H3 scope ce fp xe) rfl rfl rfl hc i [] s5 _ H5 (fun _ _ => False) I5 (stat I5 n5) st5 go
      refine thnF ti fun r s6 ⟨u, hr, h6⟩ => ?_
      subst hr
      refine thnF h6 fun _ s7 ⟨x, H7, I7, r7, y7, st7, n7⟩ => ?_
      have I7' := I7.pinned (stat I7 n7) (T.obj _ _ st7)
      refine thnE hxe (pg.run _ s7 _ H7 x u _ I7' r7 (step x H7 y7)) fun _ s8 ⟨σ8, H8, I8, hw8, q8⟩ => ?_
      refine thnE hxe (pt.run _ s8 σ8 H8 _ I8 q8) fun b s9 ⟨H9, I9, q9⟩ => ?_
      -- the turn's end
      have fin : ∀ {s' : Shared} {H' : Hp}, Inv (blkE X s3 H3 scope ce fp xe) ([] ++ pinsAt fp s7.heap) σ8 H' s' → Nx H' → ∃ m, m < n ∧ ∃ i H', Inv (blkE X s3 H3 scope ce fp xe) [] (wipe σ (own.map (·.2))) H' s' ∧ tn i s'.heap ∧ (∀ b ∈ fp, H' b = none) ∧ Wm i m H' := fun {s' H'} I' nx => by
        obtain ⟨m', hm, w'⟩ := hNx H' nx
        have pin' : ∀ b ∈ fp, ∀ o, s7.heap.get? b = some o → s'.heap.get? b = some o ∧ H' b = none := fun b hb o e =>
          let z := I'.pin (b, o) (List.mem_append_right _ (List.mem_append_right _ (mem_pinsAt hb e)))
          ⟨z.1, z.2.1⟩
        have hl : (wipe σ (own.map (·.2))).length = σ8.length := by rw [← hw8, wipe_length]
        refine ⟨m', hm, i + 1, H', (I'.unpinned (pins := [])).weak hl (fun j v e => ?_), T.keep _ _ _ st7 fun b hb o e => (pin' b hb o e).1, fun b hb => ?_, w'⟩
        · rw [← hw8] at e
          exact (wipe_some e).1
        · obtain ⟨o, e, _⟩ := T.obj _ _ st7 b hb
          exact (pin' b hb o e).2
      cases b with
      | false =>
        simp only [Bool.false_eq_true, if_false] at q9 ⊢
        exact fin I9 q9
      | true =>
        simp only [if_true] at q9 ⊢
        refine thnE hxe (pe.run _ s9 σ8 H9 _ I9 q9) fun z s10 ⟨yv, H10, I10, r10, acc, hD10, hz10, nx⟩ => ?_
        exact app_ok (X := blkE X s3 H3 scope ce fp xe) I10 hD10 hz10 r10 fun s11 I11 => fin I11 nx
  exact codeAny_compStart_list loop (T.self X.A 0 _ _ _ st4 loop)
/-- as a value -/
theorem pe_lcE {W : XK} {elt tg iter : Expr} {ifs : List Expr} {scope : Scope} {own : List (Str × Nat)} {pos : Pos} {wi : TI} {g : TG} {tt : TT} {te : TE} (tk : TakP X (fun cls d _ H => W cls d H)) (fr : HeadFr X) (hc : X.calm = true) (hN : X.N.Nodup) (hi : PI X tg iter wi) (ok : BlkOk X.N X.env.scope scope own)
    (hg : ∀ (s : Shared) (H : Hp) (C : Addr) (cl : List (Str × Addr)) (fp : List Addr) (xe : Value → Shared → Prop), TakP (blkE X s H scope (compEnvC scope cl C X.env) fp xe) (fun cls d _ H => W cls d H) → PG (blkE X s H scope (compEnvC scope cl C X.env) fp xe) tg g) (ht : ∀ (s : Shared) (H : Hp) (C : Addr) (cl : List (Str × Addr)) (fp : List Addr) (xe : Value → Shared → Prop), TakP (blkE X s H scope (compEnvC scope cl C X.env) fp xe) (fun cls d _ H => W cls d H) → PTs (blkE X s H scope (compEnvC scope cl C X.env) fp xe) ifs tt)
    (he : ∀ (s : Shared) (H : Hp) (C : Addr) (cl : List (Str × Addr)) (fp : List Addr) (xe : Value → Shared → Prop), TakP (blkE X s H scope (compEnvC scope cl C X.env) fp xe) (fun cls d _ H => W cls d H) → PE (blkE X s H scope (compEnvC scope cl C X.env) fp xe) elt te) (hs : ∀ x, foldedSetIterable iter X.env x = pure x := by intro _; rfl) :
    PE X (.ListComp elt [⟨tg, iter, ifs, 0⟩] scope pos) (tLc wi g tt te (own.map (·.2))) := by
  refine ⟨fun pins s σ H Q I h => ?_⟩
  rw [eval_ListComp]
  refine lc_coreE tk fr hc hN I hi ok hg ht he hs h fun D C s' m H' I' q hn f => ⟨m, hn, fun h'' sb => ?_⟩
  obtain ⟨f0, f1, f2, f3, f4, f5⟩ := f
  exact ⟨.ref D, H', I'.turned (t' := s'.toks) (fun b o hb e => (sb.2 b hb).trans e) f0 f1 f3 f4 f5, rfl, q⟩
/-- name = [..] on one line, the name a local -/
theorem ps_setLcE {W : XK} {i : Nat} {y : Str} {py : Pos} {elt tg iter : Expr} {ifs : List Expr} {scope : Scope} {own : List (Str × Nat)} {pos spos : Pos} {wi : TI} {g : TG} {tt : TT} {te : TE} (tk : TakP X (fun cls d _ H => W cls d H)) (fr : HeadFr X) (hc : X.calm = true) (hN : X.N.Nodup) (hy : X.N[i]? = some y) (hyl : X.env.scope.names.lookup y = some .local)
    (hsw : swapsWith (.ListComp elt [⟨tg, iter, ifs, 0⟩] scope pos) (some (.Name y py)) spos.line X.env = pure true) (hi : PI X tg iter wi) (ok : BlkOk X.N X.env.scope scope own)
    (hg : ∀ (s : Shared) (H : Hp) (C : Addr) (cl : List (Str × Addr)) (fp : List Addr) (xe : Value → Shared → Prop), TakP (blkE X s H scope (compEnvC scope cl C X.env) fp xe) (fun cls d _ H => W cls d H) → PG (blkE X s H scope (compEnvC scope cl C X.env) fp xe) tg g) (ht : ∀ (s : Shared) (H : Hp) (C : Addr) (cl : List (Str × Addr)) (fp : List Addr) (xe : Value → Shared → Prop), TakP (blkE X s H scope (compEnvC scope cl C X.env) fp xe) (fun cls d _ H => W cls d H) → PTs (blkE X s H scope (compEnvC scope cl C X.env) fp xe) ifs tt)
    (he : ∀ (s : Shared) (H : Hp) (C : Addr) (cl : List (Str × Addr)) (fp : List Addr) (xe : Value → Shared → Prop), TakP (blkE X s H scope (compEnvC scope cl C X.env) fp xe) (fun cls d _ H => W cls d H) → PE (blkE X s H scope (compEnvC scope cl C X.env) fp xe) elt te) (hs : ∀ x, foldedSetIterable iter X.env x = pure x := by intro _; rfl) :
    PS X (.Assign [.Name y py] (.ListComp elt [⟨tg, iter, ifs, 0⟩] scope pos) spos) (tAsg (tLc wi g tt te (own.map (·.2))) (gName i)) := by
  refine ⟨fun pins s σ H D I h => ?_⟩
  rw [exec_Assign_Name_used _ _ _ _ hsw]
  refine wpAny_bind (wpAny_standAt (wpAny_bind ?_))
  show wpAny _ X.A (do let _ ← comprehension (.ListComp elt [⟨tg, iter, ifs, 0⟩] scope pos) scope X.env (firstIterPos [⟨tg, iter, ifs, 0⟩] pos) (newList []) false (eval iter X.env) (some (assign (.Name y py) X.env))) _ _ s
  have h : tLc wi g tt te (own.map (·.2)) σ H (fun x H1 => gName i x σ H1 D.nx) := h
  refine wpAny_bind (thn (lc_coreE (Qf := fun _ s' => SP X pins D .next s') tk fr hc hN I hi ok hg ht he hs h fun L C s' m H' I' q hn f => ?_) fun _ s' hq => wpAny_pure (wpAny_pure hq))
  show wpAny _ _ (assign (.Name y py) X.env (.ref L)) _ _ _
  refine wpAny_assign_Name (store_ok2 (v := V.ref L) I' hN hy (.inl hyl) rfl (fun s2 I2 ⟨a, sb, ha⟩ => ?_) (.inr hyl))
  obtain ⟨f0, f1, f2, f3, f4, f5⟩ := f
  have haC : C ≠ a := by
    rcases ha with z | z
    · rw [z]; exact f1
    · exact fun e => f4 y a z e.symm
  refine ⟨m, hn.sameBut sb haC, fun h3 sb3 => ?_⟩
  exact ⟨_, H', I2.turned (t' := s2.toks) (fun b o hb e => (sb3.2 b hb).trans e) f0 f1 f3 f4 f5, q⟩
end
end Ev
set_option Elab.async false
set_option linter.all false
set_option maxRecDepth 100000
set_option maxHeartbeats 8000000
/-! EvNc: enumerate over a tuple (after PyProof.EnumMake, HandS.Iter's enumerate over a list). -/
namespace Ev
open PySem PySem.Spec L2
open PySem.Sem (wp)
open PySem.AutoSeq1 (wpAny_loadPart')
theorem drawsT {prog : Program} {w : World} {A : Around} (hh : A.handled = none) (it l : Addr) (hne : l ≠ it) (items : Array Value) :
    Draws prog w A it [it, l] items.size (fun i v => items[i]? = some v) (fun i h => h.IsTupleIter it l i ∧ h.IsTuple l items) where
  live := fun _ _ st => let ⟨o, ho, _⟩ := st.1; ⟨o, ho⟩
  frame := fun _ _ _ st hk => ⟨st.1.at fun o e => hk it (by simp) o e, st.2.at fun o e => hk l (by simp) o e⟩
  item := fun i s Q E hi st hQ => by
    refine RZ.nextOf_tuple_item st.1 st.2 (x := items[i]) (by simp [hi]) fun h' hit' hs' => ?_
    exact hQ _ h' s.toks (by simp [hi]) ⟨hit', st.2.extBut hs'.extBut hne⟩ hs'
  done := fun s Q E st hE => RZ.nextOf_tuple_end hh st.1 st.2 (by simp) hE
theorem meets_enumT (l : Addr) (items : Array Value) (n : Nat) (dct : Option Addr) (sl : Array (Option Value)) :
    Meets (Builtin.«enumerate.__new__» ⟨[.type "enumerate", .ref l], []⟩) (fun _ R s => s.heap.get? l = some { cls := .type "tuple", dict := dct, data := .seq items n, slots := sl } ∧
      R (.ok (.ret (.ref (s.heap.push { cls := .type "tuple_iterator", data := .fields #[.ref l, .int 0 0] }).objs.size)))
        { s with heap := (s.heap.push { cls := .type "tuple_iterator", data := .fields #[.ref l, .int 0 0] }).push { cls := .type "enumerate", data := .fields #[.none, .bool false, .ref s.heap.objs.size, rawInt 0, .none, .none] } }) :=
  .of_wp fun prog w A R s h => by
    obtain ⟨hp, g, d, tk, os⟩ := s; obtain ⟨hl, h⟩ := h
    have hsub := sub_enumerate
    have hL : Heap.IsTuple (Shared.heap ⟨hp, g, d, tk, os⟩) l items := ⟨_, hl, rfl, n, rfl⟩
    wp_walk using wpAny_loadPart' hl
    refine wpAny_stack_any fun st => wpAny_pure ?_
    split
    · rename_i c _ _ _ _ _
      cases (c == Value.type "enumerate")
      · wp_walk using wpAny_loadPart' hl, wpAny_pyIter_tuple hL
        exact ⟨_, rfl, h⟩
      · wp_walk using wpAny_loadPart' hl, wpAny_pyIter_tuple hL
        exact ⟨_, rfl, h⟩
    · wp_walk using wpAny_loadPart' hl, wpAny_pyIter_tuple hL
      exact ⟨_, rfl, h⟩
section
variable {prog : Program} {w : World} {A : Around} {E : Value → Shared → Prop} {s : Shared}
theorem call_enumT {l : Addr} {items : Array Value} {Q : Value → Shared → Prop} (hL : s.heap.IsTuple l items)
    (h : ∀ h', IsEnum h' (s.heap.objs.size + 1) s.heap.objs.size 0 .none → h'.IsTupleIter s.heap.objs.size l 0 → h'.objs.size = s.heap.objs.size + 2 →
      (∀ b o, s.heap.get? b = some o → h'.get? b = some o) → Q (.ref (s.heap.objs.size + 1)) { s with heap := h' }) :
    wpAny (model prog w) A (call (.type "enumerate") [.ref l]) Q E s := by
  obtain ⟨⟨c, dct, dt, sl⟩, hl, hc, n, hd⟩ := hL
  replace hc : c = .type "tuple" := hc
  replace hd : dt = .seq items n := hd
  subst hc hd
  refine callType_new PySem.F.called_enumerate (by decide) (PySem.F.typeCall_enumerate_1 _) (PySem.F.newCall_enumerate_1 _) (fun obj => PySem.F.args_object_init_2 obj _) PySem.F.entry_enumerate_new
    (meets_enumT l items n dct sl) ⟨hl, ?_⟩
  have hz : (s.heap.push { cls := .type "tuple_iterator", data := .fields #[.ref l, .int 0 0] }).objs.size = s.heap.objs.size + 1 := Heap.size_push ..
  show _ ∧ _
  rw [hz]
  have he : IsEnum ((s.heap.push { cls := .type "tuple_iterator", data := .fields #[.ref l, .int 0 0] }).push
      { cls := .type "enumerate", data := .fields #[.none, .bool false, .ref s.heap.objs.size, rawInt 0, .none, .none] }) (s.heap.objs.size + 1) s.heap.objs.size 0 .none := by
    have := Heap.get?_push_size (s.heap.push { cls := .type "tuple_iterator", data := .fields #[.ref l, .int 0 0] })
      (o := { cls := .type "enumerate", data := .fields #[.none, .bool false, .ref s.heap.objs.size, rawInt 0, .none, .none] }) rfl
    rw [hz] at this; exact this
  refine ⟨⟨_, he, rfl⟩, h _ he ⟨_, Heap.get?_push_of_some _ (Heap.get?_push_size _ rfl), rfl, rfl⟩ (by rw [Heap.size_push, hz]) fun b o x => Heap.get?_push_of_some _ (Heap.get?_push_of_some _ x)⟩
theorem enumT_end {e it l : Addr} {i : Nat} {items : Array Value} {old : Value} {Q : Option Value → Shared → Prop} (hh : A.handled = none) (he : IsEnum s.heap e it i old) (hit : s.heap.IsTupleIter it l i) (hl : s.heap.IsTuple l items) (hx : items[i]? = none)
    (hQ : ∀ h', Heap.ExtBut it s.heap h' → Q none { s with heap := h' }) : wpAny (model prog w) A (pyNext (.ref e)) Q E s := by
  have hT : s.TypeIs (.ref e) "enumerate" := ⟨_, he, rfl⟩
  unfold pyNext
  refine wpAny_bind (wpAny_attempt (wpAny_callSpecial?_slot (name := Str.ofString "__next__") hT PySem.F.slot_enumerate_next
    (wpAny_call_entry PySem.F.slot_enumerate_next hT PySem.F.entry_enumerate_next ?_ (PySem.F.args_enumerate_next_1 _))))
  show wpAny _ _ (field (.ref e) 2 >>= _) _ _ _
  refine wpAny_bind (wpAny_field he rfl (x := .ref it) rfl ?_)
  refine wpAny_bind (RZ.nextOf_tuple_end (A := A.in1) hh hit hl hx fun h' x he' hx' => ?_)
  obtain ⟨o, ho, hc⟩ := hx'
  refine wpAny_bind (wpAny_isInstance (T := "StopIteration") (b := true) ⟨o, ho, hc⟩ isSubtype_stop ?_)
  exact wpAny_pure (hQ _ he')
end
/-- the tuple at a, each item in a new pair -/
def IteT (K : PySem.W.Frag) (a : Addr) : It :=
  ⟨fun i H => ∃ (xs : List V) (x : V), SqT K H a xs ∧ xs[i]? = some x, fun i H v H' => ∃ T x, v = .ref T ∧ H T = none ∧ H' = upd H T (.tup [.int (i : Nat), x]) ∧ ∀ xs, SqT K H a xs → xs[i]? = some x, fun i H => ∃ xs : List V, SqT K H a xs ∧ xs.length ≤ i⟩
theorem turn_enumT {P : Program} {w : World} {K : PySem.W.Frag} {elts : List Expr} {kk : Nat} {tpos : Pos} (a e it : Addr) :
    Turn P w K (.Tuple elts kk tpos) (IteT K a) [e, it] e (fun i h => (∃ old, IsEnum h e it ((i : Nat) : Int) old) ∧ h.IsTupleIter it a i ∧ e ≠ it ∧ a ≠ it ∧ e ≠ a) where
  mem := by simp
  obj := fun i h st b hb => by
    obtain ⟨⟨old, he⟩, ⟨o, ho, hc, hd⟩, _⟩ := st
    have e' : b = e ∨ b = it := by simpa using hb
    rcases e' with z | z
    · rw [z]; exact ⟨_, he, fun v q => nomatch q⟩
    · rw [z]; exact ⟨o, ho, fun v q => by rw [hd] at q; cases q⟩
  keep := fun i h h' st k => let ⟨⟨old, he⟩, hi, hne⟩ := st; ⟨⟨old, k e (by simp) _ he⟩, hi.at fun o q => k it (by simp) o q, hne⟩
  item := by
    intro X hP hw hK hc i pins s σ H E I hf st hg
    subst hP hw hK
    obtain ⟨⟨old, he⟩, hit, hne, hai, hea⟩ := st
    obtain ⟨xs, x, hq, hx⟩ := hg
    obtain ⟨its, rv, p, hz⟩ := I.tuple hq
    obtain ⟨u, hu, ru⟩ := rv.get hx
    have hel : e < s.heap.objs.size := Heap.lt_size he
    have hil : it < s.heap.objs.size := by obtain ⟨_, q, _⟩ := hit; exact Heap.lt_size q
    have hua : its.toArray[i]? = some u := by simpa using hu
    have hlt : i < its.toArray.size := (Array.getElem?_eq_some_iff.mp hua).1
    refine wpAny_pyNext_enum_itemD (drawsT (A := X.A.in1) (I.ok.hd hc) it a hai its.toArray) he ⟨hit, p⟩ hlt hne (by simp [hne, hea]) fun u' h' tk hu' ho ⟨hit', _⟩ hT hsz hk => ?_
    have eu : u' = u := by rw [hua] at hu'; exact (Option.some.inj hu').symm
    subst eu
    refine ⟨_, rfl, wpAny_letOwnedTupleGo_enum (s := { s with heap := h', toks := tk + 1 }) ho fun h'' he' sb => ?_⟩
    have hT2 : h''.get? s.heap.objs.size = some { cls := .type "tuple", data := .seq #[.int i tk, u'] } := (sb.2 _ (Nat.ne_of_gt hel)).trans hT
    have new : ObjOk X.prog X.w (upd H s.heap.objs.size (.tup [.int (i : Nat), x])) h'' s.heap.objs.size (.tup [.int (i : Nat), x]) :=
      ⟨by show 2 ≤ sizeLine; decide, [.int i tk, u'], .cons ⟨_, rfl⟩ (.cons ru .nil), ⟨_, hT2, rfl, _, rfl⟩⟩
    have I1 : Inv X pins σ (upd H s.heap.objs.size (.tup [.int (i : Nat), x])) { s with heap := h'', toks := tk + 1 } :=
      I.turnedNew (ch := [e, it]) (fun b ob hb q => (sb.2 b (fun z => hb (by simp [z]))).trans (hk b ob (fun z => hb (by simp [z])) (fun z => hb (by simp [z])) q)) hf (Nat.le_refl _) new
    refine ⟨.ref s.heap.objs.size, _, I1, rfl, ⟨_, x, rfl, I.hok.fresh (Nat.le_refl _), rfl, fun ys hy => by rw [I.tuple_inj hy hq]; exact hx⟩, ⟨⟨u', ?_⟩, hit'.at fun o q => (sb.2 it (Ne.symm hne)).trans q, hne, hai, hea⟩, fun b hb => ?_⟩
    · have e1 : ((i + 1 : Nat) : Int) = (i : Int) + 1 := by omega
      rw [e1]; exact he'
    · have hb' : b < s.heap.objs.size := by
        have e' : b = e ∨ b = it := by simpa using hb
        rcases e' with z | z
        · rw [z]; exact hel
        · rw [z]; exact hil
      rw [upd_ne (Nat.ne_of_lt hb')]
      exact (hf b hb).1
  done := by
    intro X hP hw hK hc i pins s σ H E I hf st hg
    subst hP hw hK
    obtain ⟨⟨old, he⟩, hit, hne, hai, hea⟩ := st
    obtain ⟨xs, hq, hx⟩ := hg
    obtain ⟨its, rv, p, hz⟩ := I.tuple hq
    obtain ⟨f0, f1, f2, f3, f4, f5⟩ := hf it (by simp)
    have hl := rv.length
    have hn : its.toArray[i]? = none := by simp; omega
    exact enumT_end (I.ok.hd hc) he hit p hn fun h' eb => ⟨rfl, I.turned (t' := s.toks) (fun b o hb q => eb b o hb q) f0 f1 f3 f4 f5⟩
  self := fun A i s Q E st h => let ⟨⟨_, he⟩, _⟩ := st; wpAny_pyIter_enum he h
def iEnumA (K : PySem.W.Frag) (ta : TA) : TI := fun σ H R => ta σ H fun vs H1 => ∃ a, vs = [.ref a] ∧ (((∃ xs, SqL K H1 a xs) ∧ R (Ite K a) H1) ∨ ((∃ xs, SqT K H1 a xs) ∧ R (IteT K a) H1))
section
open PyProof.Rows
theorem pi_enumA {X : Cx} {e : Expr} {ta : TA} {p pos tpos : Pos} {elts : List Expr} {kk : Nat} (hg : Gl X "enumerate") (hm : X.mg "enumerate" = none) (ha : PA X [e] ta) (hs : starEach [e] X.env = [(false, eval e X.env)]) :
    PI X (.Tuple elts kk tpos) (.Call (.Name "enumerate" p) [e] [] pos) (iEnumA X.K ta) := by
  refine ⟨fun pins s σ H R I h => ?_⟩
  refine Call_ (ld_blt I hg hm boot_enumerate (PyProof.Rows.callWith_type1 (thn (ha.run pos pins s σ H _ I h) fun us s1 ⟨vs, H1, I1, r1, q1⟩ => ?_) hs rfl))
  obtain ⟨a, ex, q⟩ := q1
  subst ex
  cases r1 with
  | cons r rr =>
    cases rr
    cases r
    have fresh : ∀ b, b ∈ [s1.heap.objs.size + 1, s1.heap.objs.size] → FpOk X pins H1 b := fun b hb => by
      have e' : b = s1.heap.objs.size + 1 ∨ b = s1.heap.objs.size := by simpa using hb
      have hle : s1.heap.objs.size ≤ b := by
        rcases e' with z | z
        · rw [z]; exact Nat.le_add_right _ _
        · rw [z]; exact Nat.le_refl _
      exact I1.fpOk hle (I1.hok.fresh hle)
    rcases q with ⟨⟨xs, hq⟩, q⟩ | ⟨⟨xs, hq⟩, q⟩
    · obtain ⟨its, rv, p', hz⟩ := I1.list hq
      refine call_enumerate_list p'.isList fun h' he hit hsz hk => wpAny_pyIter_enum he ?_
      have I2 : Inv X pins σ H1 { s1 with heap := h' } := I1.kept (t' := s1.toks) hk
      exact ⟨s1.heap.objs.size + 1, [s1.heap.objs.size + 1, s1.heap.objs.size], _, _, H1, rfl, I2, turn_enum a (s1.heap.objs.size + 1) s1.heap.objs.size, ⟨⟨.none, he⟩, hit, Nat.succ_ne_self _⟩, fresh, q⟩
    · obtain ⟨its, rv, p', hz⟩ := I1.tuple hq
      obtain ⟨o1, ho1, _⟩ := id p'
      have la : a < s1.heap.objs.size := Heap.lt_size ho1
      refine call_enumT (show s1.heap.IsTuple a its.toArray from p') fun h' he hit hsz hk => wpAny_pyIter_enum he ?_
      have I2 : Inv X pins σ H1 { s1 with heap := h' } := I1.kept (t' := s1.toks) hk
      exact ⟨s1.heap.objs.size + 1, [s1.heap.objs.size + 1, s1.heap.objs.size], _, _, H1, rfl, I2, turn_enumT a (s1.heap.objs.size + 1) s1.heap.objs.size, ⟨⟨.none, he⟩, hit, Nat.succ_ne_self _, Nat.ne_of_lt la, Nat.ne_of_gt (Nat.lt_succ_of_lt la)⟩, fresh, q⟩
end
end Ev
set_option Elab.async false
set_option linter.all false
set_option maxRecDepth 100000
set_option maxHeartbeats 8000000
/-! EvNd: zip of lists and tuples, mixed (after HandS.Zip0, HandS.Zip). -/
namespace Ev
open PySem PySem.Spec L2
open PySem.Sem (wp)
inductive SK where
  | l | t
def SK.nm : SK → String
  | .l => "list_iterator"
  | .t => "tuple_iterator"
def isIt (q : SK) (h : Heap) (it l : Addr) (i : Nat) : Prop := match q with
  | .l => h.IsListIter it l i
  | .t => h.IsTupleIter it l i
def isSq (q : SK) (h : Heap) (l : Addr) (xs : Array Value) : Prop := match q with
  | .l => h.IsList l xs
  | .t => h.IsTuple l xs
section
variable {q q1 q2 : SK} {h h' : Heap} {it l : Addr} {i : Nat} {xs : Array Value}
theorem isIt.at (x : isIt q h it l i) (k : ∀ o, h.get? it = some o → h'.get? it = some o) : isIt q h' it l i := by
  cases q
  · exact Heap.IsListIter.at x k
  · exact Heap.IsTupleIter.at x k
theorem isSq.at (x : isSq q h l xs) (k : ∀ o, h.get? l = some o → h'.get? l = some o) : isSq q h' l xs := by
  cases q
  · exact Heap.IsList.at x k
  · exact Heap.IsTuple.at x k
theorem isIt.extBut {a : Addr} (x : isIt q h it l i) (k : Heap.ExtBut a h h') (n : it ≠ a) : isIt q h' it l i := x.at fun o e => k it o n e
theorem isSq.extBut {a : Addr} (x : isSq q h l xs) (k : Heap.ExtBut a h h') (n : l ≠ a) : isSq q h' l xs := x.at fun o e => k l o n e
theorem isIt.mk (e : h.get? it = some { cls := .type q.nm, data := .fields #[.ref l, .int 0 0] }) : isIt q h it l 0 := by
  cases q
  · exact ⟨_, e, rfl, rfl⟩
  · exact ⟨_, e, rfl, rfl⟩
theorem isIt.ex (x : isIt q h it l i) : ∃ o, h.get? it = some o ∧ ∀ v, o.data ≠ .cell v := by
  cases q
  · obtain ⟨o, e, _, d⟩ := x; exact ⟨o, e, fun v z => by rw [d] at z; cases z⟩
  · obtain ⟨o, e, _, d⟩ := x; exact ⟨o, e, fun v z => by rw [d] at z; cases z⟩
theorem isIt.lt (x : isIt q h it l i) : it < h.objs.size := let ⟨_, e, _⟩ := x.ex; Heap.lt_size e
theorem isSq.lt (x : isSq q h l xs) : l < h.objs.size := by
  cases q
  · obtain ⟨o, e, _⟩ := x; exact Heap.lt_size e
  · obtain ⟨o, e, _⟩ := x; exact Heap.lt_size e
end
section
variable {prog : Program} {w : World} {A : Around} {E : Value → Shared → Prop} {s : Shared} {q q1 q2 : SK}
theorem nextK_item {it l : Addr} {i : Nat} {items : Array Value} {x : Value} {Q : Value → Shared → Prop} (hit : isIt q s.heap it l i) (hl : isSq q s.heap l items) (hx : items[i]? = some x)
    (hQ : ∀ h', isIt q h' it l (i + 1) → Heap.SameBut it s.heap h' → Q x { s with heap := h' }) : wpAny (model prog w) A (Builtin.SmallTypes.nextOf (.ref it)) Q E s := by
  cases q
  · exact wpAny_nextOf_list_item hit hl hx hQ
  · exact RZ.nextOf_tuple_item hit hl hx hQ
theorem nextK_end {it l : Addr} {i : Nat} {items : Array Value} {Q : Value → Shared → Prop} (hh : A.handled = none) (hit : isIt q s.heap it l i) (hl : isSq q s.heap l items) (hx : items[i]? = none)
    (hE : ∀ h' e, Heap.ExtBut it s.heap h' → (∃ o, h'.get? e = some o ∧ o.cls = .type "StopIteration") → E (.ref e) { s with heap := h' }) : wpAny (model prog w) A (Builtin.SmallTypes.nextOf (.ref it)) Q E s := by
  cases q
  · exact wpAny_nextOf_list_end hh hit hl hx hE
  · exact RZ.nextOf_tuple_end hh hit hl hx hE
theorem iterK {l : Addr} {xs : Array Value} {Q : Value → Shared → Prop} (hl : isSq q s.heap l xs) (hQ : Q (.ref s.heap.objs.size) { s with heap := s.heap.push { cls := .type q.nm, data := .fields #[.ref l, .int 0 0] } }) : wpAny (model prog w) A (pyIter (.ref l)) Q E s := by
  cases q
  · exact wpAny_pyIter_list hl hQ
  · exact wpAny_pyIter_tuple hl hQ
theorem zipK_next_item {z TI TO i1 i2 l1 l2 : Addr} {k1 k2 : Nat} {xs ys : Array Value} {x y a b : Value} {Q : Value → Shared → Prop} (D : ZipApart z TI TO i1 i2 l1 l2)
    (hz : IsZip s.heap z TI TO .none) (hTI : IsPair s.heap TI (.ref i1) (.ref i2)) (hTO : IsPair s.heap TO a b)
    (h1 : isIt q1 s.heap i1 l1 k1) (h2 : isIt q2 s.heap i2 l2 k2) (hl1 : isSq q1 s.heap l1 xs) (hl2 : isSq q2 s.heap l2 ys) (hx : xs[k1]? = some x) (hy : ys[k2]? = some y)
    (hQ : ∀ h', IsZip h' z TI TO (rawInt s.heap.objs.size) → IsPair h' TO x y → isIt q1 h' i1 l1 (k1 + 1) → isIt q2 h' i2 l2 (k2 + 1) → IsPair h' s.heap.objs.size x y → h'.objs.size = s.heap.objs.size + 1 →
      (∀ c o, c ≠ z → c ≠ TO → c ≠ i1 → c ≠ i2 → s.heap.get? c = some o → h'.get? c = some o) → Q (.ref s.heap.objs.size) { s with heap := h' }) :
    wpAny (model prog w) A (Builtin.«zip.__next__» ⟨[.ref z], []⟩) (fun fin s' => ∃ v, fin = .done (.ret v) ∧ Q v s') E s := by
  show wpAny _ _ (field (.ref z) 2 >>= _) _ _ _
  refine wpAny_bind (wpAny_field hz rfl (x := .bool false) rfl ?_)
  show wpAny _ _ (field (.ref z) 3 >>= _) _ _ _
  refine wpAny_bind (wpAny_field hz rfl (x := .ref TI) rfl ?_)
  refine wpAny_bind (wpAny_seqItems hTI rfl ?_)
  show wpAny _ _ (Builtin.SmallTypes.ownedTupleIsFree (.ref z) >>= _) _ _ _
  refine wpAny_bind ?_
  unfold Builtin.SmallTypes.ownedTupleIsFree
  refine wpAny_bind (wpAny_field hz rfl (x := .none) rfl (wpAny_pure ?_))
  simp only [if_true]
  refine wpAny_bind (wpAny_rule ?_)
  refine wpAny_bind (wpAny_field hz rfl (x := .ref TO) rfl ?_)
  refine wpAny_bind (wpAny_setField_rec hz (by simp) fun h₁ hz₁ hs₁ => ?_)
  replace hz₁ : IsZip h₁ z TI TO .ellipsis := hz₁
  refine wpAny_bind ?_
  simp only [List.zipIdx_cons, List.zipIdx_nil, List.forIn_cons, List.forIn_nil]
  refine wpAny_bind (wpAny_bind (wpAny_onRaise ?_))
  show wpAny _ _ (Builtin.SmallTypes.nextOf (.ref i1) >>= _) _ _ _
  refine wpAny_bind (nextK_item (h1.extBut hs₁.extBut D.i1z) (hl1.extBut hs₁.extBut D.l1z) hx fun h₂ h1₂ hs₂ => wpAny_pure ?_)
  have hTO₂ : IsPair h₂ TO a b := hs₂.extBut _ _ D.TOi1 (hs₁.extBut _ _ D.TOz hTO)
  refine wpAny_bind (wpAny_seqItems hTO₂ rfl ?_)
  refine wpAny_bind (wpAny_updateSeq_pair hTO₂ fun h₃ hTO₃ hs₃ => ?_)
  replace hTO₃ : IsPair h₃ TO x b := hTO₃
  refine wpAny_bind (wpAny_letGo (wpAny_pure ?_))
  refine wpAny_bind (wpAny_bind (wpAny_onRaise ?_))
  show wpAny _ _ (Builtin.SmallTypes.nextOf (.ref i2) >>= _) _ _ _
  refine wpAny_bind (nextK_item (((h2.extBut hs₁.extBut D.i2z).extBut hs₂.extBut D.i12.symm).extBut hs₃.extBut D.TOi2.symm)
    (((hl2.extBut hs₁.extBut D.l2z).extBut hs₂.extBut D.l2i1).extBut hs₃.extBut D.l2TO) hy fun h₄ h2₄ hs₄ => wpAny_pure ?_)
  have hTO₄ : IsPair h₄ TO x b := hs₄.extBut _ _ D.TOi2 hTO₃
  refine wpAny_bind (wpAny_seqItems hTO₄ rfl ?_)
  refine wpAny_bind (wpAny_updateSeq_pair hTO₄ fun h₅ hTO₅ hs₅ => ?_)
  replace hTO₅ : IsPair h₅ TO x y := hTO₅
  refine wpAny_bind (wpAny_letGo (wpAny_pure (wpAny_pure ?_)))
  refine wpAny_bind (wpAny_seqItems hTO₅ rfl ?_)
  refine wpAny_bind (wpAny_newTuple ?_)
  have hsz : h₅.objs.size = s.heap.objs.size := by rw [hs₅.1, hs₄.1, hs₃.1, hs₂.1, hs₁.1]
  have hz₅ : IsZip h₅ z TI TO .ellipsis := hs₅.extBut _ _ D.TOz.symm (hs₄.extBut _ _ D.i2z.symm (hs₃.extBut _ _ D.TOz.symm (hs₂.extBut _ _ D.i1z.symm hz₁)))
  have hk₅ : ∀ c o, c ≠ z → c ≠ TO → c ≠ i1 → c ≠ i2 → s.heap.get? c = some o → h₅.get? c = some o := fun c o c1 c2 c3 c4 e =>
    hs₅.extBut _ _ c2 (hs₄.extBut _ _ c4 (hs₃.extBut _ _ c2 (hs₂.extBut _ _ c3 (hs₁.extBut _ _ c1 e))))
  have h1₅ : isIt q1 h₅ i1 l1 (k1 + 1) := ((h1₂.extBut hs₃.extBut D.TOi1.symm).extBut hs₄.extBut D.i12).extBut hs₅.extBut D.TOi1.symm
  have h2₅ : isIt q2 h₅ i2 l2 (k2 + 1) := h2₄.extBut hs₅.extBut D.TOi2.symm
  have hzlt : z < h₅.objs.size := Heap.lt_size hz₅
  have hTOlt : TO < h₅.objs.size := Heap.lt_size hTO₅
  have hi1lt : i1 < h₅.objs.size := by exact h1₅.lt
  have hi2lt : i2 < h₅.objs.size := by exact h2₅.lt
  show wpAny _ _ (Builtin.SmallTypes.ownedTupleHandOut (.ref z) (.ref h₅.objs.size) >>= _) _ _ _
  refine wpAny_bind ?_
  unfold Builtin.SmallTypes.ownedTupleHandOut
  have hz₆ : IsZip (h₅.push { cls := .type "tuple", data := .seq #[x, y] }) z TI TO .ellipsis := Heap.get?_push_of_some _ hz₅
  refine wpAny_bind (wpAny_setField_rec hz₆ (by simp) fun h₇ hz₇ hs₇ => ?_)
  replace hz₇ : IsZip h₇ z TI TO (rawInt h₅.objs.size) := hz₇
  refine wpAny_setField_rec hz₇ (by simp) fun h₈ hz₈ hs₈ => ?_
  replace hz₈ : IsZip h₈ z TI TO (rawInt h₅.objs.size) := hz₈
  have up : ∀ c o, c ≠ z → h₅.get? c = some o → h₈.get? c = some o := fun c o c1 e => hs₈.extBut _ _ c1 (hs₇.extBut _ _ c1 (Heap.get?_push_of_some _ e))
  have hT₈ : IsPair h₈ h₅.objs.size x y := hs₈.extBut _ _ (Nat.ne_of_gt hzlt) (hs₇.extBut _ _ (Nat.ne_of_gt hzlt) (Heap.get?_push_size _ rfl))
  have hz8 : h₈.objs.size = h₅.objs.size + 1 := by rw [hs₈.1, hs₇.1, Heap.size_push]
  rw [hsz] at hz₈ hT₈ hz8
  refine wpAny_pure ⟨_, rfl, ?_⟩
  show Q (.ref h₅.objs.size) _
  rw [hsz]
  exact hQ h₈ hz₈ (up _ _ D.TOz hTO₅) (h1₅.at fun o e => up _ o D.i1z e) (h2₅.at fun o e => up _ o D.i2z e) hT₈ hz8 fun c o c1 c2 c3 c4 e => up c o c1 (hk₅ c o c1 c2 c3 c4 e)
theorem zipK_next_end {z TI TO i1 i2 l1 l2 : Addr} {k1 k2 : Nat} {xs ys : Array Value} {a b : Value} {Q : Fin → Shared → Prop} (hh : A.handled = none) (D : ZipApart z TI TO i1 i2 l1 l2)
    (hz : IsZip s.heap z TI TO .none) (hTI : IsPair s.heap TI (.ref i1) (.ref i2)) (hTO : IsPair s.heap TO a b)
    (h1 : isIt q1 s.heap i1 l1 k1) (h2 : isIt q2 s.heap i2 l2 k2) (hl1 : isSq q1 s.heap l1 xs) (hl2 : isSq q2 s.heap l2 ys) (hend : xs[k1]? = none ∨ ys[k2]? = none)
    (hE : ∀ h' e, (∀ c o, c ≠ z → c ≠ TO → c ≠ i1 → c ≠ i2 → s.heap.get? c = some o → h'.get? c = some o) → (∃ o, h'.get? e = some o ∧ o.cls = .type "StopIteration") → E (.ref e) { s with heap := h' }) :
    wpAny (model prog w) A (Builtin.«zip.__next__» ⟨[.ref z], []⟩) Q E s := by
  show wpAny _ _ (field (.ref z) 2 >>= _) _ _ _
  refine wpAny_bind (wpAny_field hz rfl (x := .bool false) rfl ?_)
  show wpAny _ _ (field (.ref z) 3 >>= _) _ _ _
  refine wpAny_bind (wpAny_field hz rfl (x := .ref TI) rfl ?_)
  refine wpAny_bind (wpAny_seqItems hTI rfl ?_)
  show wpAny _ _ (Builtin.SmallTypes.ownedTupleIsFree (.ref z) >>= _) _ _ _
  refine wpAny_bind ?_
  unfold Builtin.SmallTypes.ownedTupleIsFree
  refine wpAny_bind (wpAny_field hz rfl (x := .none) rfl (wpAny_pure ?_))
  simp only [if_true]
  refine wpAny_bind (wpAny_rule ?_)
  refine wpAny_bind (wpAny_field hz rfl (x := .ref TO) rfl ?_)
  refine wpAny_bind (wpAny_setField_rec hz (by simp) fun h₁ hz₁ hs₁ => ?_)
  replace hz₁ : IsZip h₁ z TI TO .ellipsis := hz₁
  refine wpAny_bind ?_
  simp only [List.zipIdx_cons, List.zipIdx_nil, List.forIn_cons, List.forIn_nil]
  refine wpAny_bind (wpAny_bind (wpAny_onRaise ?_))
  show wpAny _ _ (Builtin.SmallTypes.nextOf (.ref i1) >>= _) _ _ _
  cases hx : xs[k1]? with
  | none =>
    refine wpAny_bind (nextK_end hh (h1.extBut hs₁.extBut D.i1z) (hl1.extBut hs₁.extBut D.l1z) hx fun h₂ e hs₂ he => ?_)
    obtain ⟨oe, hoe, hce⟩ := he
    have hz₂ : IsZip h₂ z TI TO .ellipsis := hs₂ _ _ D.i1z.symm hz₁
    have hez : e ≠ z := fun x => by subst x; rw [hz₂] at hoe; cases hoe; simp at hce
    refine wpAny_setField_rec hz₂ (by simp) fun h₃ _ hs₃ => hE h₃ e (fun c o c1 _ c3 _ x => hs₃.extBut _ _ c1 (hs₂ _ _ c3 (hs₁.extBut _ _ c1 x))) ⟨oe, hs₃.extBut _ _ hez hoe, hce⟩
  | some x =>
    have hy : ys[k2]? = none := by rcases hend with h | h; rw [hx] at h; cases h; exact h
    refine wpAny_bind (nextK_item (h1.extBut hs₁.extBut D.i1z) (hl1.extBut hs₁.extBut D.l1z) hx fun h₂ h1₂ hs₂ => wpAny_pure ?_)
    have hTO₂ : IsPair h₂ TO a b := hs₂.extBut _ _ D.TOi1 (hs₁.extBut _ _ D.TOz hTO)
    refine wpAny_bind (wpAny_seqItems hTO₂ rfl ?_)
    refine wpAny_bind (wpAny_updateSeq_pair hTO₂ fun h₃ hTO₃ hs₃ => ?_)
    refine wpAny_bind (wpAny_letGo (wpAny_pure ?_))
    refine wpAny_bind (wpAny_bind (wpAny_onRaise ?_))
    show wpAny _ _ (Builtin.SmallTypes.nextOf (.ref i2) >>= _) _ _ _
    refine wpAny_bind (nextK_end hh (((h2.extBut hs₁.extBut D.i2z).extBut hs₂.extBut D.i12.symm).extBut hs₃.extBut D.TOi2.symm)
      (((hl2.extBut hs₁.extBut D.l2z).extBut hs₂.extBut D.l2i1).extBut hs₃.extBut D.l2TO) hy fun h₄ e hs₄ he => ?_)
    obtain ⟨oe, hoe, hce⟩ := he
    have hz₄ : IsZip h₄ z TI TO .ellipsis := hs₄ _ _ D.i2z.symm (hs₃.extBut _ _ D.TOz.symm (hs₂.extBut _ _ D.i1z.symm hz₁))
    have hez : e ≠ z := fun x => by subst x; rw [hz₄] at hoe; cases hoe; simp at hce
    refine wpAny_setField_rec hz₄ (by simp) fun h₅ _ hs₅ => hE h₅ e (fun c o c1 c2 c3 c4 x => hs₅.extBut _ _ c1 (hs₄ _ _ c4 (hs₃.extBut _ _ c2 (hs₂.extBut _ _ c3 (hs₁.extBut _ _ c1 x))))) ⟨oe, hs₅.extBut _ _ hez hoe, hce⟩
theorem pyNext_zipK_item {z TI TO i1 i2 l1 l2 : Addr} {k1 k2 : Nat} {xs ys : Array Value} {x y a b : Value} {Q : Option Value → Shared → Prop} (D : ZipApart z TI TO i1 i2 l1 l2)
    (hz : IsZip s.heap z TI TO .none) (hTI : IsPair s.heap TI (.ref i1) (.ref i2)) (hTO : IsPair s.heap TO a b)
    (h1 : isIt q1 s.heap i1 l1 k1) (h2 : isIt q2 s.heap i2 l2 k2) (hl1 : isSq q1 s.heap l1 xs) (hl2 : isSq q2 s.heap l2 ys) (hx : xs[k1]? = some x) (hy : ys[k2]? = some y)
    (hQ : ∀ h', IsZip h' z TI TO (rawInt s.heap.objs.size) → IsPair h' TO x y → isIt q1 h' i1 l1 (k1 + 1) → isIt q2 h' i2 l2 (k2 + 1) → IsPair h' s.heap.objs.size x y → h'.objs.size = s.heap.objs.size + 1 →
      (∀ c o, c ≠ z → c ≠ TO → c ≠ i1 → c ≠ i2 → s.heap.get? c = some o → h'.get? c = some o) → Q (some (.ref s.heap.objs.size)) { s with heap := h' }) :
    wpAny (model prog w) A (pyNext (.ref z)) Q E s := by
  have hT : s.TypeIs (.ref z) "zip" := ⟨_, hz, rfl⟩
  unfold pyNext
  exact wpAny_bind (wpAny_attempt (wpAny_callSpecial?_slot (name := Str.ofString "__next__") hT PySem.F.slot_zip_next
    (wpAny_call_entry PySem.F.slot_zip_next hT PySem.F.entry_zip_next
      (zipK_next_item D hz hTI hTO h1 h2 hl1 hl2 hx hy fun h' a1 a2 a3 a4 a5 a6 a7 => wpAny_pure (hQ h' a1 a2 a3 a4 a5 a6 a7)) (PySem.F.args_zip_next_1 _))))
theorem pyNext_zipK_end {z TI TO i1 i2 l1 l2 : Addr} {k1 k2 : Nat} {xs ys : Array Value} {a b : Value} {Q : Option Value → Shared → Prop} (hh : A.handled = none) (D : ZipApart z TI TO i1 i2 l1 l2)
    (hz : IsZip s.heap z TI TO .none) (hTI : IsPair s.heap TI (.ref i1) (.ref i2)) (hTO : IsPair s.heap TO a b)
    (h1 : isIt q1 s.heap i1 l1 k1) (h2 : isIt q2 s.heap i2 l2 k2) (hl1 : isSq q1 s.heap l1 xs) (hl2 : isSq q2 s.heap l2 ys) (hend : xs[k1]? = none ∨ ys[k2]? = none)
    (hQ : ∀ h', (∀ c o, c ≠ z → c ≠ TO → c ≠ i1 → c ≠ i2 → s.heap.get? c = some o → h'.get? c = some o) → Q none { s with heap := h' }) : wpAny (model prog w) A (pyNext (.ref z)) Q E s := by
  have hT : s.TypeIs (.ref z) "zip" := ⟨_, hz, rfl⟩
  unfold pyNext
  refine wpAny_bind (wpAny_attempt (wpAny_callSpecial?_slot (name := Str.ofString "__next__") hT PySem.F.slot_zip_next
    (wpAny_call_entry PySem.F.slot_zip_next hT PySem.F.entry_zip_next (zipK_next_end hh D hz hTI hTO h1 h2 hl1 hl2 hend fun h' e hk he => ?_) (PySem.F.args_zip_next_1 _))))
  obtain ⟨o, ho, hc⟩ := he
  refine wpAny_bind (wpAny_isInstance (T := "StopIteration") (b := true) ⟨o, ho, hc⟩ isSubtype_stop ?_)
  exact wpAny_pure (hQ _ hk)
end
abbrev zipKH1 (q1 q2 : SK) (h : Heap) (l1 : Addr) : Heap := h.push { cls := .type q1.nm, data := .fields #[.ref l1, .int 0 0] }
abbrev zipKH2 (q1 q2 : SK) (h : Heap) (l1 l2 : Addr) : Heap := (zipKH1 q1 q2 h l1).push { cls := .type q2.nm, data := .fields #[.ref l2, .int 0 0] }
abbrev zipKH3 (q1 q2 : SK) (h : Heap) (l1 l2 : Addr) : Heap := (zipKH2 q1 q2 h l1 l2).push { cls := .type "tuple", data := .seq #[.ref h.objs.size, .ref (zipKH1 q1 q2 h l1).objs.size] }
abbrev zipKH4 (q1 q2 : SK) (h : Heap) (l1 l2 : Addr) : Heap := (zipKH3 q1 q2 h l1 l2).push { cls := .type "tuple", data := .seq #[.none, .none] }
abbrev zipKH5 (q1 q2 : SK) (h : Heap) (l1 l2 : Addr) : Heap := (zipKH4 q1 q2 h l1 l2).push { cls := .type "zip", data := .fields #[.none, .bool false, .bool false, .ref (zipKH2 q1 q2 h l1 l2).objs.size, .ref (zipKH3 q1 q2 h l1 l2).objs.size] }
theorem meets_zipK_new (q1 q2 : SK) (l1 l2 : Addr) (xs ys : Array Value) :
    Meets (Builtin.«zip.__new__» ⟨[.type "zip", .ref l1, .ref l2], []⟩) (fun _ R s => isSq q1 s.heap l1 xs ∧ isSq q2 s.heap l2 ys ∧
      R (.ok (.ret (.ref (zipKH4 q1 q2 s.heap l1 l2).objs.size))) { s with heap := zipKH5 q1 q2 s.heap l1 l2 }) :=
  .of_wp fun prog w A R s h => by
    obtain ⟨hp, g, d, tk, os⟩ := s; obtain ⟨hl1, hl2, h⟩ := h
    have hsub := sub_zip
    have hL1 : isSq q1 (Shared.heap ⟨hp, g, d, tk, os⟩) l1 xs := hl1
    have hL2 : isSq q2 (Shared.heap ⟨hp.push { cls := .type q1.nm, data := .fields #[.ref l1, .int 0 0] }, g, d, tk, os⟩) l2 ys := hl2.at fun o e => Heap.get?_push_of_some _ e
    wp_walk using iterK hL1, iterK hL2
    exact ⟨_, rfl, h⟩
section
variable {prog : Program} {w : World} {A : Around} {E : Value → Shared → Prop} {s : Shared} {q1 q2 : SK}
theorem call_zipK {l1 l2 : Addr} {xs ys : Array Value} {Q : Value → Shared → Prop} (hl1 : isSq q1 s.heap l1 xs) (hl2 : isSq q2 s.heap l2 ys)
    (h : ∀ h', IsZip h' (s.heap.objs.size + 4) (s.heap.objs.size + 2) (s.heap.objs.size + 3) .none → IsPair h' (s.heap.objs.size + 2) (.ref s.heap.objs.size) (.ref (s.heap.objs.size + 1)) →
      IsPair h' (s.heap.objs.size + 3) .none .none → isIt q1 h' s.heap.objs.size l1 0 → isIt q2 h' (s.heap.objs.size + 1) l2 0 → h'.objs.size = s.heap.objs.size + 5 →
      (∀ c o, s.heap.get? c = some o → h'.get? c = some o) → Q (.ref (s.heap.objs.size + 4)) { s with heap := h' }) :
    wpAny (model prog w) A (call (.type "zip") [.ref l1, .ref l2]) Q E s := by
  refine callType_new PySem.F.called_zip (by decide) (PySem.F.typeCall_zip_2 _ _) (PySem.F.newCall_zip_2 _ _) (fun obj => PySem.F.args_object_init_3 obj _ _) PySem.F.entry_zip_new
    (meets_zipK_new q1 q2 l1 l2 xs ys) ⟨hl1, hl2, ?_⟩
  have z1 : (zipKH1 q1 q2 s.heap l1).objs.size = s.heap.objs.size + 1 := Heap.size_push ..
  have z2 : (zipKH2 q1 q2 s.heap l1 l2).objs.size = s.heap.objs.size + 2 := by rw [Heap.size_push, z1]
  have z3 : (zipKH3 q1 q2 s.heap l1 l2).objs.size = s.heap.objs.size + 3 := by rw [Heap.size_push, z2]
  have z4 : (zipKH4 q1 q2 s.heap l1 l2).objs.size = s.heap.objs.size + 4 := by rw [Heap.size_push, z3]
  have z5 : (zipKH5 q1 q2 s.heap l1 l2).objs.size = s.heap.objs.size + 5 := by rw [Heap.size_push, z4]
  have g5 : (zipKH5 q1 q2 s.heap l1 l2).get? (zipKH4 q1 q2 s.heap l1 l2).objs.size = some _ := Heap.get?_push_size _ rfl
  have g4 : (zipKH5 q1 q2 s.heap l1 l2).get? (zipKH3 q1 q2 s.heap l1 l2).objs.size = some _ := Heap.get?_push_of_some _ (Heap.get?_push_size _ rfl)
  have g3 : (zipKH5 q1 q2 s.heap l1 l2).get? (zipKH2 q1 q2 s.heap l1 l2).objs.size = some _ := Heap.get?_push_of_some _ (Heap.get?_push_of_some _ (Heap.get?_push_size _ rfl))
  have g2 : (zipKH5 q1 q2 s.heap l1 l2).get? (zipKH1 q1 q2 s.heap l1).objs.size = some _ := Heap.get?_push_of_some _ (Heap.get?_push_of_some _ (Heap.get?_push_of_some _ (Heap.get?_push_size _ rfl)))
  have g1 : (zipKH5 q1 q2 s.heap l1 l2).get? s.heap.objs.size = some _ := Heap.get?_push_of_some _ (Heap.get?_push_of_some _ (Heap.get?_push_of_some _ (Heap.get?_push_of_some _ (Heap.get?_push_size _ rfl))))
  show _ ∧ _
  rw [z2, z3, z4] at g5
  rw [z1, z2] at g3
  rw [z3] at g4
  rw [z1] at g2
  rw [z4]
  exact ⟨⟨_, g5, rfl⟩, h _ g5 g3 g4 (isIt.mk g1) (isIt.mk g2) z5 fun c o x =>
    Heap.get?_push_of_some _ (Heap.get?_push_of_some _ (Heap.get?_push_of_some _ (Heap.get?_push_of_some _ (Heap.get?_push_of_some _ x))))⟩
end
end Ev
set_option Elab.async false
set_option linter.all false
set_option maxRecDepth 100000
set_option maxHeartbeats 8000000
/-! EvNe: zip of lists and tuples, walked (after HandS.Zip). -/
namespace Ev
open PySem PySem.Spec PyProof.Rows L2
def SqK (q : SK) (K : PySem.W.Frag) (H : Hp) (a : Addr) (xs : List V) : Prop := match q with
  | .l => SqL K H a xs
  | .t => SqT K H a xs
section
variable {X : Cx} {pins : List (Addr × Obj)} {σ : L2.St} {H : Hp} {s : Shared} {q : SK} {a : Addr} {xs ys : List V}
theorem seqK (I : L2.Inv X pins σ H s) (h : SqK q X.K H a xs) : ∃ its, Vals xs its ∧ isSq q s.heap a its.toArray := by
  cases q
  · obtain ⟨its, rv, p, _⟩ := I.list h
    exact ⟨its, rv, p.isList⟩
  · obtain ⟨its, rv, p, _⟩ := I.tuple h
    exact ⟨its, rv, p⟩
theorem injK (I : L2.Inv X pins σ H s) (h : SqK q X.K H a xs) (h' : SqK q X.K H a ys) : xs = ys := by
  cases q
  · exact I.list_inj h h'
  · exact I.tuple_inj h h'
end
def ItzK (q1 q2 : SK) (K : PySem.W.Frag) (a b : Addr) : It :=
  ⟨fun i H => ∃ (xs ys : List V) (x y : V), SqK q1 K H a xs ∧ SqK q2 K H b ys ∧ xs[i]? = some x ∧ ys[i]? = some y,
    fun i H v H' => ∃ T x y, v = .ref T ∧ H T = none ∧ H' = L2.upd H T (.tup [x, y]) ∧ (∀ xs, SqK q1 K H a xs → xs[i]? = some x) ∧ ∀ ys, SqK q2 K H b ys → ys[i]? = some y,
    fun i H => ∃ xs ys : List V, SqK q1 K H a xs ∧ SqK q2 K H b ys ∧ (xs.length ≤ i ∨ ys.length ≤ i)⟩
theorem turn_zipK {q1 q2 : SK} {P : Program} {w : World} {K : PySem.W.Frag} {elts : List Expr} {kk : Nat} {tpos : Pos} {a b z TI TO i1 i2 : Addr} (D : ZipApart z TI TO i1 i2 a b) :
    Turn P w K (.Tuple elts kk tpos) (ItzK q1 q2 K a b) [z, TI, TO, i1, i2] z (fun i h => IsZip h z TI TO .none ∧ IsPair h TI (.ref i1) (.ref i2) ∧ (∃ x y, IsPair h TO x y) ∧ isIt q1 h i1 a i ∧ isIt q2 h i2 b i) where
  mem := by simp
  obj := fun i h st c hc => by
    obtain ⟨hz, hTI, ⟨x, y, hTO⟩, h1, h2⟩ := st
    obtain ⟨o1, e1, d1⟩ := h1.ex
    obtain ⟨o2, e2, d2⟩ := h2.ex
    have e' : c = z ∨ c = TI ∨ c = TO ∨ c = i1 ∨ c = i2 := by simpa using hc
    rcases e' with q | q | q | q | q
    · rw [q]; exact ⟨_, hz, fun v q => nomatch q⟩
    · rw [q]; exact ⟨_, hTI, fun v q => nomatch q⟩
    · rw [q]; exact ⟨_, hTO, fun v q => nomatch q⟩
    · rw [q]; exact ⟨o1, e1, d1⟩
    · rw [q]; exact ⟨o2, e2, d2⟩
  keep := fun i h h' st k => by
    obtain ⟨hz, hTI, ⟨x, y, hTO⟩, h1, h2⟩ := st
    exact ⟨k z (by simp) _ hz, k TI (by simp) _ hTI, ⟨x, y, k TO (by simp) _ hTO⟩, h1.at fun o q => k i1 (by simp) o q, h2.at fun o q => k i2 (by simp) o q⟩
  item := by
    intro X hP hw hK hc i pins s σ H E I hf st hg
    subst hP hw hK
    obtain ⟨hz, hTI, ⟨x0, y0, hTO⟩, h1, h2⟩ := st
    obtain ⟨xs, ys, x, y, hqx, hqy, hx, hy⟩ := hg
    obtain ⟨its, rv, p⟩ := seqK I hqx
    obtain ⟨its2, rv2, p2⟩ := seqK I hqy
    obtain ⟨u, hu, ru⟩ := rv.get hx
    obtain ⟨u2, hu2, ru2⟩ := rv2.get hy
    have hzl : z < s.heap.objs.size := Heap.lt_size hz
    refine pyNext_zipK_item D hz hTI hTO h1 h2 p p2 (x := u) (y := u2) (by simpa using hu) (by simpa using hu2) fun h' z' TO' h1' h2' hT hsz hk => ?_
    refine ⟨_, rfl, wpAny_letOwnedTupleGo_zip (s := { s with heap := h' }) z' fun h'' z'' sb => ?_⟩
    have hT2 : h''.get? s.heap.objs.size = some { cls := .type "tuple", data := .seq #[u, u2] } := (sb.2 _ (Nat.ne_of_gt hzl)).trans hT
    have new : ObjOk X.prog X.w (upd H s.heap.objs.size (.tup [x, y])) h'' s.heap.objs.size (.tup [x, y]) :=
      ⟨by show 2 ≤ sizeLine; decide, [u, u2], .cons ru (.cons ru2 .nil), ⟨_, hT2, rfl, _, rfl⟩⟩
    have I1 : Inv X pins σ (upd H s.heap.objs.size (.tup [x, y])) { s with heap := h'' } :=
      I.turnedNew (t' := s.toks) (ch := [z, TI, TO, i1, i2]) (fun c o hb q => (sb.2 c (fun q' => hb (by simp [q']))).trans (hk c o (fun q' => hb (by simp [q'])) (fun q' => hb (by simp [q'])) (fun q' => hb (by simp [q'])) (fun q' => hb (by simp [q'])) q)) hf (Nat.le_refl _) new
    refine ⟨.ref s.heap.objs.size, _, I1, rfl, ⟨_, x, y, rfl, I.hok.fresh (Nat.le_refl _), rfl, fun l hl => by rw [injK I hl hqx]; exact hx, fun l hl => by rw [injK I hl hqy]; exact hy⟩, ⟨z'', ?_, ⟨u, u2, ?_⟩, ?_, ?_⟩, fun c hcm => ?_⟩
    · exact (sb.2 _ D.TIz).trans (hk _ _ D.TIz D.TITO D.TIi1 D.TIi2 hTI)
    · exact (sb.2 _ D.TOz).trans TO'
    · exact h1'.at fun o q => (sb.2 _ D.i1z).trans q
    · exact h2'.at fun o q => (sb.2 _ D.i2z).trans q
    · have hlt : c < s.heap.objs.size := by
        have e' : c = z ∨ c = TI ∨ c = TO ∨ c = i1 ∨ c = i2 := by simpa using hcm
        rcases e' with q | q | q | q | q
        · rw [q]; exact hzl
        · rw [q]; exact Heap.lt_size hTI
        · rw [q]; exact Heap.lt_size hTO
        · rw [q]; exact h1.lt
        · rw [q]; exact h2.lt
      rw [upd_ne (Nat.ne_of_lt hlt)]
      exact (hf c hcm).1
  done := by
    intro X hP hw hK hc i pins s σ H E I hf st hg
    subst hP hw hK
    obtain ⟨hz, hTI, ⟨x0, y0, hTO⟩, h1, h2⟩ := st
    obtain ⟨xs, ys, hqx, hqy, hend⟩ := hg
    obtain ⟨its, rv, p⟩ := seqK I hqx
    obtain ⟨its2, rv2, p2⟩ := seqK I hqy
    have l1 := rv.length
    have l2 := rv2.length
    have he : its.toArray[i]? = none ∨ its2.toArray[i]? = none := by
      rcases hend with q | q
      · exact .inl (by simp; omega)
      · exact .inr (by simp; omega)
    exact pyNext_zipK_end (I.ok.hd hc) D hz hTI hTO h1 h2 p p2 he fun h' hk => ⟨rfl, I.turnedL (t' := s.toks) (ch := [z, TI, TO, i1, i2]) (fun c o hb q =>
      hk c o (fun q' => hb (by simp [q'])) (fun q' => hb (by simp [q'])) (fun q' => hb (by simp [q'])) (fun q' => hb (by simp [q'])) q) hf⟩
  self := fun A i s Q E st h => wpAny_pyIter_zip st.1 h
def iZipK (K : PySem.W.Frag) (ta : TA) : TI := fun σ H R => ta σ H fun vs H1 => ∃ a b q1 q2, vs = [.ref a, .ref b] ∧ (∃ xs, SqK q1 K H1 a xs) ∧ (∃ ys, SqK q2 K H1 b ys) ∧ R (ItzK q1 q2 K a b) H1
theorem pi_zipK {X : Cx} {e e2 : Expr} {ta : TA} {p pos tpos : Pos} {elts : List Expr} {kk : Nat} (hg : Gl X "zip") (hm : X.mg "zip" = none) (ha : PA X [e, e2] ta)
    (hs : starEach [e, e2] X.env = (false, eval e X.env) :: starEach [e2] X.env) (hpl : (backTo pos (starEach [e2] X.env)).any (·.1) = false) :
    PI X (.Tuple elts kk tpos) (.Call (.Name "zip" p) [e, e2] [] pos) (iZipK X.K ta) := by
  refine ⟨fun pins s σ H R I h => ?_⟩
  refine Call_ (ld_blt I hg hm PyProof.Rows.boot_zip (PyProof.Rows.callWith_type1 (thn (ha.run pos pins s σ H _ I h) fun us s1 ⟨vs, H1, I1, r1, z1⟩ => ?_) hs hpl))
  obtain ⟨a, b, q1, q2, ex, ⟨xs, hqx⟩, ⟨ys, hqy⟩, q⟩ := z1
  subst ex
  cases r1 with
  | cons r rr =>
    cases rr with
    | cons r' rr =>
      cases rr
      cases r
      cases r'
      have fresh5 : ∀ c, c ∈ [s1.heap.objs.size + 4, s1.heap.objs.size + 2, s1.heap.objs.size + 3, s1.heap.objs.size, s1.heap.objs.size + 1] → FpOk X pins H1 c := fun c hcm => by
        have e' : c = s1.heap.objs.size + 4 ∨ c = s1.heap.objs.size + 2 ∨ c = s1.heap.objs.size + 3 ∨ c = s1.heap.objs.size ∨ c = s1.heap.objs.size + 1 := by simpa using hcm
        have hle : s1.heap.objs.size ≤ c := by
          rcases e' with z | z | z | z | z
          · rw [z]; exact Nat.le_add_right _ _
          · rw [z]; exact Nat.le_add_right _ _
          · rw [z]; exact Nat.le_add_right _ _
          · rw [z]; exact Nat.le_refl _
          · rw [z]; exact Nat.le_add_right _ _
        exact I1.fpOk hle (I1.hok.fresh hle)
      obtain ⟨its, rv, p1⟩ := seqK I1 hqx
      obtain ⟨its2, rv2, p2⟩ := seqK I1 hqy
      refine call_zipK p1 p2 fun h' hz hTI hTO h1 h2 hsz hk => wpAny_pyIter_zip hz ?_
      have I2 : L2.Inv X pins σ H1 { s1 with heap := h' } := I1.kept (t' := s1.toks) hk
      exact ⟨s1.heap.objs.size + 4, [s1.heap.objs.size + 4, s1.heap.objs.size + 2, s1.heap.objs.size + 3, s1.heap.objs.size, s1.heap.objs.size + 1], _, _, H1, rfl, I2, turn_zipK (PySem.W.ktu_apart s1.heap.objs.size a b p1.lt p2.lt), ⟨hz, hTI, ⟨_, _, hTO⟩, h1, h2⟩, fresh5, q⟩
end Ev
set_option Elab.async false
set_option linter.all false
set_option maxRecDepth 100000
set_option maxHeartbeats 8000000
/-! EvNf: a set comprehension of ints, stored in a name (printed by mksc.py). -/
namespace Ev
open PySem PySem.Spec PyProof.Rows L2
section
variable {X : Cx}
theorem setI_new {P : Program} {w : World} {H : Hp} {h : Heap} : ObjOk P w H (h.push { cls := .type "set", dict := none, data := .set #[] 0 (.fresh 0 0 (!w.params.followText "set-order")) }) h.objs.size (.set (fun _ => false) 0) :=
  ⟨_, #[], 0, _, Heap.get?_push_size _ rfl, ⟨rfl, rfl, rfl⟩, rfl, (fun e he => by simp at he), (fun k => by simp), (by decide), (by rfl), rfl⟩
theorem addI_ok {pins : List (Addr × Obj)} {s : Shared} {σ : L2.St} {H : Hp} {E : Value → Shared → Prop} {D : Addr} {S : Int → Bool} {n : Nat} {y : Int} {v : Value} {Q : Value → Shared → Prop} (I : Inv X pins σ H s) (hD : H D = some (.set S n)) (room : n + 1 < scanBound) (r : RelV (.int y) v)
    (h : ∀ s', Inv X pins σ (upd H D (.set (fun j => S j || decide (j = y)) (if S y = true then n else n + 1))) s' → Q .none s') : wpAny (model X.prog X.w) X.A (call (.builtin "set.add") [.ref D, v]) Q E s := by
  obtain ⟨tk, rfl⟩ := r
  have R : s.heap.SetOf (intKind X.prog X.w) D S n := I.hok D _ hD
  refine call_set_add (intKind_is _ _ _ _) rfl R room fun h' sb new => ?_
  have he : ∃ u, h'.get? D = some u := by
    have ⟨o, _, _, _, ho, _⟩ := new
    exact ⟨o, ho⟩
  exact h _ (I.write (e := D) (t' := s.toks + 1) (by rw [hD]; trivial) (.inl rfl) (fun b u hb hu => (sb.2 b hb).trans hu) he new)
/-- {elt for target in iter if ..}, elt an int: D the new set -/
def tScI (wi : TI) (g : TG) (tt : TT) (te : TE) (vs : List Nat) : TE := fun σ H Q => wi σ H fun J H1 => ∀ D, H1 D = none → ∃ W : Nat → Nat → Hp → Prop, (∃ m, W 0 m (upd H1 D (.set (fun _ => false) 0))) ∧ ∀ i m H, W i m H →
  (J.stop i H ∧ Q (.ref D) H) ∨ (J.go i H ∧ ∃ Nx : Hp → Prop, (∀ H', Nx H' → ∃ m', m' < m ∧ W (i + 1) m' H') ∧ ∀ x H', J.yld i H x H' → g x (wipe σ vs) H' fun σ2 H2 => wipe σ2 vs = wipe σ vs ∧ tt σ2 H2 fun b H3 =>
    if b = true then te σ2 H3 fun y H4 => ∃ (c : Int) (S : Int → Bool) (n : Nat), y = .int c ∧ H4 D = some (.set S n) ∧ n + 1 < scanBound ∧ Nx (upd H4 D (.set (fun j => S j || decide (j = c)) (if S c = true then n else n + 1))) else Nx H3)
theorem sc_coreE {W : XK} {pins : List (Addr × Obj)} {s : Shared} {σ : L2.St} {H : Hp} {Q : VK} {elt tg iter : Expr} {ifs : List Expr} {scope : Scope} {own : List (Str × Nat)} {pos pos' : Pos} {wi : TI} {g : TG} {tt : TT} {te : TE} {use : Option (Value → Sem Unit)} {Qf : Value → Shared → Prop}
    (tk : TakP X (fun cls d _ H => W cls d H)) (fr : HeadFr X) (hc : X.calm = true) (hN : X.N.Nodup) (I : Inv X pins σ H s) (hi : PI X tg iter wi) (ok : BlkOk X.N X.env.scope scope own)
    (hg : ∀ (s : Shared) (H : Hp) (C : Addr) (cl : List (Str × Addr)) (fp : List Addr) (xe : Value → Shared → Prop), TakP (blkE X s H scope (compEnvC scope cl C X.env) fp xe) (fun cls d _ H => W cls d H) → PG (blkE X s H scope (compEnvC scope cl C X.env) fp xe) tg g) (ht : ∀ (s : Shared) (H : Hp) (C : Addr) (cl : List (Str × Addr)) (fp : List Addr) (xe : Value → Shared → Prop), TakP (blkE X s H scope (compEnvC scope cl C X.env) fp xe) (fun cls d _ H => W cls d H) → PTs (blkE X s H scope (compEnvC scope cl C X.env) fp xe) ifs tt)
    (he : ∀ (s : Shared) (H : Hp) (C : Addr) (cl : List (Str × Addr)) (fp : List Addr) (xe : Value → Shared → Prop), TakP (blkE X s H scope (compEnvC scope cl C X.env) fp xe) (fun cls d _ H => W cls d H) → PE (blkE X s H scope (compEnvC scope cl C X.env) fp xe) elt te) (hs : ∀ x, foldedSetIterable iter X.env x = pure x)
    (h : tScI wi g tt te (own.map (·.2)) σ H Q)
    (hRR : ∀ D C s' m H', Inv X pins σ H' s' → Q (.ref D) H' → s'.heap.Ns C m → FpOk X pins H' C → compPost (model X.prog X.w) X.A X.xe use Qf (.ref D) C (.ok .next) s') :
    wpAny (model X.prog X.w) X.A (comprehension (.SetComp elt [⟨tg, iter, ifs, 0⟩] scope pos) scope X.env pos' (newSet (.type "set")) false (eval iter X.env) use) Qf X.xe s := by
  have hfree : ∀ y ∈ scope.names, y.2 = .free → ∃ c, X.env.cells.lookup y.1 = some c := fun y hy e => by
    rcases ok.free y hy e with k | k
    · exact I.ok.has _ (.inl k)
    · exact I.ok.has _ (.inr k)
  refine wpAny_comprehension_free (use := use) rfl hs (closure_ok hfree) ok.kind (fun y hy e => by rw [ok.uniq y hy, e])
    (thn (hi.run pins s σ H _ I h) fun xv s1 hx => thn hx fun itv s2 h2 => ?_)
  obtain ⟨it, fp, tn, J, H2, e, I2, T, st2, f2, q⟩ := h2
  subst e
  refine PpSet.newSet_ok (newEnv_comp ?_)
  generalize hD : s2.heap.objs.size = D
  have hDn : H2 D = none := I2.hok.fresh (Nat.le_of_eq hD)
  obtain ⟨Wm, ⟨m0, w0⟩, turn⟩ := q D hDn
  -- the new list
  generalize hs3 : ({ s2 with heap := s2.heap.push { cls := .type "set", dict := none, data := .set #[] 0 (.fresh 0 0 (!X.w.params.followText "set-order")) } } : Shared) = s3
  have I3 : Inv X pins σ (upd H2 D (.set (fun _ => false) 0)) s3 := by
    rw [← hs3]
    refine I2.laid (t' := s2.toks) (fun b o e => Heap.get?_push_of_some _ e) (Nat.le_of_eq hD) ?_
    rw [← hD]
    exact setI_new
  have h3 : s3.heap = s2.heap.push { cls := .type "set", dict := none, data := .set #[] 0 (.fresh 0 0 (!X.w.params.followText "set-order")) } := by rw [← hs3]
  have sz : ∀ b ∈ fp, b < s2.heap.objs.size := fun b hb => by
    obtain ⟨o, e, _⟩ := T.obj _ _ st2 b hb
    exact Heap.lt_size e
  have f3 : ∀ b ∈ fp, FpOk X pins (upd H2 D (.set (fun _ => false) 0)) b ∧ b < s3.heap.objs.size := fun b hb => by
    have hlt := sz b hb
    refine ⟨⟨?_, (f2 b hb).2⟩, by rw [h3, Heap.size_push]; exact Nat.lt_succ_of_lt hlt⟩
    rw [upd_ne (by rw [← hD]; exact Nat.ne_of_lt hlt)]
    exact (f2 b hb).1
  have st3 : tn 0 s3.heap := T.keep _ _ _ st2 fun b _ o e => by rw [h3]; exact Heap.get?_push_of_some _ e
  have I4 := block_start I3 ok hN f3
  show codeAny _ _ (.compStart (.SetComp elt [⟨tg, iter, ifs, 0⟩] scope pos) 0 (.ref it) (.ref D) (compEnvC scope (cellsFrom (s3.heap.objs.size + 1) scope.names (cloFrom X.env.cells scope.names [])) s3.heap.objs.size X.env)) (compPost (model X.prog X.w) X.A X.xe use Qf (.ref D) s3.heap.objs.size) { s3 with heap := pushCells (s3.heap.push { cls := .type "dict", data := .dict #[] }) scope.names }
  have nfp : ∀ b ∈ fp, (upd H2 D (.set (fun _ => false) 0)) b = none := fun b hb => (f3 b hb).1.1
  have hgk := hg s3 (upd H2 D (.set (fun _ => false) 0)) s3.heap.objs.size (cellsFrom (s3.heap.objs.size + 1) scope.names (cloFrom X.env.cells scope.names [])) fp
  have htk := ht s3 (upd H2 D (.set (fun _ => false) 0)) s3.heap.objs.size (cellsFrom (s3.heap.objs.size + 1) scope.names (cloFrom X.env.cells scope.names [])) fp
  have hek := he s3 (upd H2 D (.set (fun _ => false) 0)) s3.heap.objs.size (cellsFrom (s3.heap.objs.size + 1) scope.names (cloFrom X.env.cells scope.names [])) fp
  generalize hce : compEnvC scope (cellsFrom (s3.heap.objs.size + 1) scope.names (cloFrom X.env.cells scope.names [])) s3.heap.objs.size X.env = ce at I4 hgk htk hek ⊢
  have cL : ce.locals = s3.heap.objs.size := by subst hce; rfl
  have cF : ce.frame = X.env.frame := by subst hce; rfl
  generalize hH3 : upd H2 D (.set (fun _ => false) 0) = H3 at I3 I4 hgk htk hek w0 nfp f3
  generalize hs4 : ({ s3 with heap := pushCells (s3.heap.push { cls := .type "dict", data := .dict #[] }) scope.names } : Shared) = s4 at I4 ⊢
  have tkb := takP_blk (scope := scope) (use := use) (Qf := Qf) (acc := .ref D) I3 fr cF cL rfl (fun b hb => (f3 b hb).1) tk
  generalize hxe : (notedBy (model X.prog X.w) X.A ce fun e s' => compPost (model X.prog X.w) X.A X.xe use Qf (.ref D) s3.heap.objs.size (.error e) s') = xe at tkb
  have pg := hgk xe tkb
  have pt := htk xe tkb
  have pe := hek xe tkb
  have I4 : L2.Inv (blkE X s3 H3 scope ce fp xe) [] (wipe σ (own.map (·.2))) H3 s4 := I4.toTry xe
  have st4 : tn 0 s4.heap := T.keep _ _ _ st3 fun b _ o e => by rw [← hs4]; exact pushCells_keeps _ _ _ _ (Heap.get?_push_of_some _ e)
  have stat : ∀ {σ' : L2.St} {H' : Hp} {s' : Shared}, Inv (blkE X s3 H3 scope ce fp xe) [] σ' H' s' → (∀ b ∈ fp, H' b = none) → ∀ b ∈ fp, FpOk (blkE X s3 H3 scope ce fp xe) [] H' b := fun {σ' H' s'} I' hn b hb =>
    ⟨hn b hb, (I'.ok.exf b hb).1, I'.ok.exfs b hb, .inl hb, fun x c e => (I'.ok.exf b hb).2 x c e, fun p hp => absurd (show p ∈ ([] : List (Addr × Obj)) ++ [] from hp) (by simp)⟩
  have loop : codeAny (model X.prog X.w) X.A (.compLoop (.SetComp elt [⟨tg, iter, ifs, 0⟩] scope pos) 0 (.ref it) (.ref D) ce) (compPost (model X.prog X.w) X.A X.xe use Qf (.ref D) s3.heap.objs.size) s4 := by
    refine PpSet.compLoopS_any (fun n s' => ∃ i H', Inv (blkE X s3 H3 scope ce fp xe) [] (wipe σ (own.map (·.2))) H' s' ∧ tn i s'.heap ∧ (∀ b ∈ fp, H' b = none) ∧ Wm i n H') ?_ m0 ⟨0, H3, I4, st4, nfp, w0⟩
    rintro n s5 ⟨i, H5, I5, st5, n5, w5⟩
    rcases turn i n H5 w5 with ⟨stop, qq⟩ | ⟨go, Nx, hNx, step⟩
    · have td := T.done (blkE X s3 H3 scope ce fp xe) rfl rfl rfl hc i [] s5 _ H5 (fun _ _ => False) I5 (stat I5 n5) st5 stop
      refine thnF td fun r s6 ⟨hr, I6⟩ => ?_
      subst hr
      -- back in the def's context
      have I7 : Inv X pins σ H5 s6 := I3.call' (ch := fp) I6.os I6.base I6.hok I6.bare fun b hb => ⟨(f3 b hb).1.2.2.2.1, (f3 b hb).1.2.1, (f3 b hb).1.2.2.2.2.1, (f3 b hb).1.2.2.2.2.2⟩
      have nC : H5 s3.heap.objs.size = none := by
        have z : H5 ce.locals = none := I6.free
        rw [cL] at z
        exact z
      obtain ⟨m, hn, _⟩ := I6.loc
      have hn : s6.heap.Ns ce.locals m := hn
      rw [cL] at hn
      exact hRR D s3.heap.objs.size s6 m H5 I7 qq hn (I3.fpOk (Nat.le_refl _) nC)
    · have ti := T.item (blkE X s3 H3 scope ce fp xe) rfl rfl rfl hc i [] s5 _ H5 (fun _ _ => False) I5 (stat I5 n5) st5 go
      refine thnF ti fun r s6 ⟨u, hr, h6⟩ => ?_
      subst hr
      refine thnF h6 fun _ s7 ⟨x, H7, I7, r7, y7, st7, n7⟩ => ?_
      have I7' := I7.pinned (stat I7 n7) (T.obj _ _ st7)
      refine thnE hxe (pg.run _ s7 _ H7 x u _ I7' r7 (step x H7 y7)) fun _ s8 ⟨σ8, H8, I8, hw8, q8⟩ => ?_
      refine thnE hxe (pt.run _ s8 σ8 H8 _ I8 q8) fun b s9 ⟨H9, I9, q9⟩ => ?_
      -- the turn's end
      have fin : ∀ {s' : Shared} {H' : Hp}, Inv (blkE X s3 H3 scope ce fp xe) ([] ++ pinsAt fp s7.heap) σ8 H' s' → Nx H' → ∃ m, m < n ∧ ∃ i H', Inv (blkE X s3 H3 scope ce fp xe) [] (wipe σ (own.map (·.2))) H' s' ∧ tn i s'.heap ∧ (∀ b ∈ fp, H' b = none) ∧ Wm i m H' := fun {s' H'} I' nx => by
        obtain ⟨m', hm, w'⟩ := hNx H' nx
        have pin' : ∀ b ∈ fp, ∀ o, s7.heap.get? b = some o → s'.heap.get? b = some o ∧ H' b = none := fun b hb o e =>
          let z := I'.pin (b, o) (List.mem_append_right _ (List.mem_append_right _ (mem_pinsAt hb e)))
          ⟨z.1, z.2.1⟩
        have hl : (wipe σ (own.map (·.2))).length = σ8.length := by rw [← hw8, wipe_length]
        refine ⟨m', hm, i + 1, H', (I'.unpinned (pins := [])).weak hl (fun j v e => ?_), T.keep _ _ _ st7 fun b hb o e => (pin' b hb o e).1, fun b hb => ?_, w'⟩
        · rw [← hw8] at e
          exact (wipe_some e).1
        · obtain ⟨o, e, _⟩ := T.obj _ _ st7 b hb
          exact (pin' b hb o e).2
      cases b with
      | false =>
        simp only [Bool.false_eq_true, if_false] at q9 ⊢
        exact fin I9 q9
      | true =>
        simp only [if_true] at q9 ⊢
        refine thnE hxe (pe.run _ s9 σ8 H9 _ I9 q9) fun z s10 ⟨yv, H10, I10, r10, cb, S0, n0, ey, hD10, hz10, nx⟩ => ?_
        subst ey
        exact addI_ok (X := blkE X s3 H3 scope ce fp xe) I10 hD10 hz10 r10 fun s11 I11 => fin I11 nx
  exact PpSet.codeAny_compStart_set loop (T.self X.A 0 _ _ _ st4 loop)
/-- as a value -/
theorem pe_scE {W : XK} {elt tg iter : Expr} {ifs : List Expr} {scope : Scope} {own : List (Str × Nat)} {pos : Pos} {wi : TI} {g : TG} {tt : TT} {te : TE} (tk : TakP X (fun cls d _ H => W cls d H)) (fr : HeadFr X) (hc : X.calm = true) (hN : X.N.Nodup) (hi : PI X tg iter wi) (ok : BlkOk X.N X.env.scope scope own)
    (hg : ∀ (s : Shared) (H : Hp) (C : Addr) (cl : List (Str × Addr)) (fp : List Addr) (xe : Value → Shared → Prop), TakP (blkE X s H scope (compEnvC scope cl C X.env) fp xe) (fun cls d _ H => W cls d H) → PG (blkE X s H scope (compEnvC scope cl C X.env) fp xe) tg g) (ht : ∀ (s : Shared) (H : Hp) (C : Addr) (cl : List (Str × Addr)) (fp : List Addr) (xe : Value → Shared → Prop), TakP (blkE X s H scope (compEnvC scope cl C X.env) fp xe) (fun cls d _ H => W cls d H) → PTs (blkE X s H scope (compEnvC scope cl C X.env) fp xe) ifs tt)
    (he : ∀ (s : Shared) (H : Hp) (C : Addr) (cl : List (Str × Addr)) (fp : List Addr) (xe : Value → Shared → Prop), TakP (blkE X s H scope (compEnvC scope cl C X.env) fp xe) (fun cls d _ H => W cls d H) → PE (blkE X s H scope (compEnvC scope cl C X.env) fp xe) elt te) (hs : ∀ x, foldedSetIterable iter X.env x = pure x := by intro _; rfl) :
    PE X (.SetComp elt [⟨tg, iter, ifs, 0⟩] scope pos) (tScI wi g tt te (own.map (·.2))) := by
  refine ⟨fun pins s σ H Q I h => ?_⟩
  rw [PpSet.eval_SetComp]
  refine sc_coreE tk fr hc hN I hi ok hg ht he hs h fun D C s' m H' I' q hn f => ⟨m, hn, fun h'' sb => ?_⟩
  obtain ⟨f0, f1, f2, f3, f4, f5⟩ := f
  exact ⟨.ref D, H', I'.turned (t' := s'.toks) (fun b o hb e => (sb.2 b hb).trans e) f0 f1 f3 f4 f5, rfl, q⟩
/-- name = [..] on one line, the name a local -/
theorem ps_setScIE {W : XK} {i : Nat} {y : Str} {py : Pos} {elt tg iter : Expr} {ifs : List Expr} {scope : Scope} {own : List (Str × Nat)} {pos spos : Pos} {wi : TI} {g : TG} {tt : TT} {te : TE} (tk : TakP X (fun cls d _ H => W cls d H)) (fr : HeadFr X) (hc : X.calm = true) (hN : X.N.Nodup) (hy : X.N[i]? = some y) (hyl : X.env.scope.names.lookup y = some .local)
    (hsw : swapsWith (.SetComp elt [⟨tg, iter, ifs, 0⟩] scope pos) (some (.Name y py)) spos.line X.env = pure true) (hi : PI X tg iter wi) (ok : BlkOk X.N X.env.scope scope own)
    (hg : ∀ (s : Shared) (H : Hp) (C : Addr) (cl : List (Str × Addr)) (fp : List Addr) (xe : Value → Shared → Prop), TakP (blkE X s H scope (compEnvC scope cl C X.env) fp xe) (fun cls d _ H => W cls d H) → PG (blkE X s H scope (compEnvC scope cl C X.env) fp xe) tg g) (ht : ∀ (s : Shared) (H : Hp) (C : Addr) (cl : List (Str × Addr)) (fp : List Addr) (xe : Value → Shared → Prop), TakP (blkE X s H scope (compEnvC scope cl C X.env) fp xe) (fun cls d _ H => W cls d H) → PTs (blkE X s H scope (compEnvC scope cl C X.env) fp xe) ifs tt)
    (he : ∀ (s : Shared) (H : Hp) (C : Addr) (cl : List (Str × Addr)) (fp : List Addr) (xe : Value → Shared → Prop), TakP (blkE X s H scope (compEnvC scope cl C X.env) fp xe) (fun cls d _ H => W cls d H) → PE (blkE X s H scope (compEnvC scope cl C X.env) fp xe) elt te) (hs : ∀ x, foldedSetIterable iter X.env x = pure x := by intro _; rfl) :
    PS X (.Assign [.Name y py] (.SetComp elt [⟨tg, iter, ifs, 0⟩] scope pos) spos) (tAsg (tScI wi g tt te (own.map (·.2))) (gName i)) := by
  refine ⟨fun pins s σ H D I h => ?_⟩
  rw [exec_Assign_Name_used _ _ _ _ hsw]
  refine wpAny_bind (wpAny_standAt (wpAny_bind ?_))
  show wpAny _ X.A (do let _ ← comprehension (.SetComp elt [⟨tg, iter, ifs, 0⟩] scope pos) scope X.env (firstIterPos [⟨tg, iter, ifs, 0⟩] pos) (newSet (.type "set")) false (eval iter X.env) (some (assign (.Name y py) X.env))) _ _ s
  have h : tScI wi g tt te (own.map (·.2)) σ H (fun x H1 => gName i x σ H1 D.nx) := h
  refine wpAny_bind (thn (sc_coreE (Qf := fun _ s' => SP X pins D .next s') tk fr hc hN I hi ok hg ht he hs h fun L C s' m H' I' q hn f => ?_) fun _ s' hq => wpAny_pure (wpAny_pure hq))
  show wpAny _ _ (assign (.Name y py) X.env (.ref L)) _ _ _
  refine wpAny_assign_Name (store_ok2 (v := V.ref L) I' hN hy (.inl hyl) rfl (fun s2 I2 ⟨a, sb, ha⟩ => ?_) (.inr hyl))
  obtain ⟨f0, f1, f2, f3, f4, f5⟩ := f
  have haC : C ≠ a := by
    rcases ha with z | z
    · rw [z]; exact f1
    · exact fun e => f4 y a z e.symm
  refine ⟨m, hn.sameBut sb haC, fun h3 sb3 => ?_⟩
  exact ⟨_, H', I2.turned (t' := s2.toks) (fun b o hb e => (sb3.2 b hb).trans e) f0 f1 f3 f4 f5, q⟩
end
end Ev
set_option Elab.async false
set_option linter.all false
set_option maxRecDepth 100000
set_option maxHeartbeats 4000000
/-! EvJ: the check that a code is an expression's; contexts; targets; what is walked. -/
namespace Ev
open PySem PySem.Spec PyProof.Rows L2
structure Gm where
  N : List Str
  sc : Scope
  /-- in a block: its written scope -/
  fnn : Option Scope
  fn : List Str
  cs : List Str
  /-- calls by keywords alone: the def, the keywords, where each parameter stands among them -/
  kws : List (Nat × List Str × List Nat)
  /-- the exception classes -/
  ex : List Str
  /-- the defs that are handed a call -/
  th : List Str
def visB (Γ : Gm) (x : Str) : Bool := match Γ.sc.names.lookup x with
  | some .local => true
  | some .cell => true
  | some .free => true
  | _ => false
def glB (Γ : Gm) (x : Str) : Bool := match Γ.sc.names.lookup x with
  | some .globalImplicit => true
  | _ => false
def isDb (x : Str) : Bool := x == ("__debug__" : Str)
def isCd (x : Str) : Bool := x == ("__classdict__" : Str)
def varB (Γ : Gm) (i : Nat) (x : Str) : Bool := decide (Γ.N[i]? = some x) && visB Γ x && !isDb x && !isCd x
def stB (Γ : Gm) (x : Str) : Bool := match Γ.sc.names.lookup x with
  | some .local => true
  | some .cell => (match Γ.fnn with
    | none => true
    | some s => decide (s.names.lookup x = some .cell))
  | _ => false
/-- the built-in name k -/
def biB (Γ : Gm) (x k : Str) : Bool := decide (x = k) && glB Γ x
def notStar : Expr → Bool
  | .Starred _ _ => false
  | _ => true
def notSet : Expr → Bool
  | .Set _ _ _ => false
  | _ => true
def notSlice : Expr → Bool
  | .Slice _ _ _ _ => false
  | _ => true
def notCall : Expr → Bool
  | .Call _ _ _ _ => false
  | _ => true
/-- its test is its value's truth -/
def plainT : Expr → Bool
  | .UnaryOp _ _ _ => false
  | .BoolOp _ _ _ => false
  | .IfExp _ _ _ _ => false
  | .Compare _ _ _ _ => false
  | _ => true
theorem star_one {e : Expr} {es : List Expr} {env : Env} (h : notStar e = true) : starEach (e :: es) env = (false, eval e env) :: starEach es env := by cases e <;> first | rfl | cases h
theorem back_any {pos : Pos} {env : Env} : ∀ {es : List Expr}, es.all notStar = true → (backTo pos (starEach es env)).any (·.1) = false
  | [], _ => rfl
  | e :: es, h => by
    rw [List.all_cons, Bool.and_eq_true] at h
    rw [star_one h.1]
    have ih := back_any (pos := pos) (env := env) h.2
    show (false || (backTo pos (starEach es env)).any (·.1)) = false
    rw [ih]; rfl
theorem assign_one {e : Expr} {es : List Expr} {env : Env} (h : notStar e = true) : assignEach (e :: es) env = (false, assign e env) :: assignEach es env := by cases e <;> first | rfl | cases h
theorem set_plain {e : Expr} {env : Env} (h : notSet e = true) (x : Value) : foldedSetIterable e env x = pure x := by cases e <;> first | rfl | cases h
theorem set_behind {e : Expr} {op : CmpOp} (h : notSet e = true) : behindInMarks op e = false := by cases e <;> first | rfl | cases h
theorem slice_plain {e : Expr} (h : notSlice e = true) : PlainIx e := by intro o i; cases e <;> first | rfl | cases h
theorem base_plain {e : Expr} {nm : Str} {env : Env} {w : Sem Value} (h : notCall e = true) : attributeBase e nm env w = w := by cases e <;> first | rfl | cases h
theorem true_plain {e : Expr} {env : Env} (h : plainT e = true) : ∀ whole, isTrue e env whole = (do let v ← whole; standAt e.pos; holding [v] (truthy v)) := by intro w; cases e <;> first | rfl | cases h
def bnames : List Str := ["len", "sum", "all", "any", "max", "min", "sorted", "tuple", "list", "abs", "int", "bool", "str", "isinstance", "range", "enumerate", "zip", "set"]
def b1N : B1 → Str
  | .len => "len" | .sum => "sum" | .all => "all" | .any => "any" | .max => "max" | .min => "min" | .sorted => "sorted" | .tuple => "tuple" | .list => "list" | .abs => "abs" | .int => "int" | .str => "str" | .sset => "sorted"
def tyS : Ty → Str
  | .int => "int" | .bool => "bool" | .tuple => "tuple" | .str => "str"
/-! ### a def's promise -/
def spF (c : SX) (C : Ev.Cl) (j : Nat) : Sp := fun vs H Q E => ∃ b ρ G ds, RH c.toSC ρ H G ∧ RDs c.K ρ H ds vs ∧ b ≤ G.length ∧ PX c E ρ H (C j b ds G) (zV c H Q)
def permL {α : Type} (p : List Nat) (xs : List α) : Option (List α) := p.mapM fun i => xs[i]?
def KwOk (K : PySem.W.Frag) (fd : FuncData) (ps : List Str) (p : List Nat) (ks : List Str) : Prop :=
  ∀ (s : Shared) (ws ws' : List Value), K.In s.heap → ws.length = p.length → permL p ws = some ws' → BindsTo s fd ⟨ws.take (p.length - ks.length), ks.zip (ws.drop (p.length - ks.length))⟩ (ps.zip ws')
/-- a def that may be called where there is room lev -/
structure CallF (c : SX) (C : Ev.Cl) (kws : List (Nat × List Str × List Nat)) (lev : Nat) (j : Nat) (x : Str) (Y : Cx) : Prop where
  ok : ∃ f fd ps, FnOk Y.prog Y.w Y.K Y.mg Y.base (L2.CX Y.prog Y.w) lev f fd ps (spF c C j) ∧ Y.mg x = some (.ref f) ∧ PySem.W.keepIn Y.K (.ref f) = true ∧ Binds Y.K fd ps [] ∧
    isDb x = false ∧ ∀ ks p, (j, ks, p) ∈ kws → KwOk Y.K fd ps p ks
structure CallOk (c : SX) (C : Ev.Cl) (kws : List (Nat × List Str × List Nat)) (j : Nat) (x : Str) (Y : Cx) : Prop where
  ok : ∃ k, Room k Y.A ∧ CallF c C kws k j x Y
/-- an exception of the class k with its field, F what is wanted of that -/
def catchX (c : SX) (k : Nat) (F : V → Hp → Prop) : XK := fun cls d H' => ∃ b, PySem.W.exmOne c.K cls (.ref (c.cls k)) = some b ∧ (b = true → ∃ dd v, d = some dd ∧ cls = .ref (c.cls k) ∧ H' dd = some (.xd [(c.fld k, v)]) ∧ F v H') ∧ (b = false → False)
/-- what a def makes of the reading of a call that it is handed -/
def TTk (c : SX) (t : Nat × Option Str) : (XK → Hp → VK → Prop) → Hp → VK → Prop := fun tl H Q => match t with
  | (k, none) => tl (catchX c k Q) H (fun _ H' => Q (.str Str.empty) H')
  | (k, some pre) => tl (catchX c k fun v H' => ∃ w, v = .str w ∧ pre.length + w.length ≤ lim ∧ Q (.str (pre ++ w)) H') H Q
structure ThF (c : SX) (P : Pr) (C : Ev.Cl) (fn : List Str) (kws : List (Nat × List Str × List Nat)) (k : Nat) (x : Str) (Y : Cx) : Prop where
  exm : ∀ t, P.th[k]? = some t → PySem.W.exmOne c.K (.ref (c.cls t.1)) (.ref (c.cls t.1)) = some true
  ok : ∃ (a : Str) (g cd Pt : Addr) (lev : Nat) (pg : Arguments) (bg : List Stmt) (sg : Scope) (dV kV doc pm cdv ct oc : Value) (an od : Option Addr) (osl : Array (Option Value)) (Ng : List Str),
    Y.mg x = some (.ref g) ∧ PySem.W.keepIn Y.K (.ref g) = true ∧ Y.K.lookup g = some ⟨oc, od, .func (PySem.W.fnOf x x pg bg sg dV kV doc pm an cdv ct), osl⟩ ∧ PySem.W.codeIn Y.K cdv x = true ∧
    Binds Y.K (PySem.W.fnOf x x pg bg sg dV kV doc pm an cdv ct) [a] [] ∧ FnScope Ng [a] sg ∧ Ng[0]? = some a ∧ Vis sg a ∧ isDb x = false ∧ isDb a = false ∧ isCd a = false ∧
    (∀ t, P.th[k]? = some t → LamX.GivesTo Y Ng x sg g cdv bg a (Y.env.qual ++ "<lambda>") (TTk c t)) ∧ LamX.TabB Y.base Y.mg cd Pt ∧ Y.env.code = .ref cd ∧ (Pt, Y.env.qual ++ "<lambda>") ∈ c.T ∧ (∀ p ∈ c.T, p.1 = Pt → p.2 = Y.env.qual ++ "<lambda>") ∧
    Room (lev + 2) Y.A ∧ ∀ (j : Nat) (y : Str), fn[j]? = some y → CallF c C kws lev j y Y
structure CtxE (c : SX) (P : Pr) (C : Ev.Cl) (Γ : Gm) (W : XK) (Y : Cx) : Prop where
  N : Y.N = Γ.N
  nd : Γ.N.Nodup
  sc : Y.env.scope = Γ.sc
  calm : Y.calm = true
  K : c.K = Y.K
  un : Y.A.units + 66 < cLine
  mg : ∀ x ∈ bnames, Y.mg x = none
  st : ∀ x, stB Γ x = true → Loc Y.env.scope x ∧ (Y.fn x = true ∨ Y.env.scope.names.lookup x = some .local)
  tp : TakP Y (fun cls d _ H => W cls d H)
  fr : HeadFr Y
  call : ∀ (j : Nat) (x : Str), Γ.fn[j]? = some x → CallOk c C Γ.kws j x Y
  cs : ∀ (k : Nat) (x : Str) (d : D), Γ.cs[k]? = some x → P.cs[k]? = some d → isDb x = false ∧ ∃ v u, Y.mg x = some u ∧ RelV v u ∧ ∀ ρ H, RD c.K ρ H d v
  gc : GC C
  th : ∀ (k : Nat) (x : Str), Γ.th[k]? = some x → ThF c P C Γ.fn Γ.kws k x Y
section
variable {c : SX} {P : Pr} {C : Ev.Cl} {Γ : Gm} {W : XK} {Y : Cx}
theorem CtxE.tk (X : CtxE c P C Γ W Y) : Takes Y (fun cls d _ H => W cls d H) := X.tp.tk
theorem CtxE.var (X : CtxE c P C Γ W Y) {i : Nat} {x : Str} (h : varB Γ i x = true) : Y.N[i]? = some x ∧ Vis Y.env.scope x ∧ (x == ("__debug__" : Str)) = false ∧ (x == ("__classdict__" : Str)) = false := by
  unfold varB at h
  simp only [Bool.and_eq_true, decide_eq_true_eq, Bool.not_eq_true'] at h
  obtain ⟨⟨⟨h1, h2⟩, h3⟩, h4⟩ := h
  refine ⟨by rw [X.N]; exact h1, ?_, h3, h4⟩
  rw [X.sc]
  unfold visB at h2
  unfold Vis
  split at h2
  · rename_i e; exact .inl e
  · rename_i e; exact .inr (.inl e)
  · rename_i e; exact .inr (.inr e)
  · cases h2
theorem CtxE.gl (X : CtxE c P C Γ W Y) {x : Str} (h : glB Γ x = true) : Gl Y x := by
  unfold glB at h
  split at h
  · rename_i e
    show Y.env.scope.names.lookup x = some .globalImplicit
    rw [X.sc]; exact e
  · cases h
theorem CtxE.bi (X : CtxE c P C Γ W Y) {x k : Str} (h : biB Γ x k = true) (hk : k ∈ bnames) : x = k ∧ Gl Y x ∧ Y.mg x = none := by
  unfold biB at h
  rw [Bool.and_eq_true] at h
  obtain ⟨h1, h2⟩ := h
  have e : x = k := of_decide_eq_true h1
  exact ⟨e, X.gl h2, by rw [e]; exact X.mg k hk⟩
end
/-! ### weakening -/
section
variable {Y : Cx} {e : Expr}
theorem _root_.L2.PE.imp {t t' : TE} (h : PE Y e t) (k : ∀ σ H Q, t' σ H Q → t σ H Q) : PE Y e t' := ⟨fun pins s σ H Q I w => h.run pins s σ H Q I (k σ H Q w)⟩
theorem _root_.L2.PT.imp {t t' : TT} (h : PT Y e t) (k : ∀ σ H Q, t' σ H Q → t σ H Q) : PT Y e t' := ⟨fun pins s σ H Q I w => h.run pins s σ H Q I (k σ H Q w)⟩
theorem _root_.L2.PW.imp {t t' : TT} (h : PW Y e t) (k : ∀ σ H Q, t' σ H Q → t σ H Q) : PW Y e t' := ⟨fun wh pins s σ H Q I w => h.run wh pins s σ H Q I (k σ H Q w)⟩
theorem _root_.L2.PA.imp {es : List Expr} {t t' : TA} (h : PA Y es t) (k : ∀ σ H Q, t' σ H Q → t σ H Q) : PA Y es t' := ⟨fun pos pins s σ H Q I w => h.run pos pins s σ H Q I (k σ H Q w)⟩
theorem _root_.L2.PI.imp {tg : Expr} {t t' : TI} (h : PI Y tg e t) (k : ∀ σ H Q, t' σ H Q → t σ H Q) : PI Y tg e t' := ⟨fun pins s σ H Q I w => h.run pins s σ H Q I (k σ H Q w)⟩
theorem _root_.L2.PG.imp {t t' : TG} (h : PG Y e t) (k : ∀ v σ H Q, t' v σ H Q → t v σ H Q) : PG Y e t' := ⟨fun pins s σ H v u Q I r w => h.run pins s σ H v u Q I r (k v σ H Q w)⟩
theorem _root_.L2.PGs.imp {es : List Expr} {t t' : TGs} (h : PGs Y es t) (k : ∀ v σ H Q, t' v σ H Q → t v σ H Q) : PGs Y es t' := ⟨fun pins s σ H vs us Q I r w => h.run pins s σ H vs us Q I r (k vs σ H Q w)⟩
end
/-! ### targets -/
mutual
def chkG (Γ : Gm) : X → Expr → Bool
  | .var i, e => match e with
    | .Name x _ => decide (Γ.N[i]? = some x) && stB Γ x
    | _ => false
  | .tup ts, e => match e with
    | .Tuple es _ _ => chkGs Γ ts es
    | _ => false
  | _, _ => false
def chkGs (Γ : Gm) : X → List Expr → Bool
  | .nil, es => match es with
    | [] => true
    | _ => false
  | .cons t ts, es => match es with
    | e :: es => notStar e && chkG Γ t e && chkGs Γ ts es
    | [] => false
  | _, _ => false
end
def slotsT : X → List Nat
  | .var i => [i]
  | .tup ts => slotsT ts
  | .cons t ts => slotsT t ++ slotsT ts
  | _ => []
def Keeps (l : List Nat) (σ σ' : L2.St) : Prop := σ'.length = σ.length ∧ ∀ i, i ∉ l → σ'[i]? = σ[i]?
def gX (c : SX) (tg : X) : TG := fun v σV H Q => ∃ ρ G σ d σ', RH c.toSC ρ H G ∧ slR c ρ H σ σV ∧ RD c.K ρ H d v ∧ bindT tg d σ = some σ' ∧ ∀ σV', slR c ρ H σ' σV' → Keeps (slotsT tg) σV σV' → Q σV' H
def gXs (c : SX) (tg : X) : TGs := fun vs σV H Q => ∃ ρ G σ ds σ', RH c.toSC ρ H G ∧ slR c ρ H σ σV ∧ RDs c.K ρ H ds vs ∧ bindTs tg ds σ = some σ' ∧ ∀ σV', slR c ρ H σ' σV' → Keeps (slotsT tg) σV σV' → Q σV' H
theorem assign_len {env : Env} : ∀ (t : X) (es : List Expr) (Γ : Gm), chkGs Γ t es = true → (assignEach es env).findIdx? (·.1) = none ∧ (assignEach es env).length = es.length ∧ ∀ (σ σ' : Sg) (ds : List D), bindTs t ds σ = some σ' → ds.length = es.length := by
  intro t
  induction t with
  | nil =>
    intro es Γ h
    unfold chkGs at h
    split at h
    · refine ⟨rfl, rfl, fun σ σ' ds e => ?_⟩
      cases ds with
      | nil => rfl
      | cons d ds => unfold bindTs at e; cases e
    · cases h
  | cons t ts _ ih =>
    intro es Γ h
    unfold chkGs at h
    split at h
    · rename_i e es
      simp only [Bool.and_eq_true] at h
      obtain ⟨⟨h1, h2⟩, h3⟩ := h
      obtain ⟨i1, i2, i3⟩ := ih es Γ h3
      rw [assign_one h1]
      refine ⟨by rw [List.findIdx?_cons]; simp [i1], by rw [List.length_cons, List.length_cons, i2], fun σ σ' ds e => ?_⟩
      cases ds with
      | nil => unfold bindTs at e; cases e
      | cons d ds =>
        unfold bindTs at e
        cases q : bindT t d σ with
        | none => rw [q] at e; cases e
        | some σ1 =>
          rw [q] at e
          rw [List.length_cons, List.length_cons, i3 σ1 σ' ds e]
    · cases h
  | _ => intro es Γ h; unfold chkGs at h; cases h
section
variable {c : SX} {P : Pr} {C : Ev.Cl} {Γ : Gm} {W : XK} {Y : Cx}
theorem pg_of (X : CtxE c P C Γ W Y) (t : Ev.X) : (∀ e, chkG Γ t e = true → PG Y e (gX c t)) ∧ (∀ es, chkGs Γ t es = true → PGs Y es (gXs c t)) := by
  induction t with
  | var i =>
    refine ⟨fun e h => ?_, fun es h => (by unfold chkGs at h; cases h)⟩
    unfold chkG at h
    split at h
    · rename_i x pos
      rw [Bool.and_eq_true] at h
      obtain ⟨h1, h2⟩ := h
      have h1 : Γ.N[i]? = some x := of_decide_eq_true h1
      obtain ⟨l1, l2⟩ := X.st x h2
      refine L2.PG.imp (pg_name (by rw [X.N]; exact X.nd) (by rw [X.N]; exact h1) l1 l2) fun v σV H Q q => ?_
      obtain ⟨ρ, G, σ, d, σ', rh, sl, rd, e, k⟩ := q
      unfold bindT at e
      have e' := Option.some.inj e
      subst e'
      exact k _ (sl.set rd i) ⟨by rw [List.length_set], fun j hj => List.getElem?_set_ne (fun z => hj (by simp [slotsT, z]))⟩
    · cases h
  | tup ts ih =>
    refine ⟨fun e h => ?_, fun es h => (by unfold chkGs at h; cases h)⟩
    unfold chkG at h
    split at h
    · rename_i es k pos
      obtain ⟨a1, a2, a3⟩ := assign_len (env := Y.env) ts es Γ h
      refine L2.PG.imp (pg_tup X.calm (ih.2 es h) a2 a1) fun v σV H Q q => ?_
      obtain ⟨ρ, G, σ, d, σ', rh, sl, rd, e, k⟩ := q
      cases d with
      | tup ds =>
        obtain ⟨a, xs, rfl, h1, h2⟩ := tup_at (.of rd)
        have e' : bindTs ts ds σ = some σ' := e
        refine ⟨a, xs, rfl, by rw [← X.K]; exact h1, by rw [← h2.length, a3 _ _ _ e'], ρ, G, σ, ds, σ', rh, sl, h2, e', k⟩
      | _ => cases e
    · cases h
  | nil =>
    refine ⟨fun e h => (by unfold chkG at h; cases h), fun es h => ?_⟩
    unfold chkGs at h
    split at h
    · refine PGs.imp pgs_nil fun vs σV H Q q => ?_
      obtain ⟨ρ, G, σ, ds, σ', rh, sl, rds, e, k⟩ := q
      cases ds with
      | nil =>
        cases rds
        have e' : some σ = some σ' := e
        cases e'
        exact ⟨rfl, k _ sl ⟨rfl, fun _ _ => rfl⟩⟩
      | cons d ds => cases e
    · cases h
  | cons t ts i1 i2 =>
    refine ⟨fun e h => (by unfold chkG at h; cases h), fun es h => ?_⟩
    unfold chkGs at h
    split at h
    · rename_i e es
      simp only [Bool.and_eq_true] at h
      obtain ⟨⟨h1, h2⟩, h3⟩ := h
      refine L2.PGs.imp (pgs_cons (i1.1 e h2) (i2.2 es h3) (by rw [assign_one h1] <;> rfl)) fun vs σV H Q q => ?_
      obtain ⟨ρ, G, σ, ds, σ', rh, sl, rds, e, k⟩ := q
      cases rds with
      | nil => cases e
      | @cons d v ds vs rd rds =>
        have e' : (bindT t d σ).bind (fun σ1 => bindTs ts ds σ1) = some σ' := e
        cases q : bindT t d σ with
        | none => rw [q] at e'; cases e'
        | some σ1 =>
          rw [q] at e'
          refine ⟨v, vs, rfl, ρ, G, σ, d, σ1, rh, sl, rd, q, fun σV1 sl1 k1 => ⟨ρ, G, σ1, ds, σ', rh, sl1, rds, e', fun σV2 sl2 k2 => k σV2 sl2 ⟨k2.1.trans k1.1, fun j hj => ?_⟩⟩⟩
          have hj' : j ∉ slotsT t ∧ j ∉ slotsT ts := by
            have : j ∉ slotsT t ++ slotsT ts := hj
            simpa [not_or] using this
          rw [k2.2 j hj'.2, k1.2 j hj'.1]
    · cases h
  | _ => exact ⟨fun e h => (by unfold chkG at h; cases h), fun es h => (by unfold chkGs at h; cases h)⟩
end
/-! ### what is walked -/
section
variable {c : SX} {P : Pr} {C : Ev.Cl} {Γ : Gm} {W : XK} {Y : Cx}
/-- J yields the items, as long as the locked lists stay -/
def WalkOk (c : SX) (items lk : List D) (G0 : GH) (ρ0 : List Addr) (H0 : Hp) (J : It) : Prop :=
  ∀ (i : Nat) (ρ2 : List Addr) (H2 : Hp) (G2 : GH), Stp ρ0 H0 ρ2 H2 → RH c.toSC ρ2 H2 G2 → (∀ n, D.ref n ∈ lk → (G0[n]?).isSome = true → lsv (.ref n) G2 = lsv (.ref n) G0) →
    (i < items.length → J.go i H2) ∧ (items.length ≤ i → J.stop i H2) ∧ ∀ v H3 d, items[i]? = some d → J.yld i H2 v H3 → Stp ρ2 H2 ρ2 H3 ∧ RH c.toSC ρ2 H3 G2 ∧ RD c.K ρ2 H3 d v
def zI (c : SX) (R : It → Hp → Prop) : D → GH → List Addr → Hp → Prop := fun d G' ρ' H' => ∀ items lk J, d = itD items lk → WalkOk c items lk G' ρ' H' J → R J H'
def tI (c : SX) (P : Pr) (C : Ev.Cl) (W : XK) (x : X) : TI := fun σV H R => ∃ b ρ G σ, At c b ρ G σ σV H ∧ PX c W ρ H (ev P C x b σ G) (zI c R)
variable {tg : Expr}
def iSeq (K : PySem.W.Frag) (tl : TE) : TI := fun σ H R => tl σ H fun x H1 => ∃ a, x = .ref a ∧ (((∃ xs, SqL K H1 a xs) ∧ R (Itl K a) H1) ∨ ((∃ xs, SqT K H1 a xs) ∧ R (Itt K a) H1))
theorem pi_seq {l : Expr} {tl : TE} (hl : PE Y l tl) : PI Y tg l (iSeq Y.K tl) := by
  refine ⟨fun pins s σ H R I h => thn (hl.run pins s σ H _ I h) fun v s1 w => ?_⟩
  obtain ⟨x, H1, I1, r1, a, rfl, q1⟩ := w
  cases r1
  have one : ∀ b, b ∈ [s1.heap.objs.size] → FpOk Y pins H1 b := fun b hb => by
    obtain rfl : b = s1.heap.objs.size := by simpa using hb
    exact I1.fpOk (Nat.le_refl _) (I1.hok.fresh (Nat.le_refl _))
  rcases q1 with ⟨⟨xs, hq⟩, q⟩ | ⟨⟨xs, hq⟩, q⟩
  · obtain ⟨its, rv, p, hz⟩ := I1.list hq
    exact wpAny_pyIter_list p.isList ⟨_, [s1.heap.objs.size], _, _, H1, rfl, I1.kept (t' := s1.toks) fun _ _ e => Heap.get?_push_of_some _ e, turn_list a _, ⟨_, Heap.get?_push_size _ rfl, rfl, rfl⟩, one, q⟩
  · obtain ⟨its, rv, p, hz⟩ := I1.tuple hq
    exact wpAny_pyIter_tuple (show s1.heap.IsTuple a its.toArray from p) ⟨_, [s1.heap.objs.size], _, _, H1, rfl, I1.kept (t' := s1.toks) fun _ _ e => Heap.get?_push_of_some _ e, turn_tuple a _, ⟨_, Heap.get?_push_size _ rfl, rfl, rfl⟩, one, q⟩
variable {ρ ρ' : List Addr} {H H' : Hp} {G G' : GH}
/-- a sequence as it is later -/
theorem seq_later (rh : RH c.toSC ρ H G) {d : D} {v : V} {xs : List D} (rv : RV c.toSC ρ H d v) (e : seqv d G = some xs) : ∃ a, v = .ref a ∧
    ((∀ ρ2 H2 G2, Stp ρ H ρ2 H2 → RH c.toSC ρ2 H2 G2 → (∀ n, D.ref n ∈ lkOf d → (G[n]?).isSome = true → lsv (.ref n) G2 = lsv (.ref n) G) → ∃ vs, SqL c.K H2 a vs ∧ RDs c.K ρ2 H2 xs vs) ∨
     (∀ ρ2 H2 G2, Stp ρ H ρ2 H2 → RH c.toSC ρ2 H2 G2 → (∀ n, D.ref n ∈ lkOf d → (G[n]?).isSome = true → lsv (.ref n) G2 = lsv (.ref n) G) → ∃ vs, SqT c.K H2 a vs ∧ RDs c.K ρ2 H2 xs vs)) := by
  cases d with
  | tup ds =>
    have e' : some ds = some xs := e
    cases e'
    obtain ⟨a, vs, rfl, h1, h2⟩ := tup_at rv
    refine ⟨a, rfl, .inr fun ρ2 H2 G2 st rh2 _ => ?_⟩
    obtain ⟨a', vs', ea, h3, h4⟩ := tup_at (st.rv rh rv)
    cases ea
    exact ⟨vs', h3, h4⟩
  | tl ds =>
    have e' : some ds = some xs := e
    cases e'
    obtain ⟨a, vs, rfl, _⟩ := id rv
    refine ⟨a, rfl, .inl fun ρ2 H2 G2 st rh2 _ => ?_⟩
    obtain ⟨a', vs', ea, h3, _, h4⟩ := st.rv rh rv
    cases ea
    exact ⟨vs', .of h3, h4⟩
  | fl ds =>
    have e' : some ds = some xs := e
    cases e'
    obtain ⟨a, vs, rfl, _⟩ := lsv_at (G := G) rh rv rfl
    refine ⟨a, rfl, .inl fun ρ2 H2 G2 st rh2 _ => ?_⟩
    obtain ⟨a', vs', ea, h3, h4⟩ := lsv_at (G := G2) rh2 (st.rv rh rv) rfl
    cases ea
    exact ⟨vs', h3, h4⟩
  | ref n =>
    have e' : lsv (.ref n) G = some xs := e
    obtain ⟨a, vs, rfl, _⟩ := lsv_at rh rv e'
    have so : (G[n]?).isSome = true := by
      cases q : G[n]? with
      | none =>
        unfold lsv at e'
        simp only [q] at e'
        cases e'
      | some o => rfl
    refine ⟨a, rfl, .inl fun ρ2 H2 G2 st rh2 k => ?_⟩
    obtain ⟨a', vs', ea, h3, h4⟩ := lsv_at rh2 (st.rv rh rv) ((k n (by simp [lkOf]) so).trans e')
    cases ea
    exact ⟨vs', h3, h4⟩
  | _ => cases e
theorem RDs.at {K : PySem.W.Frag} {ds : List D} {vs : List V} {i : Nat} {d : D} {v : V} (r : RDs K ρ H ds vs) (e : ds[i]? = some d) (q : vs[i]? = some v) : RD K ρ H d v := by
  obtain ⟨u, h1, h2⟩ := r.get e
  rw [q] at h1; cases h1
  exact h2
theorem walk_seq (rh : RH c.toSC ρ H G) {d : D} {v : V} {xs : List D} (hK : c.K = Y.K) (rv : RV c.toSC ρ H d v) (e : seqv d G = some xs) : ∃ a, v = .ref a ∧
    (((∃ vs, SqL Y.K H a vs) ∧ WalkOk c xs (lkOf d) G ρ H (Itl Y.K a)) ∨ ((∃ vs, SqT Y.K H a vs) ∧ WalkOk c xs (lkOf d) G ρ H (Itt Y.K a))) := by
  obtain ⟨a, rfl, h⟩ := seq_later rh rv e
  rw [← hK]
  refine ⟨a, rfl, ?_⟩
  rcases h with h | h
  · refine .inl ⟨?_, fun i ρ2 H2 G2 st rh2 k => ?_⟩
    · obtain ⟨vs, h1, _⟩ := h ρ H G (.refl _ _) rh (fun _ _ _ => rfl)
      exact ⟨vs, h1⟩
    · obtain ⟨vs, h1, h2⟩ := h ρ2 H2 G2 st rh2 k
      have hl := h2.length
      refine ⟨fun hi => ⟨vs, vs[i]'(by omega), h1, by simp⟩, fun hi => ⟨vs, h1, by omega⟩, fun u H3 d' e' y => ?_⟩
      obtain ⟨rfl, y⟩ := y
      exact ⟨.refl _ _, rh2, h2.at e' (y vs h1)⟩
  · refine .inr ⟨?_, fun i ρ2 H2 G2 st rh2 k => ?_⟩
    · obtain ⟨vs, h1, _⟩ := h ρ H G (.refl _ _) rh (fun _ _ _ => rfl)
      exact ⟨vs, h1⟩
    · obtain ⟨vs, h1, h2⟩ := h ρ2 H2 G2 st rh2 k
      have hl := h2.length
      refine ⟨fun hi => ⟨vs, vs[i]'(by omega), h1, by simp⟩, fun hi => ⟨vs, h1, by omega⟩, fun u H3 d' e' y => ?_⟩
      obtain ⟨rfl, y⟩ := y
      exact ⟨.refl _ _, rh2, h2.at e' (y vs h1)⟩
theorem rngD_get {lo : Int} {n i : Nat} {d : D} (e : (rngD lo n)[i]? = some d) : i < n ∧ d = .int (lo + i) := by
  unfold rngD at e
  rw [List.getElem?_map] at e
  cases q : (List.range n)[i]? with
  | none => rw [q] at e; cases e
  | some j =>
    rw [q] at e
    obtain ⟨h1, h2⟩ := List.getElem?_eq_some_iff.mp q
    rw [List.getElem_range] at h2
    subst h2
    exact ⟨by simpa using h1, (Option.some.inj e).symm⟩
theorem rngD_length (lo : Int) (n : Nat) : (rngD lo n).length = n := by unfold rngD; rw [List.length_map, List.length_range]
theorem walk_rng (lo : Int) (n : Nat) : WalkOk c (rngD lo n) [] G ρ H (Itr lo n) := fun i ρ2 H2 G2 st rh2 k => by
  rw [rngD_length]
  refine ⟨fun h => h, fun h => h, fun v H3 d e y => ?_⟩
  obtain ⟨rfl, rfl⟩ := y
  obtain ⟨_, rfl⟩ := rngD_get e
  exact ⟨.refl _ _, rh2, .int _⟩
theorem walk_enumL (rh : RH c.toSC ρ H G) {xs : List D} {lk : List D} {a : Addr} (hK : c.K = Y.K)
    (h : ∀ ρ2 H2 G2, Stp ρ H ρ2 H2 → RH c.toSC ρ2 H2 G2 → (∀ n, D.ref n ∈ lk → (G[n]?).isSome = true → lsv (.ref n) G2 = lsv (.ref n) G) → ∃ vs, SqL c.K H2 a vs ∧ RDs c.K ρ2 H2 xs vs) :
    WalkOk c (xs.zipIdx.map fun p => .tup [.int p.2, p.1]) lk G ρ H (Ite Y.K a) := fun i ρ2 H2 G2 st rh2 k => by
  rw [← hK]
  obtain ⟨vs, h1, h2⟩ := h ρ2 H2 G2 st rh2 k
  have hl := h2.length
  have ll : (xs.zipIdx.map fun p => D.tup [.int p.2, p.1]).length = xs.length := by rw [List.length_map, List.length_zipIdx]
  rw [ll]
  refine ⟨fun hi => ⟨vs, vs[i]'(by omega), h1, by simp⟩, fun hi => ⟨vs, h1, by omega⟩, fun u H3 d e y => ?_⟩
  obtain ⟨T, x, rfl, hT, rfl, y⟩ := y
  rw [List.getElem?_map, List.getElem?_zipIdx] at e
  cases q : xs[i]? with
  | none => rw [q] at e; cases e
  | some z =>
    rw [q] at e
    have e' := Option.some.inj e
    subst e'
    have st3 : Stp ρ2 H2 ρ2 (upd H2 T (.tup [.int (i : Nat), x])) := Stp.alloc rh2 hT
    refine ⟨st3, rh2.alloc hT, .tup (.of upd_same) (.cons ?_ (.cons (st3.rd rh2 (h2.at q (y vs h1))) .nil))⟩
    rw [Nat.zero_add]
    exact .int _
theorem walk_enumT (rh : RH c.toSC ρ H G) {xs : List D} {lk : List D} {a : Addr} (hK : c.K = Y.K)
    (h : ∀ ρ2 H2 G2, Stp ρ H ρ2 H2 → RH c.toSC ρ2 H2 G2 → (∀ n, D.ref n ∈ lk → (G[n]?).isSome = true → lsv (.ref n) G2 = lsv (.ref n) G) → ∃ vs, SqT c.K H2 a vs ∧ RDs c.K ρ2 H2 xs vs) :
    WalkOk c (xs.zipIdx.map fun p => .tup [.int p.2, p.1]) lk G ρ H (IteT Y.K a) := fun i ρ2 H2 G2 st rh2 k => by
  rw [← hK]
  obtain ⟨vs, h1, h2⟩ := h ρ2 H2 G2 st rh2 k
  have hl := h2.length
  have ll : (xs.zipIdx.map fun p => D.tup [.int p.2, p.1]).length = xs.length := by rw [List.length_map, List.length_zipIdx]
  rw [ll]
  refine ⟨fun hi => ⟨vs, vs[i]'(by omega), h1, by simp⟩, fun hi => ⟨vs, h1, by omega⟩, fun u H3 d e y => ?_⟩
  obtain ⟨T, x, rfl, hT, rfl, y⟩ := y
  rw [List.getElem?_map, List.getElem?_zipIdx] at e
  cases q : xs[i]? with
  | none => rw [q] at e; cases e
  | some z =>
    rw [q] at e
    have e' := Option.some.inj e
    subst e'
    have st3 : Stp ρ2 H2 ρ2 (upd H2 T (.tup [.int (i : Nat), x])) := Stp.alloc rh2 hT
    refine ⟨st3, rh2.alloc hT, .tup (.of upd_same) (.cons ?_ (.cons (st3.rd rh2 (h2.at q (y vs h1))) .nil))⟩
    rw [Nat.zero_add]
    exact .int _
theorem walk_enum (rh : RH c.toSC ρ H G) {d : D} {v : V} {xs : List D} (hK : c.K = Y.K) (rv : RV c.toSC ρ H d v) (e : seqv d G = some xs) : ∃ a, v = .ref a ∧
    (((∃ vs, SqL Y.K H a vs) ∧ WalkOk c (xs.zipIdx.map fun p => .tup [.int p.2, p.1]) (lkOf d) G ρ H (Ite Y.K a)) ∨ ((∃ vs, SqT Y.K H a vs) ∧ WalkOk c (xs.zipIdx.map fun p => .tup [.int p.2, p.1]) (lkOf d) G ρ H (IteT Y.K a))) := by
  obtain ⟨a, rfl, h⟩ := seq_later rh rv e
  refine ⟨a, rfl, ?_⟩
  rcases h with h | h
  · refine .inl ⟨?_, walk_enumL rh hK h⟩
    obtain ⟨vs, h1, _⟩ := h ρ H G (.refl _ _) rh (fun _ _ _ => rfl)
    exact ⟨vs, by rw [← hK]; exact h1⟩
  · refine .inr ⟨?_, walk_enumT rh hK h⟩
    obtain ⟨vs, h1, _⟩ := h ρ H G (.refl _ _) rh (fun _ _ _ => rfl)
    exact ⟨vs, by rw [← hK]; exact h1⟩
theorem seq_laterK (rh : RH c.toSC ρ H G) {d : D} {v : V} {xs : List D} (rv : RV c.toSC ρ H d v) (e : seqv d G = some xs) : ∃ a q, v = .ref a ∧
    ∀ ρ2 H2 G2, Stp ρ H ρ2 H2 → RH c.toSC ρ2 H2 G2 → (∀ n, D.ref n ∈ lkOf d → (G[n]?).isSome = true → lsv (.ref n) G2 = lsv (.ref n) G) → ∃ vs, SqK q c.K H2 a vs ∧ RDs c.K ρ2 H2 xs vs := by
  obtain ⟨a, rfl, h⟩ := seq_later rh rv e
  rcases h with h | h
  · exact ⟨a, .l, rfl, h⟩
  · exact ⟨a, .t, rfl, h⟩
theorem walk_zip (rh : RH c.toSC ρ H G) {d d' : D} {v v' : V} {xs ys : List D} (hK : c.K = Y.K) (rv : RV c.toSC ρ H d v) (rv' : RV c.toSC ρ H d' v') (e : seqv d G = some xs) (e' : seqv d' G = some ys) : ∃ a b q1 q2, v = .ref a ∧ v' = .ref b ∧
    (∃ vs, SqK q1 Y.K H a vs) ∧ (∃ vs, SqK q2 Y.K H b vs) ∧ WalkOk c ((xs.zip ys).map fun p => .tup [p.1, p.2]) (lkOf d ++ lkOf d') G ρ H (ItzK q1 q2 Y.K a b) := by
  obtain ⟨a, q1, rfl, h⟩ := seq_laterK rh rv e
  obtain ⟨b, q2, rfl, h'⟩ := seq_laterK rh rv' e'
  rw [← hK]
  refine ⟨a, b, q1, q2, rfl, rfl, ?_, ?_, fun i ρ2 H2 G2 st rh2 k => ?_⟩
  · obtain ⟨vs, h1, _⟩ := h ρ H G (.refl _ _) rh (fun _ _ _ => rfl)
    exact ⟨vs, h1⟩
  · obtain ⟨vs, h1, _⟩ := h' ρ H G (.refl _ _) rh (fun _ _ _ => rfl)
    exact ⟨vs, h1⟩
  · obtain ⟨vs, h1, h2⟩ := h ρ2 H2 G2 st rh2 fun n hn => k n (List.mem_append_left _ hn)
    obtain ⟨us, h3, h4⟩ := h' ρ2 H2 G2 st rh2 fun n hn => k n (List.mem_append_right _ hn)
    have hl := h2.length
    have hl' := h4.length
    have ll : ((xs.zip ys).map fun p => D.tup [p.1, p.2]).length = min xs.length ys.length := by rw [List.length_map, List.length_zip]
    rw [ll]
    refine ⟨fun hi => ⟨vs, us, vs[i]'(by omega), us[i]'(by omega), h1, h3, by simp, by simp⟩, fun hi => ⟨vs, us, h1, h3, by omega⟩, fun u H3 w e1 y => ?_⟩
    obtain ⟨T, x, x', rfl, hT, rfl, y1, y2⟩ := y
    have y1 := y1 vs h1
    have y2 := y2 us h3
    obtain ⟨p, hp, rfl⟩ := List.getElem?_map .. ▸ e1 |> Option.map_eq_some_iff.mp
    obtain ⟨p1, p2⟩ := p
    obtain ⟨z1, z2⟩ := List.getElem?_zip_eq_some.mp hp
    have st3 : Stp ρ2 H2 ρ2 (L2.upd H2 T (.tup [x, x'])) := Stp.alloc rh2 hT
    exact ⟨st3, rh2.alloc hT, .tup (.of upd_same) (.cons (st3.rd rh2 (h2.at z1 y1)) (.cons (st3.rd rh2 (h4.at z2 y2)) .nil))⟩
end
end Ev
set_option Elab.async false
set_option linter.all false
set_option maxRecDepth 100000
set_option maxHeartbeats 4000000
/-! EvK: a comprehension's turns. -/
namespace Ev
open PySem PySem.Spec PyProof.Rows L2
variable {c : SX} {P : Pr} {C : Ev.Cl} {W : XK} {ρ ρ' ρ1 : List Addr} {H H' H1 : Hp} {G G' G1 : GH}
theorem Stp.free {D : Addr} {o : HO} (x : Stp ρ H ρ' H') (n : H D = none) (m : D ∉ ρ') : Stp ρ H ρ' (L2.upd H' D o) :=
  ⟨x.pre, fun a u e n1 n2 => by rw [upd_ne (ne_of_none e n)]; exact x.old a u e n1 n2, x.new, fun a z => by
    by_cases e : a = D
    · rw [e]; exact .of n
    · exact x.dom a fun u q => z u (by rw [upd_ne e]; exact q)⟩
theorem RDs.other {K : PySem.W.Frag} {D : Addr} {xs : List V} {o1 : HO} (e : H D = some (.lst xs)) {ds : List Ev.D} {vs : List V} (r : RDs K ρ H ds vs) : RDs K ρ (L2.upd H D o1) ds vs :=
  RDs.mono ⟨[], by simp⟩ (fun a us q => by rw [upd_ne (fun z => by rw [z, e] at q; cases q)]; exact q) (fun a us o q => by rw [upd_ne (fun z => by rw [z, e] at q; cases q)]; exact q) (fun a us o q => by rw [upd_ne (fun z => by rw [z, e] at q; cases q)]; exact q) ds vs r
theorem RD.other {K : PySem.W.Frag} {D : Addr} {xs : List V} {o1 : HO} (e : H D = some (.lst xs)) {d : Ev.D} {v : V} (r : RD K ρ H d v) : RD K ρ (L2.upd H D o1) d v := by
  have q := RDs.other (o1 := o1) e (.cons r .nil)
  cases q with
  | cons q _ => exact q
theorem RH.other {D : Addr} {xs : List V} {o1 : HO} (h : RH c.toSC ρ H G) (e : H D = some (.lst xs)) (m : D ∉ ρ) : RH c.toSC ρ (L2.upd H D o1) G := by
  have keep : ∀ a u, H a = some u → a ≠ D → L2.upd H D o1 a = some u := fun a u q n => by rw [upd_ne n]; exact q
  have ne : ∀ a, a ∈ ρ → a ≠ D := fun a ha z => m (z ▸ ha)
  refine ⟨h.len, h.nd, fun n a o e1 e2 => ?_, ?_⟩
  · have q := h.ob n a o e1 e2
    have na := ne a (List.mem_of_getElem? e1)
    cases o with
    | lst ds => obtain ⟨us, z, r⟩ := q; exact ⟨us, keep _ _ z na, r.other e⟩
    | llk ds => obtain ⟨us, z, r⟩ := q; exact ⟨us, keep _ _ z na, r.other e⟩
    | dct _ => exact q.elim
    | dlk _ => exact q.elim
    | inst _ _ => exact q.elim
  · intro p hp
    obtain ⟨ps, h1, h2, h3⟩ := h.tb p hp
    have nd : ∀ a u, H a = some u → (∀ zs, u ≠ .lst zs) → a ≠ D := fun a u q k z => by
      rw [z, e] at q
      exact k xs (Option.some.inj q).symm
    refine ⟨ps, keep _ _ h1 (nd _ _ h1 fun _ z => by cases z), h2, fun pos cv hc => ?_⟩
    obtain ⟨cc, e1, e2⟩ := h3 pos cv hc
    exact ⟨cc, e1, keep _ _ e2 (nd _ _ e2 fun _ z => by unfold LamX.CodeO at z; cases z)⟩
theorem lock_lsv (rh : RH c.toSC ρ1 H1 G1) {lk : List Ev.D} {G2 : GH} (x : Ext (lock lk G1) G2) : (∀ n, Ev.D.ref n ∈ lk → (G1[n]?).isSome = true → lsv (.ref n) G2 = lsv (.ref n) G1) ∧
    ∀ n o, Ev.D.ref n ∈ lk → G1[n]? = some o → ∃ u, G2[n]? = some u ∧ (u = o ∨ u = lock1 o) := by
  have key : ∀ n o, Ev.D.ref n ∈ lk → G1[n]? = some o → G2[n]? = some (lock1 o) := fun n o hm e => by
    obtain ⟨u, e2, rfl⟩ := lock_is lk hm e
    refine x.2 n _ e2 ?_
    have hr : n < ρ1.length := by rw [rh.len]; exact (List.getElem?_eq_some_iff.mp e).1
    have q := rh.ob n ρ1[n] o (List.getElem?_eq_getElem hr) e
    cases o with
    | inst _ _ => exact q.elim
    | _ => rfl
  refine ⟨fun n hm hs => ?_, fun n o hm e => ⟨_, key n o hm e, .inr rfl⟩⟩
  obtain ⟨o, e⟩ := Option.isSome_iff_exists.mp hs
  have k := key n o hm e
  unfold lsv
  simp only [e, k]
  cases o <;> rfl
theorem PX.okI {Z : D → GH → List Addr → Hp → Prop} {r : R D} {d : D} (e : r = .ok d G') (k : ∀ ρ' H', Stp ρ H ρ' H' → RH c.toSC ρ' H' G' → Z d G' ρ' H') : PX c W ρ H r Z := by subst e; exact k
/-- one turn's function -/
def turnF (P : Pr) (C : Ev.Cl) (e tg cond : X) (own : List Nat) (b : Nat) (σ : Sg) : D → GH → R (Option D) := fun d S2 => match bindT tg d (wipeS σ own) with
  | some σ' => (ev P C cond b σ' S2).bind fun k S3 => match truth k S3 with
    | some true => (ev P C e b σ' S3).bind fun v S4 => (fix v S4).bind fun v' S5 => .ok (some v') S5
    | some false => .ok none S3
    | none => .bad
  | none => .bad
theorem bind_ok {α β : Type} {r : R α} {f : α → GH → R β} {x : β} {S : GH} (h : r.bind f = .ok x S) : ∃ a S', r = .ok a S' ∧ f a S' = .ok x S := by
  cases r with
  | ok a S' => exact ⟨a, S', rfl, h⟩
  | exc c d S' => cases h
  | bad => cases h
def consO (o : Option D) (r : List D) : List D := match o with
  | some v => v :: r
  | none => r
abbrev noX : XK := fun _ _ _ => False
/-- the turn with its test -/
def tYesOr (cond : X) (b : Bool) (c : SX) (P : Pr) (C : Ev.Cl) (W : XK) : TT := if b then tYes else tT c P C W cond
/-- what was got so far, ahead of the rest -/
def preR (acc : List D) (r : R (List D)) : R (List D) := match r with
  | .ok r S => .ok (acc ++ r) S
  | .exc c d S => .exc c d S
  | .bad => .bad
theorem bind_assoc {α β γ : Type} (r : R α) (f : α → GH → R β) (g : β → GH → R γ) : (r.bind f).bind g = r.bind fun a S => (f a S).bind g := by cases r <;> rfl
theorem preR_keep (acc : List D) (v : D) (r : R (List D)) : preR acc (r.bind fun r S2 => .ok (v :: r) S2) = preR (acc ++ [v]) r := by
  cases r with
  | ok r S => show R.ok (acc ++ v :: r) S = R.ok (acc ++ [v] ++ r) S; rw [List.append_assoc]; rfl
  | exc c d S => rfl
  | bad => rfl
theorem preR_none (acc : List D) (r : R (List D)) : preR acc (r.bind fun r S2 => .ok r S2) = preR acc r := by cases r <;> rfl
theorem PX.unl {K : D → GH → R (List D)} {lk : List D} {U : D → GH → List Addr → Hp → Prop} {acc : List D} {r : R D} {Z : D → GH → List Addr → Hp → Prop} {ρ0 : List Addr} {H0 : Hp} {G0 G2 : GH} (rh1 : RH c.toSC ρ0 H0 G0) (x : Ext (lock lk G0) G2) (g : Gd 0 G2 r) (st0 : Stp ρ0 H0 ρ H) (h : PX c W ρ0 H0 (unlR (unlock lk G0) (preR acc (r.bind K))) U)
    (k : ∀ d G' ρ' H', r = .ok d G' → Stp ρ H ρ' H' → RH c.toSC ρ' H' G' → PX c W ρ0 H0 (unlR (unlock lk G0) (preR acc (K d G'))) U → Z d G' ρ' H') : PX c W ρ H r Z := by
  cases r with
  | ok d S => exact fun ρ' H' st rh => k d S ρ' H' rfl st rh h
  | exc k d S => exact fun ρ' H' dx v st rh rd hx => h ρ' H' dx v (st0.trans st) (rh.unlock lk (lock_lsv rh1 (x.trans g.1)).2) rd hx
  | bad => exact h
theorem comp_run (hC : GC C) {e tg cond : X} {own : List Nat} {b : Nat} {σ : Sg} {σV : L2.St} {items lk : List D} {J : It} {Q : VK} (yes : Bool) (hy : yes = true → cond = .cbl true)
    (ho : ∀ i, i ∈ slotsT tg → i ∈ own) (lb : b ≤ G1.length) (hn : items.length ≤ lim)
    (rh : RH c.toSC ρ1 H1 G1) (sl : slR c ρ1 H1 σ σV) (wk : WalkOk c items lk G1 ρ1 H1 J) (hr : PX c W ρ1 H1 (unlR (unlock lk G1) (compLoop (turnF P C e tg cond own b σ) items (lock lk G1))) (zV c H1 Q)) :
    ∀ D, H1 D = none → ∃ Wm : Nat → Nat → Hp → Prop, (∃ m, Wm 0 m (upd H1 D (.lst []))) ∧ ∀ i m Hc, Wm i m Hc →
      (J.stop i Hc ∧ Q (.ref D) Hc) ∨ (J.go i Hc ∧ ∃ Nx : Hp → Prop, (∀ H', Nx H' → ∃ m', m' < m ∧ Wm (i + 1) m' H') ∧ ∀ x H', J.yld i Hc x H' → gX c tg x (wipe σV own) H' fun σ2 H2 => wipe σ2 own = wipe σV own ∧ tYesOr cond yes c P C W σ2 H2 fun t H3 =>
        if t = true then tE c P C W e σ2 H3 fun y H4 => ∃ acc, H4 D = some (.lst acc) ∧ acc.length < sizeLine ∧ Nx (upd H4 D (.lst (acc ++ [y]))) else Nx H3) := by
  intro D hD
  have ll := (lock_gd (b := 0) lk (S := G1) (fun n o hn => absurd hn (Nat.not_lt_zero n))).2
  let Wm : Nat → Nat → Hp → Prop := fun i m Hc => m = items.length - i ∧ i ≤ items.length ∧ ∃ ρ2 G2 accV accD, Stp ρ1 H1 ρ2 Hc ∧ RH c.toSC ρ2 Hc G2 ∧ Ext (lock lk G1) G2 ∧ Hc D = some (.lst accV) ∧ D ∉ ρ2 ∧ RDs c.K ρ2 Hc accD accV ∧ accD.length ≤ i ∧
    PX c W ρ1 H1 (unlR (unlock lk G1) (preR accD (compLoop (turnF P C e tg cond own b σ) (items.drop i) G2))) (zV c H1 Q)
  have h0 : PX c W ρ1 H1 (unlR (unlock lk G1) (preR [] (compLoop (turnF P C e tg cond own b σ) items (lock lk G1)))) (zV c H1 Q) := by
    cases q : compLoop (turnF P C e tg cond own b σ) items (lock lk G1) <;> (rw [q] at hr; exact hr)
  have st0 : Stp ρ1 H1 ρ1 (upd H1 D (.lst [])) := (Stp.refl _ _).free hD (rh.fresh hD)
  refine ⟨Wm, ⟨items.length, by simp, Nat.zero_le _, ρ1, lock lk G1, [], [], st0, (RH.lock lk rh).alloc hD, .refl _, upd_same, rh.fresh hD, .nil, Nat.le_refl _, h0⟩, ?_⟩
  rintro i m Hc ⟨rfl, hi, ρ2, G2, accV, accD, st, rh2, ex, hDc, nD, racc, lacc, hrun⟩
  obtain ⟨lk1, lk2⟩ := lock_lsv rh ex
  obtain ⟨w1, w2, w3⟩ := wk i ρ2 Hc G2 st rh2 lk1
  by_cases hlt : i < items.length
  · refine .inr ⟨w1 hlt, Wm (i + 1) (items.length - (i + 1)), fun H' p => ⟨_, by omega, p⟩, fun x H2 y => ?_⟩
    have hd : items.drop i = items[i] :: items.drop (i + 1) := List.drop_eq_getElem_cons hlt
    obtain ⟨st2, rh3, rx⟩ := w3 x H2 items[i] (List.getElem?_eq_getElem hlt) y
    rw [hd] at hrun
    unfold compLoop turnF at hrun
    cases hb : bindT tg items[i] (wipeS σ own) with
    | none => rw [hb] at hrun; exact hrun.elim
    | some σ' =>
      rw [hb] at hrun
      dsimp only at hrun
      rw [bind_assoc] at hrun
      have sl2 : slR c ρ2 H2 (wipeS σ own) (wipe σV own) := ((st.trans st2).sl rh sl).wipe own
      refine ⟨ρ2, G2, wipeS σ own, items[i], σ', rh3, sl2, rx, hb, fun σV' sl' kp => ⟨?_, ?_⟩⟩
      · refine wipe_same (by rw [kp.1, wipe_length]) fun j hj => kp.2 j fun z => hj (ho j z)
      have lb2 : b ≤ G2.length := by have := ex.1; omega
      have A : At c b ρ2 G2 σ' σV' H2 := ⟨rh3, sl', lb2⟩
      have gd0 : ∀ (x : X) (G : GH), b ≤ G.length → Gd 0 G (ev P C x b σ' G) := fun x G hl => gd_ev (P := P) hC x b σ' G 0 (Nat.zero_le _) hl (fun n o hn => absurd hn (Nat.not_lt_zero n))
      -- the list under way stays
      have stays : ∀ {ρ3 : List Addr} {H3 : Hp}, Stp ρ2 H2 ρ3 H3 → H3 D = some (.lst accV) ∧ D ∉ ρ3 := fun {ρ3 H3} st3 => by
        have z := st2.trans st3
        refine ⟨z.old D _ hDc nD (fun _ q => by cases q), fun hm => ?_⟩
        rcases z.new D hm with q | q
        · exact nD q
        · exact q.no hDc (fun _ w => by cases w)
      have fin : ∀ (k : Ev.D) (G3' : GH) (ρ3 : List Addr) (H3 : Hp), Ext G2 G3' → Stp ρ2 H2 ρ3 H3 → RH c.toSC ρ3 H3 G3' → slR c ρ3 H3 σ' σV' →
          PX c W ρ1 H1 (unlR (unlock lk G1) (preR accD (((match truth k G3' with
            | some true => (ev P C e b σ' G3').bind fun v S4 => (fix v S4).bind fun v' S5 => .ok (some v') S5
            | some false => .ok none G3'
            | none => .bad : R (Option Ev.D))).bind fun o S1 => (compLoop (turnF P C e tg cond own b σ) (items.drop (i + 1)) S1).bind fun r S2 => .ok (match o with | some v => v :: r | none => r) S2))) (zV c H1 Q) →
          ∃ t, truth k G3' = some t ∧ (if t = true then tE c P C W e σV' H3 (fun y H4 => ∃ acc, H4 D = some (.lst acc) ∧ acc.length < sizeLine ∧ Wm (i + 1) (items.length - (i + 1)) (upd H4 D (.lst (acc ++ [y])))) else Wm (i + 1) (items.length - (i + 1)) H3) := by
        intro k G3' ρ3 H3 exc st3 rh4 sl4 hf
        cases ht : truth k G3' with
        | none => rw [ht] at hf; exact hf.elim
        | some t =>
          rw [ht] at hf
          refine ⟨t, rfl, ?_⟩
          cases t with
          | false =>
            have hf' : PX c W ρ1 H1 (unlR (unlock lk G1) (preR accD ((compLoop (turnF P C e tg cond own b σ) (items.drop (i + 1)) G3').bind fun r S2 => .ok r S2))) (zV c H1 Q) := hf
            rw [preR_none] at hf'
            rw [if_neg (by decide)]
            obtain ⟨s1, s2⟩ := stays st3
            exact ⟨rfl, hlt, ρ3, G3', accV, accD, (st.trans st2).trans st3, rh4, ex.trans exc, s1, s2, (st2.trans st3).rds rh2 racc, by omega, hf'⟩
          | true =>
            rw [if_pos rfl]
            dsimp only at hf
            rw [bind_assoc] at hf
            have lb3 : b ≤ G3'.length := Nat.le_trans lb2 exc.1
            refine ⟨b, ρ3, G3', σ', ⟨rh4, sl4, lb3⟩, PX.unl rh (ex.trans exc) (gd0 e G3' lb3) ((st.trans st2).trans st3) hf fun v G4 ρ4 H4 he1 st4 rh5 q4 yv rv fr => ?_⟩
            have exe : Ext G3' G4 := len_ev hC lb3 he1
            obtain ⟨ρ5, v', G5, hfx, st5, rh6, rd5, _, exf⟩ := fix_at st4 rh5 rv fr
            rw [hfx] at q4
            have q4 : PX c W ρ1 H1 (unlR (unlock lk G1) (preR accD ((compLoop (turnF P C e tg cond own b σ) (items.drop (i + 1)) G5).bind fun r S2 => .ok (v' :: r) S2))) (zV c H1 Q) := q4
            rw [preR_keep] at q4
            have st35 := st3.trans st5
            obtain ⟨s1, s2⟩ := stays st35
            have rac5 := (st2.trans st35).rds rh2 racc
            have la := racc.length
            refine ⟨accV, s1, ?_, rfl, hlt, ρ5, G5, accV ++ [yv], accD ++ [v'], ?_, rh6.other s1 s2, ((ex.trans exc).trans exe).trans exf, upd_same, s2, (rac5.append (.cons rd5 .nil)).other s1, by rw [List.length_append]; simp; omega, q4⟩
            · rw [sizeLine_eq]; show _ < lim; omega
            · exact (((st.trans st2).trans st35)).free hD s2
      unfold tYesOr
      cases yes with
      | true =>
        rw [if_pos rfl]
        have hcond := hy rfl
        subst hcond
        obtain ⟨t, ht, z⟩ := fin (.bl true) G2 ρ2 H2 (.refl _) (.refl _ _) rh3 sl' hrun
        have ht : some true = some t := ht
        cases ht
        exact z
      | false =>
        rw [if_neg (by decide)]
        exact ⟨b, ρ2, G2, σ', A, PX.unl rh ex (gd0 cond G2 lb2) (st.trans st2) hrun fun k G3' ρ3 H3 hc1 st3 rh4 q3 => fin k G3' ρ3 H3 (len_ev hC lb2 hc1) st3 rh4 (st3.sl rh3 sl') q3⟩
  · have ei : i = items.length := by omega
    subst ei
    rw [List.drop_length] at hrun
    have hrun : PX c W ρ1 H1 (.ok (.tl (accD ++ [])) (unlock lk G1 G2)) (zV c H1 Q) := hrun
    rw [List.append_nil] at hrun
    exact .inl ⟨w2 (Nat.le_refl _), hrun ρ2 Hc st (rh2.unlock lk lk2) (.ref D) ⟨D, accV, rfl, hDc, nD, racc⟩ (fun _ b e => by cases e; exact .of hD)⟩
end Ev
set_option Elab.async false
set_option linter.all false
set_option maxRecDepth 100000
set_option maxHeartbeats 4000000
/-! EvR: t[::-1] of a tuple, of anything. -/
namespace Ev
open PySem PySem.Spec PyProof.Rows L2 HT
section
variable {prog : Program} {w : World} {A : Around} {E : Value → Shared → Prop} {s : Shared}
theorem fm_congr {α β : Type} {f g : α → Option β} : ∀ {l : List α}, (∀ m ∈ l, f m = g m) → l.filterMap f = l.filterMap g
  | [], _ => rfl
  | a :: l, h => by
    rw [List.filterMap_cons, List.filterMap_cons, h a List.mem_cons_self, fm_congr fun m hm => h m (List.mem_cons_of_mem _ hm)]
theorem rev_adjust (n : Nat) : Builtin.Slice.sliceAdjust none none (-1) (n : Int) = ((n : Int) - 1, -1) := rfl
theorem rev_places (n : Nat) : Builtin.Slice.slicePlaces ((n : Int) - 1) (-1) (-1) = n := by
  have h1 : ¬ ((-1 : Int) > 0) := by decide
  unfold Builtin.Slice.slicePlaces
  rw [if_neg h1, show (- -1 : Int) = 1 by decide, Int.ediv_one]
  split <;> omega
theorem rev_pick (xs : Array Value) : ((List.range xs.size).filterMap fun (m : Nat) => xs[((xs.size : Int) - 1 + (m : Int) * -1).toNat]?).toArray = xs.toList.reverse.toArray := by
  have e : ((List.range xs.size).filterMap fun (m : Nat) => xs[((xs.size : Int) - 1 + (m : Int) * -1).toNat]?) = xs.toList.reverse := by
    have k := PySem.W.krv_pick xs
    unfold slicePick at k
    have hb : sliceBounds none none (some (-1)) xs.size = ((xs.size : Int) - 1, -1, -1) := by
      unfold sliceBounds
      simp
    rw [hb] at k
    have k2 := congrArg Array.toList k
    simp only [PySem.W.krv_sliceRange, List.toList_toArray] at k2
    rw [List.filterMap_map] at k2
    rw [← k2]
    refine fm_congr fun m hm => ?_
    have hm := List.mem_range.mp hm
    have e2 : ((xs.size : Int) - 1 + (m : Int) * -1).toNat = xs.size - 1 - m := by omega
    rw [e2]; rfl
  rw [e]
theorem rev_applied {sl : Addr} {vl vu vs : Value} {n : Nat} {Q : Int × Int × Nat → Shared → Prop} (hs : s.heap.IsSliceOf sl vl vu vs) (pl : IsPart vl none) (pu : IsPart vu none) (ps : IsPart vs (some (-1)))
    (h : Q ((n : Int) - 1, -1, n) s) : wpAny (model prog w) A (Builtin.Slice.sliceApplied (.ref sl) (pure (n : Int))) Q E s := by
  obtain ⟨os, a1, a2, a3⟩ := hs
  unfold Builtin.Slice.sliceApplied
  refine wpAny_bind (m := Builtin.Slice.sliceFields _) ?_
  unfold Builtin.Slice.sliceFields
  refine wpAny_bind (wpAny_field a1 a3 (x := vl) rfl ?_)
  refine wpAny_bind (wpAny_field a1 a3 (x := vu) rfl ?_)
  refine wpAny_bind (wpAny_field a1 a3 (x := vs) rfl (wpAny_pure ?_))
  refine wpAny_bind (slicePart_ ps ?_)
  show wpAny _ _ (if (((-1 : Int)) == 0) = true then _ else _) _ _ s
  rw [if_neg (show ¬ (((-1 : Int) == 0) = true) by decide)]
  refine wpAny_bind (slicePart_ pl (wpAny_bind (slicePart_ pu ?_)))
  refine wpAny_bind (wpAny_pure ?_)
  show wpAny _ _ (pure ((n : Int) - 1, (-1 : Int), Builtin.Slice.slicePlaces ((n : Int) - 1) (-1) (-1))) _ _ s
  rw [rev_places]
  exact wpAny_pure h
theorem tuple_rev {t sl : Addr} {items : Array Value} {vl vu vs : Value} {Q : Value → Shared → Prop} (ht : IsTup s.heap t items) (hs : s.heap.IsSliceOf sl vl vu vs) (pl : IsPart vl none) (pu : IsPart vu none) (ps : IsPart vs (some (-1)))
    (hz : items.size ≤ sizeLine) (h : Q (.ref s.heap.objs.size) { s with heap := s.heap.push { cls := .type "tuple", data := .seq items.toList.reverse.toArray } }) : wpAny (model prog w) A (getItem (.ref t) (.ref sl)) Q E s := by
  have hz2 : sizeOk (.seq items.toList.reverse.toArray) := by
    show items.toList.reverse.toArray.size ≤ sizeLine
    rw [List.size_toArray, List.length_reverse, Array.length_toList]; exact hz
  obtain ⟨os, a1, a2, a3⟩ := id hs
  have tys : s.TypeIs (.ref sl) "slice" := ⟨os, a1, a2⟩
  unfold getItem
  first
    | refine wpAny_bind (wpAny_sequenceKey ht.typeIs (by decide) ?_)
    | refine wpAny_holding (wpAny_bind (wpAny_sequenceKey ht.typeIs (by decide) ?_))
  refine wpAny_bind (wpAny_callSpecial?_slot (name := Str.ofString "__getitem__") ht.typeIs PyProof.Rows.slot_tuple_getitem (wpAny_call_entry PyProof.Rows.slot_tuple_getitem ht.typeIs entry_tuple_getitem ?_ (args_tuple_getitem _ _)))
  show wpAny _ _ (Builtin.Tuple.tupleItemsOf (.ref t) >>= fun _ => _) _ _ s
  refine wpAny_bind (tupleItemsOf_ ht (wpAny_bind (wpAny_typeOf tys ?_)))
  rw [if_pos (show ((Value.type "slice" == Value.type "slice") = true) by decide)]
  refine wpAny_bind (rev_applied hs pl pu ps ?_)
  have no : ¬ (((items.size : Int) - 1 == 0 && (-1 : Int) == 1 && items.size == items.size) = true) := by simp
  show wpAny _ _ (if ((items.size : Int) - 1 == 0 && (-1 : Int) == 1 && items.size == items.size) = true then _ else _) _ _ s
  rw [if_neg no, rev_pick]
  first
    | exact wpAny_bind (m := Builtin.Tuple.tupleExact _) (wpAny_newObj_type (wpAny_pure ⟨_, rfl, wpAny_pure h⟩) hz2)
    | exact wpAny_bind (m := Builtin.Tuple.tupleExact _) (wpAny_newObj_type (wpAny_bind (wpAny_pure (wpAny_pure ⟨_, rfl, wpAny_pure h⟩))) hz2)
    | exact wpAny_bind (wpAny_bind (m := Builtin.Tuple.tupleExact _) (wpAny_newObj_type (wpAny_pure (wpAny_pure ⟨_, rfl, wpAny_pure h⟩)) hz2))
    | exact wpAny_bind (wpAny_bind (m := Builtin.Tuple.tupleExact _) (wpAny_newObj_type (wpAny_pure ⟨_, rfl, wpAny_pure h⟩) hz2))
end
section
variable {Y : Cx}
def tRevA (K : PySem.W.Frag) (te : TE) : TE := fun σ H Q => te σ H fun x H1 => ∃ a xs, x = .ref a ∧ ((SqL K H1 a xs ∧ ∀ p, H1 p = none → Q (.ref p) (upd H1 p (.lst xs.reverse))) ∨ (SqT K H1 a xs ∧ ∀ p, H1 p = none → Q (.ref p) (upd H1 p (.tup xs.reverse))))
theorem pe_revA {e : Expr} {te : TE} {k : Nat} {p1 p2 p3 pos : Pos} (he : PE Y e te) : PE Y (.Subscript e (.Slice none none (some (.UnaryOp .USub (.Constant (.int 1) k p1) p2)) p3) pos) (tRevA Y.K te) := by
  refine ⟨fun pins s σ H Q I h => Subscript_ (thn (he.run pins s σ H _ I h) fun v s1 w => ?_)⟩
  obtain ⟨x, H1, I1, r1, a, xs, rfl, q⟩ := w
  cases r1
  have hst : PO Y (some (.UnaryOp .USub (.Constant (.int 1) k p1) p2)) (tPart (tUn (rU fun i => .int (-i)) (tC (.int 1)))) := po_some (pe_un un_neg pe_int)
  refine wpAny_Slice (thn (po_none.run pins s1 σ H1 (fun o Hx => o = none ∧ Hx = H1) I1 ⟨rfl, rfl⟩) fun vl s2 w2 => ?_)
  obtain ⟨l, H2, I2, pl, rfl, rfl⟩ := w2
  refine thn (po_none.run pins s2 σ _ (fun o Hx => o = none ∧ Hx = H2) I2 ⟨rfl, rfl⟩) fun vu s3 w3 => ?_
  obtain ⟨u, H3, I3, pu, rfl, rfl⟩ := w3
  refine thn (hst.run pins s3 σ _ (fun o Hx => o = some (-1) ∧ Hx = H3) I3 ⟨1, rfl, -1, rfl, rfl, rfl⟩) fun vs s4 w4 => ?_
  obtain ⟨o, H4, I4, ps, rfl, rfl⟩ := w4
  have I5 : Inv Y pins σ H4 { s4 with heap := s4.heap.push { cls := .type "slice", data := .fields #[vl, vu, vs] } } := I4.kept (t' := s4.toks) fun b ob z => Heap.get?_push_of_some _ z
  show wpAny (model Y.prog Y.w) Y.A (subscriptTail e (.Slice none none (some (.UnaryOp .USub (.Constant (.int 1) k p1) p2)) p3) (.ref a) (.ref s4.heap.objs.size)) (EP Y pins σ Q) Y.xe { s4 with heap := s4.heap.push { cls := .type "slice", data := .fields #[vl, vu, vs] } }
  have hsl := Heap.IsSliceOf.new s4.heap vl vu vs
  rcases q with ⟨hx, q⟩ | ⟨hx, q⟩
  · obtain ⟨its, r, ht, hz⟩ := I5.list hx
    have hl := r.length
    refine tail_any (ops := [.ref a, .ref s4.heap.objs.size]) ht.isList.typeIs PySem.slot_list_getitem.lookup (wpAny_getItem_list_slice ht.isList hsl pl pu ps (by decide) ?_ (by rw [List.size_toArray]; omega)) (by with_unfolding_all rfl)
    rw [PySem.W.krv_pick]
    refine ⟨.ref _, _, I5.laid (t' := s4.toks) (o := .lst xs.reverse) (fun b ob z => Heap.get?_push_of_some _ z) (Nat.le_refl _) ?_, rfl, q _ (I5.hok.fresh (Nat.le_refl _))⟩
    exact ⟨by rw [List.length_reverse]; exact hz, its.reverse, 0, r.reverse, by simp only [List.toList_toArray] <;> exact Heap.get?_push_size _ rfl⟩
  · obtain ⟨its, r, ht, hz⟩ := I5.tuple hx
    have hl := r.length
    refine tail_any (ops := [.ref a, .ref s4.heap.objs.size]) ht.typeIs PyProof.Rows.slot_tuple_getitem.lookup (tuple_rev ht hsl pl pu ps (by rw [List.size_toArray]; omega) ?_) (by with_unfolding_all rfl)
    refine ⟨.ref _, _, I5.laid (t' := s4.toks) (o := .tup xs.reverse) (fun b ob z => Heap.get?_push_of_some _ z) (Nat.le_refl _) ?_, rfl, q _ (I5.hok.fresh (Nat.le_refl _))⟩
    exact ⟨by rw [List.length_reverse]; exact hz, its.reverse, r.reverse, IsTup.new _ _⟩
end
end Ev
set_option Elab.async false
set_option linter.all false
set_option maxRecDepth 100000
set_option maxHeartbeats 8000000
/-! EvL: the check of expressions, what it is good for. -/
namespace Ev
open PySem PySem.Spec PyProof.Rows L2
def m0N : M0 → Str
  | .pop => "pop"
def m1N : M1 → Str
  | .append => "append" | .extend => "extend" | .remove => "remove" | .index => "index" | .popat => "pop"
def isSs : B1 → Bool
  | .sset => true
  | _ => false
def isStrB : B1 → Bool
  | .str => true
  | .sset => true
  | _ => false
def isIxM : M1 → Bool
  | .index => true
  | _ => false
def kwN : Keyword → Option Str
  | ⟨n, _, _⟩ => n
def kwE : Keyword → Expr
  | ⟨_, e, _⟩ => e
def isTupE : Expr → Bool
  | .Tuple _ _ _ => true
  | _ => false
def inBlk (Γ : Gm) (scope : Scope) : Gm := { Γ with sc := relS scope Γ.sc, fnn := some scope }
/-- in a lambda without parameters -/
def inLam (Γ : Gm) (scope : Scope) : Gm := { Γ with sc := scope, fnn := some scope, th := [] }
def noPar : Arguments → Bool
  | ⟨[], [], none, [], [], none, []⟩ => true
  | _ => false
def ownN (Γ : Gm) (own : List Nat) : List (Str × Nat) := own.map fun i => ((Γ.N[i]?).getD default, i)
mutual
def chk (Γ : Gm) : X → Expr → Bool
  | .var i, e => match e with
    | .Name x _ => varB Γ i x
    | _ => false
  | .cint i, e => match e with
    | .Constant (.int j) _ _ => decide (i = j)
    | _ => false
  | .cstr s, e => match e with
    | .Constant (.str x) _ _ => decide (s = x)
    | _ => false
  | .cbl b, e => match e with
    | .Constant (.bool k) _ _ => decide (b = k)
    | _ => false
  | .cnon, e => match e with
    | .Constant .none _ _ => true
    | _ => false
  | .glob k, e => match e with
    | .Name x _ => decide (Γ.cs[k]? = some x) && glB Γ x
    | _ => false
  | .bin op a b, e => match e with
    | .BinOp l o r _ => decide (bOp op = o) && chk Γ a l && chk Γ b r
    | _ => false
  | .neg a, e => match e with
    | .UnaryOp o l _ => decide (o = .USub) && chk Γ a l
    | _ => false
  | .not a, e => match e with
    | .UnaryOp o l _ => decide (o = .Not) && chk Γ a l
    | _ => false
  | .and a b, e => match e with
    | .BoolOp o vs pos => decide (o = .And) && (match vs with
      | e1 :: e2 :: r => chk Γ a e1 && (match r with
        | [] => chk Γ b e2
        | _ => chk Γ b (.BoolOp .And (e2 :: r) pos))
      | _ => false)
    | _ => false
  | .or a b, e => match e with
    | .BoolOp o vs pos => decide (o = .Or) && (match vs with
      | e1 :: e2 :: r => chk Γ a e1 && (match r with
        | [] => chk Γ b e2
        | _ => chk Γ b (.BoolOp .Or (e2 :: r) pos))
      | _ => false)
    | _ => false
  | .cmp op a b, e => match e with
    | .Compare l os rs _ => (match os, rs with
      | [o], [r] => decide (cOp op = o) && notSet r && chk Γ a l && chk Γ b r
      | _, _ => false)
    | _ => false
  | .chain op op' a b d, e => match e with
    | .Compare l os rs _ => (match os, rs with
      | [o, o'], [m, r] => decide (cOp op = o) && decide (cOp op' = o') && notSet r && chk Γ a l && chk Γ b m && chk Γ d r
      | _, _ => false)
    | _ => false
  | .ite t a b, e => match e with
    | .IfExp l m r _ => chk Γ t l && chk Γ a m && chk Γ b r
    | _ => false
  | .tup as, e => match e with
    | .Tuple es _ _ => decide (es.length ≤ 1000) && chkL Γ as es
    | _ => false
  | .lst as, e => match e with
    | .List es _ => decide (es.length ≤ 1000) && chkL Γ as es
    | _ => false
  | .idx a i, e => match e with
    | .Subscript l s _ => notSlice s && chk Γ a l && chk Γ i s
    | _ => false
  | .slc a lo hi, e => match e with
    | .Subscript l s _ => (match s with
      | .Slice l1 l2 l3 _ => (match l3 with
        | none => chk Γ a l && (match l1 with
          | none => isCnon lo
          | some e1 => !isCnon lo && chk Γ lo e1) && (match l2 with
          | none => isCnon hi
          | some e2 => !isCnon hi && chk Γ hi e2)
        | _ => false)
      | _ => false)
    | _ => false
  | .rev a, e => match e with
    | .Subscript l s _ => (match s with
      | .Slice none none (some (.UnaryOp o (.Constant (.int i) _ _) _)) _ => decide (o = .USub) && decide (i = 1) && chk Γ a l
      | _ => false)
    | _ => false
  | .call j as, e => match e with
    | .Call f es kws _ => (match f, kws with
      | .Name x _, [] => decide (Γ.fn[j]? = some x) && glB Γ x && es.all notStar && !es.isEmpty && chkL Γ as es
      | _, _ => false)
    | _ => false
  | .callk j p as, e => match e with
    | .Call f es kws _ => (match f with
      | .Name x _ => decide (Γ.fn[j]? = some x) && glB Γ x && kws.all (fun k => (kwN k).isSome) && decide ((j, kws.filterMap kwN, p) ∈ Γ.kws) && (es.all notStar && decide (es.length + kws.length = p.length)) && chkL Γ as (es ++ kws.map kwE)
      | _ => false)
    | _ => false
  | .lrng as, e => match e with
    | .Call f es kws _ => (match f, es, kws with
      | .Name x _, [.Call (.Name y _) es' [] _], [] => biB Γ x "list" && biB Γ y "range" && es'.all notStar && (es'.length == 1 || es'.length == 2) && chkL Γ as es'
      | _, _, _ => false)
    | _ => false
  | .thunk k a, e => match e with
    | .Call f es kws _ => (match f, es, kws with
      | .Name x _, [.Lambda params body scope _], [] => decide (Γ.th[k]? = some x) && glB Γ x && LamX.lamSB Γ.sc scope && noPar params && chk (inLam Γ scope) a body
      | _, _, _ => false)
    | _ => false
  | .b1 f a, e => match e with
    | .Call g es kws _ => (match g, es, kws with
      | .Name x _, [l], [] => (!isStrB f && biB Γ x (b1N f) && notStar l && chk Γ a l) || (isSs f && (match l with
        | .Call (.Name y _) [l2] [] _ => biB Γ x "sorted" && biB Γ y "set" && notStar l2 && chk Γ a l2
        | _ => false))
      | _, _, _ => false)
    | _ => false
  | .mx a b, e => match e with
    | .Call g es kws _ => (match g, es, kws with
      | .Name x _, [l, r], [] => biB Γ x "max" && notStar l && notStar r && chk Γ a l && chk Γ b r
      | _, _, _ => false)
    | _ => false
  | .mn a b, e => match e with
    | .Call g es kws _ => (match g, es, kws with
      | .Name x _, [l, r], [] => biB Γ x "min" && notStar l && notStar r && chk Γ a l && chk Γ b r
      | _, _, _ => false)
    | _ => false
  | .isi t a, e => match e with
    | .Call g es kws _ => (match g, es, kws with
      | .Name x _, [l, .Name y _], [] => biB Γ x "isinstance" && biB Γ y (tyS t) && notStar l && chk Γ a l
      | _, _, _ => false)
    | _ => false
  | .frz a, e => plainT e && chk Γ a e
  | .scomp j tg a own, x => match x with
    | .SetComp elt gs scope _ => (match elt, gs with
      | .Name nm _, [⟨tg', iter, [], 0⟩] => chk Γ a iter && notSet iter && blkC Γ.N Γ.sc scope (ownN Γ own) && (slotsT tg).all (own.contains ·) && chkG (inBlk Γ scope) tg tg' && varB (inBlk Γ scope) j nm
      | _, _ => false)
    | _ => false
  | .m0 f o, e => match e with
    | .Call g es kws cp => (match g, es, kws with
      | .Attribute l nm ap, [], [] => decide (nm = m0N f) && notCall l && (ap.endLine == cp.line) && chk Γ o l
      | _, _, _ => false)
    | _ => false
  | .m1 f o a, e => match e with
    | .Call g es kws cp => (match g, es, kws with
      | .Attribute l nm ap, [r], [] => decide (nm = m1N f) && !isIxM f && notCall l && (ap.endLine == cp.line) && notStar r && chk Γ o l && chk Γ a r
      | _, _, _ => false)
    | _ => false
  | .comp e tg it cond own, x => match x with
    | .ListComp elt gs scope _ => (match gs with
      | [⟨tg', iter, ifs, 0⟩] => chkI Γ it tg' iter && notSet iter && blkC Γ.N Γ.sc scope (ownN Γ own) && (slotsT tg).all (own.contains ·) && chkG (inBlk Γ scope) tg tg' &&
        (match ifs with
          | [] => (match cond with | .cbl true => true | _ => false)
          | [l] => chk (inBlk Γ scope) cond l
          | _ => false) && chk (inBlk Γ scope) e elt
      | _ => false)
    | _ => false
  | _, _ => false
def chkL (Γ : Gm) : X → List Expr → Bool
  | .nil, es => match es with
    | [] => true
    | _ => false
  | .cons a as, es => match es with
    | e :: es => notStar e && chk Γ a e && chkL Γ as es
    | [] => false
  | _, _ => false
def chkI (Γ : Gm) : X → Expr → Expr → Bool
  | .iseq a, _, e => notSet e && chk Γ a e
  | .ienum a, tg, e => match tg with
    | .Tuple _ _ _ => (match e with
      | .Call (.Name x _) [l] [] _ => biB Γ x "enumerate" && notStar l && chk Γ a l
      | _ => false)
    | _ => false
  | .izip a c, tg, e => match tg with
    | .Tuple _ _ _ => (match e with
      | .Call (.Name x _) [l, r] [] _ => biB Γ x "zip" && notStar l && notStar r && chk Γ a l && chk Γ c r
      | _ => false)
    | _ => false
  | .irng as, _, e => match e with
    | .Call g es kws _ => (match g, kws with
      | .Name x _, [] => biB Γ x "range" && (match es with
        | [l] => notStar l
        | [l, r] => notStar l && notStar r
        | _ => false) && chkL Γ as es
      | _, _ => false)
    | _ => false
  | _, _, _ => false
end
end Ev
set_option Elab.async false
set_option linter.all false
set_option maxRecDepth 100000
set_option maxHeartbeats 8000000
/-! EvM: each form of expression keeps to its reading. -/
namespace Ev
open PySem PySem.Spec PyProof.Rows L2
section
variable {c : SX} {W : XK} {ρ ρ' : List Addr} {H H' H0 : Hp} {G G' : GH} {Q : VK} {d : D} {v : V}
theorem PX.now (h : PX c W ρ H (.ok d G) (zV c H0 Q)) (rh : RH c.toSC ρ H G) (r : RD c.K ρ H d v) : Q v H := h ρ H (.refl _ _) rh v (.of r) (.of r.ntl)
theorem PX.next (h : PX c W ρ H (.ok d G') (zV c H0 Q)) (st : Stp ρ H ρ' H') (rh : RH c.toSC ρ' H' G') (r : RD c.K ρ' H' d v) : Q v H' := h ρ' H' st rh v (.of r) (.of r.ntl)
theorem Fr0.later {ds : List D} {a : Addr} (x : Stp ρ H ρ' H') (n : H' a = none) : Fr0 H (.tl ds) (.ref a) := fun _ b e => by
  cases e
  exact x.dom a (.of n)
end
section
variable {c : SX} {P : Pr} {C : Ev.Cl} {Γ : Gm} {W : XK} {Y : Cx}
abbrev SE (c : SX) (P : Pr) (C : Ev.Cl) (W : XK) (Y : Cx) (x : X) (e : Expr) : Prop := PE Y e (tE c P C W x)
theorem e_var (X : CtxE c P C Γ W Y) {i : Nat} {x : Str} {pos : Pos} (h : varB Γ i x = true) : SE c P C W Y (.var i) (.Name x pos) := by
  obtain ⟨h1, h2, h3, h4⟩ := X.var h
  refine (pe_var h1 h2 h3 h4).imp fun σV H Q ⟨b, ρ, G, σ, A, q⟩ => ?_
  unfold ev at q
  split at q
  · rename_i d e
    obtain ⟨v, e1, r⟩ := A.sl.2 i d e
    exact ⟨v, e1, q.now A.rh r⟩
  · exact q.elim
theorem e_int (X : CtxE c P C Γ W Y) {i : Int} {j : Nat} {pos : Pos} : SE c P C W Y (.cint i) (.Constant (.int i) j pos) := pe_int.imp fun σV H Q ⟨b, ρ, G, σ, A, q⟩ => q.now A.rh (.int i)
theorem e_str (X : CtxE c P C Γ W Y) {i : Str} {j : Nat} {pos : Pos} : SE c P C W Y (.cstr i) (.Constant (.str i) j pos) := pe_str.imp fun σV H Q ⟨b, ρ, G, σ, A, q⟩ => q.now A.rh (.str i)
theorem e_bl (X : CtxE c P C Γ W Y) {i : Bool} {j : Nat} {pos : Pos} : SE c P C W Y (.cbl i) (.Constant (.bool i) j pos) := pe_bl.imp fun σV H Q ⟨b, ρ, G, σ, A, q⟩ => q.now A.rh (.bl i)
theorem e_non (X : CtxE c P C Γ W Y) {j : Nat} {pos : Pos} : SE c P C W Y .cnon (.Constant .none j pos) := pe_non.imp fun σV H Q ⟨b, ρ, G, σ, A, q⟩ => q.now A.rh .non
theorem e_glob (X : CtxE c P C Γ W Y) {k : Nat} {x : Str} {pos : Pos} (h : Γ.cs[k]? = some x) (hg : glB Γ x = true) : SE c P C W Y (.glob k) (.Name x pos) := by
  cases e : P.cs[k]? with
  | none =>
    refine ⟨fun pins s σV H Q I w => ?_⟩
    obtain ⟨b, ρ, G, σ, A, q⟩ := w
    unfold ev at q
    rw [e] at q
    exact q.elim
  | some d =>
    obtain ⟨hd, v, u, h1, h2, h3⟩ := X.cs k x d h e
    refine (pe_glob (X.gl hg) h1 h2 hd).imp fun σV H Q ⟨b, ρ, G, σ, A, q⟩ => ?_
    unfold ev at q
    rw [e] at q
    exact q.now A.rh (h3 ρ H)
/-- two in a row -/
theorem two (X : CtxE c P C Γ W Y) {a b : Ev.X} {f : D → D → GH → R D} {r : R2} {σV : L2.St} {H : Hp} {Q : VK} {n : Nat} {ρ : List Addr} {G : GH} {σ : Sg} (A : At c n ρ G σ σV H)
    (q : PX c W ρ H ((ev P C a n σ G).bind fun d S1 => (ev P C b n σ S1).bind fun e S2 => f d e S2) (zV c H Q))
    (k : ∀ (d e : D) (x y : V) (ρ2 : List Addr) (H2 : Hp) (G2 : GH), At c n ρ2 G2 σ σV H2 → RV c.toSC ρ2 H2 d x → RV c.toSC ρ2 H2 e y → PX c W ρ2 H2 (f d e G2) (zV c H2 Q) → r x y H2 Q) :
    tOp r (tE c P C W a) (tE c P C W b) σV H Q :=
  tE_then X.gc A q fun d G1 ρ1 H1 x st A1 x1 rv fr q1 => tE_then X.gc A1 (q1.step st) fun e G2 ρ2 H2 y st2 A2 x2 ru fr2 q2 =>
    k d e x y ρ2 H2 G2 A2 (st2.rv A1.rh rv) ru (PX.stepV (st.trans st2) (q2.step st2))
theorem e_bin (X : CtxE c P C Γ W Y) {op : BOp} {a b : Ev.X} {l r : Expr} {pos : Pos} (ha : SE c P C W Y a l) (hb : SE c P C W Y b r) : SE c P C W Y (.bin op a b) (.BinOp l (bOp op) r pos) :=
  (pe_op (or_bin X.K op) ha hb).imp fun σV H Q ⟨n, ρ, G, σ, A, q⟩ => two X A q fun d e x y ρ2 H2 G2 A2 rd re q2 => ⟨W, ρ2, G2, d, e, A2.rh, rd, re, q2⟩
theorem e_cmp (X : CtxE c P C Γ W Y) {op : COp} {a b : Ev.X} {l r : Expr} {pos : Pos} (hs : notSet r = true) (ha : SE c P C W Y a l) (hb : SE c P C W Y b r) : SE c P C W Y (.cmp op a b) (.Compare l [cOp op] [r] pos) :=
  (pe_cmpR (or_cmp X.K X.un op) ha hb (set_behind hs)).imp fun σV H Q ⟨n, ρ, G, σ, A, q⟩ => two X A q fun d e x y ρ2 H2 G2 A2 rd re q2 => ⟨W, ρ2, G2, d, e, A2.rh, rd, re, q2⟩
theorem cmp_bl (op : COp) (d e : D) (S : GH) : (∃ k, opCmp op d e S = .ok (.bl k) S) ∨ opCmp op d e S = .bad := by
  unfold opCmp
  cases op <;> (repeat' split) <;> first | exact .inl ⟨_, rfl⟩ | exact .inr rfl
theorem t_cmp (X : CtxE c P C Γ W Y) {op : COp} {a b : Ev.X} {l r : Expr} {pos : Pos} (hs : notSet r = true) (ha : SE c P C W Y a l) (hb : SE c P C W Y b r) : PT Y (.Compare l [cOp op] [r] pos) (tT c P C W (.cmp op a b)) := by
  refine (pt_cmpR (or_cmp X.K X.un op) ha hb (set_behind hs)).imp fun σV H Q ⟨n, ρ, G, σ, A, q⟩ => ?_
  refine two (Q := fun x H' => ∃ k, x = .bl k ∧ Q k H') X A (q.imp fun d G' ρ' H' e st rh z v rv fr => ?_) fun d e x y ρ2 H2 G2 A2 rd re q2 => ⟨W, ρ2, G2, d, e, A2.rh, rd, re, q2⟩
  obtain ⟨k, t, w⟩ := z
  -- the result is a bool
  obtain ⟨d1, S1, _, e⟩ := bind_ok e
  obtain ⟨d2, S2, _, e⟩ := bind_ok e
  rcases cmp_bl op d1 d2 S2 with ⟨k', z⟩ | z
  · rw [z] at e; cases e
    cases rv
    cases t
    exact ⟨_, rfl, w⟩
  · rw [z] at e; cases e
theorem chain_read (X : CtxE c P C Γ W Y) {op op' : COp} {a b d : Ev.X} {σV : L2.St} {H : Hp} {Q : VK} (w : tE c P C W (.chain op op' a b d) σV H Q) : tChain (rOp c (opCmp op)) (rOp c (opCmp op')) (tE c P C W a) (tE c P C W b) (tE c P C W d) σV H Q := by
  obtain ⟨n, ρ, G, σ, A, q⟩ := w
  refine tE_then X.gc A q fun d1 G1 ρ1 H1 x st A1 x1 rv fr q1 => tE_then X.gc A1 (q1.step st) fun d2 G2 ρ2 H2 y st2 A2 x2 ru fr2 q2 => ?_
  have q2 := PX.stepV (st.trans st2) (q2.step st2)
  refine ⟨W, ρ2, G2, d1, d2, A2.rh, st2.rv A1.rh rv, ru, ?_⟩
  rcases cmp_bl op d1 d2 G2 with ⟨k, z⟩ | z
  · rw [z] at q2 ⊢
    intro ρ3 H3 st3 rh3 w rw' _
    cases rw'
    refine ⟨k, rfl, ?_⟩
    have A3 := A2.step st3 rh3 (Nat.le_refl _)
    have q3 := PX.stepV st3 (q2.step st3)
    cases k with
    | false => rw [if_neg (by decide)]; exact PX.now q3 rh3 (.bl false)
    | true =>
      rw [if_pos rfl]
      exact tE_then X.gc A3 q3 fun d3 G4 ρ4 H4 y3 st4 A4 x4 ru4 fr4 q4 => ⟨W, ρ4, G4, d2, d3, A4.rh, st4.rv A3.rh (st3.rv A2.rh ru), ru4, PX.stepV st4 (q4.step st4)⟩
  · rw [z] at q2; exact q2.elim
theorem chain_bl {op op' : COp} {a b d : Ev.X} {n : Nat} {σ : Sg} {G G' : GH} {v : D} (e : ev P C (.chain op op' a b d) n σ G = .ok v G') : ∃ k, v = .bl k := by
  unfold ev at e
  obtain ⟨d1, S1, _, e⟩ := bind_ok e
  obtain ⟨d2, S2, _, e⟩ := bind_ok e
  rcases cmp_bl op d1 d2 S2 with ⟨k, z⟩ | z
  · rw [z, R.bind_ok] at e
    cases k with
    | false => cases e; exact ⟨_, rfl⟩
    | true =>
      obtain ⟨d3, S3, _, e⟩ := bind_ok e
      rcases cmp_bl op' d2 d3 S3 with ⟨k, z⟩ | z
      · rw [z] at e; cases e; exact ⟨_, rfl⟩
      · rw [z] at e; cases e
  · rw [z] at e; cases e
theorem e_chain (X : CtxE c P C Γ W Y) {op op' : COp} {a b d : Ev.X} {l m r : Expr} {pos : Pos} (hs : notSet r = true) (ha : SE c P C W Y a l) (hb : SE c P C W Y b m) (hd : SE c P C W Y d r) :
    SE c P C W Y (.chain op op' a b d) (.Compare l [cOp op, cOp op'] [m, r] pos) :=
  (pe_chain (or_cmp X.K X.un op) (or_cmp X.K X.un op') ha hb hd (by show behindInMarks _ _ = false; exact set_behind hs)).imp fun σV H Q w => chain_read X w
theorem t_chain (X : CtxE c P C Γ W Y) {op op' : COp} {a b d : Ev.X} {l m r : Expr} {pos : Pos} (hs : notSet r = true) (ha : SE c P C W Y a l) (hb : SE c P C W Y b m) (hd : SE c P C W Y d r) :
    PT Y (.Compare l [cOp op, cOp op'] [m, r] pos) (tT c P C W (.chain op op' a b d)) := by
  refine (pt_chain (or_cmp X.K X.un op) (or_cmp X.K X.un op') ha hb hd (by show behindInMarks _ _ = false; exact set_behind hs)).imp fun σV H Q ⟨n, ρ, G, σ, A, q⟩ => ?_
  refine chain_read (Q := fun x H' => ∃ k, x = .bl k ∧ Q k H') X ⟨n, ρ, G, σ, A, q.imp fun v G' ρ' H' e st rh z x rv fr => ?_⟩
  obtain ⟨k, t, w⟩ := z
  obtain ⟨k', rfl⟩ := chain_bl e
  cases rv
  cases t
  exact ⟨_, rfl, w⟩
theorem e_neg (X : CtxE c P C Γ W Y) {a : Ev.X} {l : Expr} {pos : Pos} (ha : SE c P C W Y a l) : SE c P C W Y (.neg a) (.UnaryOp .USub l pos) := by
  refine (pe_un un_neg ha).imp fun σV H Q ⟨n, ρ, G, σ, A, q⟩ => tE_then X.gc A q fun d G1 ρ1 H1 x st A1 x1 rv fr q1 => ?_
  have q1 := q1.step st
  cases d with
  | int i =>
    cases rv
    exact ⟨i, rfl, PX.now q1 A1.rh (.int _)⟩
  | _ => exact q1.elim
theorem e_not (X : CtxE c P C Γ W Y) {a : Ev.X} {l : Expr} {pos : Pos} (ha : SE c P C W Y a l) : SE c P C W Y (.not a) (.UnaryOp .Not l pos) := by
  refine (pe_not ha).imp fun σV H Q ⟨n, ρ, G, σ, A, q⟩ => tE_then X.gc A q fun d G1 ρ1 H1 x st A1 x1 rv fr q1 => ?_
  have q1 := q1.step st
  cases d with
  | bl i =>
    cases rv
    exact ⟨i, rfl, PX.now q1 A1.rh (.bl _)⟩
  | _ => exact q1.elim
theorem t_not (X : CtxE c P C Γ W Y) {a : Ev.X} {l : Expr} {pos : Pos} (ha : PT Y l (tT c P C W a)) : PT Y (.UnaryOp .Not l pos) (tT c P C W (.not a)) := by
  refine (pt_not ha).imp fun σV H Q ⟨n, ρ, G, σ, A, q⟩ => tT_then X.gc A q fun d G1 ρ1 H1 st A1 x1 q1 => ?_
  have q1 := q1.step st
  cases d with
  | bl i =>
    obtain ⟨k, t, w⟩ := q1 ρ1 H1 (.refl _ _) A1.rh
    cases t
    exact ⟨i, rfl, w⟩
  | _ => exact q1.elim
theorem e_and (X : CtxE c P C Γ W Y) {a b : Ev.X} {e1 e2 : Expr} {r : List Expr} {pos : Pos} (ha : SE c P C W Y a e1) (hb : SE c P C W Y b (.BoolOp .And (e2 :: r) pos)) : SE c P C W Y (.and a b) (.BoolOp .And (e1 :: e2 :: r) pos) := by
  refine (pe_and ha hb).imp fun σV H Q ⟨n, ρ, G, σ, A, q⟩ => tE_then X.gc A q fun d G1 ρ1 H1 x st A1 x1 rv fr q1 => ?_
  have q1 := PX.stepV (Q := Q) st (q1.step st)
  cases d with
  | bl i =>
    cases rv
    refine ⟨i, rfl, ?_⟩
    cases i with
    | false => rw [if_neg (by decide)]; exact PX.now q1 A1.rh (.bl _)
    | true => rw [if_pos rfl]; exact ⟨n, ρ1, G1, σ, A1, q1⟩
  | _ => exact q1.elim
theorem e_or (X : CtxE c P C Γ W Y) {a b : Ev.X} {e1 e2 : Expr} {r : List Expr} {pos : Pos} (ha : SE c P C W Y a e1) (hb : SE c P C W Y b (.BoolOp .Or (e2 :: r) pos)) : SE c P C W Y (.or a b) (.BoolOp .Or (e1 :: e2 :: r) pos) := by
  refine (pe_or ha hb).imp fun σV H Q ⟨n, ρ, G, σ, A, q⟩ => tE_then X.gc A q fun d G1 ρ1 H1 x st A1 x1 rv fr q1 => ?_
  have q1 := PX.stepV (Q := Q) st (q1.step st)
  cases d with
  | bl i =>
    cases rv
    refine ⟨i, rfl, ?_⟩
    cases i with
    | true => rw [if_pos rfl]; exact PX.now q1 A1.rh (.bl _)
    | false => rw [if_neg (by decide)]; exact ⟨n, ρ1, G1, σ, A1, q1⟩
  | _ => exact q1.elim
theorem t_and (X : CtxE c P C Γ W Y) {a b : Ev.X} {e1 e2 : Expr} {r : List Expr} {pos : Pos} (ha : PT Y e1 (tT c P C W a)) (hb : PW Y (.BoolOp .And (e2 :: r) pos) (tT c P C W b)) : PW Y (.BoolOp .And (e1 :: e2 :: r) pos) (tT c P C W (.and a b)) := by
  refine (pw_and ha hb).imp fun σV H Q ⟨n, ρ, G, σ, A, q⟩ => tT_then X.gc A q fun d G1 ρ1 H1 st A1 x1 q1 => ?_
  have q1 := q1.step st
  cases d with
  | bl i =>
    refine ⟨i, rfl, ?_⟩
    cases i with
    | false =>
      obtain ⟨k, t, w⟩ := q1 ρ1 H1 (.refl _ _) A1.rh
      cases t
      rw [if_neg (by decide)]; exact w
    | true => rw [if_pos rfl]; exact ⟨n, ρ1, G1, σ, A1, q1⟩
  | _ => exact q1.elim
theorem t_or (X : CtxE c P C Γ W Y) {a b : Ev.X} {e1 e2 : Expr} {r : List Expr} {pos : Pos} (ha : PT Y e1 (tT c P C W a)) (hb : PW Y (.BoolOp .Or (e2 :: r) pos) (tT c P C W b)) : PW Y (.BoolOp .Or (e1 :: e2 :: r) pos) (tT c P C W (.or a b)) := by
  refine (pw_or ha hb).imp fun σV H Q ⟨n, ρ, G, σ, A, q⟩ => tT_then X.gc A q fun d G1 ρ1 H1 st A1 x1 q1 => ?_
  have q1 := q1.step st
  cases d with
  | bl i =>
    refine ⟨i, rfl, ?_⟩
    cases i with
    | true =>
      obtain ⟨k, t, w⟩ := q1 ρ1 H1 (.refl _ _) A1.rh
      cases t
      rw [if_pos rfl]; exact w
    | false => rw [if_neg (by decide)]; exact ⟨n, ρ1, G1, σ, A1, q1⟩
  | _ => exact q1.elim
theorem e_ite (X : CtxE c P C Γ W Y) {t a b : Ev.X} {l m r : Expr} {pos : Pos} (ht : PT Y l (tT c P C W t)) (ha : SE c P C W Y a m) (hb : SE c P C W Y b r) : SE c P C W Y (.ite t a b) (.IfExp l m r pos) := by
  refine (pe_ifExp ht ha hb).imp fun σV H Q ⟨n, ρ, G, σ, A, q⟩ => tT_then X.gc A q fun d G1 ρ1 H1 st A1 x1 q1 => ?_
  have q1 := PX.stepV (Q := Q) st (q1.step st)
  cases k : truth d G1 with
  | none => rw [k] at q1; exact q1.elim
  | some i =>
    rw [k] at q1
    refine ⟨i, rfl, ?_⟩
    cases i with
    | true => rw [if_pos rfl]; exact ⟨n, ρ1, G1, σ, A1, q1⟩
    | false => rw [if_neg (by decide)]; exact ⟨n, ρ1, G1, σ, A1, q1⟩
theorem pt_ifE {tA tB tC : TT} {l m r : Expr} {pos : Pos} (ht : PT Y l tA) (ha : PT Y m tB) (hb : PT Y r tC) : PT Y (.IfExp l m r pos) (fun σ H Q => tA σ H fun k H1 => if k = true then tB σ H1 Q else tC σ H1 Q) := by
  refine ⟨fun pins s σ H Q I w => isTrue_IfExp (thn (ht.run pins s σ H _ I w) fun k s1 z => ?_)⟩
  obtain ⟨H1, I1, q⟩ := z
  cases k with
  | true => exact ha.run pins s1 σ H1 Q I1 q
  | false => exact hb.run pins s1 σ H1 Q I1 q
theorem t_ite (X : CtxE c P C Γ W Y) {t a b : Ev.X} {l m r : Expr} {pos : Pos} (ht : PT Y l (tT c P C W t)) (ha : PT Y m (tT c P C W a)) (hb : PT Y r (tT c P C W b)) : PT Y (.IfExp l m r pos) (tT c P C W (.ite t a b)) := by
  refine (pt_ifE ht ha hb).imp fun σV H Q ⟨n, ρ, G, σ, A, q⟩ => tT_then X.gc A q fun d G1 ρ1 H1 st A1 x1 q1 => ?_
  have q1 := q1.step st
  cases k : truth d G1 with
  | none => rw [k] at q1; exact q1.elim
  | some i =>
    rw [k] at q1
    refine ⟨i, rfl, ?_⟩
    cases i with
    | true => rw [if_pos rfl]; exact ⟨n, ρ1, G1, σ, A1, q1⟩
    | false => rw [if_neg (by decide)]; exact ⟨n, ρ1, G1, σ, A1, q1⟩
/-- a test that is its value's truth -/
theorem t_val (X : CtxE c P C Γ W Y) {a : Ev.X} {e : Expr} (h : ∀ whole, isTrue e Y.env whole = (do let v ← whole; standAt e.pos; holding [v] (truthy v))) (ha : SE c P C W Y a e) : PT Y e (tT c P C W a) := by
  refine (pt_truth ha h).imp fun σV H Q ⟨n, ρ, G, σ, A, q⟩ => ⟨n, ρ, G, σ, A, q.imp fun d G' ρ' H' e st rh z v rv fr => ?_⟩
  obtain ⟨k, t, w⟩ := z
  exact ⟨k, truth_at X.K rh rv t, w⟩
/-! ### argument lists -/
theorem a_nil : PA Y [] (tA c P C W .nil) := pa_nil.imp fun σV H Q ⟨n, ρ, G, σ, A, q⟩ => q ρ H (.refl _ _) A.rh [] [] rfl .nil
theorem cons_step (X : CtxE c P C Γ W Y) {a as : Ev.X} {σV : L2.St} {H : Hp} {Q : List V → Hp → Prop} (w : tA c P C W (.cons a as) σV H Q) : tCons (tE c P C W a) (tA c P C W as) σV H Q := by
  obtain ⟨n, ρ, G, σ, A, q⟩ := w
  refine tE_then X.gc A q fun d G1 ρ1 H1 x st A1 x1 rv fr q1 => ?_
  obtain ⟨ρ2, d', G2, hf, st2, rh2, rd2, ⟨t, ht⟩, x2⟩ := fix_at st A1.rh rv fr
  rw [hf] at q1
  have st12 : Stp ρ1 H1 ρ2 H1 → True := fun _ => trivial
  have A2 : At c n ρ2 G2 σ σV H1 := A.step st2 rh2 (x1.trans x2).1
  refine tA_then X.gc A2 (q1.step st2) fun ds G3 ρ3 H3 vs st3 A3 x3 rds q3 => ?_
  exact q3 ρ3 H3 st3 A3.rh (d' :: ds) (x :: vs) rfl (.cons (st3.rd rh2 rd2) rds)
theorem a_cons (X : CtxE c P C Γ W Y) {a as : Ev.X} {e : Expr} {es : List Expr} (hs : notStar e = true) (ha : SE c P C W Y a e) (has : PA Y es (tA c P C W as)) : PA Y (e :: es) (tA c P C W (.cons a as)) :=
  (pa_cons ha has (star_one hs)).imp fun σV H Q w => cons_step X w
theorem k_nil : PK Y [] (tA c P C W .nil) := ⟨fun pos pins s σV H Q I w => pk_nil.run pos pins s σV H Q I (by
  obtain ⟨n, ρ, G, σ, A, q⟩ := w
  exact q ρ H (.refl _ _) A.rh [] [] rfl .nil)⟩
theorem k_cons (X : CtxE c P C Γ W Y) {a as : Ev.X} {k : Keyword} {ks : List Keyword} (ha : SE c P C W Y a (kwE k)) (has : PK Y ks (tA c P C W as)) : PK Y (k :: ks) (tA c P C W (.cons a as)) := by
  obtain ⟨nm, e, kp⟩ := k
  exact ⟨fun pos pins s σV H Q I w => (pk_cons (nm := nm) (kpos := kp) ha has).run pos pins s σV H Q I (cons_step X w)⟩
theorem args_len : ∀ (as : Ev.X) (es : List Expr) (b : Nat) (σ : Sg) (S S' : GH) (ds : List D), chkL Γ as es = true → ev P C as b σ S = .ok (.tup ds) S' → ds.length = es.length := by
  intro as
  induction as with
  | nil =>
    intro es b σ S S' ds h e
    unfold chkL at h
    split at h
    · cases e; rfl
    · cases h
  | cons a as _ ih =>
    intro es b σ S S' ds h e
    unfold chkL at h
    split at h
    · simp only [Bool.and_eq_true] at h
      unfold ev at e
      obtain ⟨d, S1, _, e⟩ := bind_ok e
      obtain ⟨d', S2, _, e⟩ := bind_ok e
      obtain ⟨t, S3, e3, e⟩ := bind_ok e
      cases t with
      | tup ts =>
        have e' : R.ok (D.tup (d' :: ts)) S3 = .ok (.tup ds) S' := e
        cases e'
        rw [List.length_cons, List.length_cons, ih _ b σ S2 S' ts h.2 e3]
      | _ => cases e
    · cases h
  | _ => intro es b σ S S' ds h e; unfold chkL at h; cases h
theorem len_line {n : Nat} (h : n ≤ 1000) : n ≤ sizeLine := by rw [sizeLine_eq]; omega
theorem e_tup (X : CtxE c P C Γ W Y) {as : Ev.X} {es : List Expr} {k : Nat} {pos : Pos} (hl : es.length ≤ 1000) (hc : chkL Γ as es = true) (ha : PA Y es (tA c P C W as)) : SE c P C W Y (.tup as) (.Tuple es k pos) := by
  refine (pe_tup ha).imp fun σV H Q ⟨n, ρ, G, σ, A, q⟩ => ⟨n, ρ, G, σ, A, ?_⟩
  unfold ev at q
  cases e : ev P C as n σ G with
  | ok d G' =>
    rw [e] at q
    intro ρ' H' st rh ds vs ed rds
    subst ed
    have l := args_len as es n σ G G' ds hc e
    refine ⟨by rw [← rds.length, l]; exact len_line hl, fun p np => ?_⟩
    have st2 := Stp.alloc (o := .tup vs) rh np
    exact q.next (st.trans st2) (rh.alloc np) (.tup (.of upd_same) (st2.rds rh rds))
  | exc k d G' => rw [e] at q; exact q
  | bad => rw [e] at q; exact q
theorem e_lst (X : CtxE c P C Γ W Y) {as : Ev.X} {es : List Expr} {pos : Pos} (hl : es.length ≤ 1000) (hc : chkL Γ as es = true) (ha : PA Y es (tA c P C W as)) : SE c P C W Y (.lst as) (.List es pos) := by
  refine (pe_lst ha).imp fun σV H Q ⟨n, ρ, G, σ, A, q⟩ => ⟨n, ρ, G, σ, A, ?_⟩
  unfold ev at q
  unfold asTup at q
  cases e : ev P C as n σ G with
  | ok d G' =>
    rw [e] at q
    intro ρ' H' st rh ds vs ed rds
    subst ed
    have l := args_len as es n σ G G' ds hc e
    refine ⟨by rw [← rds.length, l]; exact len_line hl, fun p np => ?_⟩
    have st2 := Stp.alloc (o := .lst vs) rh np
    exact q ρ' _ (st.trans st2) (rh.alloc np) (.ref p) ⟨p, vs, rfl, upd_same, rh.fresh np, st2.rds rh rds⟩ (.later st np)
  | exc k d G' => rw [e] at q; exact q
  | bad => rw [e] at q; exact q
/-! ### subscripts -/
theorem e_idx (X : CtxE c P C Γ W Y) {a b : Ev.X} {l s : Expr} {pos : Pos} (hs : notSlice s = true) (ha : SE c P C W Y a l) (hb : SE c P C W Y b s) : SE c P C W Y (.idx a b) (.Subscript l s pos) :=
  (pe_ix (ix_seqD X.K) ha hb (slice_plain hs)).imp fun σV H Q ⟨n, ρ, G, σ, A, q⟩ => two X A q fun d e x y ρ2 H2 G2 A2 rd re q2 => ⟨W, ρ2, G2, d, e, A2.rh, rd, re, q2⟩
def tPt (c : SX) (P : Pr) (C : Ev.Cl) (W : XK) (x : Ev.X) : Option Expr → TO
  | none => tNoPart
  | some _ => tPart (tE c P C W x)
theorem tO_then (X : CtxE c P C Γ W Y) {b : Nat} {σ : Sg} {σV : L2.St} {x : Ev.X} {o : Option Expr} {f : D → GH → R D} {K : Option Int → Hp → Prop} {ρ : List Addr} {H : Hp} {G : GH} {Z : D → GH → List Addr → Hp → Prop}
    (hc : (match o with | none => isCnon x | some e => !isCnon x && chk Γ x e) = true) (A : At c b ρ G σ σV H)
    (h : PX c W ρ H ((ev P C x b σ G).bind f) Z) (hf : ∀ d S, partX x d = none → f d S = .bad)
    (k : ∀ d p G' ρ' H', partX x d = some p → Stp ρ H ρ' H' → At c b ρ' G' σ σV H' → PX c W ρ H (f d G') Z → K p H') : tPt c P C W x o σV H K := by
  cases o with
  | none =>
    dsimp only at hc
    cases x with
    | cnon => exact k .non none G ρ H rfl (.refl _ _) A h
    | _ => cases hc
  | some e =>
    rw [Bool.and_eq_true] at hc
    have hn : isCnon x = false := by simpa using hc.1
    refine tE_then X.gc A h fun d G1 ρ1 H1 v st A1 x1 rv fr q1 => ?_
    cases d with
    | int i =>
      cases rv
      exact ⟨i, rfl, k (.int i) (some i) G1 ρ1 H1 (by unfold partX; rw [hn]; rfl) st A1 q1⟩
    | _ => rw [hf _ _ (by unfold partX; rw [hn]; rfl)] at q1; exact q1.elim
theorem po_of (X : CtxE c P C Γ W Y) {x : Ev.X} {o : Option Expr} (h : ∀ e, o = some e → SE c P C W Y x e) : PO Y o (tPt c P C W x o) := by
  cases o with
  | none => exact po_none
  | some e => exact po_some (h e rfl)
theorem e_slc (X : CtxE c P C Γ W Y) {a lo hi : Ev.X} {l : Expr} {l1 l2 : Option Expr} {p1 pos : Pos} (h1 : (match l1 with | none => isCnon lo | some e => !isCnon lo && chk Γ lo e) = true) (h2 : (match l2 with | none => isCnon hi | some e => !isCnon hi && chk Γ hi e) = true)
    (ha : SE c P C W Y a l) (hl : ∀ e, l1 = some e → SE c P C W Y lo e) (hh : ∀ e, l2 = some e → SE c P C W Y hi e) : SE c P C W Y (.slc a lo hi) (.Subscript l (.Slice l1 l2 none p1) pos) := by
  refine (pe_slice (sl_D X.K) ha (po_of X hl) (po_of X hh)).imp fun σV H Q ⟨n, ρ, G, σ, A, q⟩ => tE_then X.gc A q fun d G1 ρ1 H1 x st A1 x1 rv fr q1 => ?_
  refine tO_then X h1 A1 (q1.step st) (fun d' S e => ?_) fun d2 p2 G2 ρ2 H2 hp2 st2 A2 q2 => tO_then X h2 A2 ((show PX c W ρ1 H1 _ _ from by rw [hp2] at q2; exact q2).step st2) (fun d' S e => ?_) fun d3 p3 G3 ρ3 H3 hp3 st3 A3 q3 => ?_
  · rw [e]
  · rw [e]
  · rw [hp3] at q3
    have st23 := st2.trans st3
    exact ⟨W, ρ3, G3, d, A3.rh, st23.rv A1.rh rv, PX.stepV (st.trans st23) (q3.step st3)⟩
end
end Ev
set_option Elab.async false
set_option linter.all false
set_option maxRecDepth 100000
set_option maxHeartbeats 8000000
/-! EvN: calls, comprehensions; every checked expression keeps to its reading. -/
namespace Ev
open PySem PySem.Spec PyProof.Rows L2
section
variable {c : SX} {P : Pr} {C : Ev.Cl} {Γ : Gm} {W : XK} {Y : Cx}
theorem e_rev (X : CtxE c P C Γ W Y) {a : Ev.X} {l : Expr} {k : Nat} {p1 p2 p3 pos : Pos} (ha : SE c P C W Y a l) : SE c P C W Y (.rev a) (.Subscript l (.Slice none none (some (.UnaryOp .USub (.Constant (.int 1) k p1) p2)) p3) pos) := by
  refine (pe_revA ha).imp fun σV H Q ⟨n, ρ, G, σ, A, q⟩ => tE_then X.gc A q fun d G1 ρ1 H1 x st A1 x1 rv fr q1 => ?_
  rw [← X.K]
  have li : ∀ xs, lsv d G1 = some xs → opRev d G1 = .ok (.tl xs.reverse) G1 → ∃ a xs, x = .ref a ∧ ((SqL c.K H1 a xs ∧ ∀ p, H1 p = none → Q (.ref p) (upd H1 p (.lst xs.reverse))) ∨ (SqT c.K H1 a xs ∧ ∀ p, H1 p = none → Q (.ref p) (upd H1 p (.tup xs.reverse)))) := fun xs e q2 => by
    rw [q2] at q1
    obtain ⟨a, vs, rfl, h1, h2⟩ := lsv_at A1.rh rv e
    refine ⟨a, vs, rfl, .inl ⟨h1, fun p np => ?_⟩⟩
    have st2 := Stp.alloc (o := .lst vs.reverse) A1.rh np
    exact q1 ρ1 _ (st.trans st2) (A1.rh.alloc np) (.ref p) ⟨p, vs.reverse, rfl, upd_same, A1.rh.fresh np, st2.rds A1.rh h2.reverse⟩ (.later st np)
  have others : (∀ xs, d ≠ .tup xs) → ∃ a xs, x = .ref a ∧ ((SqL c.K H1 a xs ∧ ∀ p, H1 p = none → Q (.ref p) (upd H1 p (.lst xs.reverse))) ∨ (SqT c.K H1 a xs ∧ ∀ p, H1 p = none → Q (.ref p) (upd H1 p (.tup xs.reverse)))) := fun nt => by
    cases e : lsv d G1 with
    | none =>
      have eb : opRev d G1 = .bad := by
        unfold opRev
        cases d with
        | tup xs => exact absurd rfl (nt xs)
        | _ => simp only [e]
      rw [eb] at q1
      exact q1.elim
    | some xs => exact li xs e (by
        unfold opRev
        cases d with
        | tup xs => exact absurd rfl (nt xs)
        | _ => simp only [e])
  cases d with
  | tup ds =>
    obtain ⟨a, vs, rfl, h1, h2⟩ := tup_at rv
    refine ⟨a, vs, rfl, .inr ⟨h1, fun p np => ?_⟩⟩
    have st2 := Stp.alloc (o := .tup vs.reverse) A1.rh np
    exact q1.next (st.trans st2) (A1.rh.alloc np) (.tup (.of upd_same) (st2.rds A1.rh h2.reverse))
  | _ => exact others fun _ z => by cases z
theorem passW (X : CtxE c P C Γ W Y) : Passes (L2.CX Y.prog Y.w) Y W := passes_call X.tk fun _ _ _ _ h => h
/-- the arguments, then the callee -/
theorem call_read (X : CtxE c P C Γ W Y) {j : Nat} {as : Ev.X} {σV : L2.St} {H : Hp} {Q : VK} (w : tE c P C W (.call j as) σV H Q) : tCall (spF c C j) [] W (tA c P C W as) σV H Q := by
  obtain ⟨n, ρ, G, σ, A, q⟩ := w
  unfold ev at q
  split at q
  · refine tA_then X.gc A q fun ds G1 ρ1 H1 vs st A1 x1 rds q1 => ?_
    refine ⟨n, ρ1, G1, ds, A1.rh, by rw [List.append_nil]; exact rds, A1.lb, PX.stepV st (q1.step st)⟩
  · have g : Gd G.length G (asTup (ev P C as G.length σ G) fun ds S1 => C j G.length ds S1) :=
      (gd_ev X.gc as G.length σ G G.length (Nat.le_refl _) (Nat.le_refl _) A.rh.clo).asTup fun ds S1 k1 c1 => (X.gc j G.length ds S1 G.length (Nat.le_refl _) k1.1 c1).less k1
    have q := PX.dropped A.rh g q
    refine tA_then X.gc (b := G.length) ⟨A.rh, A.sl, Nat.le_refl _⟩ q fun ds G1 ρ1 H1 vs st A1 x1 rds q1 => ?_
    exact ⟨G.length, ρ1, G1, ds, A1.rh, by rw [List.append_nil]; exact rds, A1.lb, PX.stepV st (q1.step st)⟩
theorem e_call (X : CtxE c P C Γ W Y) {j : Nat} {as : Ev.X} {x : Str} {p pos : Pos} {es : List Expr} (hj : Γ.fn[j]? = some x) (hg : glB Γ x = true) (hs : es.all notStar = true) (hne : es.isEmpty = false) (ha : PA Y es (tA c P C W as)) : SE c P C W Y (.call j as) (.Call (.Name x p) es [] pos) := by
  obtain ⟨k, hr, ⟨f, fd, ps, F, hm, hk, hb, hd, _⟩⟩ := (X.call j x hj).ok
  cases es with
  | nil => cases hne
  | cons e es =>
    rw [List.all_cons, Bool.and_eq_true] at hs
    exact (pe_call F hr (X.gl hg) hm hk hb (ds := []) (dvs := []) .nil (passW X) ha hd (star_one hs.1) (back_any hs.2)).imp fun σV H Q w => call_read X w
/-! ### calls by keywords -/
theorem permL_rel : ∀ (p : List Nat) {vs : List V} {us : List Value} {vs' : List V}, Vals vs us → permL p vs = some vs' → ∃ us', permL p us = some us' ∧ Vals vs' us'
  | [], vs, us, vs', _, e => by
    have e' : some [] = some vs' := e
    cases e'
    exact ⟨[], rfl, .nil⟩
  | i :: p, vs, us, vs', r, e => by
    unfold permL at e
    rw [List.mapM_cons] at e
    cases q : vs[i]? with
    | none => rw [q] at e; cases e
    | some v =>
      rw [q] at e
      have e2 : (permL p vs).bind (fun r => some (v :: r)) = some vs' := e
      cases q2 : permL p vs with
      | none => rw [q2] at e2; cases e2
      | some vs1 =>
        rw [q2] at e2
        have e3 : some (v :: vs1) = some vs' := e2
        cases e3
        obtain ⟨u, h1, h2⟩ := r.get q
        obtain ⟨us1, h3, h4⟩ := permL_rel p r q2
        refine ⟨u :: us1, ?_, .cons h2 h4⟩
        unfold permL
        rw [List.mapM_cons, h1]
        show (permL p us).bind (fun r => some (u :: r)) = some (u :: us1)
        rw [h3]; rfl
theorem permL_rds {K : PySem.W.Frag} {ρ : List Addr} {H : Hp} : ∀ (p : List Nat) {ds ds' : List D} {vs : List V}, RDs K ρ H ds vs → permD p ds = some ds' → ∃ vs', permL p vs = some vs' ∧ RDs K ρ H ds' vs'
  | [], ds, ds', vs, _, e => by
    have e' : some [] = some ds' := e
    cases e'
    exact ⟨[], rfl, .nil⟩
  | i :: p, ds, ds', vs, r, e => by
    unfold permD at e
    rw [List.mapM_cons] at e
    cases q : ds[i]? with
    | none => rw [q] at e; cases e
    | some v =>
      rw [q] at e
      have e2 : (permD p ds).bind (fun r => some (v :: r)) = some ds' := e
      cases q2 : permD p ds with
      | none => rw [q2] at e2; cases e2
      | some vs1 =>
        rw [q2] at e2
        have e3 : some (v :: vs1) = some ds' := e2
        cases e3
        obtain ⟨u, h1, h2⟩ := r.get q
        obtain ⟨us1, h3, h4⟩ := permL_rds p r q2
        refine ⟨u :: us1, ?_, .cons h2 h4⟩
        unfold permL
        rw [List.mapM_cons, h1]
        show (permL p vs).bind (fun r => some (u :: r)) = some (u :: us1)
        rw [h3]; rfl
theorem kw_all {pos : Pos} {env : Env} : ∀ {kws : List Keyword}, (kws.all fun k => (kwN k).isSome) = true → (backToKw pos (keywordEach kws env)).all (·.1.isSome) = true ∧ (backToKw pos (keywordEach kws env)).any (·.1.isNone) = false ∧ (backToKw pos (keywordEach kws env)).filterMap (·.1) = kws.filterMap kwN
  | [], _ => ⟨rfl, rfl, rfl⟩
  | ⟨n, e, p⟩ :: kws, h => by
    rw [List.all_cons, Bool.and_eq_true] at h
    obtain ⟨h1, h2, h3⟩ := kw_all (pos := pos) (env := env) h.2
    cases n with
    | none => cases h.1
    | some n =>
      refine ⟨?_, ?_, ?_⟩
      · show (true && (backToKw pos (keywordEach kws env)).all (·.1.isSome)) = true
        rw [h1]; rfl
      · show (false || (backToKw pos (keywordEach kws env)).any (·.1.isNone)) = false
        rw [h2]; rfl
      · show n :: (backToKw pos (keywordEach kws env)).filterMap (·.1) = n :: kws.filterMap kwN
        rw [h3]
theorem all_names : ∀ {kws : List Keyword}, (kws.all fun k => (kwN k).isSome) = true → (kws.filterMap kwN).length = kws.length
  | [], _ => rfl
  | ⟨n, e, p⟩ :: kws, h => by
    rw [List.all_cons, Bool.and_eq_true] at h
    cases n with
    | none => cases h.1
    | some n =>
      show (n :: kws.filterMap kwN).length = _
      rw [List.length_cons, List.length_cons, all_names h.2]
def tCallKs (p : List Nat) (m n : Nat) (sp : Sp) (E : XK) (t tk : TA) : TE := fun σ H Q => t σ H fun vs1 H1 => tk σ H1 fun zs H2 => vs1.length = m ∧ zs.length = n ∧ ∃ vs, permL p (vs1 ++ zs) = some vs ∧ sp vs H2 Q E
theorem pe_callks {CX : CXT} {k : Nat} {f : Addr} {fd : FuncData} {ps ks : List Str} {sp : Sp} {E : XK} {x : Str} {px pos : Pos} {es : List Expr} {kws : List Keyword} {t tk : TA} {p : List Nat} (F : FnOk Y.prog Y.w Y.K Y.mg Y.base CX k f fd ps sp) (hr : Room k Y.A) (hg : Gl Y x) (hm : Y.mg x = some (.ref f))
    (hk : PySem.W.keepIn Y.K (.ref f) = true) (kb : KwOk Y.K fd ps p ks) (hx : Passes CX Y E) (hpa : PA Y es t) (hkw : PK Y kws tk) (hs : es.all notStar = true) (ha : (kws.all fun k => (kwN k).isSome) = true) (hnil : es = [] → t = tNil) (hks : kws.filterMap kwN = ks) (hl : es.length + ks.length = p.length) (hdb : isDb x = false) :
    PE Y (.Call (.Name x px) es kws pos) (tCallKs p es.length ks.length sp E t tk) := by
  obtain ⟨a1, a2, a3⟩ := kw_all (pos := pos) (env := Y.env) ha
  have fin : ∀ {pins : List (Addr × Obj)} {σ : L2.St} {H : Hp} {s : Shared} {Q : VK} {us ws : List Value} {vs1 zs : List V}, Inv Y pins σ H s → Vals vs1 us → Vals zs ws → (vs1.length = es.length ∧ zs.length = ks.length ∧ ∃ vs, permL p (vs1 ++ zs) = some vs ∧ sp vs H Q E) →
      wpAny (model Y.prog Y.w) Y.A (call (.ref f) us (ks.zip ws)) (EP Y pins σ Q) Y.xe s := fun {pins σ H s Q us ws vs1 zs} I r1 r2 z => by
    obtain ⟨l1, l2, vs, hp, q2⟩ := z
    obtain ⟨us2, hp2, ru⟩ := permL_rel p (r1.append r2) hp
    have e1 : us.length = es.length := by rw [← r1.length]; exact l1
    have e2 : ws.length = ks.length := by rw [← r2.length]; exact l2
    have hn : p.length - ks.length = us.length := by omega
    have b := kb s (us ++ ws) us2 I.kIn (by rw [List.length_append]; omega) hp2
    rw [hn, List.take_left' rfl, List.drop_left' rfl] at b
    refine wpAny_call (codeAny_mono (F.run Y.A Y.stack s H ⟨us, ks.zip ws⟩ us2 vs Q E hr I.env0 b ru q2) fun r s' hq => ?_)
    cases r with
    | error e => exact hx pins σ H s e s' I hq
    | ok fl =>
      cases fl with
      | ret u => exact I.after hq
      | next => exact False.elim hq
      | brk => exact False.elim hq
      | cont => exact False.elim hq
  refine ⟨fun pins s σ H Q I w => wpAny_Call_Name_kw (ld_glob I hg hm ?_ hdb)⟩
  cases es with
  | nil =>
    have w : tk σ H fun zs H2 => ([] : List V).length = List.length ([] : List Expr) ∧ zs.length = ks.length ∧ ∃ vs, permL p (([] : List V) ++ zs) = some vs ∧ sp vs H2 Q E := by
      rw [hnil rfl] at w
      exact w
    refine PySem.W.callWith_KW0 (h₀ := Y.base) I.ok.mod.kin hk a1 (thn (hkw.run pos pins s σ H _ I w) fun ws s2 z => ?_) (by rw [a2]; rfl)
    obtain ⟨zs, H2, I2, rz, q2⟩ := z
    refine ⟨I2.kIn, ?_⟩
    rw [a3, hks]
    exact fin I2 .nil rz q2
  | cons e es =>
    rw [List.all_cons, Bool.and_eq_true] at hs
    refine PySem.W.callWith_KW (h₀ := Y.base) I.ok.mod.kin hk a1 (thn (hpa.run pos pins s σ H _ I w) fun us s1 z => ?_) (by rw [a2, Bool.or_false]; exact back_any (by rw [List.all_cons, hs.1, hs.2]; rfl)) (star_one hs.1)
    obtain ⟨vs1, H1, I1, r1, z⟩ := z
    refine thn (hkw.run pos pins s1 σ H1 _ I1 z) fun ws s2 ⟨zs, H2, I2, rz, q2⟩ => ⟨I2.kIn, ?_⟩
    rw [a3, hks]
    exact fin I2 r1 rz q2
/-- arguments, then keywords -/
structure PAK (Y : Cx) (es : List Expr) (kws : List Keyword) (t : TA) : Prop where
  ex : ∃ t1 t2, PA Y es t1 ∧ PK Y kws t2 ∧ (es = [] → t1 = tNil) ∧ (∀ σ H Q Q', t1 σ H Q → (∀ vs H, Q vs H → Q' vs H) → t1 σ H Q') ∧ (∀ σ H Q Q', t2 σ H Q → (∀ vs H, Q vs H → Q' vs H) → t2 σ H Q') ∧
    ∀ σ H Q, t σ H Q → t1 σ H fun vs H1 => t2 σ H1 fun zs H2 => vs.length = es.length ∧ Q (vs ++ zs) H2
theorem tE_mono {a : Ev.X} {σV : L2.St} {H : Hp} {Q Q' : VK} (w : tE c P C W a σV H Q) (h : ∀ v H, Q v H → Q' v H) : tE c P C W a σV H Q' := by
  obtain ⟨b, ρ, G, σ, A, q⟩ := w
  exact ⟨b, ρ, G, σ, A, q.imp fun d G' ρ' H' _ _ _ z v rv fr => h v H' (z v rv fr)⟩
theorem tA_mono {a : Ev.X} {σV : L2.St} {H : Hp} {Q Q' : List V → Hp → Prop} (w : tA c P C W a σV H Q) (h : ∀ v H, Q v H → Q' v H) : tA c P C W a σV H Q' := by
  obtain ⟨b, ρ, G, σ, A, q⟩ := w
  exact ⟨b, ρ, G, σ, A, q.imp fun d G' ρ' H' _ _ _ z ds vs e r => h vs H' (z ds vs e r)⟩
theorem pak_nil {as : Ev.X} {kws : List Keyword} (h : PK Y kws (tA c P C W as)) : PAK Y [] kws (tA c P C W as) :=
  ⟨tNil, _, pa_nil, h, fun _ => rfl, fun σ H Q Q' w m => m _ _ w, fun σ H Q Q' w m => tA_mono w m, fun σ H Q w => (tA_mono w fun vs H q => ⟨rfl, q⟩ : tA c P C W as σ H fun zs H2 => [].length = ([] : List Expr).length ∧ Q ([] ++ zs) H2)⟩
theorem pak_cons (X : CtxE c P C Γ W Y) {a as : Ev.X} {e : Expr} {es : List Expr} {kws : List Keyword} (hs : notStar e = true) (ha : SE c P C W Y a e) (has : PAK Y es kws (tA c P C W as)) : PAK Y (e :: es) kws (tA c P C W (.cons a as)) := by
  obtain ⟨t1, t2, h1, h2, h0, m1, m2, h3⟩ := has.ex
  refine ⟨tCons (tE c P C W a) t1, t2, pa_cons ha h1 (star_one hs), h2, (fun z => by cases z), fun σ H Q Q' w m => tE_mono w fun v H1 q => m1 _ _ _ _ q fun vs H2 z => m _ _ z, m2, fun σ H Q w => tE_mono (cons_step X w) fun v H1 q => ?_⟩
  refine m1 _ _ _ _ (h3 σ H1 _ q) fun vs H2 z => m2 _ _ _ _ z fun zs H3 z => ?_
  exact ⟨by rw [List.length_cons, List.length_cons, z.1], z.2⟩
theorem e_callk (X : CtxE c P C Γ W Y) {j : Nat} {p : List Nat} {as : Ev.X} {x : Str} {px pos : Pos} {es : List Expr} {kws : List Keyword} (hj : Γ.fn[j]? = some x) (hg : glB Γ x = true) (hn : (kws.all fun k => (kwN k).isSome) = true) (hm : (j, kws.filterMap kwN, p) ∈ Γ.kws) (hs : es.all notStar = true) (hl : es.length + kws.length = p.length)
    (hc : chkL Γ as (es ++ kws.map kwE) = true) (ha : PAK Y es kws (tA c P C W as)) : SE c P C W Y (.callk j p as) (.Call (.Name x px) es kws pos) := by
  obtain ⟨k, hr, ⟨f, fd, ps, F, hmg, hk, hb, hd, hkw⟩⟩ := (X.call j x hj).ok
  obtain ⟨t1, t2, h1, h2, h0, m1, m2, h3⟩ := ha.ex
  refine (pe_callks F hr (X.gl hg) hmg hk (hkw _ _ hm) (passW X) h1 h2 hs hn h0 rfl (by rw [all_names hn]; exact hl) hd).imp fun σV H Q ⟨n, ρ, G, σ, A, q⟩ => ?_
  have w : tA c P C W as σV H fun us H1 => us.length = p.length ∧ ∃ vs, permL p us = some vs ∧ spF c C j vs H1 Q W := by
    unfold ev at q
    have g : Gd G.length G (asTup (ev P C as G.length σ G) fun ds S1 => match permD p ds with | some ds' => C j G.length ds' S1 | none => .bad) :=
      (gd_ev X.gc as G.length σ G G.length (Nat.le_refl _) (Nat.le_refl _) A.rh.clo).asTup fun ds S1 k1 c1 => by
        split
        · exact (X.gc j G.length _ S1 G.length (Nat.le_refl _) k1.1 c1).less k1
        · trivial
    have q := PX.dropped A.rh g q
    refine ⟨G.length, ρ, G, σ, ⟨A.rh, A.sl, Nat.le_refl _⟩, ?_⟩
    unfold asTup at q
    cases e : ev P C as G.length σ G with
    | ok d G1 =>
      rw [e] at q
      have x1 := len_ev X.gc (Nat.le_refl _) e
      intro ρ1 H1 st rh1 ds vs ed rds
      subst ed
      have l := args_len as _ G.length σ G G1 ds hc e
      refine ⟨by rw [← rds.length, l, List.length_append, List.length_map]; exact hl, ?_⟩
      cases e2 : permD p ds with
      | none =>
        have q2 : PX c W ρ H (match permD p ds with | some ds' => C j G.length ds' G1 | none => .bad) (zV c H Q) := q
        rw [e2] at q2
        exact q2.elim
      | some ds' =>
        have q2 : PX c W ρ H (match permD p ds with | some ds' => C j G.length ds' G1 | none => .bad) (zV c H Q) := q
        rw [e2] at q2
        obtain ⟨vs', h1, h2⟩ := permL_rds p rds e2
        exact ⟨vs', h1, G.length, ρ1, G1, ds', rh1, h2, x1.1, PX.stepV st (PX.step st q2)⟩
    | exc k d G' => rw [e] at q; exact q
    | bad => rw [e] at q; exact q
  refine m1 _ _ _ _ (h3 σV H _ w) fun vs H2 z => m2 _ _ _ _ z fun zs H3 z => ?_
  obtain ⟨l1, l2, vs', hp, sp⟩ := z
  rw [List.length_append] at l2
  exact ⟨l1, by rw [all_names hn]; omega, vs', hp, sp⟩
/-! ### builtins -/
theorem bn_mem (f : B1) : b1N f ∈ bnames := by cases f <;> decide
/-- one argument in the hand -/
theorem one_read (X : CtxE c P C Γ W Y) {a : Ev.X} {f : D → GH → R D} {r : List V → Hp → VK → Prop} {σV : L2.St} {H : Hp} {Q : VK} {n : Nat} {ρ : List Addr} {G : GH} {σ : Sg} (A : At c n ρ G σ σV H) (q : PX c W ρ H ((ev P C a n σ G).bind f) (zV c H Q))
    (k : ∀ d x ρ1 H1 G1, At c n ρ1 G1 σ σV H1 → RV c.toSC ρ1 H1 d x → PX c W ρ1 H1 (f d G1) (zV c H1 Q) → r [x] H1 Q) : tCB r (tCons (tE c P C W a) tNil) σV H Q :=
  tE_then X.gc A q fun d G1 ρ1 H1 x st A1 x1 rv fr q1 => k d x ρ1 H1 G1 A1 rv (PX.stepV st (q1.step st))
theorem e_b1 (X : CtxE c P C Γ W Y) {f : B1} {a : Ev.X} {x : Str} {p pos : Pos} {l : Expr} (hf : isStrB f = false) (hb : biB Γ x (b1N f) = true) (hs : notStar l = true) (ha : SE c P C W Y a l) : SE c P C W Y (.b1 f a) (.Call (.Name x p) [l] [] pos) := by
  obtain ⟨rfl, hg, hm⟩ := X.bi hb (bn_mem f)
  have rd : ∀ σV H Q, tE c P C W (.b1 f a) σV H Q → tCB (rB1 c f) (tCons (tE c P C W a) tNil) σV H Q := fun σV H Q ⟨n, ρ, G, σ, A, q⟩ =>
    one_read X A q fun d x ρ1 H1 G1 A1 rv q1 => ⟨W, ρ1, G1, d, x, rfl, A1.rh, rv, q1⟩
  have pa : PA Y [l] (tCons (tE c P C W a) tNil) := pa_cons ha pa_nil (star_one hs)
  cases f with
  | len => exact (pe_callB (cb_len X.K) hg hm (by decide +kernel) pa (by decide) (by decide) (star_one hs) rfl).imp rd
  | sum => exact (pe_callB (cb_sum X.K X.calm) hg hm (by decide +kernel) pa (by decide) (by decide) (star_one hs) rfl).imp rd
  | all => exact (pe_callB (cb_all X.K X.calm) hg hm (by decide +kernel) pa (by decide) (by decide) (star_one hs) rfl).imp rd
  | any => exact (pe_callB (cb_any X.K X.calm) hg hm (by decide +kernel) pa (by decide) (by decide) (star_one hs) rfl).imp rd
  | max => exact (pe_callB (cb_max X.K X.calm X.un) hg hm (by decide +kernel) pa (by decide) (by decide) (star_one hs) rfl).imp rd
  | min => exact (pe_callB (cb_min X.K X.calm X.un) hg hm (by decide +kernel) pa (by decide) (by decide) (star_one hs) rfl).imp rd
  | sorted => exact (pe_callB (cb_sorted X.K X.un) hg hm (by decide +kernel) pa (by decide) (by decide) (star_one hs) rfl).imp rd
  | tuple => exact (pe_callTy (ct_tuple X.K) hg hm (by decide +kernel) pa (by decide) (by decide) (star_one hs) rfl).imp rd
  | list => exact (pe_callTy (ct_list X.K) hg hm (by decide +kernel) pa (by decide) (by decide) (star_one hs) rfl).imp rd
  | abs => exact (pe_callB cb_abs hg hm (by decide +kernel) pa (by decide) (by decide) (star_one hs) rfl).imp rd
  | int => exact (pe_callTy ct_int hg hm (by decide +kernel) pa (by decide) (by decide) (star_one hs) rfl).imp rd
  | str => cases hf
  | sset => cases hf
theorem e_mx (X : CtxE c P C Γ W Y) {a b : Ev.X} {x : Str} {p pos : Pos} {l r : Expr} (hb : biB Γ x "max" = true) (h1 : notStar l = true) (h2 : notStar r = true) (ha : SE c P C W Y a l) (hb2 : SE c P C W Y b r) : SE c P C W Y (.mx a b) (.Call (.Name x p) [l, r] [] pos) := by
  obtain ⟨rfl, hg, hm⟩ := X.bi hb (by decide)
  have pa : PA Y [l, r] (tCons (tE c P C W a) (tCons (tE c P C W b) tNil)) := pa_cons ha (pa_cons hb2 pa_nil (star_one h2)) (star_one h1)
  refine (pe_callB (call_max2 X.calm) hg hm (by decide +kernel) pa (by decide) (by decide) (star_one h1) (back_any (by rw [List.all_cons, h2]; rfl))).imp fun σV H Q ⟨n, ρ, G, σ, A, q⟩ => ?_
  refine two (r := fun x y H Q => ∃ i j, [x, y] = [V.int i, V.int j] ∧ Q (.int (if j > i then j else i)) H) X A q fun d e x y ρ2 H2 G2 A2 rd re q2 => ?_
  cases d with
  | int i =>
    cases e with
    | int j =>
      cases rd
      cases re
      refine ⟨i, j, rfl, ?_⟩
      have e3 : (if j > i then j else i) = max i j := by
        split <;> omega
      rw [e3]
      exact PX.now q2 A2.rh (.int _)
    | _ => exact q2.elim
  | _ => cases e <;> exact q2.elim
theorem e_mn (X : CtxE c P C Γ W Y) {a b : Ev.X} {x : Str} {p pos : Pos} {l r : Expr} (hb : biB Γ x "min" = true) (h1 : notStar l = true) (h2 : notStar r = true) (ha : SE c P C W Y a l) (hb2 : SE c P C W Y b r) : SE c P C W Y (.mn a b) (.Call (.Name x p) [l, r] [] pos) := by
  obtain ⟨rfl, hg, hm⟩ := X.bi hb (by decide)
  have pa : PA Y [l, r] (tCons (tE c P C W a) (tCons (tE c P C W b) tNil)) := pa_cons ha (pa_cons hb2 pa_nil (star_one h2)) (star_one h1)
  refine (pe_callB (call_min2 X.calm) hg hm (by decide +kernel) pa (by decide) (by decide) (star_one h1) (back_any (by rw [List.all_cons, h2]; rfl))).imp fun σV H Q ⟨n, ρ, G, σ, A, q⟩ => ?_
  refine two (r := fun x y H Q => ∃ i j, [x, y] = [V.int i, V.int j] ∧ Q (.int (if j < i then j else i)) H) X A q fun d e x y ρ2 H2 G2 A2 rd re q2 => ?_
  cases d with
  | int i =>
    cases e with
    | int j =>
      cases rd
      cases re
      refine ⟨i, j, rfl, ?_⟩
      have e3 : (if j < i then j else i) = min i j := by
        split <;> omega
      rw [e3]
      exact PX.now q2 A2.rh (.int _)
    | _ => exact q2.elim
  | _ => cases e <;> exact q2.elim
theorem ty_mem (t : Ty) : tyS t ∈ bnames := by cases t <;> decide
theorem ty_boot (t : Ty) : bootBuiltins (tyS t) = some (.type (tyN t)) := by cases t <;> decide +kernel
theorem e_isi (X : CtxE c P C Γ W Y) {t : Ty} {a : Ev.X} {x y : Str} {p p2 pos : Pos} {l : Expr} (hb : biB Γ x "isinstance" = true) (hy : biB Γ y (tyS t) = true) (h1 : notStar l = true) (ha : SE c P C W Y a l) : SE c P C W Y (.isi t a) (.Call (.Name x p) [l, .Name y p2] [] pos) := by
  obtain ⟨rfl, hg, hm⟩ := X.bi hb (by decide)
  obtain ⟨rfl, hg2, hm2⟩ := X.bi hy (ty_mem t)
  have nn : tyS t ≠ "__name__" ∧ ((tyS t) == ("__debug__" : Str)) = false := by cases t <;> decide
  have pa : PA Y [l, .Name (tyS t) p2] (tCons (tE c P C W a) (tCons (tC (.ty (tyN t))) tNil)) := pa_cons ha (pa_cons (pe_bltn hg2 hm2 (ty_boot t) rfl nn.1 nn.2) pa_nil) (star_one h1)
  exact (pe_callB (cb_isi X.K t) hg hm (by decide +kernel) pa (by decide) (by decide) (star_one h1) rfl).imp fun σV H Q ⟨n, ρ, G, σ, A, q⟩ =>
    tE_then X.gc A q fun d G1 ρ1 H1 x st A1 x1 rv fr q1 => ⟨W, ρ1, G1, d, x, rfl, A1.rh, rv, PX.stepV st (q1.step st)⟩
/-! ### ranges -/
def tRgA (t : TA) : L2.St → Hp → (Int → Int → Hp → Prop) → Prop := fun σ H Q => t σ H fun vs H1 => (∃ j, vs = [.int j] ∧ Q 0 j H1) ∨ ∃ i j, vs = [.int i, .int j] ∧ Q i j H1
theorem prg_of {es : List Expr} {t : TA} {x : Str} {p pos : Pos} (hg : Gl Y "range") (hm : Y.mg "range" = none) (ha : PA Y es t) (hs : es.all notStar = true) (hl : es.length = 1 ∨ es.length = 2) : PRg Y (.Call (.Name "range" p) es [] pos) (tRgA t) := by
  intro pins s σ H Q I w
  have go : ∀ e rest, es = e :: rest → wpAny (model Y.prog Y.w) Y.A (eval (.Call (.Name "range" p) es [] pos) Y.env) (fun x s' => ∃ r a b t u v H', x = .ref r ∧ IsRange s'.heap r a b 1 t u v ∧ Inv Y pins σ H' s' ∧ Q a b H') Y.xe s := fun e rest he => by
    subst he
    rw [List.all_cons, Bool.and_eq_true] at hs
    refine Call_ (ld_blt I hg hm boot_range (PyProof.Rows.callWith_type1 (thn (ha.run pos pins s σ H _ I w) fun us s1 z => ?_) (star_one hs.1) (back_any hs.2)))
    obtain ⟨vs, H1, I1, r1, z⟩ := z
    rcases z with ⟨j, rfl, q⟩ | ⟨i, j, rfl, q⟩
    · obtain ⟨u, rfl, ru⟩ := vals1 r1
      obtain ⟨t, rfl⟩ := ru
      exact call_range_1 ⟨_, 0, j, _, _, _, H1, rfl, IsRange.new _ _ _ _ _ _ _, I1.kept fun b u e => Heap.get?_push_of_some _ e, q⟩
    · cases r1 with
      | cons r rr =>
        cases rr with
        | cons r' rr =>
          cases rr
          obtain ⟨t, rfl⟩ := r
          obtain ⟨t', rfl⟩ := r'
          exact call_range_2 ⟨_, i, j, _, _, _, H1, rfl, IsRange.new _ _ _ _ _ _ _, I1.kept fun b u e => Heap.get?_push_of_some _ e, q⟩
  cases es with
  | nil => rcases hl with h | h <;> cases h
  | cons e rest => exact go e rest rfl
theorem rg_rd {K : PySem.W.Frag} {ρ : List Addr} {H : Hp} (lo : Int) : ∀ (n : Nat), RDs K ρ H (rngD lo n) ((List.range n).map fun (i : Nat) => V.int (lo + i)) := by
  intro n
  unfold rngD
  induction (List.range n) with
  | nil => exact .nil
  | cons i l ih => exact .cons (.int _) ih
theorem opRng_at {K : PySem.W.Frag} {ρ : List Addr} {H : Hp} {ds xs : List D} {vs : List V} (e : opRng ds = some xs) (r : RDs K ρ H ds vs) : (∃ j, vs = [.int j] ∧ -(2 ^ 62) ≤ j ∧ j ≤ lim ∧ xs = rngD 0 j.toNat) ∨ ∃ i j, vs = [.int i, .int j] ∧ -(2 ^ 62) ≤ i ∧ i < 2 ^ 62 ∧ -(2 ^ 62) ≤ j ∧ j < 2 ^ 62 ∧ j - i ≤ lim ∧ xs = rngD i (j - i).toNat := by
  unfold opRng at e
  split at e
  · split at e
    · rename_i j h
      cases e
      cases r with
      | cons r1 r2 =>
        cases r2
        cases r1
        exact .inl ⟨j, rfl, h.1, h.2, rfl⟩
    · cases e
  · split at e
    · rename_i i j h
      cases e
      cases r with
      | cons r1 r2 =>
        cases r2 with
        | cons r2 r3 =>
          cases r3
          cases r1
          cases r2
          exact .inr ⟨i, j, rfl, h.1, h.2.1, h.2.2.1, h.2.2.2.1, h.2.2.2.2, rfl⟩
    · cases e
  · cases e
theorem e_lrng (X : CtxE c P C Γ W Y) {as : Ev.X} {x y : Str} {p p2 pos pos2 : Pos} {es : List Expr} (hx : biB Γ x "list" = true) (hy : biB Γ y "range" = true) (hs : es.all notStar = true) (hl : es.length = 1 ∨ es.length = 2) (ha : PA Y es (tA c P C W as)) :
    SE c P C W Y (.lrng as) (.Call (.Name x p) [.Call (.Name y p2) es [] pos2] [] pos) := by
  obtain ⟨rfl, hg, hm⟩ := X.bi hx (by decide)
  obtain ⟨rfl, hg2, hm2⟩ := X.bi hy (by decide)
  refine (pe_listRg X.calm hg hm (prg_of (x := "range") hg2 hm2 ha hs hl)).imp fun σV H Q ⟨n, ρ, G, σ, A, q⟩ => tA_then X.gc A q fun ds G1 ρ1 H1 vs st A1 x1 rds q1 => ?_
  cases e : opRng ds with
  | none => rw [e] at q1; exact q1.elim
  | some xs =>
    rw [e] at q1
    have fin : ∀ a b : Int, xs = rngD a (b - a).toNat → ∀ p, H1 p = none → Q (.ref p) (upd H1 p (.lst (rgV a b))) := fun a b ex p np => by
      subst ex
      have st2 := Stp.alloc (o := .lst (rgV a b)) A1.rh np
      exact q1 ρ1 _ (st.trans st2) (A1.rh.alloc np) (.ref p) ⟨p, rgV a b, rfl, upd_same, A1.rh.fresh np, rg_rd a _⟩ (.later st np)
    have hlim : (lim : Int) = 16777216 := rfl
    rcases opRng_at e rds with ⟨j, rfl, b1, b2, rfl⟩ | ⟨i, j, rfl, b1, b2, b3, b4, b5, rfl⟩
    · exact .inl ⟨j, rfl, ⟨by omega, by omega, b1, by omega, by omega⟩, fin 0 j (by simp)⟩
    · exact .inr ⟨i, j, rfl, ⟨b1, b2, b3, b4, by omega⟩, fin i j rfl⟩
end
end Ev
set_option Elab.async false
set_option linter.all false
set_option maxRecDepth 100000
set_option maxHeartbeats 8000000
/-! EvO: methods, comprehensions, what is walked; every checked expression. -/
namespace Ev
open PySem PySem.Spec PyProof.Rows L2
section
variable {c : SX} {P : Pr} {C : Ev.Cl} {Γ : Gm} {W : XK} {Y : Cx}
theorem m_tyV {ρ : List Addr} {H : Hp} {G : GH} (X : CtxE c P C Γ W Y) (rh : RH c.toSC ρ H G) {d : D} {x : V} (rv : RV c.toSC ρ H d x) (e : (lsv d G).isSome = true) : tyV Y.K "list" x H := by
  obtain ⟨xs, e⟩ := Option.isSome_iff_exists.mp e
  obtain ⟨a, vs, rfl, h1, _⟩ := lsv_at rh rv e
  exact .inl ⟨rfl, vs, by rw [← X.K]; exact h1⟩
theorem few_ok {r : Expr} {pos : Pos} {env : Env} (h : notStar r = true) : ((backTo pos (starEach [r] env)).all (fun x => !x.1) && (backToKw pos (keywordEach [] env)).all (fun x => x.1.isSome) && decide ([r].length + ([] : List Keyword).length + (if ([] : List Keyword).isEmpty then 0 else 1) < 30)) = true := by
  rw [star_one h]; rfl
theorem e_m0 (X : CtxE c P C Γ W Y) {f : M0} {o : Ev.X} {l : Expr} {ap cp : Pos} (h1 : notCall l = true) (h2 : (ap.endLine == cp.line) = true) (ho : SE c P C W Y o l) : SE c P C W Y (.m0 f o) (.Call (.Attribute l (m0N f) ap) [] [] cp) := by
  cases f with
  | pop =>
    refine ⟨fun pins s σV H Q I w => ?_⟩
    obtain ⟨n, ρ, G, σ, A, q⟩ := w
    refine (pe_bm0 PySem.F.plainAttrs_list PySem.F.slot_list_pop PySem.F.type_list_pop (md_pop (b := n) (c := c)) ho (base_plain h1) h2).run pins s σV H Q I (tE_then X.gc A q fun d G1 ρ1 H1 x st A1 x1 rv fr q1 => ?_)
    split at q1
    · rename_i e
      exact ⟨m_tyV X A1.rh rv e, W, ρ1, G1, d, [], A1.rh, rv, .nil, PX.stepV st (q1.step st)⟩
    · exact q1.elim
theorem m1_slot (f : M1) (h : isIxM f = false) : ∃ id, Slot "list" (m1N f) id ∧ typeOf (.builtin id) = pure (.type "method_descriptor") ∧ ∀ (b : Nat) {c : SX} {Y : Cx}, MtR Y id (rM c (gM1 f b)) := by
  cases f with
  | append => exact ⟨_, PySem.F.slot_list_append, PySem.F.type_list_append, fun b c Y => md_append⟩
  | extend => exact ⟨_, PySem.F.slot_list_extend, PySem.F.type_list_extend, fun b c Y => md_extend⟩
  | remove => exact ⟨_, PySem.F.slot_list_remove, PySem.F.type_list_remove, fun b c Y => md_remove⟩
  | popat => exact ⟨_, PySem.F.slot_list_pop, PySem.F.type_list_pop, fun b c Y => md_popat⟩
  | index => cases h
theorem e_m1 (X : CtxE c P C Γ W Y) {f : M1} {o a : Ev.X} {l r : Expr} {ap cp : Pos} (hf : isIxM f = false) (h1 : notCall l = true) (h2 : (ap.endLine == cp.line) = true) (h3 : notStar r = true) (ho : SE c P C W Y o l) (ha : SE c P C W Y a r) :
    SE c P C W Y (.m1 f o a) (.Call (.Attribute l (m1N f) ap) [r] [] cp) := by
  obtain ⟨id, sl, ty, md⟩ := m1_slot f hf
  refine ⟨fun pins s σV H Q I w => ?_⟩
  obtain ⟨n, ρ, G, σ, A, q⟩ := w
  refine (pe_bm PySem.F.plainAttrs_list sl ty (md n (c := c)) ho (pa_cons ha pa_nil (star_one h3)) (base_plain h1) (few_ok h3) h2 (star_one h3) rfl).run pins s σV H Q I (tE_then X.gc A q fun d G1 ρ1 H1 x st A1 x1 rv fr q1 => ?_)
  split at q1
  · rename_i e
    refine ⟨m_tyV X A1.rh rv e, tE_then X.gc A1 (q1.step st) fun e2 G2 ρ2 H2 y st2 A2 x2 ru fr2 q2 => ?_⟩
    obtain ⟨ρ3, e', G3, hf, st3, rh3, rd3, ⟨t, ht⟩, x3⟩ := fix_at st2 A2.rh ru fr2
    rw [hf] at q2
    exact ⟨W, ρ3, G3, d, [e'], rh3, st3.rv A1.rh rv, .cons rd3 .nil, PX.stepV (st.trans st3) (q2.step st3)⟩
  · exact q1.elim
/-! ### what is walked -/
theorem i_seq (X : CtxE c P C Γ W Y) {a : Ev.X} {tg e : Expr} (ha : SE c P C W Y a e) : PI Y tg e (tI c P C W (.iseq a)) := by
  refine (pi_seq ha).imp fun σV H R ⟨n, ρ, G, σ, A, q⟩ => tE_then X.gc A q fun d G1 ρ1 H1 x st A1 x1 rv fr q1 => ?_
  cases e : seqv d G1 with
  | none => rw [e] at q1; exact q1.elim
  | some xs =>
    rw [e] at q1
    obtain ⟨a, rfl, h⟩ := walk_seq A1.rh X.K rv e
    refine ⟨a, rfl, ?_⟩
    rcases h with ⟨h1, h2⟩ | ⟨h1, h2⟩
    · exact .inl ⟨h1, q1 ρ1 H1 st A1.rh xs (lkOf d) _ rfl h2⟩
    · exact .inr ⟨h1, q1 ρ1 H1 st A1.rh xs (lkOf d) _ rfl h2⟩
def iRgA (t : TA) : TI := fun σ H R => t σ H fun vs H1 => (∃ j : Int, vs = [.int j] ∧ (-(2 ^ 62) ≤ j ∧ j < 2 ^ 62) ∧ R (Itr 0 j.toNat) H1) ∨ ∃ i j : Int, vs = [.int i, .int j] ∧ (-(2 ^ 62) ≤ i ∧ i < 2 ^ 62 ∧ -(2 ^ 62) ≤ j ∧ j < 2 ^ 62) ∧ R (Itr i (j - i).toNat) H1
theorem pi_rngA {tg : Expr} {es : List Expr} {t : TA} {p pos : Pos} (hg : Gl Y "range") (hm : Y.mg "range" = none) (ha : PA Y es t) (hs : es.all notStar = true) (hn : es.isEmpty = false) : PI Y tg (.Call (.Name "range" p) es [] pos) (iRgA t) := by
  cases es with
  | nil => cases hn
  | cons e rest =>
    rw [List.all_cons, Bool.and_eq_true] at hs
    refine ⟨fun pins s σ H R I w => Call_ (ld_blt I hg hm boot_range (PyProof.Rows.callWith_type1 (thn (ha.run pos pins s σ H _ I w) fun us s1 z => ?_) (star_one hs.1) (back_any hs.2)))⟩
    obtain ⟨vs, H1, I1, r1, z⟩ := z
    rcases z with ⟨j, rfl, b, q⟩ | ⟨i, j, rfl, b, q⟩
    · obtain ⟨u, rfl, ru⟩ := vals1 r1
      obtain ⟨t, rfl⟩ := ru
      exact call_range_1 (range_it I1 (by omega) (by omega) b.1 b.2 (by simpa using q))
    · cases r1 with
      | cons r rr =>
        cases rr with
        | cons r' rr =>
          cases rr
          obtain ⟨t, rfl⟩ := r
          obtain ⟨t', rfl⟩ := r'
          exact call_range_2 (range_it I1 b.1 b.2.1 b.2.2.1 b.2.2.2 q)
theorem i_rng (X : CtxE c P C Γ W Y) {as : Ev.X} {tg : Expr} {x : Str} {p pos : Pos} {es : List Expr} (hx : biB Γ x "range" = true) (hs : es.all notStar = true) (hn : es.isEmpty = false) (ha : PA Y es (tA c P C W as)) :
    PI Y tg (.Call (.Name x p) es [] pos) (tI c P C W (.irng as)) := by
  obtain ⟨rfl, hg, hm⟩ := X.bi hx (by decide)
  have hlim : (lim : Int) = 16777216 := rfl
  refine (pi_rngA hg hm ha hs hn).imp fun σV H R ⟨n, ρ, G, σ, A, q⟩ => tA_then X.gc A q fun ds G1 ρ1 H1 vs st A1 x1 rds q1 => ?_
  cases e : opRng ds with
  | none => rw [e] at q1; exact q1.elim
  | some xs =>
    rw [e] at q1
    rcases opRng_at e rds with ⟨j, rfl, b1, b2, rfl⟩ | ⟨i, j, rfl, b1, b2, b3, b4, b5, rfl⟩
    · exact .inl ⟨j, rfl, ⟨b1, by omega⟩, q1 ρ1 H1 st A1.rh _ [] _ rfl (walk_rng 0 _)⟩
    · exact .inr ⟨i, j, rfl, ⟨b1, b2, b3, b4⟩, q1 ρ1 H1 st A1.rh _ [] _ rfl (walk_rng i _)⟩
theorem i_enum (X : CtxE c P C Γ W Y) {a : Ev.X} {elts : List Expr} {kk : Nat} {tpos : Pos} {x : Str} {p pos : Pos} {l : Expr} (hx : biB Γ x "enumerate" = true) (hs : notStar l = true) (ha : SE c P C W Y a l) :
    PI Y (.Tuple elts kk tpos) (.Call (.Name x p) [l] [] pos) (tI c P C W (.ienum a)) := by
  obtain ⟨rfl, hg, hm⟩ := X.bi hx (by decide)
  refine (pi_enumA hg hm (pa_cons ha pa_nil (star_one hs)) (star_one hs)).imp fun σV H R ⟨n, ρ, G, σ, A, q⟩ => tE_then X.gc A q fun d G1 ρ1 H1 x st A1 x1 rv fr q1 => ?_
  cases e : seqv d G1 with
  | none => rw [e] at q1; exact q1.elim
  | some xs =>
    rw [e] at q1
    obtain ⟨a, rfl, h⟩ := walk_enum A1.rh X.K rv e
    refine ⟨a, rfl, ?_⟩
    rcases h with ⟨h1, h2⟩ | ⟨h1, h2⟩
    · exact .inl ⟨h1, q1 ρ1 H1 st A1.rh _ (lkOf d) _ rfl h2⟩
    · exact .inr ⟨h1, q1 ρ1 H1 st A1.rh _ (lkOf d) _ rfl h2⟩
theorem i_zip (X : CtxE c P C Γ W Y) {a b : Ev.X} {elts : List Expr} {kk : Nat} {tpos : Pos} {x : Str} {p pos : Pos} {l r : Expr} (hx : biB Γ x "zip" = true) (hs : notStar l = true) (hs2 : notStar r = true) (ha : SE c P C W Y a l) (hb : SE c P C W Y b r) :
    PI Y (.Tuple elts kk tpos) (.Call (.Name x p) [l, r] [] pos) (tI c P C W (.izip a b)) := by
  obtain ⟨rfl, hg, hm⟩ := X.bi hx (by decide)
  refine (pi_zipK hg hm (pa_cons ha (pa_cons hb pa_nil (star_one hs2)) (star_one hs)) (star_one hs) (by rw [star_one hs2]; rfl)).imp fun σV H R ⟨n, ρ, G, σ, A, q⟩ => tE_then X.gc A q fun d G1 ρ1 H1 x st A1 x1 rv fr q1 => tE_then X.gc A1 (q1.step st) fun d' G2 ρ2 H2 y st2 A2 x2 ru fr2 q2 => ?_
  cases e : seqv d G2 with
  | none => simp only [e] at q2; exact q2.elim
  | some xs =>
    cases e' : seqv d' G2 with
    | none => simp only [e, e'] at q2; exact q2.elim
    | some ys =>
      simp only [e, e'] at q2
      obtain ⟨a, b, q1', q2', rfl, rfl, h1, h2, h3⟩ := walk_zip A2.rh X.K (st2.rv A1.rh rv) ru e e'
      exact ⟨a, b, q1', q2', rfl, h1, h2, q2 ρ2 H2 st2 A2.rh _ _ _ rfl h3⟩
/-! ### comprehensions -/
theorem loc_relS {sc scope : Scope} {x : Str} : (relS scope sc).names.lookup x = (scope.names.map fun (n, k) => if (k == NameKind.free && sc.kind == .function && sc.names.lookup n == some .cell) then (n, NameKind.cell) else (n, k)).lookup x := rfl
theorem thF_blk {fn : List Str} {kws : List (Nat × List Str × List Nat)} {k : Nat} {x : Str} {scope : Scope} {s : Shared} {H : Hp} {A : Addr} {cl : List (Str × Addr)} {fp : List Addr} {xe : Value → Shared → Prop} (F : ThF c P C fn kws k x Y) : ThF c P C fn kws k x (blkE Y s H scope (compEnvC scope cl A Y.env) fp xe) := by
  refine ⟨F.exm, ?_⟩
  obtain ⟨a, g, cd, Pt, lev, pg, bg, sg, dV, kV, doc, pm, cdv, ct, oc, an, od, osl, Ng, h1, h2, h3, h4, h5, h6, h7, h8, h9, h10, h11, h12, h13, h14, h15, h16, h17, h18⟩ := F.ok
  exact ⟨a, g, cd, Pt, lev, pg, bg, sg, dV, kV, doc, pm, cdv, ct, oc, an, od, osl, Ng, h1, h2, h3, h4, h5, h6, h7, h8, h9, h10, h11, h12, h13, h14, h15, h16, h17, fun j y h => ⟨(h18 j y h).ok⟩⟩
theorem CtxE.blk (X : CtxE c P C Γ W Y) (scope : Scope) (s : Shared) (H : Hp) (A : Addr) (cl : List (Str × Addr)) (fp : List Addr) (xe : Value → Shared → Prop) (tp : TakP (blkE Y s H scope (compEnvC scope cl A Y.env) fp xe) (fun cls d _ H => W cls d H)) : CtxE c P C (inBlk Γ scope) W (blkE Y s H scope (compEnvC scope cl A Y.env) fp xe) where
  N := X.N
  nd := X.nd
  sc := by
    show relS scope Y.env.scope = relS scope Γ.sc
    rw [X.sc]
  calm := X.calm
  K := X.K
  un := X.un
  mg := X.mg
  st := fun x h => by
    have e : relS scope Y.env.scope = relS scope Γ.sc := by rw [X.sc]
    show Loc (relS scope Y.env.scope) x ∧ ((scope.names.lookup x == some .cell) = true ∨ (relS scope Y.env.scope).names.lookup x = some .local)
    rw [e]
    unfold stB inBlk at h
    dsimp only at h
    split at h
    · rename_i q; exact ⟨.inl q, .inr q⟩
    · rename_i q
      have h' : scope.names.lookup x = some .cell := of_decide_eq_true h
      exact ⟨.inr q, .inl (by rw [h']; rfl)⟩
    · cases h
  tp := tp
  fr := X.fr
  call := fun j x h => let ⟨k, hr, f⟩ := (X.call j x h).ok; ⟨k, hr, ⟨f.ok⟩⟩
  cs := X.cs
  gc := X.gc
  th := fun k x h => thF_blk (X.th k x h)
theorem own_snd (Γ : Gm) (own : List Nat) : (ownN Γ own).map (·.2) = own := by
  unfold ownN
  rw [List.map_map]
  exact List.map_id' own
theorem comp_read (X : CtxE c P C Γ W Y) {e tg it cond : Ev.X} {own : List Nat} (yes : Bool) (hy : yes = true → cond = .cbl true) (ho : (slotsT tg).all (own.contains ·) = true) {σV : L2.St} {H : Hp} {Q : VK} (w : tE c P C W (.comp e tg it cond own) σV H Q) :
    tLc (tI c P C W it) (gX c tg) (tYesOr cond yes c P C W) (tE c P C W e) own σV H Q := by
  obtain ⟨b, ρ, G, σ, A, q⟩ := w
  refine ⟨b, ρ, G, σ, A, ?_⟩
  unfold ev at q
  unfold asIt at q
  cases e1 : ev P C it b σ G with
  | exc k d G' => rw [e1] at q; exact q
  | bad => rw [e1] at q; exact q
  | ok d G1 =>
    rw [e1] at q
    have x1 := len_ev X.gc A.lb e1
    intro ρ1 H1 st rh1 items lk J ed wk
    subst ed
    have q : PX c W ρ H (if items.length > lim then .bad else unlR (unlock lk G1) (compLoop (turnF P C e tg cond own b σ) items (lock lk G1))) (zV c H Q) := q
    split at q
    · exact q.elim
    · rename_i hl
      exact comp_run X.gc yes hy (fun i hm => by simpa using List.all_eq_true.mp ho i hm) (Nat.le_trans A.lb x1.1) (by omega) rh1 (st.sl A.rh A.sl) wk (PX.stepV st (q.step st))
theorem e_comp (X : CtxE c P C Γ W Y) {e tg it cond : Ev.X} {own : List Nat} {elt tg' iter : Expr} {ifs : List Expr} {scope : Scope} {pos : Pos} (yes : Bool) (hy : yes = true → cond = .cbl true) (hi : PI Y tg' iter (tI c P C W it)) (hns : notSet iter = true) (hb : blkC Γ.N Γ.sc scope (ownN Γ own) = true)
    (ho : (slotsT tg).all (own.contains ·) = true) (hg : chkG (inBlk Γ scope) tg tg' = true)
    (ht : ∀ Y' : Cx, CtxE c P C (inBlk Γ scope) W Y' → PTs Y' ifs (tYesOr cond yes c P C W)) (he : ∀ Y' : Cx, CtxE c P C (inBlk Γ scope) W Y' → SE c P C W Y' e elt) :
    SE c P C W Y (.comp e tg it cond own) (.ListComp elt [⟨tg', iter, ifs, 0⟩] scope pos) := by
  have ok : BlkOk Y.N Y.env.scope scope (ownN Γ own) := by
    rw [X.N, X.sc]
    exact blkOk_by hb
  have hp := pe_lcE (pos := pos) X.tp X.fr X.calm (by rw [X.N]; exact X.nd) hi ok (fun s H A cl fp xe tp => (pg_of (X.blk scope s H A cl fp xe tp) tg).1 tg' hg) (fun s H A cl fp xe tp => ht _ (X.blk scope s H A cl fp xe tp)) (fun s H A cl fp xe tp => he _ (X.blk scope s H A cl fp xe tp)) (set_plain hns)
  rw [own_snd] at hp
  exact hp.imp fun σV H Q w => comp_read X yes hy ho w
/-- name = [..], stored before the block's names go -/
theorem s_setC (X : CtxE c P C Γ W Y) {e tg it cond : Ev.X} {own : List Nat} {elt tg' iter : Expr} {ifs : List Expr} {scope : Scope} {pos py spos : Pos} {i : Nat} {y : Str} (yes : Bool) (hy : yes = true → cond = .cbl true) (hi : PI Y tg' iter (tI c P C W it)) (hns : notSet iter = true)
    (hb : blkC Γ.N Γ.sc scope (ownN Γ own) = true) (hg : chkG (inBlk Γ scope) tg tg' = true)
    (ht : ∀ Y' : Cx, CtxE c P C (inBlk Γ scope) W Y' → PTs Y' ifs (tYesOr cond yes c P C W)) (he : ∀ Y' : Cx, CtxE c P C (inBlk Γ scope) W Y' → SE c P C W Y' e elt) (hN : Γ.N[i]? = some y) (hl : Γ.sc.names.lookup y = some .local)
    (hsw : swapsWith (.ListComp elt [⟨tg', iter, ifs, 0⟩] scope pos) (some (.Name y py)) spos.line Y.env = pure true) :
    PS Y (.Assign [.Name y py] (.ListComp elt [⟨tg', iter, ifs, 0⟩] scope pos) spos) (tAsg (tLc (tI c P C W it) (gX c tg) (tYesOr cond yes c P C W) (tE c P C W e) own) (gName i)) := by
  have ok : BlkOk Y.N Y.env.scope scope (ownN Γ own) := by
    rw [X.N, X.sc]
    exact blkOk_by hb
  have hp := ps_setLcE (i := i) (y := y) (py := py) X.tp X.fr X.calm (by rw [X.N]; exact X.nd) (by rw [X.N]; exact hN) (by rw [X.sc]; exact hl) hsw hi ok (fun s H A cl fp xe tp => (pg_of (X.blk scope s H A cl fp xe tp) tg).1 tg' hg) (fun s H A cl fp xe tp => ht _ (X.blk scope s H A cl fp xe tp)) (fun s H A cl fp xe tp => he _ (X.blk scope s H A cl fp xe tp)) (set_plain hns)
  rw [own_snd] at hp
  exact hp
end
end Ev
set_option Elab.async false
set_option linter.all false
set_option maxRecDepth 100000
set_option maxHeartbeats 8000000
/-! EvOs: name = {name for target in sequence}, ints. -/
namespace Ev
open PySem PySem.Spec PyProof.Rows L2
section
variable {c : SX} {P : Pr} {C : Ev.Cl} {Γ : Gm} {W : XK} {Y : Cx}
theorem scol_at {j : Nat} {tg : X} {σ0 : Sg} : ∀ {ds xs : List D}, scol j tg σ0 ds = some xs → ∃ ns, intsD xs = some ns ∧ ns.length = ds.length ∧ ∀ (i : Nat) (d : D), ds[i]? = some d → ∃ σ' k, bindT tg d σ0 = some σ' ∧ σ'[j]? = some (some (.int k)) ∧ ns[i]? = some k
  | [], xs, h => by
    have h' : some [] = some xs := h
    cases h'
    exact ⟨[], rfl, rfl, fun i d e => by simp at e⟩
  | d :: ds, xs, h => by
    unfold scol at h
    cases e1 : bindT tg d σ0 with
    | none => rw [e1] at h; cases h
    | some σ' =>
      rw [e1] at h
      dsimp only at h
      cases e2 : intO σ'[j]? with
      | none => rw [e2] at h; cases h
      | some v =>
        rw [e2] at h
        dsimp only at h
        cases e3 : scol j tg σ0 ds with
        | none => rw [e3] at h; cases h
        | some ys =>
          rw [e3] at h
          have h' : some (v :: ys) = some xs := h
          cases h'
          obtain ⟨ns, a1, a2, a3⟩ := scol_at e3
          have hk : ∃ k, v = .int k ∧ σ'[j]? = some (some (.int k)) := by
            unfold intO at e2
            split at e2
            · rename_i k q
              cases e2
              exact ⟨k, rfl, q⟩
            · cases e2
          obtain ⟨k, rfl, q⟩ := hk
          refine ⟨k :: ns, ?_, by rw [List.length_cons, List.length_cons, a2], fun i d' hi => ?_⟩
          · show (intsD ys).map (k :: ·) = some (k :: ns)
            rw [a1]; rfl
          · cases i with
            | zero =>
              have : d = d' := by simpa using hi
              subst this
              exact ⟨σ', k, e1, q, rfl⟩
            | succ i => exact a3 i d' (by simpa using hi)
theorem scomp_read (X : CtxE c P C Γ W Y) {j : Nat} {tg a : Ev.X} {own : List Nat} (ho : (slotsT tg).all (own.contains ·) = true) {σV : L2.St} {H : Hp} {Q : VK} (w : tE c P C W (.scomp j tg a own) σV H Q) :
    tScI (iSeq Y.K (tE c P C W a)) (gX c tg) tYes (tVar j) own σV H Q := by
  obtain ⟨b, ρ, G, σ, A, q⟩ := w
  unfold ev at q
  refine tE_then X.gc A q fun d G1 ρ1 H1 x st A1 x1 rv fr q1 => ?_
  cases e : seqv d G1 with
  | none => rw [e] at q1; exact q1.elim
  | some items =>
    rw [e] at q1
    dsimp only at q1
    split at q1
    · exact q1.elim
    rename_i hl
    cases e2 : scol j tg (wipeS σ own) items with
    | none => rw [e2] at q1; exact q1.elim
    | some xs =>
      rw [e2] at q1
      obtain ⟨ns, a1, a2, a3⟩ := scol_at e2
      obtain ⟨aa, rfl, later⟩ := seq_later A1.rh rv e
      -- the walk, whatever the sequence is
      have run : ∀ (J : It) (Sq : Hp → List V → Prop), (∀ i Hc, (∃ xs x, Sq Hc xs ∧ xs[i]? = some x) → J.go i Hc) → (∀ i Hc x H', J.yld i Hc x H' → H' = Hc ∧ ∀ xs, Sq Hc xs → xs[i]? = some x) → (∀ i Hc, (∃ xs, Sq Hc xs ∧ xs.length ≤ i) → J.stop i Hc) →
          (∀ Hc, Stp ρ1 H1 ρ1 Hc → RH c.toSC ρ1 Hc G1 → ∃ vs, Sq Hc vs ∧ RDs c.K ρ1 Hc items vs) →
          ∀ D, H1 D = none → ∃ Wm : Nat → Nat → Hp → Prop, (∃ m, Wm 0 m (upd H1 D (.set (fun _ => false) 0))) ∧ ∀ i m Hc, Wm i m Hc →
            (J.stop i Hc ∧ Q (.ref D) Hc) ∨ (J.go i Hc ∧ ∃ Nx : Hp → Prop, (∀ H', Nx H' → ∃ m', m' < m ∧ Wm (i + 1) m' H') ∧ ∀ x H', J.yld i Hc x H' → gX c tg x (wipe σV own) H' fun σ2 H2 => wipe σ2 own = wipe σV own ∧ tYes σ2 H2 fun b H3 =>
              if b = true then tVar j σ2 H3 fun y H4 => ∃ (cc : Int) (S : Int → Bool) (n : Nat), y = .int cc ∧ H4 D = some (.set S n) ∧ n + 1 < scanBound ∧ Nx (upd H4 D (.set (fun k => S k || decide (k = cc)) (if S cc = true then n else n + 1))) else Nx H3) := by
        intro J Sq hgo hyld hstop hsq D hD
        have atc : ∀ T n, Stp ρ1 H1 ρ1 (upd H1 D (.set T n)) ∧ RH c.toSC ρ1 (upd H1 D (.set T n)) G1 := fun T n => ⟨Stp.alloc A1.rh hD, A1.rh.alloc hD⟩
        let Wm : Nat → Nat → Hp → Prop := fun i m Hc => m = items.length - i ∧ i ≤ items.length ∧ ∃ n, Hc = upd H1 D (.set (fun k => decide (k ∈ ns.take i)) n) ∧ n ≤ i
        refine ⟨Wm, ⟨items.length, by simp, Nat.zero_le _, 0, ?_, Nat.le_refl _⟩, ?_⟩
        · congr 1
        rintro i m Hc ⟨rfl, hi, n, rfl, hn⟩
        obtain ⟨st2, rh2⟩ := atc (fun k => decide (k ∈ ns.take i)) n
        obtain ⟨vs, hs, hr⟩ := hsq _ st2 rh2
        have hlen := hr.length
        by_cases hlt : i < items.length
        · refine .inr ⟨hgo i _ ⟨vs, _, hs, List.getElem?_eq_getElem (by omega)⟩, Wm (i + 1) (items.length - (i + 1)), fun H' p => ⟨_, by omega, p⟩, fun x H' y => ?_⟩
          obtain ⟨rfl, y2⟩ := hyld _ _ _ _ y
          have hx := y2 vs hs
          obtain ⟨σ', k, b1, b2, b3⟩ := a3 i items[i] (List.getElem?_eq_getElem hlt)
          obtain ⟨v', hv, rd⟩ := hr.get (List.getElem?_eq_getElem hlt)
          rw [hx] at hv
          cases hv
          have sl2 : slR c ρ1 (upd H1 D (.set (fun k => decide (k ∈ ns.take i)) n)) (wipeS σ own) (wipe σV own) := (st2.sl A1.rh A1.sl).wipe own
          refine ⟨ρ1, G1, wipeS σ own, items[i], σ', rh2, sl2, rd, b1, fun σV' sl' kp => ⟨?_, ?_⟩⟩
          · refine wipe_same (by rw [kp.1, wipe_length]) fun j hj => kp.2 j fun z => hj ?_
            simpa using List.all_eq_true.mp ho j z
          obtain ⟨v, hv, rk⟩ := sl'.2 j _ b2
          cases rk
          refine ⟨.int k, hv, k, _, n, rfl, upd_same, by unfold scanBound; omega, ?_⟩
          rw [upd_upd]
          have ef : (fun k_1 => decide (k_1 ∈ List.take i ns) || decide (k_1 = k)) = fun k => decide (k ∈ List.take (i + 1) ns) := by
            funext z
            rw [List.take_succ, b3]
            simp
          rw [ef]
          exact ⟨rfl, hlt, _, rfl, by split <;> omega⟩
        · have ei : i = items.length := by omega
          subst ei
          refine .inl ⟨hstop _ _ ⟨vs, hs, by omega⟩, ?_⟩
          refine q1 ρ1 _ (st.trans st2) rh2 (.ref D) (RV.of (.sv upd_same a1 fun k => ?_)) (.of rfl)
          rw [← a2, List.take_length]
      have same : ∀ n, D.ref n ∈ lkOf d → (G1[n]?).isSome = true → lsv (.ref n) G1 = lsv (.ref n) G1 := fun _ _ _ => rfl
      refine ⟨aa, rfl, ?_⟩
      rw [← X.K]
      rcases later with later | later
      · obtain ⟨vs, hs, _⟩ := later ρ1 H1 G1 (.refl _ _) A1.rh same
        exact .inl ⟨⟨vs, hs⟩, run (Itl c.K aa) (fun Hc xs => SqL c.K Hc aa xs) (fun i Hc h => h) (fun i Hc x H' h => h) (fun i Hc h => h) fun Hc s r => later ρ1 Hc G1 s r same⟩
      · obtain ⟨vs, hs, _⟩ := later ρ1 H1 G1 (.refl _ _) A1.rh same
        exact .inr ⟨⟨vs, hs⟩, run (Itt c.K aa) (fun Hc xs => SqT c.K Hc aa xs) (fun i Hc h => h) (fun i Hc x H' h => h) (fun i Hc h => h) fun Hc s r => later ρ1 Hc G1 s r same⟩
theorem e_scomp (X : CtxE c P C Γ W Y) {j : Nat} {tg a : Ev.X} {own : List Nat} {nm : Str} {np : Pos} {tg' iter : Expr} {scope : Scope} {pos : Pos} (ha : SE c P C W Y a iter) (hns : notSet iter = true)
    (hb : blkC Γ.N Γ.sc scope (ownN Γ own) = true) (ho : (slotsT tg).all (own.contains ·) = true) (hg : chkG (inBlk Γ scope) tg tg' = true) (hv : varB (inBlk Γ scope) j nm = true) :
    SE c P C W Y (.scomp j tg a own) (.SetComp (.Name nm np) [⟨tg', iter, [], 0⟩] scope pos) := by
  have ok : BlkOk Y.N Y.env.scope scope (ownN Γ own) := by
    rw [X.N, X.sc]
    exact blkOk_by hb
  have hp := pe_scE (elt := .Name nm np) (pos := pos) X.tp X.fr X.calm (by rw [X.N]; exact X.nd) (pi_seq ha) ok (fun s H A cl fp xe tp => (pg_of (X.blk scope s H A cl fp xe tp) tg).1 tg' hg) (fun s H A cl fp xe tp => pts_nil) (fun s H A cl fp xe tp => by
    obtain ⟨h1, h2, h3, h4⟩ := (X.blk scope s H A cl fp xe tp).var hv
    exact pe_var h1 h2 h3 h4) (set_plain hns)
  rw [own_snd] at hp
  exact hp.imp fun σV H Q w => scomp_read X ho w
/-- name = {..} -/
theorem s_setSc (X : CtxE c P C Γ W Y) {j : Nat} {tg a : Ev.X} {own : List Nat} {nm : Str} {np : Pos} {tg' iter : Expr} {scope : Scope} {pos py spos : Pos} {i : Nat} {y : Str} (ha : SE c P C W Y a iter) (hns : notSet iter = true)
    (hb : blkC Γ.N Γ.sc scope (ownN Γ own) = true) (hg : chkG (inBlk Γ scope) tg tg' = true) (hv : varB (inBlk Γ scope) j nm = true) (hN : Γ.N[i]? = some y) (hl : Γ.sc.names.lookup y = some .local)
    (hsw : swapsWith (.SetComp (.Name nm np) [⟨tg', iter, [], 0⟩] scope pos) (some (.Name y py)) spos.line Y.env = pure true) :
    PS Y (.Assign [.Name y py] (.SetComp (.Name nm np) [⟨tg', iter, [], 0⟩] scope pos) spos) (tAsg (tScI (iSeq Y.K (tE c P C W a)) (gX c tg) tYes (tVar j) own) (gName i)) := by
  have ok : BlkOk Y.N Y.env.scope scope (ownN Γ own) := by
    rw [X.N, X.sc]
    exact blkOk_by hb
  have hp := ps_setScIE (i := i) (y := y) (py := py) X.tp X.fr X.calm (by rw [X.N]; exact X.nd) (by rw [X.N]; exact hN) (by rw [X.sc]; exact hl) hsw (pi_seq ha) ok (fun s H A cl fp xe tp => (pg_of (X.blk scope s H A cl fp xe tp) tg).1 tg' hg) (fun s H A cl fp xe tp => pts_nil) (fun s H A cl fp xe tp => by
    obtain ⟨h1, h2, h3, h4⟩ := (X.blk scope s H A cl fp xe tp).var hv
    exact pe_var h1 h2 h3 h4) (set_plain hns)
  rw [own_snd] at hp
  exact hp
end
end Ev
set_option Elab.async false
set_option linter.all false
set_option maxRecDepth 100000
set_option maxHeartbeats 8000000
/-! EvSs: sorted(set(list)) of tuples of ints. -/
namespace Ev
open PySem PySem.Spec PyProof.Rows L2
def BdI (k : List Int) : Prop := ∀ i ∈ k, 0 ≤ i ∧ i < 1048576
def enT (k : List Int) : D := .tup (k.map D.int)
theorem code_iff : ∀ {a b : List Int}, a.length = b.length → TS.Bd 1048576 a → TS.Bd 1048576 b → (TS.code 1048576 a < TS.code 1048576 b ↔ a < b)
  | [], [], _, _, _ => by simp [TS.code]
  | [], _ :: _, h, _, _ => by simp at h
  | _ :: _, [], h, _, _ => by simp at h
  | x :: a, y :: b, h, h1, h2 => by
    have hl : a.length = b.length := by simpa using h
    rw [List.cons_lt_cons_iff]
    rcases Int.lt_trichotomy x y with c | c | c
    · exact ⟨fun _ => .inl c, fun _ => TS.code_lt hl h1.tail h2.tail c⟩
    · subst c
      rw [TS.code_same hl, code_iff hl h1.tail h2.tail]
      constructor
      · exact fun z => .inr ⟨rfl, z⟩
      · rintro (z | ⟨_, z⟩)
        · omega
        · exact z
    · have := TS.code_lt hl.symm h2.tail h1.tail c
      constructor
      · intro z; omega
      · rintro (z | ⟨z, _⟩) <;> omega
theorem code_eq {a b : List Int} (hl : a.length = b.length) (h1 : TS.Bd 1048576 a) (h2 : TS.Bd 1048576 b) (h : TS.code 1048576 a = TS.code 1048576 b) : a = b := by
  have n1 : ¬ a < b := fun z => by have := (code_iff hl h1 h2).mpr z; omega
  have n2 : ¬ b < a := fun z => by have := (code_iff hl.symm h2 h1).mpr z; omega
  exact List.le_antisymm n2 n1
theorem intsD_eq : ∀ {ds : List D} {ns : List Int}, intsD ds = some ns → ds = ns.map D.int
  | [], ns, h => by
    have h' : some [] = some ns := h
    cases h'
    rfl
  | .int i :: ds, ns, h => by
    have e' : (intsD ds).map (i :: ·) = some ns := h
    cases q : intsD ds with
    | none => rw [q] at e'; cases e'
    | some ms =>
      rw [q] at e'
      cases e'
      rw [intsD_eq q]
      rfl
  | .non :: _, _, e => by cases e
  | .bl _ :: _, _, e => by cases e
  | .str _ :: _, _, e => by cases e
  | .tup _ :: _, _, e => by cases e
  | .tl _ :: _, _, e => by cases e
  | .fl _ :: _, _, e => by cases e
  | .ref _ :: _, _, e => by cases e
  | .bw _ :: _, _, e => by cases e
  | .dv _ _ :: _, _, e => by cases e
  | .sv _ :: _, _, e => by cases e
theorem tupI_eq {d : D} {k : List Int} (h : tupI d = some k) : d = enT k := by
  cases d with
  | tup ys => exact congrArg D.tup (intsD_eq h)
  | _ => cases h
/-- what the check tells -/
theorem ssOk_at {xs : List D} (h : ssOk xs = true) : ∃ (d : Nat) (ks : List (List Int)), xs = ks.map enT ∧ ks.length < 64 ∧ 1 ≤ d ∧ ∀ k ∈ ks, k.length = d ∧ TS.Bd 1048576 k := by
  unfold ssOk at h
  rw [Bool.and_eq_true] at h
  obtain ⟨h0, h⟩ := h
  have h0 := of_decide_eq_true h0
  cases xs with
  | nil => exact ⟨1, [], rfl, by decide, Nat.le_refl _, fun k hk => by cases hk⟩
  | cons x xs =>
    dsimp only at h
    cases e : tupI x with
    | none => rw [e] at h; cases h
    | some k0 =>
      rw [e] at h
      dsimp only at h
      rw [Bool.and_eq_true] at h
      obtain ⟨h1, h⟩ := h
      have key : ∀ ys : List D, (ys.all fun y => (match tupI y with | some k => decide (k.length = k0.length) && k.all fun i => decide (0 ≤ i ∧ i < 1048576) | none => false)) = true → ∃ ks : List (List Int), ys = ks.map enT ∧ ∀ k ∈ ks, k.length = k0.length ∧ TS.Bd 1048576 k := fun ys => by
        induction ys with
        | nil => exact fun _ => ⟨[], rfl, fun k hk => by cases hk⟩
        | cons y ys ih =>
          intro hy
          rw [List.all_cons, Bool.and_eq_true] at hy
          obtain ⟨ks, e1, e2⟩ := ih hy.2
          cases e3 : tupI y with
          | none => rw [e3] at hy; cases hy.1
          | some k =>
            rw [e3] at hy
            have q := hy.1
            dsimp only at q
            rw [Bool.and_eq_true] at q
            refine ⟨k :: ks, by rw [List.map_cons, ← tupI_eq e3, ← e1], fun k' hk' => ?_⟩
            rcases List.mem_cons.mp hk' with rfl | hk'
            · exact ⟨of_decide_eq_true q.1, fun i hi => of_decide_eq_true (List.all_eq_true.mp q.2 i hi)⟩
            · exact e2 k' hk'
      obtain ⟨ks, e1, e2⟩ := key (x :: xs) h
      refine ⟨k0.length, ks, e1, ?_, of_decide_eq_true h1, e2⟩
      have := congrArg List.length e1
      rw [List.length_map] at this
      omega
theorem deq_enT (a b : List Int) : deq (enT a) (enT b) = decide (a = b) := by
  show PyData.eqv (.tuple (D.pyAll (a.map D.int))) (.tuple (D.pyAll (b.map D.int))) = _
  induction a generalizing b with
  | nil => cases b <;> simp [D.pyAll, PyData.eqv, PyData.eqvAll]
  | cons x a ih =>
    cases b with
    | nil => simp [D.pyAll, PyData.eqv, PyData.eqvAll]
    | cons y b =>
      have := ih b
      simp only [PyData.eqv] at this
      simp only [List.map_cons, D.pyAll, D.py, PyData.eqv, PyData.eqvAll, this]
      by_cases hx : x = y <;> by_cases hy : a = b <;> simp [hx, hy]
theorem mem_enT (k : List Int) (ks : List (List Int)) : memD (enT k) (ks.map enT) = decide (k ∈ ks) := by
  unfold memD
  induction ks with
  | nil => simp
  | cons x ks ih =>
    rw [List.map_cons, List.any_cons, ih, deq_enT]
    by_cases e : x = k
    · simp [e]
    · have e' : ¬ k = x := fun z => e z.symm
      simp [e, e']
def ddI (ks : List (List Int)) : List (List Int) := ks.foldl (fun acc k => if k ∈ acc then acc else acc ++ [k]) []
theorem dd_enT : ∀ (ks acc : List (List Int)), (ks.map enT).foldl (fun acc x => if memD x acc then acc else acc ++ [x]) (acc.map enT) = (ks.foldl (fun acc k => if k ∈ acc then acc else acc ++ [k]) acc).map enT
  | [], acc => rfl
  | k :: ks, acc => by
    rw [List.map_cons, List.foldl_cons, List.foldl_cons, mem_enT]
    by_cases h : k ∈ acc
    · rw [if_pos (by simpa using h), if_pos h]
      exact dd_enT ks acc
    · rw [if_neg (by simpa using h), if_neg h, ← dd_enT ks (acc ++ [k]), List.map_append]
      rfl
theorem dd_nd : ∀ (ks acc : List (List Int)), acc.Nodup → (ks.foldl (fun acc k => if k ∈ acc then acc else acc ++ [k]) acc).Nodup ∧ ∀ x, x ∈ ks.foldl (fun acc k => if k ∈ acc then acc else acc ++ [k]) acc ↔ x ∈ acc ∨ x ∈ ks
  | [], acc, h => ⟨h, fun x => by simp⟩
  | k :: ks, acc, h => by
    rw [List.foldl_cons]
    by_cases hk : k ∈ acc
    · rw [if_pos hk]
      obtain ⟨h1, h2⟩ := dd_nd ks acc h
      refine ⟨h1, fun x => ?_⟩
      rw [h2 x, List.mem_cons]
      constructor
      · rintro (z | z)
        · exact .inl z
        · exact .inr (.inr z)
      · rintro (z | rfl | z)
        · exact .inl z
        · exact .inl hk
        · exact .inr z
    · rw [if_neg hk]
      obtain ⟨h1, h2⟩ := dd_nd ks (acc ++ [k]) (by
        rw [List.nodup_append]
        exact ⟨h, by simp, fun a ha b hb z => by
          have : b = k := by simpa using hb
          rw [z, this] at ha
          exact hk ha⟩)
      refine ⟨h1, fun x => ?_⟩
      rw [h2 x]
      simp only [List.mem_append, List.mem_cons, List.not_mem_nil, or_false, or_assoc]
/-- sorted by code -/
def insK (k : List Int) : List (List Int) → List (List Int)
  | [] => [k]
  | b :: r => if TS.code 1048576 k ≤ TS.code 1048576 b then k :: b :: r else b :: insK k r
def sortK : List (List Int) → List (List Int)
  | [] => []
  | k :: ks => insK k (sortK ks)
theorem insK_perm (k : List Int) : ∀ ks, (insK k ks).Perm (k :: ks)
  | [] => .refl _
  | b :: r => by
    unfold insK
    split
    · exact .refl _
    · exact ((insK_perm k r).cons b).trans (.swap k b r)
theorem sortK_perm : ∀ ks, (sortK ks).Perm ks
  | [] => .refl _
  | k :: ks => (insK_perm k _).trans ((sortK_perm ks).cons k)
theorem insK_sorted {k : List Int} : ∀ {ks : List (List Int)}, ks.Pairwise (fun a b => TS.code 1048576 a ≤ TS.code 1048576 b) → (insK k ks).Pairwise (fun a b => TS.code 1048576 a ≤ TS.code 1048576 b)
  | [], _ => by simp [insK]
  | b :: r, h => by
    obtain ⟨h1, h2⟩ := List.pairwise_cons.mp h
    unfold insK
    split
    · rename_i hk
      refine List.pairwise_cons.mpr ⟨fun x hx => ?_, h⟩
      rcases List.mem_cons.mp hx with rfl | hx
      · exact hk
      · have := h1 x hx; omega
    · rename_i hk
      refine List.pairwise_cons.mpr ⟨fun x hx => ?_, insK_sorted h2⟩
      rcases List.mem_cons.mp ((insK_perm k r).mem_iff.mp hx) with rfl | hx
      · omega
      · exact h1 x hx
theorem sortK_sorted : ∀ ks, (sortK ks).Pairwise (fun a b => TS.code 1048576 a ≤ TS.code 1048576 b)
  | [] => .nil
  | k :: ks => insK_sorted (sortK_sorted ks)
theorem dle_enT {d : Nat} {a b : List Int} (ha : a.length = d ∧ TS.Bd 1048576 a) (hb : b.length = d ∧ TS.Bd 1048576 b) : dle (enT a) (enT b) = decide (TS.code 1048576 a ≤ TS.code 1048576 b) := by
  have e : dlt (enT b) (enT a) = decide (b < a) := by
    have e : ∀ l : List Int, D.pyAll (l.map D.int) = l.map PyData.int := fun l => by
      induction l with
      | nil => rfl
      | cons x l ih => rw [List.map_cons, D.pyAll, ih, List.map_cons, D.py]
    unfold dlt enT
    simp only [D.py, e]
    rw [PySem.W.dataLt_tuple]
    exact PySem.W.dataLt_ints b a
  unfold dle
  rw [e]
  have := code_iff (hb.1.trans ha.1.symm) hb.2 ha.2
  by_cases h : b < a
  · have := this.mpr h
    rw [decide_eq_true h, decide_eq_false (by omega)]
    rfl
  · have : ¬ TS.code 1048576 b < TS.code 1048576 a := fun z => h (this.mp z)
    rw [decide_eq_false h, decide_eq_true (by omega)]
    rfl
theorem ins_enT {d : Nat} {k : List Int} (hk : k.length = d ∧ TS.Bd 1048576 k) : ∀ ks : List (List Int), (∀ x ∈ ks, x.length = d ∧ TS.Bd 1048576 x) → ins dle (enT k) (ks.map enT) = (insK k ks).map enT
  | [], _ => rfl
  | b :: r, h => by
    rw [List.map_cons]
    unfold ins insK
    rw [dle_enT hk (h b List.mem_cons_self)]
    by_cases q : TS.code 1048576 k ≤ TS.code 1048576 b
    · rw [if_pos (decide_eq_true q), if_pos q]
      rfl
    · rw [if_neg (by simpa using q), if_neg q, ins_enT hk r fun x hx => h x (List.mem_cons_of_mem _ hx)]
      rfl
theorem sort_enT {d : Nat} : ∀ ks : List (List Int), (∀ x ∈ ks, x.length = d ∧ TS.Bd 1048576 x) → isort dle (ks.map enT) = (sortK ks).map enT
  | [], _ => rfl
  | k :: ks, h => by
    show ins dle (enT k) (isort dle (ks.map enT)) = (insK k (sortK ks)).map enT
    rw [sort_enT ks fun x hx => h x (List.mem_cons_of_mem _ hx)]
    exact ins_enT (h k List.mem_cons_self) _ fun x hx => h x (List.mem_cons_of_mem _ ((sortK_perm ks).mem_iff.mp hx))
theorem uniq_sorted {d : Nat} : ∀ {xs ys : List (List Int)}, (∀ x ∈ xs, x.length = d ∧ TS.Bd 1048576 x) → xs.Pairwise (fun a b => TS.code 1048576 a ≤ TS.code 1048576 b) → ys.Pairwise (fun a b => TS.code 1048576 a ≤ TS.code 1048576 b) → xs.Perm ys → xs = ys
  | [], ys, _, _, _, p => (List.nil_perm.mp p).symm
  | x :: xs, [], _, _, _, p => by have := p.length_eq; simp at this
  | x :: xs, y :: ys, h, s1, s2, p => by
    obtain ⟨a1, a2⟩ := List.pairwise_cons.mp s1
    obtain ⟨b1, b2⟩ := List.pairwise_cons.mp s2
    have hy : y ∈ x :: xs := p.mem_iff.mpr List.mem_cons_self
    have hx : x ∈ y :: ys := p.mem_iff.mp List.mem_cons_self
    have l1 : TS.code 1048576 x ≤ TS.code 1048576 y := by
      rcases List.mem_cons.mp hy with rfl | z
      · exact Int.le_refl _
      · exact a1 y z
    have l2 : TS.code 1048576 y ≤ TS.code 1048576 x := by
      rcases List.mem_cons.mp hx with rfl | z
      · exact Int.le_refl _
      · exact b1 x z
    have hxx := h x List.mem_cons_self
    have hyy := h y hy
    have e : x = y := code_eq (hxx.1.trans hyy.1.symm) hxx.2 hyy.2 (by omega)
    subst e
    rw [uniq_sorted (fun z hz => h z (List.mem_cons_of_mem _ hz)) a2 b2 ((List.perm_cons x).mp p)]
section
variable {c : SX} {P : Pr} {C : Ev.Cl} {Γ : Gm} {W : XK} {Y : Cx}
theorem rds_enT {K : PySem.W.Frag} {ρ : List Addr} {H : Hp} : ∀ {ks : List (List Int)} {vs : List V}, RDs K ρ H (ks.map enT) vs → ∃ L : List (Addr × List Int), vs = L.map (fun p => V.ref p.1) ∧ L.map (·.2) = ks ∧ ∀ p ∈ L, SqT K H p.1 (p.2.map V.int)
  | [], vs, h => by
    cases h
    exact ⟨[], rfl, rfl, fun p hp => by cases hp⟩
  | k :: ks, vs, h => by
    cases h with
    | cons h1 h2 =>
      obtain ⟨L, e1, e2, e3⟩ := rds_enT h2
      cases h1 with
      | tup t1 t2 =>
        have im : ∀ k : List Int, intsD (k.map D.int) = some k := fun k => by
          induction k with
          | nil => rfl
          | cons i k ih => show (intsD (k.map D.int)).map (i :: ·) = _; rw [ih]; rfl
        have e := RDs.ints t2 (im k)
        subst e
        subst e1
        exact ⟨(_, k) :: L, rfl, by rw [List.map_cons, e2], fun p hp => by
          rcases List.mem_cons.mp hp with rfl | hp
          · exact t1
          · exact e3 p hp⟩
theorem rds_of {K : PySem.W.Frag} {ρ : List Addr} {H : Hp} : ∀ {L : List (Addr × List Int)}, (∀ p ∈ L, SqT K H p.1 (p.2.map V.int)) → RDs K ρ H ((L.map (·.2)).map enT) (L.map fun p => V.ref p.1)
  | [], _ => .nil
  | p :: L, h => by
    have hi : ∀ ks : List Int, RDs K ρ H (ks.map D.int) (ks.map V.int) := fun ks => by
      induction ks with
      | nil => exact .nil
      | cons i ks ih => exact .cons (.int i) ih
    exact .cons (.tup (h p List.mem_cons_self) (hi p.2)) (rds_of fun q hq => h q (List.mem_cons_of_mem _ hq))
theorem e_sset (X : CtxE c P C Γ W Y) {a : Ev.X} {x y : Str} {p p2 q pos : Pos} {l : Expr} (hx : biB Γ x "sorted" = true) (hy : biB Γ y "set" = true) (hs : notStar l = true) (ha : SE c P C W Y a l) :
    SE c P C W Y (.b1 .sset a) (.Call (.Name x p) [.Call (.Name y p2) [l] [] q] [] pos) := by
  obtain ⟨rfl, hg, hm⟩ := X.bi hx (by decide)
  obtain ⟨rfl, hg2, hm2⟩ := X.bi hy (by decide)
  have pa : PA Y [l] (tCons (tE c P C W a) tNil) := pa_cons ha pa_nil (star_one hs)
  have ps := pe_callTy (p := p2) (pos := q) (cr_setOfT X.calm (by have := X.un; omega)) hg2 hm2 (by decide +kernel) pa (by decide) (by decide) (star_one hs) rfl
  have pa2 := pa_cons (X := Y) ps pa_nil (star_one (by rfl))
  refine (pe_callB (cr_sortedT X.calm) hg hm (by decide +kernel) pa2 (by decide) (by decide) (star_one (by rfl)) rfl).imp fun σV H Q ⟨n, ρ, G, σ, A, z⟩ => ?_
  refine tE_then X.gc A z fun d G1 ρ1 H1 v st A1 x1 rv fr q1 => ?_
  have h : PX c W ρ H (match lsv d G1 with | some xs => if ssOk xs then .ok (.tl (isort dle (dedupD xs))) G1 else .bad | none => .bad) (zV c H Q) := q1
  cases e : lsv d G1 with
  | none => rw [e] at h; exact h.elim
  | some xs =>
    rw [e] at h
    dsimp only at h
    split at h
    · rename_i hk
      obtain ⟨dd, ks, rfl, k1, k2, k3⟩ := ssOk_at hk
      obtain ⟨b, vs, rfl, h1, h2⟩ := lsv_at A1.rh rv e
      obtain ⟨L, rfl, e2, e3⟩ := rds_enT h2
      rw [← X.K]
      have hlen : L.length = ks.length := by rw [← e2, List.length_map]
      refine ⟨b, L, rfl, h1, e3, by omega, fun s L2 hn hsub hall => ?_⟩
      have st1 : Stp ρ1 H1 ρ1 (upd H1 s (SetTO Y.prog Y.w s L2)) := Stp.alloc A1.rh hn
      have rh1 := A1.rh.alloc (o := SetTO Y.prog Y.w s L2) hn
      have hm3 : ∀ k, k ∈ L2.map (·.2) ↔ k ∈ ks := fun k => by
        constructor
        · intro hk
          obtain ⟨p, hp, rfl⟩ := List.mem_map.mp hk
          rw [← e2]
          exact List.mem_map.mpr ⟨p, hsub p hp, rfl⟩
        · intro hk
          rw [← e2] at hk
          obtain ⟨p, hp, rfl⟩ := List.mem_map.mp hk
          exact hall p hp
      have tupS : ∀ p ∈ L2, SqT c.K (upd H1 s (SetTO Y.prog Y.w s L2)) p.1 (p.2.map V.int) := fun p hp => sqT_step (e3 p (hsub p hp)) (fun xs z => by rw [upd_ne (ne_of_none z hn)]; exact z) (fun xs o z => by rw [upd_ne (ne_of_none z hn)]; exact z)
      refine ⟨s, L2, dd, 1048576, rfl, upd_same, tupS, k2, fun p hp => k3 _ ((hm3 _).mp (List.mem_map.mpr ⟨p, hp, rfl⟩)), fun L3 t perm nd few sorted ht => ?_⟩
      have st2 : Stp ρ1 (upd H1 s (SetTO Y.prog Y.w s L2)) ρ1 (upd (upd H1 s (SetTO Y.prog Y.w s L2)) t (.lst (L3.map fun q => V.ref q.1))) := Stp.alloc rh1 ht
      have rh2 := rh1.alloc (o := .lst (L3.map fun q => V.ref q.1)) ht
      -- the two lists are one
      have hd := dd_nd ks [] List.nodup_nil
      have es : isort dle (dedupD (ks.map enT)) = (L3.map (·.2)).map enT := by
        have e0 : dedupD (ks.map enT) = (ddI ks).map enT := dd_enT ks []
        have b1 : ∀ x ∈ ddI ks, x.length = dd ∧ TS.Bd 1048576 x := fun x hx => by
          rcases (hd.2 x).mp hx with z | z
          · cases z
          · exact k3 x z
        rw [e0, sort_enT (d := dd) (ddI ks) b1]
        congr 1
        refine uniq_sorted (d := dd) (fun x hx => b1 x ((sortK_perm _).mem_iff.mp hx)) (sortK_sorted _) ?_ ?_
        · rw [List.pairwise_map]; exact sorted
        · refine (sortK_perm _).trans ((List.perm_ext_iff_of_nodup hd.1 nd).mpr fun x => ?_)
          have m1 : x ∈ L3.map (·.2) ↔ x ∈ L2.map (·.2) := (perm.map (·.2)).mem_iff
          rw [m1, hm3]
          exact ⟨fun z => ((hd.2 x).mp z).elim (fun z => by cases z) id, fun z => (hd.2 x).mpr (.inr z)⟩
      rw [es] at h
      refine h ρ1 _ (st.trans (st1.trans st2)) rh2 (.ref t) ⟨t, _, rfl, upd_same, rh1.fresh ht, rds_of fun p hp => ?_⟩ (.later (st.trans st1) ht)
      exact sqT_step (tupS p (perm.mem_iff.mp hp)) (fun xs z => by rw [upd_ne (ne_of_none z ht)]; exact z) (fun xs o z => by rw [upd_ne (ne_of_none z ht)]; exact z)
    · exact h.elim
end
end Ev
set_option Elab.async false
set_option linter.all false
set_option maxRecDepth 100000
set_option maxHeartbeats 8000000
/-! EvOf: a list just made is read alone from now on. -/
namespace Ev
open PySem PySem.Spec PyProof.Rows L2
section
variable {c : SX} {P : Pr} {C : Ev.Cl} {Γ : Gm} {W : XK} {Y : Cx}
def tFrz (te : TE) : TE := fun σ H Q => te σ H fun x H1 => Q x H1 ∨ ∃ a u, x = .ref a ∧ H1 a = some u ∧ Mut (some u) ∧ ∀ o, Q x (upd H1 a (.frz o u))
theorem pe_frz {e : Expr} {te : TE} (h : PE Y e te) : PE Y e (tFrz te) := by
  refine ⟨fun pins s σ H Q I w => thn (h.run pins s σ H _ I w) fun v s1 z => ?_⟩
  obtain ⟨x, H1, I1, r, z⟩ := z
  rcases z with z | ⟨a, u, rfl, e, mu, z⟩
  · exact ⟨x, H1, I1, r, z⟩
  · obtain ⟨od, I2⟩ := I1.lock e mu
    exact ⟨_, _, I2, r, z od⟩
theorem Stp.frz {ρ ρ1 : List Addr} {H H1 : Hp} {a : Addr} {u : HO} (x : Stp ρ H ρ1 H1) (n : nt H a) : Stp ρ H ρ1 (L2.upd H1 a u) :=
  ⟨x.pre, fun b o e n1 n2 => by
    have nb : b ≠ a := fun z => by subst z; exact n.no e n2
    rw [upd_ne nb]
    exact x.old b o e n1 n2, x.new, fun b z => by
    by_cases e : b = a
    · rw [e]; exact n
    · exact x.dom b fun o q => z o (by rw [upd_ne e]; exact q)⟩
theorem e_frz (X : CtxE c P C Γ W Y) {a : Ev.X} {e : Expr} (ha : SE c P C W Y a e) : SE c P C W Y (.frz a) e := by
  refine (pe_frz ha).imp fun σV H Q ⟨n, ρ, G, σ, A, q⟩ => ?_
  unfold ev at q
  refine tE_then X.gc A q fun d G1 ρ1 H1 x st A1 x1 rv fr q1 => ?_
  by_cases ht : ∃ ds, d = .tl ds
  · obtain ⟨ds, rfl⟩ := ht
    obtain ⟨a, xs, rfl, e, n, rds⟩ := rv
    have na : nt H a := fr rfl a rfl
    refine .inr ⟨a, _, rfl, e, trivial, fun o => ?_⟩
    exact q1 ρ1 _ (st.frz na) (A1.rh.other e n) _ (RV.of (.fl (.inl ⟨o, upd_same⟩) (rds.other e))) (.of rfl)
  · have hd : frzD d = d := by cases d <;> first | rfl | exact absurd ⟨_, rfl⟩ ht
    rw [hd] at q1
    exact .inl (q1 ρ1 H1 st A1.rh x rv fr)
end
end Ev
set_option Elab.async false
set_option linter.all false
set_option maxRecDepth 100000
set_option maxHeartbeats 8000000
/-! EvOa: a call handed to a def. -/
namespace Ev
open PySem PySem.Spec PyProof.Rows L2
section
variable {c : SX} {P : Pr} {C : Ev.Cl} {Γ : Gm} {W : XK} {Y : Cx} {ρ : List Addr} {H H1 : Hp} {G : GH}
theorem RDs.ext {K : PySem.W.Frag} (x : LamX.ExtN H H1) {ds : List D} {vs : List V} (r : RDs K ρ H ds vs) : RDs K ρ H1 ds vs := RDs.mono ⟨[], by simp⟩ (fun a xs q => x a _ q (fun _ z => by cases z)) (fun a xs o q => x a _ q (fun _ z => by cases z)) (fun a T n q => x a _ q (fun _ z => by cases z)) ds vs r
theorem RH.ext (h : RH c.toSC ρ H G) (x : LamX.ExtN H H1) (t : LamX.Tabs c.T H1) : RH c.toSC ρ H1 G :=
  ⟨h.len, h.nd, fun n a o e1 e2 => by
    have q := h.ob n a o e1 e2
    cases o with
    | lst ds => obtain ⟨us, z, r⟩ := q; exact ⟨us, x _ _ z (fun _ w => by cases w), r.ext x⟩
    | llk ds => obtain ⟨us, z, r⟩ := q; exact ⟨us, x _ _ z (fun _ w => by cases w), r.ext x⟩
    | dct _ => exact q.elim
    | dlk _ => exact q.elim
    | inst _ _ => exact q.elim, t⟩
theorem Stp.ext (x : LamX.ExtN H H1) : Stp ρ H ρ H1 := ⟨⟨[], by simp⟩, fun a o e _ n => x a o e n, fun _ m => .inl m, fun a z o e => by
  by_cases q : ∃ ps, o = .tbl ps
  · exact q
  · exact (z.no (x a o e fun ps w => q ⟨ps, w⟩) fun ps w => q ⟨ps, w⟩).elim⟩
theorem lam_ctx (X : CtxE c P C Γ W Y) {k : Nat} {x : Str} (hk : Γ.th[k]? = some x) {scope : Scope} (L : LamX.LamS Y.env.scope scope) {lev : Nat} (calls : ∀ (j : Nat) (y : Str), Γ.fn[j]? = some y → CallF c C Γ.kws lev j y Y)
    {A : Around} {outer : List Env} {s : Shared} {H : Hp} {E : XK} {f c' : Addr} (hr : Room lev (A.deeper (LamX.lamEnv Y scope s.heap.objs.size f c'))) :
    CtxE c P C (inLam Γ scope) E (LamX.lamCx Y A outer s H E scope f c') where
  N := X.N
  nd := X.nd
  sc := rfl
  calm := rfl
  K := X.K
  un := by have := hr.un; show (A.deeper (LamX.lamEnv Y scope s.heap.objs.size f c')).units + 66 < cLine; omega
  mg := X.mg
  st := fun y h => by
    exfalso
    unfold stB inLam at h
    dsimp only at h
    split at h
    · rename_i q; exact (L.own _ (PySem.mem_of_lookup q)).1 rfl
    · rename_i q; exact (L.own _ (PySem.mem_of_lookup q)).2 rfl
    · cases h
  tp := takP_of rfl rfl rfl rfl
  fr := ⟨_, _, _, rfl, rfl, rfl⟩
  call := fun j y h => ⟨lev, hr, ⟨(calls j y h).ok⟩⟩
  cs := X.cs
  gc := X.gc
  th := fun k x h => by cases h
theorem tE.ofR {x : X} {σV : L2.St} {Q : VK} {b : Nat} {σ : Sg} (A : At c b ρ G σ σV H) (h : PX c W ρ H (ev P C x b σ G) (zV c H Q)) : tE c P C W x σV H Q := ⟨b, ρ, G, σ, A, h⟩
theorem noPar_def {p : Arguments} {env : Env} (h : noPar p = true) : defaultsOf p env = ([], []) := by
  unfold noPar at h
  split at h
  · rfl
  · cases h
theorem noPar_bind {p : Arguments} (h : noPar p = true) {body : Expr} {scope : Scope} (q : Str) (cl : List (Str × Addr)) (pm cv ctv : Value) : bindArgs (PySem.W.kla_fn "<lambda>" q p body scope cl pm cv ctv) ⟨[], []⟩ = pure [] := by
  unfold noPar at h
  split at h
  · rfl
  · cases h
theorem e_thunk (X : CtxE c P C Γ W Y) {k : Nat} {a : Ev.X} {x : Str} {params : Arguments} {body : Expr} {scope : Scope} {p lpos pos : Pos} (hk : Γ.th[k]? = some x) (hg : glB Γ x = true) (hl : LamX.lamSB Γ.sc scope = true) (hp : noPar params = true)
    (ih : ∀ {W' : XK} {Y' : Cx}, CtxE c P C (inLam Γ scope) W' Y' → SE c P C W' Y' a body) : SE c P C W Y (.thunk k a) (.Call (.Name x p) [.Lambda params body scope lpos] [] pos) := by
  have T := X.th k x hk
  obtain ⟨ca, g, cd, Pt, lev, pg, bg, sg, dV, kV, doc, pm, cdv, ct, oc, an, od, osl, Ng, h1, h2, h3, h4, h5, h6, h7, h8, h9, h10, h11, h12, h13, h14, h15, h16, h17, h18⟩ := T.ok
  have L : LamX.LamS Y.env.scope scope := by rw [X.sc]; exact LamX.lamS_by hl
  cases ht : P.th[k]? with
  | none =>
    refine ⟨fun pins s σV H Q I w => ?_⟩
    obtain ⟨b, ρ, G, σ, A, q⟩ := w
    unfold ev at q
    rw [ht] at q
    exact q.elim
  | some t =>
    refine (LamX.pe_lamcall (T := c.T) (TT := TTk c t) (t := fun E => tE c P C E a) (k := lev) (X.gl hg) h1 h2 h3 h4 h5 h6 h7 h8 (h12 t ht) h13 h14 h15 h16 h17 L (noPar_def hp) (fun q cl pm cv ctv => noPar_bind hp q cl pm cv ctv)
      (fun A outer s H E f c' hr => ih (lam_ctx X hk L h18 hr)) h9 h10 h11).imp fun σV H Q ⟨b, ρ, G, σ, A, q⟩ => ⟨A.rh.tb, fun H1 x1 t1 => ?_⟩
    have rh1 := A.rh.ext x1 t1
    have st1 : Stp ρ H ρ H1 := Stp.ext x1
    have A1 : At c G.length ρ G σ σV H1 := ⟨rh1, st1.sl A.rh A.sl, Nat.le_refl _⟩
    unfold ev at q
    rw [ht] at q
    have q := PX.stepV st1 (q.step st1)
    have gd : Gd G.length G (ev P C a G.length σ G) := gd_ev X.gc a G.length σ G G.length (Nat.le_refl _) (Nat.le_refl _) rh1.clo
    have hexm := T.exm t ht
    obtain ⟨ck, o⟩ := t
    -- what the callee's result is worth
    have key : ∀ (E : XK) (Q' : VK), PX c E ρ H1 (drop G.length (ev P C a G.length σ G)) (zV c H1 Q') → tE c P C E a σV H1 Q' := fun E Q' h => ⟨G.length, ρ, G, σ, A1, PX.dropped rh1 gd h⟩
    cases o with
    | none =>
      show tE c P C (catchX c ck Q) a σV H1 (fun _ H' => Q (.str Str.empty) H')
      refine key _ _ ?_
      revert q
      generalize drop G.length (ev P C a G.length σ G) = r
      intro q
      cases r with
      | ok d S => exact fun ρ' H' st rh v rv fr => q ρ' H' st rh (.str Str.empty) (.str _) (.of rfl)
      | exc c' d S =>
        have q2 : PX c W ρ H1 (if c' = ck then .ok d S else .bad) (zV c H1 Q) := q
        split at q2
        · rename_i e
          subst e
          intro ρ' H' dx v st rh rd hx
          exact ⟨true, hexm, fun _ => ⟨dx, v, rfl, rfl, hx, q2 ρ' H' st rh v (.of rd) (.of rd.ntl)⟩, fun z => by cases z⟩
        · exact q2.elim
      | bad => exact q.elim
    | some pre =>
      show tE c P C (catchX c ck fun v H' => ∃ w, v = .str w ∧ pre.length + w.length ≤ lim ∧ Q (.str (pre ++ w)) H') a σV H1 Q
      refine key _ _ ?_
      revert q
      generalize drop G.length (ev P C a G.length σ G) = r
      intro q
      cases r with
      | ok d S => exact q
      | exc c' d S =>
        cases d with
        | str w =>
          have q2 : PX c W ρ H1 (if c' = ck ∧ pre.length + w.length ≤ lim then .ok (.str (pre ++ w)) S else .bad) (zV c H1 Q) := q
          split at q2
          · rename_i e
            obtain ⟨e, hl⟩ := e
            subst e
            intro ρ' H' dx v st rh rd hx
            cases rd
            exact ⟨true, hexm, fun _ => ⟨dx, _, rfl, rfl, hx, w, rfl, hl, q2 ρ' H' st rh _ (.str _) (.of rfl)⟩, fun z => by cases z⟩
          · exact q2.elim
        | _ => exact q.elim
      | bad => exact q.elim
end
end Ev
set_option Elab.async false
set_option linter.all false
set_option maxRecDepth 100000
set_option maxHeartbeats 8000000
/-! EvP: every checked expression keeps to its reading. -/
namespace Ev
open PySem PySem.Spec PyProof.Rows L2
def boolE : Expr → Bool
  | .BoolOp _ _ _ => true
  | _ => false
structure Snd (c : SX) (P : Pr) (C : Ev.Cl) (x : X) : Prop where
  ex : ∀ {Γ : Gm} {W : XK} {Y : Cx}, CtxE c P C Γ W Y → ∀ e, chk Γ x e = true → SE c P C W Y x e ∧ PT Y e (tT c P C W x) ∧ (boolE e = true → PW Y e (tT c P C W x))
  ar : ∀ {Γ : Gm} {W : XK} {Y : Cx}, CtxE c P C Γ W Y → ∀ es, chkL Γ x es = true → PA Y es (tA c P C W x)
  kw : ∀ {Γ : Gm} {W : XK} {Y : Cx}, CtxE c P C Γ W Y → ∀ ks : List Keyword, chkL Γ x (ks.map kwE) = true → PK Y ks (tA c P C W x)
  it : ∀ {Γ : Gm} {W : XK} {Y : Cx}, CtxE c P C Γ W Y → ∀ tg e, chkI Γ x tg e = true → PI Y tg e (tI c P C W x)
  mx : ∀ {Γ : Gm} {W : XK} {Y : Cx}, CtxE c P C Γ W Y → ∀ (es : List Expr) (ks : List Keyword), chkL Γ x (es ++ ks.map kwE) = true → PAK Y es ks (tA c P C W x)
section
variable {c : SX} {P : Pr} {C : Ev.Cl}
theorem Snd.no {x : X} (h0 : ∀ Γ e, chk Γ x e = true → False) (h1 : ∀ Γ es, chkL Γ x es = true → False) (h2 : ∀ Γ tg e, chkI Γ x tg e = true → False) : Snd c P C x :=
  ⟨fun _ e h => (h0 _ e h).elim, fun _ es h => (h1 _ es h).elim, fun _ ks h => (h1 _ _ h).elim, fun _ tg e h => (h2 _ tg e h).elim, fun _ es ks h => (h1 _ _ h).elim⟩
theorem Snd.mk0 {x : X} (h : ∀ {Γ : Gm} {W : XK} {Y : Cx}, CtxE c P C Γ W Y → ∀ e, chk Γ x e = true → SE c P C W Y x e ∧ PT Y e (tT c P C W x) ∧ (boolE e = true → PW Y e (tT c P C W x))) (h1 : ∀ Γ es, chkL Γ x es = true → False) (h2 : ∀ Γ tg e, chkI Γ x tg e = true → False) : Snd c P C x :=
  ⟨h, fun _ es h => (h1 _ es h).elim, fun _ ks h => (h1 _ _ h).elim, fun _ tg e h => (h2 _ tg e h).elim, fun _ es ks h => (h1 _ _ h).elim⟩
theorem Snd.mk1 {x : X} (h : ∀ {Γ : Gm} {W : XK} {Y : Cx}, CtxE c P C Γ W Y → ∀ e, chk Γ x e = true → SE c P C W Y x e ∧ plainT e = true) (h1 : ∀ Γ es, chkL Γ x es = true → False) (h2 : ∀ Γ tg e, chkI Γ x tg e = true → False) : Snd c P C x :=
  .mk0 (fun X e hc => let ⟨a, b⟩ := h X e hc; ⟨a, t_val X (true_plain b) a, fun z => by cases e <;> first | (cases z; done) | (cases b; done)⟩) h1 h2
theorem snd (x : X) : Snd c P C x := by
  induction x with
  | var i =>
    refine .mk1 (fun X e h => ?_) (fun Γ es h => by unfold chkL at h; cases h) (fun Γ tg e h => by unfold chkI at h; cases h)
    unfold chk at h
    split at h
    · exact ⟨e_var X h, rfl⟩
    · cases h
  | cint i =>
    refine .mk1 (fun X e h => ?_) (fun Γ es h => by unfold chkL at h; cases h) (fun Γ tg e h => by unfold chkI at h; cases h)
    unfold chk at h
    split at h
    · have e := of_decide_eq_true h
      subst e
      exact ⟨e_int X, rfl⟩
    · cases h
  | cstr i =>
    refine .mk1 (fun X e h => ?_) (fun Γ es h => by unfold chkL at h; cases h) (fun Γ tg e h => by unfold chkI at h; cases h)
    unfold chk at h
    split at h
    · have e := of_decide_eq_true h
      subst e
      exact ⟨e_str X, rfl⟩
    · cases h
  | cbl i =>
    refine .mk1 (fun X e h => ?_) (fun Γ es h => by unfold chkL at h; cases h) (fun Γ tg e h => by unfold chkI at h; cases h)
    unfold chk at h
    split at h
    · have e := of_decide_eq_true h
      subst e
      exact ⟨e_bl X, rfl⟩
    · cases h
  | cnon =>
    refine .mk1 (fun X e h => ?_) (fun Γ es h => by unfold chkL at h; cases h) (fun Γ tg e h => by unfold chkI at h; cases h)
    unfold chk at h
    split at h
    · exact ⟨e_non X, rfl⟩
    · cases h
  | glob k =>
    refine .mk1 (fun X e h => ?_) (fun Γ es h => by unfold chkL at h; cases h) (fun Γ tg e h => by unfold chkI at h; cases h)
    unfold chk at h
    split at h
    · rw [Bool.and_eq_true] at h
      exact ⟨e_glob X (of_decide_eq_true h.1) h.2, rfl⟩
    · cases h
  | bin op a b ia ib =>
    refine .mk1 (fun X e h => ?_) (fun Γ es h => by unfold chkL at h; cases h) (fun Γ tg e h => by unfold chkI at h; cases h)
    unfold chk at h
    split at h
    · simp only [Bool.and_eq_true] at h
      obtain ⟨⟨h1, h2⟩, h3⟩ := h
      have e := of_decide_eq_true h1
      subst e
      exact ⟨e_bin X (ia.ex X _ h2).1 (ib.ex X _ h3).1, rfl⟩
    · cases h
  | neg a ia =>
    refine .mk0 (fun X e h => ?_) (fun Γ es h => by unfold chkL at h; cases h) (fun Γ tg e h => by unfold chkI at h; cases h)
    unfold chk at h
    split at h
    · simp only [Bool.and_eq_true] at h
      have e := of_decide_eq_true h.1
      subst e
      have s := e_neg (pos := by assumption) X (ia.ex X _ h.2).1
      exact ⟨s, t_val X (fun _ => rfl) s, fun z => by cases z⟩
    · cases h
  | not a ia =>
    refine .mk0 (fun X e h => ?_) (fun Γ es h => by unfold chkL at h; cases h) (fun Γ tg e h => by unfold chkI at h; cases h)
    unfold chk at h
    split at h
    · simp only [Bool.and_eq_true] at h
      have e := of_decide_eq_true h.1
      subst e
      exact ⟨e_not X (ia.ex X _ h.2).1, t_not X (ia.ex X _ h.2).2.1, fun z => by cases z⟩
    · cases h
  | and a b ia ib =>
    refine .mk0 (fun X e h => ?_) (fun Γ es h => by unfold chkL at h; cases h) (fun Γ tg e h => by unfold chkI at h; cases h)
    unfold chk at h
    split at h
    · rw [Bool.and_eq_true] at h
      obtain ⟨h0, h⟩ := h
      have e0 := of_decide_eq_true h0
      subst e0
      split at h
      · rename_i e1 e2 r
        rw [Bool.and_eq_true] at h
        obtain ⟨h1, h2⟩ := h
        obtain ⟨a1, a2, _⟩ := ia.ex X _ h1
        cases r with
        | nil =>
          obtain ⟨b1, b2, _⟩ := ib.ex X _ h2
          have t := t_and (pos := by assumption) X a2 (pw_and1 b2)
          exact ⟨e_and X a1 (pe_one b1), t.pt, fun _ => t⟩
        | cons e3 r =>
          obtain ⟨b1, b2, b3⟩ := ib.ex X _ h2
          have t := t_and X a2 (b3 rfl)
          exact ⟨e_and X a1 b1, t.pt, fun _ => t⟩
      · cases h
    · cases h
  | or a b ia ib =>
    refine .mk0 (fun X e h => ?_) (fun Γ es h => by unfold chkL at h; cases h) (fun Γ tg e h => by unfold chkI at h; cases h)
    unfold chk at h
    split at h
    · rw [Bool.and_eq_true] at h
      obtain ⟨h0, h⟩ := h
      have e0 := of_decide_eq_true h0
      subst e0
      split at h
      · rename_i e1 e2 r
        rw [Bool.and_eq_true] at h
        obtain ⟨h1, h2⟩ := h
        obtain ⟨a1, a2, _⟩ := ia.ex X _ h1
        cases r with
        | nil =>
          obtain ⟨b1, b2, _⟩ := ib.ex X _ h2
          have t := t_or (pos := by assumption) X a2 (pw_or1 b2)
          exact ⟨e_or X a1 (pe_one b1), t.pt, fun _ => t⟩
        | cons e3 r =>
          obtain ⟨b1, b2, b3⟩ := ib.ex X _ h2
          have t := t_or X a2 (b3 rfl)
          exact ⟨e_or X a1 b1, t.pt, fun _ => t⟩
      · cases h
    · cases h
  | cmp op a b ia ib =>
    refine .mk0 (fun X e h => ?_) (fun Γ es h => by unfold chkL at h; cases h) (fun Γ tg e h => by unfold chkI at h; cases h)
    unfold chk at h
    split at h
    · split at h
      · simp only [Bool.and_eq_true] at h
        obtain ⟨⟨⟨h1, h2⟩, h3⟩, h4⟩ := h
        have e := of_decide_eq_true h1
        subst e
        exact ⟨e_cmp X h2 (ia.ex X _ h3).1 (ib.ex X _ h4).1, t_cmp X h2 (ia.ex X _ h3).1 (ib.ex X _ h4).1, fun z => by cases z⟩
      · cases h
    · cases h
  | chain op op' a b d ia ib id =>
    refine .mk0 (fun X e h => ?_) (fun Γ es h => by unfold chkL at h; cases h) (fun Γ tg e h => by unfold chkI at h; cases h)
    unfold chk at h
    split at h
    · split at h
      · simp only [Bool.and_eq_true] at h
        obtain ⟨⟨⟨⟨⟨h1, h1'⟩, h2⟩, h3⟩, h4⟩, h5⟩ := h
        have e := of_decide_eq_true h1
        have e' := of_decide_eq_true h1'
        subst e
        subst e'
        have s := e_chain (op := op) (op' := op') (pos := by assumption) X h2 (ia.ex X _ h3).1 (ib.ex X _ h4).1 (id.ex X _ h5).1
        exact ⟨s, t_chain X h2 (ia.ex X _ h3).1 (ib.ex X _ h4).1 (id.ex X _ h5).1, fun z => by cases z⟩
      · cases h
    · cases h
  | ite t a b it ia ib =>
    refine .mk0 (fun X e h => ?_) (fun Γ es h => by unfold chkL at h; cases h) (fun Γ tg e h => by unfold chkI at h; cases h)
    unfold chk at h
    split at h
    · simp only [Bool.and_eq_true] at h
      obtain ⟨⟨h1, h2⟩, h3⟩ := h
      exact ⟨e_ite X (it.ex X _ h1).2.1 (ia.ex X _ h2).1 (ib.ex X _ h3).1, t_ite X (it.ex X _ h1).2.1 (ia.ex X _ h2).2.1 (ib.ex X _ h3).2.1, fun z => by cases z⟩
    · cases h
  | tup as ia =>
    refine .mk1 (fun X e h => ?_) (fun Γ es h => by unfold chkL at h; cases h) (fun Γ tg e h => by unfold chkI at h; cases h)
    unfold chk at h
    split at h
    · rw [Bool.and_eq_true] at h
      exact ⟨e_tup X (of_decide_eq_true h.1) h.2 (ia.ar X _ h.2), rfl⟩
    · cases h
  | lst as ia =>
    refine .mk1 (fun X e h => ?_) (fun Γ es h => by unfold chkL at h; cases h) (fun Γ tg e h => by unfold chkI at h; cases h)
    unfold chk at h
    split at h
    · rw [Bool.and_eq_true] at h
      exact ⟨e_lst X (of_decide_eq_true h.1) h.2 (ia.ar X _ h.2), rfl⟩
    · cases h
  | nil =>
    refine ⟨fun X e h => (by unfold chk at h; cases h), fun X es h => ?_, fun X ks h => ?_, fun X tg e h => (by unfold chkI at h; cases h), fun X es ks h => ?_⟩
    · unfold chkL at h
      split at h
      · exact a_nil
      · cases h
    · cases ks with
      | nil => exact k_nil
      | cons k ks => unfold chkL at h; cases h
    · cases es with
      | nil =>
        cases ks with
        | nil => exact pak_nil k_nil
        | cons k ks => unfold chkL at h; cases h
      | cons e es => unfold chkL at h; cases h
  | cons a as ia ias =>
    refine ⟨fun X e h => (by unfold chk at h; cases h), fun X es h => ?_, fun X ks h => ?_, fun X tg e h => (by unfold chkI at h; cases h), fun X es ks h => ?_⟩
    · unfold chkL at h
      split at h
      · simp only [Bool.and_eq_true] at h
        exact a_cons X h.1.1 (ia.ex X _ h.1.2).1 (ias.ar X _ h.2)
      · cases h
    · cases ks with
      | nil => unfold chkL at h; cases h
      | cons k ks =>
        unfold chkL at h
        simp only [List.map_cons, Bool.and_eq_true] at h
        exact k_cons X (ia.ex X _ h.1.2).1 (ias.kw X _ h.2)
    · cases es with
      | nil =>
        cases ks with
        | nil => unfold chkL at h; cases h
        | cons k ks =>
          unfold chkL at h
          simp only [List.nil_append, List.map_cons, Bool.and_eq_true] at h
          exact pak_nil (k_cons X (ia.ex X _ h.1.2).1 (ias.kw X _ h.2))
      | cons e es =>
        unfold chkL at h
        simp only [List.cons_append, Bool.and_eq_true] at h
        exact pak_cons X h.1.1 (ia.ex X _ h.1.2).1 (ias.mx X _ _ h.2)
  | idx a i ia ii =>
    refine .mk1 (fun X e h => ?_) (fun Γ es h => by unfold chkL at h; cases h) (fun Γ tg e h => by unfold chkI at h; cases h)
    unfold chk at h
    split at h
    · simp only [Bool.and_eq_true] at h
      exact ⟨e_idx X h.1.1 (ia.ex X _ h.1.2).1 (ii.ex X _ h.2).1, rfl⟩
    · cases h
  | slc a lo hi ia il ih =>
    refine .mk1 (fun X e h => ?_) (fun Γ es h => by unfold chkL at h; cases h) (fun Γ tg e h => by unfold chkI at h; cases h)
    unfold chk at h
    split at h
    · split at h
      · split at h
        · rename_i l1 l2 l3 p
          simp only [Bool.and_eq_true] at h
          obtain ⟨⟨h1, h2⟩, h3⟩ := h
          refine ⟨e_slc X h2 h3 (ia.ex X _ h1).1 (fun e he => ?_) (fun e he => ?_), rfl⟩
          · subst he
            simp only [Bool.and_eq_true] at h2
            exact (il.ex X _ h2.2).1
          · subst he
            simp only [Bool.and_eq_true] at h3
            exact (ih.ex X _ h3.2).1
        · cases h
      · cases h
    · cases h
  | rev a ia =>
    refine .mk1 (fun X e h => ?_) (fun Γ es h => by unfold chkL at h; cases h) (fun Γ tg e h => by unfold chkI at h; cases h)
    unfold chk at h
    split at h
    · split at h
      · simp only [Bool.and_eq_true] at h
        obtain ⟨⟨h1, h2⟩, h3⟩ := h
        have e := of_decide_eq_true h1
        have e' := of_decide_eq_true h2
        subst e
        subst e'
        exact ⟨e_rev X (ia.ex X _ h3).1, rfl⟩
      · cases h
    · cases h
  | call j as ia =>
    refine .mk1 (fun X e h => ?_) (fun Γ es h => by unfold chkL at h; cases h) (fun Γ tg e h => by unfold chkI at h; cases h)
    unfold chk at h
    split at h
    · split at h
      · simp only [Bool.and_eq_true] at h
        obtain ⟨⟨⟨⟨h1, h2⟩, h3⟩, h4⟩, h5⟩ := h
        exact ⟨e_call X (of_decide_eq_true h1) h2 h3 (by simpa using h4) (ia.ar X _ h5), rfl⟩
      · cases h
    · cases h
  | callk j p as ia =>
    refine .mk1 (fun X e h => ?_) (fun Γ es h => by unfold chkL at h; cases h) (fun Γ tg e h => by unfold chkI at h; cases h)
    unfold chk at h
    split at h
    · split at h
      · simp only [Bool.and_eq_true] at h
        obtain ⟨⟨⟨⟨⟨h1, h2⟩, h3⟩, h4⟩, h6⟩, h5⟩ := h
        exact ⟨e_callk X (of_decide_eq_true h1) h2 h3 (of_decide_eq_true h4) h6.1 (of_decide_eq_true h6.2) h5 (ia.mx X _ _ h5), rfl⟩
      · cases h
    · cases h
  | lrng as ia =>
    refine .mk1 (fun X e h => ?_) (fun Γ es h => by unfold chkL at h; cases h) (fun Γ tg e h => by unfold chkI at h; cases h)
    unfold chk at h
    split at h
    · split at h
      · simp only [Bool.and_eq_true] at h
        obtain ⟨⟨⟨⟨h1, h2⟩, h3⟩, h4⟩, h5⟩ := h
        refine ⟨e_lrng X h1 h2 h3 ?_ (ia.ar X _ h5), rfl⟩
        rw [Bool.or_eq_true] at h4
        exact h4.imp (fun z => eq_of_beq z) (fun z => eq_of_beq z)
      · cases h
    · cases h
  | thunk k a ia =>
    refine .mk1 (fun X e h => ?_) (fun Γ es h => by unfold chkL at h; cases h) (fun Γ tg e h => by unfold chkI at h; cases h)
    unfold chk at h
    split at h
    · split at h
      · simp only [Bool.and_eq_true] at h
        obtain ⟨⟨⟨⟨h1, h2⟩, h3⟩, h4⟩, h5⟩ := h
        exact ⟨e_thunk X (of_decide_eq_true h1) h2 h3 h4 fun X' => (ia.ex X' _ h5).1, rfl⟩
      · cases h
    · cases h
  | b1 f a ia =>
    refine .mk1 (fun X e h => ?_) (fun Γ es h => by unfold chkL at h; cases h) (fun Γ tg e h => by unfold chkI at h; cases h)
    unfold chk at h
    split at h
    · split at h
      · rw [Bool.or_eq_true] at h
        rcases h with h | h
        · simp only [Bool.and_eq_true] at h
          obtain ⟨⟨⟨h1, h2⟩, h3⟩, h4⟩ := h
          exact ⟨e_b1 X (by simpa using h1) h2 h3 (ia.ex X _ h4).1, rfl⟩
        · rw [Bool.and_eq_true] at h
          obtain ⟨h0, h⟩ := h
          have hf : f = .sset := by cases f <;> first | rfl | cases h0
          subst hf
          split at h
          · simp only [Bool.and_eq_true] at h
            obtain ⟨⟨⟨h1, h2⟩, h3⟩, h4⟩ := h
            exact ⟨e_sset X h1 h2 h3 (ia.ex X _ h4).1, rfl⟩
          · cases h
      · cases h
    · cases h
  | mx a b ia ib =>
    refine .mk1 (fun X e h => ?_) (fun Γ es h => by unfold chkL at h; cases h) (fun Γ tg e h => by unfold chkI at h; cases h)
    unfold chk at h
    split at h
    · split at h
      · simp only [Bool.and_eq_true] at h
        obtain ⟨⟨⟨⟨h1, h2⟩, h3⟩, h4⟩, h5⟩ := h
        exact ⟨e_mx X h1 h2 h3 (ia.ex X _ h4).1 (ib.ex X _ h5).1, rfl⟩
      · cases h
    · cases h
  | mn a b ia ib =>
    refine .mk1 (fun X e h => ?_) (fun Γ es h => by unfold chkL at h; cases h) (fun Γ tg e h => by unfold chkI at h; cases h)
    unfold chk at h
    split at h
    · split at h
      · simp only [Bool.and_eq_true] at h
        obtain ⟨⟨⟨⟨h1, h2⟩, h3⟩, h4⟩, h5⟩ := h
        exact ⟨e_mn X h1 h2 h3 (ia.ex X _ h4).1 (ib.ex X _ h5).1, rfl⟩
      · cases h
    · cases h
  | isi t a ia =>
    refine .mk1 (fun X e h => ?_) (fun Γ es h => by unfold chkL at h; cases h) (fun Γ tg e h => by unfold chkI at h; cases h)
    unfold chk at h
    split at h
    · split at h
      · simp only [Bool.and_eq_true] at h
        obtain ⟨⟨⟨h1, h2⟩, h3⟩, h4⟩ := h
        exact ⟨e_isi X h1 h2 h3 (ia.ex X _ h4).1, rfl⟩
      · cases h
    · cases h
  | frz a ia =>
    refine .mk1 (fun X e h => ?_) (fun Γ es h => by unfold chkL at h; cases h) (fun Γ tg e h => by unfold chkI at h; cases h)
    unfold chk at h
    rw [Bool.and_eq_true] at h
    exact ⟨e_frz X (ia.ex X _ h.2).1, h.1⟩
  | m0 f o io =>
    refine .mk1 (fun X e h => ?_) (fun Γ es h => by unfold chkL at h; cases h) (fun Γ tg e h => by unfold chkI at h; cases h)
    unfold chk at h
    split at h
    · split at h
      · simp only [Bool.and_eq_true] at h
        obtain ⟨⟨⟨h1, h2⟩, h3⟩, h4⟩ := h
        have e := of_decide_eq_true h1
        subst e
        exact ⟨e_m0 X h2 h3 (io.ex X _ h4).1, rfl⟩
      · cases h
    · cases h
  | m1 f o a io ia =>
    refine .mk1 (fun X e h => ?_) (fun Γ es h => by unfold chkL at h; cases h) (fun Γ tg e h => by unfold chkI at h; cases h)
    unfold chk at h
    split at h
    · split at h
      · simp only [Bool.and_eq_true] at h
        obtain ⟨⟨⟨⟨⟨⟨h1, h1'⟩, h2⟩, h3⟩, h4⟩, h5⟩, h6⟩ := h
        have e := of_decide_eq_true h1
        subst e
        exact ⟨e_m1 X (by simpa using h1') h2 h3 h4 (io.ex X _ h5).1 (ia.ex X _ h6).1, rfl⟩
      · cases h
    · cases h
  | scomp j tg a own _ ia =>
    refine .mk1 (fun X x h => ?_) (fun Γ es h => by unfold chkL at h; cases h) (fun Γ tg e h => by unfold chkI at h; cases h)
    unfold chk at h
    split at h
    · split at h
      · simp only [Bool.and_eq_true] at h
        obtain ⟨⟨⟨⟨⟨h1, h2⟩, h3⟩, h4⟩, h5⟩, h6⟩ := h
        exact ⟨e_scomp X (ia.ex X _ h1).1 h2 h3 h4 h5 h6, rfl⟩
      · cases h
    · cases h
  | comp e tg it cond own ie itg iit icond =>
    refine .mk1 (fun X x h => ?_) (fun Γ es h => by unfold chkL at h; cases h) (fun Γ tg e h => by unfold chkI at h; cases h)
    unfold chk at h
    split at h
    · split at h
      · simp only [Bool.and_eq_true] at h
        obtain ⟨⟨⟨⟨⟨⟨h1, h2⟩, h3⟩, h4⟩, h5⟩, h6⟩, h7⟩ := h
        refine ⟨?_, rfl⟩
        rename_i ifs
        cases ifs with
        | nil =>
          dsimp only at h6
          split at h6
          · exact e_comp X true (fun _ => rfl) (iit.it X _ _ h1) h2 h3 h4 h5 (fun Y' X' => pts_nil) (fun Y' X' => (ie.ex X' _ h7).1)
          · cases h6
        | cons l ls =>
          cases ls with
          | nil => exact e_comp X false (fun z => by cases z) (iit.it X _ _ h1) h2 h3 h4 h5 (fun Y' X' => pts_one (icond.ex X' _ h6).2.1) (fun Y' X' => (ie.ex X' _ h7).1)
          | cons _ _ => cases h6
      · cases h
    · cases h
  | iseq a ia =>
    refine ⟨fun X e h => (by unfold chk at h; cases h), fun X es h => (by unfold chkL at h; cases h), fun X ks h => (by unfold chkL at h; cases h), fun X tg e h => ?_, fun X es ks h => (by unfold chkL at h; cases h)⟩
    unfold chkI at h
    rw [Bool.and_eq_true] at h
    exact i_seq X (ia.ex X _ h.2).1
  | irng as ia =>
    refine ⟨fun X e h => (by unfold chk at h; cases h), fun X es h => (by unfold chkL at h; cases h), fun X ks h => (by unfold chkL at h; cases h), fun X tg e h => ?_, fun X es ks h => (by unfold chkL at h; cases h)⟩
    unfold chkI at h
    split at h
    · split at h
      · simp only [Bool.and_eq_true] at h
        obtain ⟨⟨h1, h2⟩, h3⟩ := h
        split at h2
        · exact i_rng X h1 (by rw [List.all_cons, h2]; rfl) rfl (ia.ar X _ h3)
        · rw [Bool.and_eq_true] at h2
          exact i_rng X h1 (by rw [List.all_cons, List.all_cons, h2.1, h2.2]; rfl) rfl (ia.ar X _ h3)
        · cases h2
      · cases h
    · cases h
  | ienum a ia =>
    refine ⟨fun X e h => (by unfold chk at h; cases h), fun X es h => (by unfold chkL at h; cases h), fun X ks h => (by unfold chkL at h; cases h), fun X tg e h => ?_, fun X es ks h => (by unfold chkL at h; cases h)⟩
    unfold chkI at h
    split at h
    · split at h
      · simp only [Bool.and_eq_true] at h
        exact i_enum X h.1.1 h.1.2 (ia.ex X _ h.2).1
      · cases h
    · cases h
  | izip a c ia ic =>
    refine ⟨fun X e h => (by unfold chk at h; cases h), fun X es h => (by unfold chkL at h; cases h), fun X ks h => (by unfold chkL at h; cases h), fun X tg e h => ?_, fun X es ks h => (by unfold chkL at h; cases h)⟩
    unfold chkI at h
    split at h
    · split at h
      · simp only [Bool.and_eq_true] at h
        exact i_zip X h.1.1.1.1 h.1.1.1.2 h.1.1.2 (ia.ex X _ h.1.2).1 (ic.ex X _ h.2).1
      · cases h
    · cases h
  | _ => exact .no (fun Γ e h => by unfold chk at h; cases h) (fun Γ es h => by unfold chkL at h; cases h) (fun Γ tg e h => by unfold chkI at h; cases h)
end
end Ev
set_option Elab.async false
set_option linter.all false
set_option maxRecDepth 100000
set_option maxHeartbeats 8000000
/-! EvQ: statements leave older objects alone. -/
namespace Ev
open PySem
def GdS (b : Nat) (T : GH) (r : RS) : Prop := match r with
  | .nxt _ S => Ext T S ∧ Clo b S
  | .ret _ S => Ext T S ∧ Clo b S
  | .brk _ S => Ext T S ∧ Clo b S
  | .cnt _ S => Ext T S ∧ Clo b S
  | .exc _ _ S => Ext T S ∧ Clo b S
  | .bad => True
variable {b : Nat} {T T' S : GH}
theorem GdS.less {r : RS} (h : GdS b T r) (k : Ext T' T) : GdS b T' r := by
  cases r <;> first | exact ⟨k.trans h.1, h.2⟩ | trivial
theorem GdS.of {α : Type} {r : R α} {f : α → GH → RS} (h : Gd b T r) (k : ∀ a S', r = .ok a S' → Ext T S' → Clo b S' → GdS b T (f a S')) : GdS b T (RS.of r f) := by
  cases r with
  | ok a S => exact k a S rfl h.1 h.2
  | exc c d S => exact h
  | bad => trivial
theorem GdS.scop {sc : Bool} {b0 : Nat} {f : Nat → RS} (h : ∀ b', b ≤ b' → b' ≤ S.length → GdS b0 S (f b')) (hb : b ≤ S.length) : GdS b0 S (Ev.scop sc b S f) := by
  unfold Ev.scop
  cases sc with
  | false => exact h b (Nat.le_refl _) hb
  | true =>
    have g := h S.length hb (Nat.le_refl _)
    rw [if_pos rfl]
    cases q : f S.length <;> rw [q] at g <;> first | exact ⟨g.1.take (Nat.le_refl _) g.1.1, g.2.take _⟩ | exact g
theorem gd_forL {f : D → Sg → GH → RS} (h : ∀ d σ S, Ext T S → Clo b S → GdS b T (f d σ S)) : ∀ (ds : List D) (σ : Sg) {S : GH}, Ext T S → Clo b S → GdS b T (forL f ds σ S)
  | [], σ, S, x, c => ⟨x, c⟩
  | d :: ds, σ, S, x, c => by
    unfold forL
    have g := h d σ S x c
    cases q : f d σ S <;> rw [q] at g
    · exact gd_forL h ds _ g.1 g.2
    · exact g
    · exact g
    · exact gd_forL h ds _ g.1 g.2
    · exact g
    · trivial
theorem gd_whL {t : Sg → GH → R D} {f : Sg → GH → RS} (ht : ∀ σ S, Ext T S → Clo b S → Gd b T (t σ S)) (h : ∀ σ S, Ext T S → Clo b S → GdS b T (f σ S)) : ∀ (n : Nat) (σ : Sg) {S : GH}, Ext T S → Clo b S → GdS b T (whL t f n σ S)
  | 0, σ, S, x, c => trivial
  | n + 1, σ, S, x, c => by
    unfold whL
    refine GdS.of (ht σ S x c) fun k S1 _ x1 c1 => ?_
    split
    · have g := h σ S1 x1 c1
      cases q : f σ S1 <;> rw [q] at g
      · exact gd_whL ht h n _ g.1 g.2
      · exact g
      · exact g
      · exact gd_whL ht h n _ g.1 g.2
      · exact g
      · trivial
    · exact ⟨x1, c1⟩
    · trivial
theorem opSet_gd {o i v : D} {S' : GH} {b0 : Nat} (h : opSet b o i v S = some S') (hb : b0 ≤ b) (c : Clo b0 S) : Ext S S' ∧ Clo b0 S' := by
  unfold opSet at h
  split at h
  · split at h
    · rename_i xs e
      split at h
      · rename_i hm
        cases q : L2.ixN xs.length _ with
        | none => rw [q] at h; cases h
        | some j =>
          rw [q] at h
          cases h
          refine ⟨.lst e, c.set fun hn => ?_⟩
          have hl : lowA b0 xs = true := c _ _ hn e
          unfold may at hm
          rw [if_pos (by omega), Bool.and_eq_true] at hm
          refine lowA_all.mpr fun x hx => ?_
          rcases List.mem_or_eq_of_mem_set hx with z | z
          · exact lowA_all.mp hl x z
          · rw [z]; exact ck_low 20 _ hm.2
      · cases h
    · cases h
  · cases h
theorem gd_evS {P : Pr} {C : Cl} (hC : GC C) (x : X) : ∀ (b : Nat) (σ : Sg) (S : GH) (b0 : Nat), b0 ≤ b → b ≤ S.length → Clo b0 S → GdS b0 S (evS P C x b σ S) := by
  induction x with
  | skip => intro b σ S b0 h1 h2 c; exact ⟨.refl _, c⟩
  | seq a e ia ie =>
    intro b σ S b0 h1 h2 c
    unfold evS
    have g := ia b σ S b0 h1 h2 c
    cases q : evS P C a b σ S <;> rw [q] at g
    · exact (ie b _ _ b0 h1 (Nat.le_trans h2 g.1.1) g.2).less g.1
    all_goals first | exact g | trivial
  | asg tg e _ _ =>
    intro b σ S b0 h1 h2 c
    unfold evS
    refine GdS.of (gd_ev hC e b σ S b0 h1 h2 c) fun d S1 _ k1 c1 => GdS.of (gd_fix d k1 (Nat.le_trans h1 (Nat.le_trans h2 k1.1)) c1) fun d' S2 _ k2 c2 => ?_
    split
    · exact ⟨k2, c2⟩
    · trivial
  | aug i op e _ =>
    intro b σ S b0 h1 h2 c
    unfold evS
    split
    · refine GdS.of (gd_ev hC e b σ S b0 h1 h2 c) fun v S1 _ k1 c1 => ?_
      split
      · exact GdS.of ((same_bin op _ _).gd k1 c1) fun r S2 _ k2 c2 => ⟨k2, c2⟩
      · trivial
    · trivial
  | expr e _ =>
    intro b σ S b0 h1 h2 c
    unfold evS
    exact GdS.of (gd_ev hC e b σ S b0 h1 h2 c) fun v S1 _ k1 c1 => ⟨k1, c1⟩
  | ret e _ =>
    intro b σ S b0 h1 h2 c
    unfold evS
    exact GdS.of (gd_ev hC e b σ S b0 h1 h2 c) fun v S1 _ k1 c1 => ⟨k1, c1⟩
  | retn => intro b σ S b0 h1 h2 c; exact ⟨.refl _, c⟩
  | ifs t a e _ ia ie =>
    intro b σ S b0 h1 h2 c
    unfold evS
    refine GdS.of (gd_ev hC t b σ S b0 h1 h2 c) fun v S1 _ k1 c1 => ?_
    split
    · exact (ia b σ S1 b0 h1 (Nat.le_trans h2 k1.1) c1).less k1
    · exact (ie b σ S1 b0 h1 (Nat.le_trans h2 k1.1) c1).less k1
    · trivial
  | whl sc t body _ ib =>
    intro b σ S b0 h1 h2 c
    unfold evS
    refine gd_whL (fun σ' S' x' c' => (gd_ev hC t b σ' S' b0 h1 (Nat.le_trans h2 x'.1) c').less x') (fun σ' S' x' c' => GdS.less (GdS.scop (fun b' e1 e2 => ib b' σ' S' b0 (Nat.le_trans h1 e1) e2 c') (Nat.le_trans h2 x'.1)) x') P.w σ (.refl _) c
  | forr sc tg it body _ _ ib =>
    intro b σ S b0 h1 h2 c
    unfold evS
    have g := gd_ev (P := P) hC it b σ S b0 h1 h2 c
    split
    · rename_i items lk S1 q
      rw [q] at g
      obtain ⟨k1, c1⟩ := g
      obtain ⟨l1, l2⟩ := lock_gd lk c1
      have h3 : b ≤ (lock lk S1).length := by rw [l2]; exact Nat.le_trans h2 k1.1
      have gf := gd_forL (T := lock lk S1) (b := b0) (f := fun d σ' S' => scop sc b S' fun b' => match bindT tg d σ' with
        | some σ2 => evS P C body b' σ2 S'
        | none => .bad) (fun d σ' S' x' c' => GdS.less (GdS.scop (fun b' e1 e2 => by
          split
          · exact ib b' _ S' b0 (Nat.le_trans h1 e1) e2 c'
          · trivial) (Nat.le_trans h3 x'.1)) x') items σ (.refl _) l1
      have un : ∀ S2, Ext (lock lk S1) S2 → Clo b0 S2 → Ext S (unlock lk S1 S2) ∧ Clo b0 (unlock lk S1 S2) := fun S2 x2 c2 => by
        obtain ⟨u1, u2⟩ := unlock_gd lk c1 c2
        exact ⟨k1.trans (unlock_ext x2 l2 u2), u1⟩
      revert gf
      generalize forL _ items σ (lock lk S1) = r
      intro gf
      cases r <;> first | exact un _ gf.1 gf.2 | trivial
    · rename_i q
      rw [q] at g
      exact g
    · trivial
  | brk => intro b σ S b0 h1 h2 c; exact ⟨.refl _, c⟩
  | cnt => intro b σ S b0 h1 h2 c; exact ⟨.refl _, c⟩
  | rais k e _ =>
    intro b σ S b0 h1 h2 c
    unfold evS
    refine GdS.of (gd_ev hC e b σ S b0 h1 h2 c) fun v S1 _ k1 c1 => ?_
    split
    · exact ⟨k1, c1⟩
    · trivial
  | sset o i e _ _ _ =>
    intro b σ S b0 h1 h2 c
    unfold evS
    refine GdS.of (gd_ev hC e b σ S b0 h1 h2 c) fun v S1 _ k1 c1 => GdS.of (gd_fix v k1 (Nat.le_trans h1 (Nat.le_trans h2 k1.1)) c1) fun v' S2 _ k2 c2 => ?_
    refine GdS.of ((gd_ev hC o b σ S2 b0 h1 (Nat.le_trans h2 k2.1) c2).less k2) fun od S3 _ k3 c3 => GdS.of ((gd_ev hC i b σ S3 b0 h1 (Nat.le_trans h2 k3.1) c3).less k3) fun kd S4 _ k4 c4 => ?_
    split
    · rename_i S5 q
      obtain ⟨g1, g2⟩ := opSet_gd q h1 c4
      exact ⟨k4.trans g1, g2⟩
    · trivial
  | _ => intro b σ S b0 h1 h2 c; unfold evS; trivial
theorem gd_toR {r : RS} {b0 : Nat} (h : GdS b0 T r) : Gd b0 T r.toR := by
  cases r <;> first | exact h | trivial
theorem gc_callO (P : Pr) : ∀ n, GC (callO P n)
  | 0 => fun _ _ _ _ _ _ _ _ => trivial
  | n + 1 => fun j b ds S b0 h1 h2 c => by
    unfold callO
    split
    · split
      · exact gd_toR (gd_evS (gc_callO P n) _ b _ S b0 h1 h2 c)
      · trivial
    · trivial
end Ev
set_option Elab.async false
set_option linter.all false
set_option maxRecDepth 100000
set_option maxHeartbeats 8000000
/-! EvS: statements: the check, the readings. -/
namespace Ev
open PySem PySem.Spec PyProof.Rows L2
/-- what is wanted behind a statement; H0 where lists just made are counted from -/
def PXS (c : SX) (W : XK) (ρ : List Addr) (H : Hp) (r : RS) (H0 : Hp) (D : Ends) : Prop := match r with
  | .nxt σ' G' => ∀ ρ' H' σV', Stp ρ H ρ' H' → RH c.toSC ρ' H' G' → slR c ρ' H' σ' σV' → D.nx σV' H'
  | .brk σ' G' => ∀ ρ' H' σV', Stp ρ H ρ' H' → RH c.toSC ρ' H' G' → slR c ρ' H' σ' σV' → D.bk σV' H'
  | .cnt σ' G' => ∀ ρ' H' σV', Stp ρ H ρ' H' → RH c.toSC ρ' H' G' → slR c ρ' H' σ' σV' → D.ct σV' H'
  | .ret d G' => ∀ ρ' H' v, Stp ρ H ρ' H' → RH c.toSC ρ' H' G' → RV c.toSC ρ' H' d v → Fr0 H0 d v → D.rt v H'
  | .exc k d G' => ∀ ρ' H' dx v, Stp ρ H ρ' H' → RH c.toSC ρ' H' G' → RD c.K ρ' H' d v → H' dx = some (.xd [(c.fld k, v)]) → W (.ref (c.cls k)) (some dx) H'
  | .bad => False
variable {c : SX} {P : Pr} {C : Ev.Cl} {Γ : Gm} {W : XK} {Y : Cx} {ρ ρ' ρ1 : List Addr} {H H' H0 H1 : Hp} {G G' G1 : GH} {r : RS} {N N' : Ends}
theorem PXS.step (x : Stp ρ H ρ1 H1) (h : PXS c W ρ H r H0 N) : PXS c W ρ1 H1 r H0 N := by
  cases r with
  | nxt σ G' => exact fun ρ' H' σV y => h ρ' H' σV (x.trans y)
  | brk σ G' => exact fun ρ' H' σV y => h ρ' H' σV (x.trans y)
  | cnt σ G' => exact fun ρ' H' σV y => h ρ' H' σV (x.trans y)
  | ret d G' => exact fun ρ' H' v y => h ρ' H' v (x.trans y)
  | exc k d G' => exact fun ρ' H' dx v y => h ρ' H' dx v (x.trans y)
  | bad => exact h
theorem PXS.from (x : Stp ρ H0 ρ1 H1) (h : PXS c W ρ' H' r H0 N) : PXS c W ρ' H' r H1 N := by
  cases r with
  | ret d G' => exact fun ρ2 H2 v y rh rv fr => h ρ2 H2 v y rh rv (fr.back x)
  | _ => exact h
def tS (c : SX) (P : Pr) (C : Ev.Cl) (W : XK) (x : X) : TS := fun D σV H => ∃ b ρ G σ, At c b ρ G σ σV H ∧ PXS c W ρ H (evS P C x b σ G) H D
theorem tS_then {b : Nat} {σ : Sg} {σV : L2.St} {x : X} {f : D → GH → RS} {K : VK} (hC : GC C) (A : At c b ρ G σ σV H) (h : PXS c W ρ H (RS.of (ev P C x b σ G) f) H0 N)
    (k : ∀ d G' ρ' H' v, Stp ρ H ρ' H' → At c b ρ' G' σ σV H' → Ext G G' → RV c.toSC ρ' H' d v → Fr0 H d v → PXS c W ρ H (f d G') H0 N → K v H') : tE c P C W x σV H K := by
  refine ⟨b, ρ, G, σ, A, ?_⟩
  cases e : ev P C x b σ G with
  | ok d G' =>
    rw [e] at h
    have l := len_ev hC A.lb e
    exact fun ρ' H' st rh v rv fr => k d G' ρ' H' v st (A.step st rh l.1) l rv fr h
  | exc n d G' => rw [e] at h; exact h
  | bad => rw [e] at h; exact h
theorem tST_then {b : Nat} {σ : Sg} {σV : L2.St} {x : X} {f : D → GH → RS} {K : Bool → Hp → Prop} (hC : GC C) (A : At c b ρ G σ σV H) (h : PXS c W ρ H (RS.of (ev P C x b σ G) f) H0 N)
    (k : ∀ d G' ρ' H', Stp ρ H ρ' H' → At c b ρ' G' σ σV H' → Ext G G' → PXS c W ρ H (f d G') H0 N → ∃ t, truth d G' = some t ∧ K t H') : tT c P C W x σV H K := by
  refine ⟨b, ρ, G, σ, A, ?_⟩
  cases e : ev P C x b σ G with
  | ok d G' =>
    rw [e] at h
    have l := len_ev hC A.lb e
    exact fun ρ' H' st rh => k d G' ρ' H' st (A.step st rh l.1) l h
  | exc n d G' => rw [e] at h; exact h
  | bad => rw [e] at h; exact h
theorem _root_.L2.PS.imp {st : Stmt} {t t' : TS} (h : PS Y st t) (k : ∀ D σ H, t' D σ H → t D σ H) : PS Y st t' := ⟨fun pins s σ H D I w => h.run pins s σ H D I (k D σ H w)⟩
theorem _root_.L2.PSs.imp {ss : List Stmt} {t t' : TS} (h : PSs Y ss t) (k : ∀ D σ H, t' D σ H → t D σ H) : PSs Y ss t' := ⟨fun pins s σ H D I w => h.run pins s σ H D I (k D σ H w)⟩
/-! ### the check -/
def notComp : Expr → Bool
  | .ListComp _ _ _ _ => false
  | .SetComp _ _ _ _ => false
  | .DictComp _ _ _ _ _ => false
  | _ => true
/-- is name = value stored within the comprehension? -/
def swOf (Γ : Gm) (x : Str) (p pos : Pos) (s : Scope) : Bool := decide (Γ.sc.kind = .function) && (Γ.sc.names.lookup x == some .local) && (p.line == pos.line) && !(s.names.any fun (n, k) => n == x && (k == .local || k == .cell))
def swB (Γ : Gm) (x : Str) (p : Pos) : Expr → Bool
  | .ListComp _ _ s pos => swOf Γ x p pos s
  | .SetComp _ _ s pos => swOf Γ x p pos s
  | .DictComp _ _ _ s pos => swOf Γ x p pos s
  | _ => false
/-- the names that a tuple's parts are stored to from the right -/
def swM (env : Env) (ts vs : List Expr) : Option (Option (List Str)) :=
  if (!(ts.length == 2 || ts.length == 3) || vs.length != ts.length || env.blockKind != .function) = true then some none else
  if (vs.any fun e => match e with | .Starred _ _ => true | _ => false) = true then some none else
  let row := (ts.head?.map (·.pos.line)).getD 0
  let ns := ts.filterMap fun t => match t with
    | .Name n p => if (env.kindOf n == some .local && p.line == row) = true then some n else none
    | _ => none
  if (ns.length != ts.length || ns.eraseDups.length != ns.length) = true then some none else
  if vs.all (foldedForSure 8) = true then some none else
  if vs.all (constantsAlone 8) = true then none else some (some ns)
theorem swM_env {env env' : Env} (h : env.scope = env'.scope) (ts vs : List Expr) : swM env ts vs = swM env' ts vs := by
  unfold swM Env.blockKind Env.kindOf
  rw [h]
theorem swM_ok {ts vs : List Expr} {k k2 : Nat} {p p2 : Pos} {env : Env} {r : Option (List Str)} (h : swM env ts vs = some r) : swappedStores [.Tuple ts k p] (.Tuple vs k2 p2) env = pure r := by
  unfold swM at h
  unfold swappedStores
  by_cases c1 : (!(ts.length == 2 || ts.length == 3) || vs.length != ts.length || env.blockKind != .function) = true
  · rw [if_pos c1] at h
    cases h
    exact if_pos c1
  · rw [if_neg c1] at h
    refine Eq.trans (if_neg c1) ?_
    split at h
    · rename_i c2
      cases h
      exact if_pos c2
    · rename_i c2
      refine Eq.trans (if_neg c2) ?_
      dsimp only at h
      split at h
      · rename_i c3
        cases h
        exact if_pos c3
      · rename_i c3
        refine Eq.trans (if_neg c3) ?_
        split at h
        · rename_i c4
          cases h
          exact if_pos c4
        · rename_i c4
          refine Eq.trans (if_neg c4) ?_
          split at h
          · cases h
          · rename_i c5
            cases h
            exact if_neg c5
end Ev
set_option Elab.async false
set_option linter.all false
set_option maxRecDepth 100000
set_option maxHeartbeats 8000000
/-! EvT: statements keep to their readings. -/
namespace Ev
open PySem PySem.Spec PyProof.Rows L2
def envD (Γ : Gm) : Env := { scope := Γ.sc, locals := 0, globals := 0, cells := [] }
def isCompX : X → Bool
  | .comp _ _ _ _ _ => true
  | _ => false
/-- a, b = x, y and a, b, c = x, y, z, stored from the right -/
def parB (Γ : Gm) : X → X → List Expr → List Expr → List Str → Bool
  | .tup (.cons (.var i) (.cons (.var j) .nil)), .tup as, ts, vs, r => match ts, vs with
    | [.Name x _, .Name y _], [a, b] => decide (r = [x, y]) && decide (i ≠ j) && decide (Γ.N[i]? = some x) && decide (Γ.N[j]? = some y) && decide (Γ.sc.names.lookup x = some .local) && decide (Γ.sc.names.lookup y = some .local) && chkL Γ as [a, b]
    | _, _ => false
  | .tup (.cons (.var i) (.cons (.var j) (.cons (.var l) .nil))), .tup as, ts, vs, r => match ts, vs with
    | [.Name x _, .Name y _, .Name z _], [a, b, d] => decide (r = [x, y, z]) && decide (i ≠ j) && decide (i ≠ l) && decide (j ≠ l) && decide (Γ.N[i]? = some x) && decide (Γ.N[j]? = some y) && decide (Γ.N[l]? = some z) &&
        decide (Γ.sc.names.lookup x = some .local) && decide (Γ.sc.names.lookup y = some .local) && decide (Γ.sc.names.lookup z = some .local) && chkL Γ as [a, b, d]
    | _, _ => false
  | _, _, _, _, _ => false
/-- name = {..} -/
def scomB (Γ : Gm) (tg e : X) (x : Str) (p : Pos) (v : Expr) : Bool := match tg, e, v with
  | .var i, .scomp j tg2 a own, .SetComp (.Name nm _) gs scope _ => (match gs with
    | [⟨tg', iter, [], 0⟩] => chk Γ a iter && notSet iter && blkC Γ.N Γ.sc scope (ownN Γ own) && (slotsT tg2).all (own.contains ·) && chkG (inBlk Γ scope) tg2 tg' && varB (inBlk Γ scope) j nm && decide (Γ.N[i]? = some x) && swB Γ x p v
    | _ => false)
  | _, _, _ => false
def asgB (Γ : Gm) (tg e : X) (t v : Expr) : Bool := match t with
  | .Name x p => (chkG Γ tg t && chk Γ e v && (!swB Γ x p v || isCompX e)) || scomB Γ tg e x p v
  | .Tuple ts _ _ => (match v with
    | .Tuple vs _ _ => (match swM (envD Γ) ts vs with
      | some none => chkG Γ tg t && chk Γ e v
      | some (some r) => parB Γ tg e ts vs r
      | none => false)
    | _ => chkG Γ tg t && chk Γ e v)
  | _ => false
mutual
def chkS (Γ : Gm) : X → Stmt → Bool
  | .skip, s => match s with
    | .Pass _ => true
    | .Expr (.Constant (.str _) _ _) _ => true
    | _ => false
  | .asg tg e, s => match s with
    | .Assign [t] v _ => asgB Γ tg e t v
    | _ => false
  | .aug i op e, s => match s with
    | .AugAssign (.Name x _) o v _ => ((match op, o with
      | .add, .Add => true
      | .sub, .Sub => true
      | _, _ => false) && decide (Γ.N[i]? = some x) && stB Γ x && chk Γ e v)
    | _ => false
  | .expr e, s => match s with
    | .Expr v _ => notComp v && chk Γ e v
    | _ => false
  | .ret e, s => match s with
    | .Return (some v) _ => chk Γ e v
    | _ => false
  | .retn, s => match s with
    | .Return none _ => true
    | _ => false
  | .ifs t a b, s => match s with
    | .If k l m _ => chk Γ t k && chkB Γ a l && chkB Γ b m
    | _ => false
  | .whl _ t body, s => match s with
    | .While k l [] _ => chk Γ t k && chkB Γ body l
    | _ => false
  | .forr _ tg it body, s => match s with
    | .For tg' iter l [] _ => notSet iter && chkI Γ it tg' iter && chkG Γ tg tg' && chkB Γ body l
    | _ => false
  | .brk, s => match s with
    | .Break _ => true
    | _ => false
  | .cnt, s => match s with
    | .Continue _ => true
    | _ => false
  | .rais k e, s => match s with
    | .Raise (some (.Call (.Name x _) [a] [] _)) none _ => decide (Γ.ex[k]? = some x) && glB Γ x && notStar a && chk Γ e a
    | _ => false
  | .sset o i e, s => match s with
    | .Assign [.Subscript o' i' _] v _ => notSlice i' && chk Γ o o' && chk Γ i i' && chk Γ e v
    | _ => false
  | _, _ => false
def chkB (Γ : Gm) : X → List Stmt → Bool
  | .skip, ss => match ss with
    | [] => true
    | _ => false
  | .seq a b, ss => match ss with
    | s :: ss => chkS Γ a s && chkB Γ b ss
    | [] => false
  | _, _ => false
end
section
variable {c : SX} {P : Pr} {C : Ev.Cl} {Γ : Gm} {W : XK} {Y : Cx}
def RaiseOk (c : SX) (k : Nat) (x : Str) (W : XK) (Y : Cx) : Prop := ∀ (a : Expr) (ta : TA) (p pos pos2 : Pos), notStar a = true → PA Y [a] ta → Gl Y x →
  PS Y (.Raise (some (.Call (.Name x p) [a] [] pos)) none pos2) (fun _ σ H => ta σ H fun vs H1 => ∃ v, vs = [v] ∧ ∀ d, H1 d = none → W (.ref (c.cls k)) (some d) (upd H1 d (.xd [(c.fld k, v)])))
structure CtxS (c : SX) (P : Pr) (C : Ev.Cl) (Γ : Gm) (W : XK) (Y : Cx) : Prop extends CtxE c P C Γ W Y where
  own : PassesOwn (model Y.prog Y.w) Y.A Y.env Y.xe
  rs : ∀ (k : Nat) (x : Str), Γ.ex[k]? = some x → RaiseOk c k x W Y
theorem swaps_no {v : Expr} {t : Option Expr} {l : Nat} {env : Env} (h : notComp v = true) : swapsWith v t l env = pure false := by cases v <;> first | rfl | cases h
theorem swaps_tup {v : Expr} {ts : List Expr} {k : Nat} {p : Pos} {l : Nat} {env : Env} : swapsWithSole [.Tuple ts k p] v l env = pure false := by cases v <;> rfl
theorem swaps_sub {v o i : Expr} {p : Pos} {l : Nat} {env : Env} : swapsWithSole [.Subscript o i p] v l env = pure false := by cases v <;> rfl
theorem swaps_name (X : CtxE c P C Γ W Y) {v : Expr} {x : Str} {p : Pos} {l : Nat} (hk : Y.env.scope.kind = .function) : swapsWith v (some (.Name x p)) l Y.env = pure (swB Γ x p v) := by
  have hb : Y.env.blockKind = .function := by unfold Env.blockKind; rw [hk]; rfl
  have ky : Y.env.kindOf x = Γ.sc.names.lookup x := by unfold Env.kindOf; rw [X.sc]
  have kk : decide (Γ.sc.kind = .function) = true := by rw [← X.sc, hk]; rfl
  cases v with
  | ListComp elt gs s pos =>
    unfold swapsWith swB swOf
    simp only [hb, ky, kk, Expr.pos]
    rfl
  | SetComp elt gs s pos =>
    unfold swapsWith swB swOf
    simp only [hb, ky, kk, Expr.pos]
    rfl
  | DictComp a b gs s pos =>
    unfold swapsWith swB swOf
    simp only [hb, ky, kk, Expr.pos]
    rfl
  | _ => rfl
/-! ### the simple ones -/
abbrev SS (c : SX) (P : Pr) (C : Ev.Cl) (W : XK) (Y : Cx) (x : X) (s : Stmt) : Prop := PS Y s (tS c P C W x)
theorem s_next {st : Stmt} (h : PS Y st tNext) : SS c P C W Y .skip st := h.imp fun N σV H ⟨b, ρ, G, σ, A, q⟩ => q ρ H σV (.refl _ _) A.rh A.sl
theorem s_ret (X : CtxS c P C Γ W Y) {e : Ev.X} {v : Expr} {pos : Pos} (he : SE c P C W Y e v) : SS c P C W Y (.ret e) (.Return (some v) pos) :=
  (ps_ret he).imp fun N σV H ⟨b, ρ, G, σ, A, q⟩ => tS_then X.gc A q fun d G1 ρ1 H1 v st A1 x1 rv fr q1 => q1 ρ1 H1 v st A1.rh rv fr
theorem s_retn {pos : Pos} : SS c P C W Y .retn (.Return none pos) := ps_retN.imp fun N σV H ⟨b, ρ, G, σ, A, q⟩ => q ρ H .non (.refl _ _) A.rh .non (.of rfl)
theorem s_brk {pos : Pos} : SS c P C W Y .brk (.Break pos) := ps_break.imp fun N σV H ⟨b, ρ, G, σ, A, q⟩ => q ρ H σV (.refl _ _) A.rh A.sl
theorem s_cnt {pos : Pos} : SS c P C W Y .cnt (.Continue pos) := ps_continue.imp fun N σV H ⟨b, ρ, G, σ, A, q⟩ => q ρ H σV (.refl _ _) A.rh A.sl
theorem s_expr (X : CtxS c P C Γ W Y) {e : Ev.X} {v : Expr} {pos : Pos} (hn : notComp v = true) (he : SE c P C W Y e v) : SS c P C W Y (.expr e) (.Expr v pos) :=
  (ps_expr he (swaps_no hn)).imp fun N σV H ⟨b, ρ, G, σ, A, q⟩ => tS_then X.gc A q fun d G1 ρ1 H1 v st A1 x1 rv fr q1 => q1 ρ1 H1 σV st A1.rh A1.sl
theorem s_if (X : CtxS c P C Γ W Y) {t a b : Ev.X} {k : Expr} {l m : List Stmt} {pos : Pos} (ht : PT Y k (tT c P C W t)) (ha : PSs Y l (tS c P C W a)) (hb : PSs Y m (tS c P C W b)) : SS c P C W Y (.ifs t a b) (.If k l m pos) := by
  refine (ps_if ht ha hb).imp fun N σV H ⟨n, ρ, G, σ, A, q⟩ => tST_then X.gc A q fun d G1 ρ1 H1 st A1 x1 q1 => ?_
  have q1 := (q1.step st).from (H1 := H1) (ρ1 := ρ1) st
  cases e : truth d G1 with
  | none => rw [e] at q1; exact q1.elim
  | some i =>
    rw [e] at q1
    refine ⟨i, rfl, ?_⟩
    cases i with
    | true => rw [if_pos rfl]; exact ⟨n, ρ1, G1, σ, A1, q1⟩
    | false => rw [if_neg (by decide)]; exact ⟨n, ρ1, G1, σ, A1, q1⟩
/-- a value is held, then stored -/
theorem asg_read (X : CtxE c P C Γ W Y) {tg e : Ev.X} {N : Ends} {σV : L2.St} {H : Hp} (w : tS c P C W (.asg tg e) N σV H) : tE c P C W e σV H fun v H1 => gX c tg v σV H1 N.nx := by
  obtain ⟨b, ρ, G, σ, A, q⟩ := w
  refine tS_then X.gc A q fun d G1 ρ1 H1 v st A1 x1 rv fr q1 => ?_
  obtain ⟨ρ2, d', G2, hf, st2, rh2, rd2, _, _⟩ := fix_at st A1.rh rv fr
  rw [hf] at q1
  cases e2 : bindT tg d' σ with
  | none =>
    have q2 : PXS c W ρ H (match bindT tg d' σ with | some σ' => .nxt σ' G2 | none => .bad) H N := q1
    rw [e2] at q2
    exact q2.elim
  | some σ' =>
    have q2 : PXS c W ρ H (match bindT tg d' σ with | some σ' => .nxt σ' G2 | none => .bad) H N := q1
    rw [e2] at q2
    exact ⟨ρ2, G2, σ, d', σ', rh2, st2.sl A.rh A.sl, rd2, e2, fun σV' sl' _ => q2 ρ2 H1 σV' st2 rh2 sl'⟩
theorem gX_var {i : Nat} {v : V} {σV : L2.St} {H : Hp} {Q : L2.St → Hp → Prop} (w : gX c (.var i) v σV H Q) : Q (σV.set i (some v)) H := by
  obtain ⟨ρ, G, σ, d, σ', rh, sl, rd, e, k⟩ := w
  unfold bindT at e
  have e' := Option.some.inj e
  subst e'
  exact k _ (sl.set rd i) ⟨by rw [List.length_set], fun j hj => List.getElem?_set_ne (fun z => hj (by simp [slotsT, z]))⟩
theorem tE.mono {x : Ev.X} {σV : L2.St} {H : Hp} {Q Q' : VK} (h : tE c P C W x σV H Q) (k : ∀ v H', Q v H' → Q' v H') : tE c P C W x σV H Q' := by
  obtain ⟨b, ρ, G, σ, A, q⟩ := h
  exact ⟨b, ρ, G, σ, A, q.imp fun d G' ρ' H' _ _ _ z v rv fr => k v H' (z v rv fr)⟩
theorem chkG_var {tg : Ev.X} {x : Str} {p : Pos} (h : chkG Γ tg (.Name x p) = true) : ∃ i, tg = .var i ∧ Γ.N[i]? = some x ∧ stB Γ x = true := by
  cases tg with
  | var i =>
    unfold chkG at h
    rw [Bool.and_eq_true] at h
    exact ⟨i, rfl, of_decide_eq_true h.1, h.2⟩
  | _ => unfold chkG at h; cases h
theorem s_name (X : CtxS c P C Γ W Y) (hk : Y.env.scope.kind = .function) {tg e : Ev.X} {v : Expr} {x : Str} {p pos : Pos} (hg : chkG Γ tg (.Name x p) = true) (hc : chk Γ e v = true) (hs : (!swB Γ x p v || isCompX e) = true) (S : ∀ y, Snd c P C y) :
    SS c P C W Y (.asg tg e) (.Assign [.Name x p] v pos) := by
  obtain ⟨i, rfl, hN, hst⟩ := chkG_var hg
  obtain ⟨l1, l2⟩ := X.st x hst
  have nd : Y.N.Nodup := by rw [X.N]; exact X.nd
  have hi : Y.N[i]? = some x := by rw [X.N]; exact hN
  by_cases sw : swB Γ x p v = true
  · rw [sw] at hs
    have hsw := swaps_name X.toCtxE (p := p) (x := x) (l := pos.line) (v := v) hk
    rw [sw] at hsw
    cases e with
    | comp e tg it cond own =>
      unfold chk at hc
      split at hc
      · split at hc
        · simp only [Bool.and_eq_true] at hc
          obtain ⟨⟨⟨⟨⟨⟨h1, h2⟩, h3⟩, h4⟩, h5⟩, h6⟩, h7⟩ := hc
          have hl : Γ.sc.names.lookup x = some .local := by
            unfold swB swOf at sw
            simp only [Bool.and_eq_true, beq_iff_eq] at sw
            exact sw.1.1.2
          rename_i ifs
          cases ifs with
          | nil =>
            dsimp only at h6
            split at h6
            · exact (s_setC X.toCtxE true (fun _ => rfl) ((S it).it X.toCtxE _ _ h1) h2 h3 h5 (fun Y' X' => pts_nil) (fun Y' X' => ((S e).ex X' _ h7).1) hN hl hsw).imp fun N σV H w =>
                comp_read X.toCtxE true (fun _ => rfl) h4 ((asg_read X.toCtxE w).mono fun v H1 g => gX_var g)
            · cases h6
          | cons l ls =>
            cases ls with
            | nil => exact (s_setC X.toCtxE false (fun z => by cases z) ((S it).it X.toCtxE _ _ h1) h2 h3 h5 (fun Y' X' => pts_one ((S cond).ex X' _ h6).2.1) (fun Y' X' => ((S e).ex X' _ h7).1) hN hl hsw).imp fun N σV H w =>
                comp_read X.toCtxE false (fun z => by cases z) h4 ((asg_read X.toCtxE w).mono fun v H1 g => gX_var g)
            | cons _ _ => cases h6
        · cases hc
      · cases hc
    | _ => cases hs
  · have sw : swB Γ x p v = false := by simpa using sw
    have hsw := swaps_name X.toCtxE (p := p) (x := x) (l := pos.line) (v := v) hk
    rw [sw] at hsw
    exact (ps_set (i := i) nd hi l1 ((S e).ex X.toCtxE v hc).1 hsw l2).imp fun N σV H w => (asg_read X.toCtxE w).mono fun v H1 g => gX_var g
theorem s_scom (X : CtxS c P C Γ W Y) (hk : Y.env.scope.kind = .function) {tg e : Ev.X} {v : Expr} {x : Str} {p pos : Pos} (h : scomB Γ tg e x p v = true) (S : ∀ y, Snd c P C y) : SS c P C W Y (.asg tg e) (.Assign [.Name x p] v pos) := by
  have hsw := swaps_name X.toCtxE (p := p) (x := x) (l := pos.line) (v := v) hk
  unfold scomB at h
  split at h
  · split at h
    · simp only [Bool.and_eq_true] at h
      obtain ⟨⟨⟨⟨⟨⟨⟨h1, h2⟩, h3⟩, h4⟩, h5⟩, h6⟩, h7⟩, h8⟩ := h
      rw [h8] at hsw
      have hl : Γ.sc.names.lookup x = some .local := by
        unfold swB swOf at h8
        simp only [Bool.and_eq_true, beq_iff_eq] at h8
        exact h8.1.1.2
      exact (s_setSc X.toCtxE ((S _).ex X.toCtxE _ h1).1 h2 h3 h5 h6 (of_decide_eq_true h7) hl hsw).imp fun N σV H w =>
        scomp_read X.toCtxE h4 ((asg_read X.toCtxE w).mono fun v H1 g => gX_var g)
    · cases h
  · cases h
theorem s_tup (X : CtxS c P C Γ W Y) {tg e : Ev.X} {v : Expr} {ts : List Expr} {k : Nat} {p pos : Pos} (hg : chkG Γ tg (.Tuple ts k p) = true) (he : SE c P C W Y e v) (hw : swappedStores [.Tuple ts k p] v Y.env = pure none) : SS c P C W Y (.asg tg e) (.Assign [.Tuple ts k p] v pos) :=
  (ps_asg he ((pg_of X.toCtxE tg).1 _ hg) swaps_tup hw (by rfl)).imp fun N σV H w => asg_read X.toCtxE w
theorem s_par (X : CtxS c P C Γ W Y) {tg e : Ev.X} {ts vs : List Expr} {r : List Str} {k k2 : Nat} {p p2 pos : Pos} (hw : swM (envD Γ) ts vs = some (some r)) (h : parB Γ tg e ts vs r = true) (S : ∀ y, Snd c P C y) :
    SS c P C W Y (.asg tg e) (.Assign [.Tuple ts k p] (.Tuple vs k2 p2) pos) := by
  have hsw : swappedStores [.Tuple ts k p] (.Tuple vs k2 p2) Y.env = pure (some r) := swM_ok (by rw [swM_env (env' := envD Γ) X.sc]; exact hw)
  have nd : Y.N.Nodup := by rw [X.N]; exact X.nd
  unfold parB at h
  split at h
  · rename_i i j as
    split at h
    · rename_i x px y py a b
      simp only [Bool.and_eq_true, decide_eq_true_eq] at h
      obtain ⟨⟨⟨⟨⟨⟨h1, h2⟩, h3⟩, h4⟩, h5⟩, h6⟩, h7⟩ := h
      subst h1
      refine (ps_par (i := i) (j := j) X.calm nd (by rw [X.N]; exact h3) (by rw [X.N]; exact h4) h2 (by rw [X.sc]; exact h5) (by rw [X.sc]; exact h6) ((S as).ar X.toCtxE _ h7) hsw swaps_tup).imp fun N σV H w => ?_
      obtain ⟨n, ρ, G, σ, A, q⟩ := w
      have q : PXS c W ρ H (RS.of (ev P C as n σ G) fun d S1 => RS.of (fix d S1) fun d' S2 => match bindT (.tup (.cons (.var i) (.cons (.var j) .nil))) d' σ with | some σ' => .nxt σ' S2 | none => .bad) H N := q
      refine ⟨n, ρ, G, σ, A, ?_⟩
      cases e1 : ev P C as n σ G with
      | ok d G' =>
        rw [e1] at q
        intro ρ' H' st rh ds vs ed rds
        subst ed
        have l := args_len (Γ := Γ) as [a, b] n σ G G' ds h7 e1
        cases rds with
        | nil => cases l
        | @cons d1 v1 ds1 vs1 r1 rds1 =>
          cases rds1 with
          | nil => cases l
          | @cons d2 v2 ds2 vs2 r2 rds2 =>
            cases rds2 with
            | cons _ _ => cases l
            | nil => exact ⟨v1, v2, rfl, q ρ' H' _ st rh (((st.sl A.rh A.sl).set r1 i).set r2 j)⟩
      | exc k d G' => rw [e1] at q; exact q
      | bad => rw [e1] at q; exact q
    · cases h
  · rename_i i j l as
    split at h
    · rename_i x px y py z pz a b d
      simp only [Bool.and_eq_true, decide_eq_true_eq] at h
      obtain ⟨⟨⟨⟨⟨⟨⟨⟨⟨⟨h1, h2⟩, h3⟩, h4⟩, h5⟩, h6⟩, h7⟩, h8⟩, h9⟩, h10⟩, h11⟩ := h
      subst h1
      refine (ps_par3 (i := i) (j := j) (l := l) X.calm nd (by rw [X.N]; exact h5) (by rw [X.N]; exact h6) (by rw [X.N]; exact h7) h2 h3 h4 (by rw [X.sc]; exact h8) (by rw [X.sc]; exact h9) (by rw [X.sc]; exact h10) ((S as).ar X.toCtxE _ h11) hsw swaps_tup).imp fun N σV H w => ?_
      obtain ⟨n, ρ, G, σ, A, q⟩ := w
      have q : PXS c W ρ H (RS.of (ev P C as n σ G) fun d S1 => RS.of (fix d S1) fun d' S2 => match bindT (.tup (.cons (.var i) (.cons (.var j) (.cons (.var l) .nil)))) d' σ with | some σ' => .nxt σ' S2 | none => .bad) H N := q
      refine ⟨n, ρ, G, σ, A, ?_⟩
      cases e1 : ev P C as n σ G with
      | ok d0 G' =>
        rw [e1] at q
        intro ρ' H' st rh ds vs ed rds
        subst ed
        have le := args_len (Γ := Γ) as [a, b, d] n σ G G' ds h11 e1
        cases rds with
        | nil => cases le
        | @cons d1 v1 ds1 vs1 r1 rds1 =>
          cases rds1 with
          | nil => cases le
          | @cons d2 v2 ds2 vs2 r2 rds2 =>
            cases rds2 with
            | nil => cases le
            | @cons d3 v3 ds3 vs3 r3 rds3 =>
              cases rds3 with
              | cons _ _ => cases le
              | nil => exact ⟨v1, v2, v3, rfl, q ρ' H' _ st rh ((((st.sl A.rh A.sl).set r1 i).set r2 j).set r3 l)⟩
      | exc k d G' => rw [e1] at q; exact q
      | bad => rw [e1] at q; exact q
    · cases h
  · cases h
theorem s_sset (X : CtxS c P C Γ W Y) {o i e : Ev.X} {o' i' v : Expr} {p pos : Pos} (hn : notSlice i' = true) (ho : SE c P C W Y o o') (hi : SE c P C W Y i i') (he : SE c P C W Y e v) : SS c P C W Y (.sset o i e) (.Assign [.Subscript o' i' p] v pos) := by
  refine (ps_asg he (pg_sub ho hi set_list (by intro v; cases i' <;> first | rfl | cases hn)) swaps_sub (by rfl) (by rfl)).imp fun N σV H ⟨b, ρ, G, σ, A, q⟩ => tS_then X.gc A q fun d G1 ρ1 H1 v st A1 x1 rv fr q1 => ?_
  obtain ⟨ρ2, d', G2, hf, st2, rh2, rd2, _, x2⟩ := fix_at st A1.rh rv fr
  rw [hf] at q1
  have A2 : At c b ρ2 G2 σ σV H1 := A.step st2 rh2 (x1.trans x2).1
  have q2 := q1.step st2
  refine tS_then X.gc A2 q2 fun od G3 ρ3 H3 ov st3 A3 x3 rv3 fr3 q3 => tS_then X.gc A3 (q3.step st3) fun kd G4 ρ4 H4 kv st4 A4 x4 rv4 fr4 q4 => ?_
  have q4 := q4.step st4
  cases e5 : opSet b od kd d' G4 with
  | none => rw [e5] at q4; exact q4.elim
  | some G5 =>
    rw [e5] at q4
    unfold opSet at e5
    split at e5
    · rename_i n k
      split at e5
      · rename_i xs en
        split at e5
        · cases ej : ixN xs.length k with
          | none => rw [ej] at e5; cases e5
          | some j =>
            rw [ej] at e5
            cases e5
            have r3 := st4.rv A3.rh rv3
            have r3' : RD c.K ρ4 H4 (.ref n) ov := r3
            cases r3' with
            | @ref _ a ea =>
              cases rv4
              have hn : n < G4.length := (List.getElem?_eq_some_iff.mp en).1
              obtain ⟨us, h1, h2⟩ := A4.rh.ob n a _ ea en
              have rd4 : RD c.K ρ4 H4 d' v := (st3.trans st4).rd rh2 rd2
              have l := h2.length
              refine ⟨a, us, k, j, rfl, rfl, h1, by rw [← l]; exact ej, ?_⟩
              have st5 : Stp ρ4 H4 ρ4 (L2.upd H4 a (.lst (us.set j v))) := Stp.upd A4.rh ea (fun _ z => by cases z)
              have rds := h2.set rd4 j
              have rh5 := A4.rh.upd ea rds hn
              exact q4 ρ4 _ σV st5 rh5 (st5.sl A4.rh A4.sl)
        · cases e5
      · cases e5
    · cases e5
theorem s_aug (X : CtxS c P C Γ W Y) {i : Nat} {op : BOp} {o : Operator} {e : Ev.X} {v : Expr} {x : Str} {p pos : Pos} (hop : (match op, o with | .add, .Add => true | .sub, .Sub => true | _, _ => false) = true) (hN : Γ.N[i]? = some x) (hst : stB Γ x = true) (he : SE c P C W Y e v) :
    SS c P C W Y (.aug i op e) (.AugAssign (.Name x p) o v pos) := by
  obtain ⟨l1, l2⟩ := X.st x hst
  have nd : Y.N.Nodup := by rw [X.N]; exact X.nd
  have hi : Y.N[i]? = some x := by rw [X.N]; exact hN
  have rd : ∀ (f : Int → Int → Int), (∀ a b S, opBin op (.int a) (.int b) S = .ok (.int (f a b)) S) → ∀ N σV H, tS c P C W (.aug i op e) N σV H → tAug i (tE c P C W e) (ipI f) N σV H := fun f hf N σV H ⟨b, ρ, G, σ, A, q⟩ => by
    unfold evS at q
    split at q
    · rename_i d ed
      obtain ⟨vd, h1, h2⟩ := A.sl.2 i d ed
      refine ⟨vd, h1, tS_then X.gc A q fun d2 G1 ρ1 H1 v st A1 x1 rv fr q1 => ?_⟩
      cases d with
      | int a =>
        cases d2 with
        | int b2 =>
          cases h2
          cases rv
          have q1 : PXS c W ρ H (RS.of (opBin op (.int a) (.int b2) G1) fun r S2 => .nxt (σ.set i (some r)) S2) H N := q1
          rw [hf] at q1
          exact ⟨a, b2, rfl, rfl, q1 ρ1 H1 _ st A1.rh (A1.sl.set (.int _) i)⟩
        | _ => exact q1.elim
      | _ => cases d2 <;> exact q1.elim
    · exact q.elim
  cases op with
  | add =>
    cases o with
    | Add => exact (ps_aug (i := i) nd hi l1 he ip_add l2).imp (rd (fun a b => a + b) fun _ _ _ => rfl)
    | _ => cases hop
  | sub =>
    cases o with
    | Sub => exact (ps_aug (i := i) nd hi l1 he ip_sub l2).imp (rd (fun a b => a - b) fun _ _ _ => rfl)
    | _ => cases hop
  | _ => cases o <;> cases hop
theorem s_rais (X : CtxS c P C Γ W Y) {k : Nat} {e : Ev.X} {x : Str} {a : Expr} {p pos pos2 : Pos} (hk : Γ.ex[k]? = some x) (hg : glB Γ x = true) (hs : notStar a = true) (he : SE c P C W Y e a) : SS c P C W Y (.rais k e) (.Raise (some (.Call (.Name x p) [a] [] pos)) none pos2) := by
  refine (X.rs k x hk a _ p pos pos2 hs (pa_cons he pa_nil (star_one hs)) (X.gl hg)).imp fun N σV H ⟨b, ρ, G, σ, A, q⟩ => tS_then X.gc A q fun d G1 ρ1 H1 v st A1 x1 rv fr q1 => ?_
  refine ⟨v, rfl, fun dx hd => ?_⟩
  have q1 := q1.step st
  split at q1
  · rename_i hc
    rw [Bool.and_eq_true] at hc
    have st2 := Stp.alloc (o := .xd [(c.fld k, v)]) A1.rh hd
    exact q1 ρ1 _ dx v st2 (A1.rh.alloc hd) (st2.rd A1.rh (rv.rd (by simpa using hc.2))) upd_same
  · exact q1.elim
end
end Ev
set_option Elab.async false
set_option linter.all false
set_option maxRecDepth 100000
set_option maxHeartbeats 8000000
/-! EvU: loops; every checked statement. -/
namespace Ev
open PySem PySem.Spec PyProof.Rows L2
variable {c : SX} {P : Pr} {C : Ev.Cl} {Γ : Gm} {W : XK} {Y : Cx} {ρ ρ' ρ1 : List Addr} {H H' H0 H1 : Hp} {G G' G1 : GH} {r : RS} {N N' : Ends}
theorem slR.keep {σ : Sg} {σV : L2.St} {t : List Addr} (h : slR c (ρ ++ t) H σ σV) : slR c ρ H (σ.map (keepV ρ.length)) σV :=
  ⟨by rw [List.length_map]; exact h.1, fun i d e => by
    rw [List.getElem?_map] at e
    cases q : σ[i]? with
    | none => rw [q] at e; cases e
    | some o =>
      rw [q] at e
      have e' : keepV ρ.length o = some d := Option.some.inj e
      cases o with
      | none => cases e'
      | some d' =>
        obtain ⟨v, h1, h2⟩ := h.2 i d' q
        have low : lowD ρ.length d' = true ∧ d' = d := by
          cases d' with
          | ref m =>
            unfold keepV at e'
            dsimp only at e'
            split at e'
            · rename_i hm
              exact ⟨decide_eq_true hm, Option.some.inj e'⟩
            · cases e'
          | _ =>
            unfold keepV at e'
            dsimp only at e'
            split at e'
            · rename_i hc
              exact ⟨ck_low 20 _ hc, Option.some.inj e'⟩
            · cases e'
        obtain ⟨lo, rfl⟩ := low
        exact ⟨v, h1, h2.cut _ _ lo⟩⟩
theorem unscop {b : Nat} {sc : Bool} {g : Nat → RS} (rh : RH c.toSC ρ H G) (hb : b ≤ G.length) (gd : GdS G.length G (g G.length)) (h : PXS c W ρ H (scop sc b G g) H0 N) : ∃ b', b ≤ b' ∧ b' ≤ G.length ∧ PXS c W ρ H (g b') H0 N := by
  cases sc with
  | false => exact ⟨b, Nat.le_refl _, hb, h⟩
  | true =>
    refine ⟨G.length, hb, Nat.le_refl _, ?_⟩
    have hl : G.length = ρ.length := rh.len.symm
    unfold scop at h
    rw [if_pos rfl] at h
    cases q : g G.length with
    | nxt σ S =>
      rw [q] at h gd
      intro ρ' H' σV st rh' sl
      obtain ⟨t, ht⟩ := st.pre
      subst ht
      dsimp only at h
      rw [hl] at h gd
      exact h ρ H' σV st.cut (rh'.cut gd.2) sl.keep
    | brk σ S =>
      rw [q] at h gd
      intro ρ' H' σV st rh' sl
      obtain ⟨t, ht⟩ := st.pre
      subst ht
      dsimp only at h
      rw [hl] at h gd
      exact h ρ H' σV st.cut (rh'.cut gd.2) sl.keep
    | cnt σ S =>
      rw [q] at h gd
      intro ρ' H' σV st rh' sl
      obtain ⟨t, ht⟩ := st.pre
      subst ht
      dsimp only at h
      rw [hl] at h gd
      exact h ρ H' σV st.cut (rh'.cut gd.2) sl.keep
    | ret d S => rw [q] at h; exact h
    | exc k d S => rw [q] at h; exact h
    | bad => rw [q] at h; exact h
theorem len_evS (hC : GC C) {x : X} {b : Nat} {σ : Sg} (h : b ≤ G.length) : GdS 0 G (evS P C x b σ G) := gd_evS hC x b σ G 0 (Nat.zero_le _) h fun n o hn => absurd hn (Nat.not_lt_zero n)
theorem s_whl (X : CtxS c P C Γ W Y) {sc : Bool} {t body : Ev.X} {k : Expr} {l : List Stmt} {pos : Pos} (ht : PT Y k (tT c P C W t)) (hb : PSs Y l (tS c P C W body)) : SS c P C W Y (.whl sc t body) (.While k l [] pos) := by
  refine (ps_while X.own ht hb).imp fun N σV H ⟨b, ρ, G, σ, A, q⟩ => ?_
  unfold evS at q
  let f : Sg → GH → RS := fun σ' S' => scop sc b S' fun b' => evS P C body b' σ' S'
  let tt : Sg → GH → R D := fun σ' S' => ev P C t b σ' S'
  refine ⟨fun m σV' Hc => ∃ ρ2 G2 σ2, Stp ρ H ρ2 Hc ∧ At c b ρ2 G2 σ2 σV' Hc ∧ PXS c W ρ2 Hc (whL tt f m σ2 G2) H N, ⟨P.w, ρ, G, σ, .refl _ _, A, q⟩, ?_⟩
  rintro m σV' Hc ⟨ρ2, G2, σ2, st2, A2, q2⟩
  cases m with
  | zero => exact q2.elim
  | succ n =>
    have q2 : PXS c W ρ2 Hc (RS.of (ev P C t b σ2 G2) fun k S1 => match truth k S1 with
      | some true => (match f σ2 S1 with
        | .nxt σ' S' => whL tt f n σ' S'
        | .cnt σ' S' => whL tt f n σ' S'
        | .brk σ' S' => .nxt σ' S'
        | r => r)
      | some false => .nxt σ2 S1
      | none => .bad) H N := q2
    refine tST_then X.gc A2 q2 fun d G3 ρ3 H3 st3 A3 x3 q3 => ?_
    have q3 := q3.step st3
    cases e : truth d G3 with
    | none => rw [e] at q3; exact q3.elim
    | some i =>
      rw [e] at q3
      refine ⟨i, rfl, ?_⟩
      cases i with
      | false =>
        rw [if_neg (by decide)]
        exact q3 ρ3 H3 σV' (.refl _ _) A3.rh A3.sl
      | true =>
        rw [if_pos rfl]
        refine ⟨fun σV'' H'' => ∃ ρ4 G4 σ4, Stp ρ H ρ4 H'' ∧ At c b ρ4 G4 σ4 σV'' H'' ∧ PXS c W ρ4 H'' (whL tt f n σ4 G4) H N, fun σV'' H'' h => ⟨n, Nat.lt_succ_self n, h⟩, ?_⟩
        have st13 := st2.trans st3
        have gf : ∀ b', b ≤ b' → b' ≤ G3.length → GdS 0 G3 (evS P C body b' σ2 G3) := fun b' _ h2 => len_evS X.gc h2
        have gs : GdS 0 G3 (f σ2 G3) := GdS.scop gf A3.lb
        have q4 : PXS c W ρ3 H3 (scop sc b G3 fun b' => evS P C body b' σ2 G3) H { N with nx := fun σV'' H'' => ∃ ρ4 G4 σ4, Stp ρ H ρ4 H'' ∧ At c b ρ4 G4 σ4 σV'' H'' ∧ PXS c W ρ4 H'' (whL tt f n σ4 G4) H N, ct := fun σV'' H'' => ∃ ρ4 G4 σ4, Stp ρ H ρ4 H'' ∧ At c b ρ4 G4 σ4 σV'' H'' ∧ PXS c W ρ4 H'' (whL tt f n σ4 G4) H N, bk := N.nx } := by
          have q3 : PXS c W ρ3 H3 (match f σ2 G3 with
            | .nxt σ' S' => whL tt f n σ' S'
            | .cnt σ' S' => whL tt f n σ' S'
            | .brk σ' S' => .nxt σ' S'
            | r => r) H N := q3
          show PXS c W ρ3 H3 (f σ2 G3) H _
          cases e2 : f σ2 G3 with
          | nxt σ' S' =>
            rw [e2] at q3 gs
            exact fun ρ4 H4 σV4 st4 rh4 sl4 => ⟨ρ4, S', σ', st13.trans st4, ⟨rh4, sl4, Nat.le_trans A3.lb gs.1.1⟩, PXS.step st4 q3⟩
          | cnt σ' S' =>
            rw [e2] at q3 gs
            exact fun ρ4 H4 σV4 st4 rh4 sl4 => ⟨ρ4, S', σ', st13.trans st4, ⟨rh4, sl4, Nat.le_trans A3.lb gs.1.1⟩, PXS.step st4 q3⟩
          | brk σ' S' => rw [e2] at q3; exact q3
          | ret d S' => rw [e2] at q3; exact q3
          | exc k d S' => rw [e2] at q3; exact q3
          | bad => rw [e2] at q3; exact q3
        obtain ⟨b', hb1, hb2, q5⟩ := unscop A3.rh A3.lb (gd_evS X.gc body G3.length σ2 G3 G3.length (Nat.le_refl _) (Nat.le_refl _) A3.rh.clo) q4
        exact ⟨b', ρ3, G3, σ2, ⟨A3.rh, A3.sl, hb2⟩, q5.from st13⟩
theorem PXS.unlock {lk : List D} (rh1 : RH c.toSC ρ1 H1 G1) (g : GdS 0 (lock lk G1) r) (h : PXS c W ρ H (r.mapS (Ev.unlock lk G1)) H0 N) : PXS c W ρ H r H0 N := by
  cases r with
  | nxt σ S => exact fun ρ' H' σV st rh sl => h ρ' H' σV st (rh.unlock lk (lock_lsv rh1 g.1).2) sl
  | brk σ S => exact fun ρ' H' σV st rh sl => h ρ' H' σV st (rh.unlock lk (lock_lsv rh1 g.1).2) sl
  | cnt σ S => exact fun ρ' H' σV st rh sl => h ρ' H' σV st (rh.unlock lk (lock_lsv rh1 g.1).2) sl
  | ret d S => exact fun ρ' H' v st rh rv fr => h ρ' H' v st (rh.unlock lk (lock_lsv rh1 g.1).2) rv fr
  | exc k d S => exact fun ρ' H' dx v st rh rd hx => h ρ' H' dx v st (rh.unlock lk (lock_lsv rh1 g.1).2) rd hx
  | bad => exact h
theorem s_for (X : CtxS c P C Γ W Y) {sc : Bool} {tg it body : Ev.X} {tg' iter : Expr} {l : List Stmt} {pos : Pos} (hn : notSet iter = true) (hi : PI Y tg' iter (tI c P C W it)) (hg : chkG Γ tg tg' = true) (hb : PSs Y l (tS c P C W body)) :
    SS c P C W Y (.forr sc tg it body) (.For tg' iter l [] pos) := by
  refine (ps_for X.own X.calm hi ((pg_of X.toCtxE tg).1 tg' hg) hb (set_plain hn)).imp fun N σV H ⟨b, ρ, G, σ, A, q⟩ => ⟨b, ρ, G, σ, A, ?_⟩
  unfold evS at q
  cases e1 : ev P C it b σ G with
  | exc k d G' => rw [e1] at q; exact q
  | bad => rw [e1] at q; exact q
  | ok d G1 =>
    rw [e1] at q
    have x1 := len_ev X.gc A.lb e1
    intro ρ1 H1 st1 rh1 items lk J ed wk
    subst ed
    let f : D → Sg → GH → RS := fun d σ' S' => scop sc b S' fun b' => match bindT tg d σ' with
      | some σ2 => evS P C body b' σ2 S'
      | none => .bad
    have q : PXS c W ρ H ((forL f items σ (lock lk G1)).mapS (unlock lk G1)) H N := q
    have lb1 : b ≤ (lock lk G1).length := by
      rw [(lock_gd (b := 0) lk (S := G1) (fun n o hn => absurd hn (Nat.not_lt_zero n))).2]
      exact Nat.le_trans A.lb x1.1
    have gb : ∀ d σ' S', Ext (lock lk G1) S' → GdS 0 S' (f d σ' S') := fun d σ' S' x' => GdS.scop (fun b' e1 e2 => by
      split
      · exact len_evS X.gc e2
      · trivial) (Nat.le_trans lb1 x'.1)
    have none0 : ∀ S : GH, Clo 0 S := fun S n o hn => absurd hn (Nat.not_lt_zero n)
    have gf := gd_forL (T := lock lk G1) (b := 0) (f := f) (fun d σ' S' x' c' => (gb d σ' S' x').less x') items σ (.refl _) (none0 _)
    have q := PXS.unlock rh1 gf q
    refine ⟨fun i m σV' Hc => m = items.length - i ∧ i ≤ items.length ∧ ∃ ρ2 G2 σ2, Stp ρ1 H1 ρ2 Hc ∧ At c b ρ2 G2 σ2 σV' Hc ∧ Ext (lock lk G1) G2 ∧ PXS c W ρ2 Hc (forL f (items.drop i) σ2 G2) H N,
      ⟨items.length, by simp, Nat.zero_le _, ρ1, lock lk G1, σ, .refl _ _, ⟨RH.lock lk rh1, st1.sl A.rh A.sl, lb1⟩, .refl _, q.step st1⟩, ?_⟩
    rintro i m σV' Hc ⟨rfl, hil, ρ2, G2, σ2, st2, A2, x2, q2⟩
    obtain ⟨w1, w2, w3⟩ := wk i ρ2 Hc G2 st2 A2.rh (lock_lsv rh1 x2).1
    by_cases hlt : i < items.length
    · refine .inr ⟨w1 hlt, fun σV'' H'' => ∃ ρ4 G4 σ4, Stp ρ1 H1 ρ4 H'' ∧ At c b ρ4 G4 σ4 σV'' H'' ∧ Ext (lock lk G1) G4 ∧ PXS c W ρ4 H'' (forL f (items.drop (i + 1)) σ4 G4) H N, fun σV'' H'' h => ⟨items.length - (i + 1), by omega, rfl, hlt, h⟩, fun x H2 y => ?_⟩
      have hd : items.drop i = items[i] :: items.drop (i + 1) := List.drop_eq_getElem_cons hlt
      obtain ⟨st3, rh3, rx⟩ := w3 x H2 items[i] (List.getElem?_eq_getElem hlt) y
      rw [hd] at q2
      have q2 : PXS c W ρ2 Hc (match f items[i] σ2 G2 with
        | .nxt σ' S' => forL f (items.drop (i + 1)) σ' S'
        | .cnt σ' S' => forL f (items.drop (i + 1)) σ' S'
        | .brk σ' S' => .nxt σ' S'
        | r => r) H N := q2
      have st13 := st2.trans st3
      have q4 : PXS c W ρ2 H2 (scop sc b G2 fun b' => match bindT tg items[i] σ2 with
          | some σ3 => evS P C body b' σ3 G2
          | none => .bad) H { N with nx := fun σV'' H'' => ∃ ρ4 G4 σ4, Stp ρ1 H1 ρ4 H'' ∧ At c b ρ4 G4 σ4 σV'' H'' ∧ Ext (lock lk G1) G4 ∧ PXS c W ρ4 H'' (forL f (items.drop (i + 1)) σ4 G4) H N, ct := fun σV'' H'' => ∃ ρ4 G4 σ4, Stp ρ1 H1 ρ4 H'' ∧ At c b ρ4 G4 σ4 σV'' H'' ∧ Ext (lock lk G1) G4 ∧ PXS c W ρ4 H'' (forL f (items.drop (i + 1)) σ4 G4) H N, bk := N.nx } := by
        have gs := gb items[i] σ2 G2 x2
        have q3 := PXS.step st3 q2
        show PXS c W ρ2 H2 (f items[i] σ2 G2) H _
        cases e2 : f items[i] σ2 G2 with
        | nxt σ' S' =>
          rw [e2] at q3 gs
          exact fun ρ4 H4 σV4 st4 rh4 sl4 => ⟨ρ4, S', σ', st13.trans st4, ⟨rh4, sl4, Nat.le_trans A2.lb gs.1.1⟩, x2.trans gs.1, PXS.step st4 q3⟩
        | cnt σ' S' =>
          rw [e2] at q3 gs
          exact fun ρ4 H4 σV4 st4 rh4 sl4 => ⟨ρ4, S', σ', st13.trans st4, ⟨rh4, sl4, Nat.le_trans A2.lb gs.1.1⟩, x2.trans gs.1, PXS.step st4 q3⟩
        | brk σ' S' => rw [e2] at q3; exact q3
        | ret d S' => rw [e2] at q3; exact q3
        | exc k d S' => rw [e2] at q3; exact q3
        | bad => rw [e2] at q3; exact q3
      cases e3 : bindT tg items[i] σ2 with
      | none =>
        exfalso
        rw [e3] at q4
        cases sc <;> exact q4
      | some σ3 =>
        rw [e3] at q4
        have rh3' : RH c.toSC ρ2 H2 G2 := rh3
        obtain ⟨b', hb1, hb2, q5⟩ := unscop rh3' A2.lb (gd_evS X.gc body G2.length σ3 G2 G2.length (Nat.le_refl _) (Nat.le_refl _) rh3'.clo) q4
        exact ⟨ρ2, G2, σ2, items[i], σ3, rh3', st3.sl A2.rh A2.sl, rx, e3, fun σV3 sl3 _ => ⟨b', ρ2, G2, σ3, ⟨rh3', sl3, hb2⟩, q5.from (st1.trans st13)⟩⟩
    · have ei : i = items.length := by omega
      subst ei
      rw [List.drop_length] at q2
      exact .inl ⟨w2 (Nat.le_refl _), q2 ρ2 Hc σV' (.refl _ _) A2.rh A2.sl⟩
theorem sw_none {ts : List Expr} {v : Expr} {k : Nat} {p : Pos} {env : Env} (h : ∀ vs k2 p2, v = .Tuple vs k2 p2 → False) : swappedStores [.Tuple ts k p] v env = pure none := by
  cases v <;> first | rfl | exact (h _ _ _ rfl).elim
structure SndS (c : SX) (P : Pr) (C : Ev.Cl) (x : X) : Prop where
  st : ∀ {Γ : Gm} {W : XK} {Y : Cx}, CtxS c P C Γ W Y → Y.env.scope.kind = .function → ∀ s, chkS Γ x s = true → SS c P C W Y x s
  bl : ∀ {Γ : Gm} {W : XK} {Y : Cx}, CtxS c P C Γ W Y → Y.env.scope.kind = .function → ∀ ss, chkB Γ x ss = true → PSs Y ss (tS c P C W x)
theorem sndS (x : X) : SndS c P C x := by
  have S : ∀ y, Snd c P C y := fun y => snd y
  induction x with
  | skip =>
    refine ⟨fun X hk s h => ?_, fun X hk ss h => ?_⟩
    · unfold chkS at h
      split at h
      · exact s_next ps_pass
      · exact s_next ps_doc
      · cases h
    · unfold chkB at h
      split at h
      · exact pss_nil.imp fun N σV H ⟨b, ρ, G, σ, A, q⟩ => q ρ H σV (.refl _ _) A.rh A.sl
      · cases h
  | seq a e ia ie =>
    refine ⟨fun X hk s h => (by unfold chkS at h; cases h), fun X hk ss h => ?_⟩
    unfold chkB at h
    split at h
    · rw [Bool.and_eq_true] at h
      refine (pss_cons (ia.st X hk _ h.1) (ie.bl X hk _ h.2)).imp fun N σV H ⟨b, ρ, G, σ, A, q⟩ => ⟨b, ρ, G, σ, A, ?_⟩
      unfold evS at q
      have g := len_evS (P := P) X.gc (x := a) (σ := σ) A.lb
      cases e1 : evS P _ a b σ G with
      | nxt σ' G' =>
        rw [e1] at q g
        intro ρ' H' σV' st rh sl
        exact ⟨b, ρ', G', σ', ⟨rh, sl, Nat.le_trans A.lb g.1.1⟩, (PXS.step st q).from st⟩
      | brk σ' G' => rw [e1] at q; exact q
      | cnt σ' G' => rw [e1] at q; exact q
      | ret d G' => rw [e1] at q; exact q
      | exc k d G' => rw [e1] at q; exact q
      | bad => rw [e1] at q; exact q
    · cases h
  | asg tg e _ _ =>
    refine ⟨fun X hk s h => ?_, fun X hk ss h => by unfold chkB at h; cases h⟩
    unfold chkS at h
    split at h
    · unfold asgB at h
      split at h
      · rw [Bool.or_eq_true] at h
        rcases h with h | h
        · simp only [Bool.and_eq_true] at h
          exact s_name X hk h.1.1 h.1.2 h.2 S
        · exact s_scom X hk h S
      · split at h
        · split at h
          · rename_i hw
            rw [Bool.and_eq_true] at h
            exact s_tup X h.1 ((S e).ex X.toCtxE _ h.2).1 (swM_ok (by rw [swM_env (env' := envD _) X.sc]; exact hw))
          · rename_i hw
            exact s_par X hw h S
          · cases h
        · rename_i hv
          rw [Bool.and_eq_true] at h
          exact s_tup X h.1 ((S e).ex X.toCtxE _ h.2).1 (sw_none hv)
      · cases h
    · cases h
  | aug i op e _ =>
    refine ⟨fun X hk s h => ?_, fun X hk ss h => by unfold chkB at h; cases h⟩
    unfold chkS at h
    split at h
    · simp only [Bool.and_eq_true] at h
      exact s_aug X h.1.1.1 (of_decide_eq_true h.1.1.2) h.1.2 ((S e).ex X.toCtxE _ h.2).1
    · cases h
  | expr e _ =>
    refine ⟨fun X hk s h => ?_, fun X hk ss h => by unfold chkB at h; cases h⟩
    unfold chkS at h
    split at h
    · rw [Bool.and_eq_true] at h
      exact s_expr X h.1 ((S e).ex X.toCtxE _ h.2).1
    · cases h
  | ret e _ =>
    refine ⟨fun X hk s h => ?_, fun X hk ss h => by unfold chkB at h; cases h⟩
    unfold chkS at h
    split at h
    · exact s_ret X ((S e).ex X.toCtxE _ h).1
    · cases h
  | retn =>
    refine ⟨fun X hk s h => ?_, fun X hk ss h => by unfold chkB at h; cases h⟩
    unfold chkS at h
    split at h
    · exact s_retn
    · cases h
  | ifs t a e _ ia ie =>
    refine ⟨fun X hk s h => ?_, fun X hk ss h => by unfold chkB at h; cases h⟩
    unfold chkS at h
    split at h
    · simp only [Bool.and_eq_true] at h
      exact s_if X ((S t).ex X.toCtxE _ h.1.1).2.1 (ia.bl X hk _ h.1.2) (ie.bl X hk _ h.2)
    · cases h
  | whl sc t body _ ib =>
    refine ⟨fun X hk s h => ?_, fun X hk ss h => by unfold chkB at h; cases h⟩
    unfold chkS at h
    split at h
    · rw [Bool.and_eq_true] at h
      exact s_whl X ((S t).ex X.toCtxE _ h.1).2.1 (ib.bl X hk _ h.2)
    · cases h
  | forr sc tg it body _ _ ib =>
    refine ⟨fun X hk s h => ?_, fun X hk ss h => by unfold chkB at h; cases h⟩
    unfold chkS at h
    split at h
    · simp only [Bool.and_eq_true] at h
      exact s_for X h.1.1.1 ((S it).it X.toCtxE _ _ h.1.1.2) h.1.2 (ib.bl X hk _ h.2)
    · cases h
  | brk =>
    refine ⟨fun X hk s h => ?_, fun X hk ss h => by unfold chkB at h; cases h⟩
    unfold chkS at h
    split at h
    · exact s_brk
    · cases h
  | cnt =>
    refine ⟨fun X hk s h => ?_, fun X hk ss h => by unfold chkB at h; cases h⟩
    unfold chkS at h
    split at h
    · exact s_cnt
    · cases h
  | rais k e _ =>
    refine ⟨fun X hk s h => ?_, fun X hk ss h => by unfold chkB at h; cases h⟩
    unfold chkS at h
    split at h
    · simp only [Bool.and_eq_true] at h
      exact s_rais X (of_decide_eq_true h.1.1.1) h.1.1.2 h.1.2 ((S e).ex X.toCtxE _ h.2).1
    · cases h
  | sset o i e _ _ _ =>
    refine ⟨fun X hk s h => ?_, fun X hk ss h => by unfold chkB at h; cases h⟩
    unfold chkS at h
    split at h
    · simp only [Bool.and_eq_true] at h
      exact s_sset X h.1.1.1 ((S o).ex X.toCtxE _ h.1.1.2).1 ((S i).ex X.toCtxE _ h.1.2).1 ((S e).ex X.toCtxE _ h.2).1
    · cases h
  | _ => exact ⟨fun X hk s h => (by unfold chkS at h; cases h), fun X hk ss h => by unfold chkB at h; cases h⟩
end Ev
set_option Elab.async false
set_option linter.all false
set_option maxRecDepth 100000
set_option maxHeartbeats 8000000
/-! EvV: defs. -/
namespace Ev
open PySem PySem.Spec PyProof.Rows L2
/-- a def as it stands in the text: its name, its statement, its slots' names (the parameters first), how many parameters -/
structure FnS where
  nm : Str
  st : Stmt
  N : List Str
  np : Nat
  /-- calls are handed over in it -/
  lam : Bool := false
structure Tbl where
  fs : List FnS
  cs : List Str
  kws : List (Nat × List Str × List Nat)
  ex : List Str
  th : List Str
def FnS.ps (f : FnS) : List Str := f.N.take f.np
def gmOf (T : Tbl) (f : FnS) : Gm := { N := f.N, sc := defScope f.st, fnn := none, fn := T.fs.map (·.nm), cs := T.cs, kws := T.kws, ex := T.ex, th := if f.lam then T.th else [] }
def scB (N ps : List Str) (sc : Scope) : Bool := decide (sc.kind = .function) && !sc.isCoroutine && !sc.isGenerator && decide N.Nodup && decide (N.take ps.length = ps) && ps.all (fun x => decide (sc.names.lookup x = some .local) || decide (sc.names.lookup x = some .cell)) && sc.names.all (fun y => !decide (y.2 = .free))
def chkF (T : Tbl) (fn : Fn) (f : FnS) : Bool := decide (fn.ar = f.np) && decide (fn.sl = f.N.length) && decide (f.np ≤ f.N.length) && scB f.N f.ps (defScope f.st) && chkB (gmOf T f) fn.body (defBody f.st)
theorem scB_ok {N ps : List Str} {sc : Scope} (h : scB N ps sc = true) : FnScope N ps sc := by
  unfold scB at h
  simp only [Bool.and_eq_true, Bool.not_eq_true', decide_eq_true_eq, List.all_eq_true, Bool.or_eq_true, decide_eq_false_iff_not] at h
  obtain ⟨⟨⟨⟨⟨⟨h1, h2⟩, h3⟩, h4⟩, h5⟩, h6⟩, h7⟩ := h
  exact ⟨h1, h2, h3, h4, h5, h6, h7⟩
section
variable {Pg : Program} {w : World} {K : PySem.W.Frag} {mg : Str → Option Value} {base : Heap} {c : SX} {P : Pr} {T : Tbl}
def lamQ (f : FnS) : Str := (envOfC f.nm (defScope f.st) 0 0 .none).qual ++ "<lambda>"
/-- a def that may be called, n calls deep -/
structure CallAt (Pg : Program) (w : World) (K : PySem.W.Frag) (mg : Str → Option Value) (base : Heap) (c : SX) (kws : List (Nat × List Str × List Nat)) (P : Pr) (n : Nat) (j : Nat) (x : Str) : Prop where
  ok : ∃ f fd ps, FnOk Pg w K mg base (L2.CX Pg w) (3 * n + 2) f fd ps (spF c (callO P n) j) ∧ mg x = some (.ref f) ∧ PySem.W.keepIn K (.ref f) = true ∧ Binds K fd ps [] ∧ isDb x = false ∧ ∀ ks p, (j, ks, p) ∈ kws → KwOk K fd ps p ks
/-- a def that is handed a call -/
structure TkF (K : PySem.W.Frag) (mg : Str → Option Value) (c : SX) (P : Pr) (k : Nat) (x : Str) : Prop where
  exm : ∀ t, P.th[k]? = some t → PySem.W.exmOne c.K (.ref (c.cls t.1)) (.ref (c.cls t.1)) = some true
  ok : ∃ (a : Str) (g : Addr) (pg : Arguments) (bg : List Stmt) (sg : Scope) (dV kV doc pm cdv ct oc : Value) (an od : Option Addr) (osl : Array (Option Value)) (Ng : List Str),
    mg x = some (.ref g) ∧ PySem.W.keepIn K (.ref g) = true ∧ K.lookup g = some ⟨oc, od, .func (PySem.W.fnOf x x pg bg sg dV kV doc pm an cdv ct), osl⟩ ∧ PySem.W.codeIn K cdv x = true ∧
    Binds K (PySem.W.fnOf x x pg bg sg dV kV doc pm an cdv ct) [a] [] ∧ FnScope Ng [a] sg ∧ Ng[0]? = some a ∧ Vis sg a ∧ isDb x = false ∧ isDb a = false ∧ isCd a = false ∧
    ∀ t, P.th[k]? = some t → ∀ (Y : Cx) (q : Str), Y.K = K → Y.mg = mg → LamX.GivesTo Y Ng x sg g cdv bg a q (TTk c t)
/-- what the module's written part says -/
structure Env1 (Pg : Program) (K : PySem.W.Frag) (mg : Str → Option Value) (c : SX) (P : Pr) (T : Tbl) : Prop where
  eK : c.K = K
  bi : ∀ x ∈ bnames, mg x = none
  cs : ∀ (k : Nat) (x : Str) (d : D), T.cs[k]? = some x → P.cs[k]? = some d → isDb x = false ∧ ∃ v u, mg x = some u ∧ RelV v u ∧ ∀ ρ H, RD c.K ρ H d v
  rs : ∀ (k : Nat) (x : Str), T.ex[k]? = some x → ∀ (Y : Cx) (W : XK), Y.prog = Pg → Y.K = K → Y.mg = mg → Y.calm = true → Room 1 Y.A → Takes Y (fun cls d _ H => W cls d H) → RaiseOk c k x W Y
  th : ∀ (k : Nat) (x : Str), T.th[k]? = some x → TkF K mg c P k x
theorem start_sl {ρ : List Addr} {H : Hp} {ds : List D} {vs : List V} {N : List Str} (r : RDs c.K ρ H ds vs) {sl ar : Nat} (h1 : ds.length = ar) (h2 : sl = N.length) : slR c ρ H (ds.map some ++ List.replicate (sl - ar) none) (L2.start N vs) := by
  have hl := r.length
  refine ⟨?_, fun i d e => ?_⟩
  · unfold L2.start
    rw [List.length_append, List.length_append, List.length_map, List.length_map, List.length_replicate, List.length_replicate]
    omega
  · by_cases hi : i < ds.length
    · rw [List.getElem?_append_left (by rw [List.length_map]; exact hi), List.getElem?_map] at e
      cases q : ds[i]? with
      | none => rw [q] at e; cases e
      | some d' =>
        rw [q] at e
        cases e
        obtain ⟨v, h3, h4⟩ := r.get q
        refine ⟨v, ?_, h4⟩
        unfold L2.start
        rw [List.getElem?_append_left (by rw [List.length_map]; omega), List.getElem?_map, h3]
        rfl
    · rw [List.getElem?_append_right (by rw [List.length_map]; omega)] at e
      rw [List.getElem?_replicate] at e
      split at e <;> cases e
theorem toR_read {W : XK} {ρ : List Addr} {H : Hp} {r : RS} {Q : VK} (h : PX c W ρ H r.toR (zV c H Q)) : PXS c W ρ H r H { nx := fun _ H' => Q .non H', rt := Q } := by
  cases r with
  | nxt σ S => exact fun ρ' H' σV st rh _ => h ρ' H' st rh .non .non (.of rfl)
  | ret d S => exact fun ρ' H' v st rh rv fr => h ρ' H' st rh v rv fr
  | exc k d S => exact h
  | brk σ S => exact h.elim
  | cnt σ S => exact h.elim
  | bad => exact h.elim
theorem fn_zero {j : Nat} {k : Nat} {f : Addr} {fd : FuncData} {ps : List Str} : FnOk Pg w K mg base (L2.CX Pg w) k f fd ps (spF c (callO P 0) j) :=
  ⟨fun vs H Q E h => by obtain ⟨b, ρ, G, ds, _, _, _, h⟩ := h; exact h.elim, fun A outer s H args us vs Q E _ _ _ _ h => by obtain ⟨b, ρ, G, ds, _, _, _, h⟩ := h; exact h.elim⟩
theorem ctx_of (M : Env1 Pg K mg c P T) {n : Nat} {f : FnS} (hsc : scB f.N f.ps (defScope f.st) = true) (calls : ∀ j x, (T.fs.map (·.nm))[j]? = some x → CallAt Pg w K mg base c T.kws P n j x) {fa : Addr} {cdv : Value} {A : Around} {outer : List Env} {s : Shared} {H : Hp} {E : XK}
    (hr : Room (3 * n + 4) (A.deeper (envOfC f.nm (defScope f.st) s.heap.objs.size fa cdv))) (hl : f.lam = true → ∃ cd Pt, cdv = .ref cd ∧ LamX.TabB base mg cd Pt ∧ (Pt, lamQ f) ∈ c.T ∧ ∀ p ∈ c.T, p.1 = Pt → p.2 = lamQ f) :
    CtxS c P (callO P n) (gmOf T f) E (cxOf (L2.CX Pg w) Pg w K mg base f.N f.nm (defScope f.st) fa cdv A outer s H E) := by
  have S := scB_ok hsc
  have tk : TakP (cxOf (L2.CX Pg w) Pg w K mg base f.N f.nm (defScope f.st) fa cdv A outer s H E) (fun cls d _ H => E cls d H) := takP_of rfl rfl rfl rfl
  have cf : ∀ j x, (T.fs.map (·.nm))[j]? = some x → CallF c (callO P n) T.kws (3 * n + 2) j x (cxOf (L2.CX Pg w) Pg w K mg base f.N f.nm (defScope f.st) fa cdv A outer s H E) := fun j x h => ⟨(calls j x h).ok⟩
  refine { N := rfl, nd := S.nd, sc := rfl, calm := rfl, K := M.eK, un := by have := hr.un; show (A.deeper (envOfC f.nm (defScope f.st) s.heap.objs.size fa cdv)).units + 66 < cLine; omega, mg := M.bi, st := fun x h => ?_, tp := tk, fr := ⟨_, _, _, rfl, rfl, rfl⟩, call := fun j x h => ⟨3 * n + 2, hr.mono (by omega), cf j x h⟩, cs := M.cs, gc := gc_callO P n, th := fun k x h => ?_, own := passes_of rfl, rs := fun k x h => M.rs k x h _ E rfl rfl rfl rfl (hr.mono (by omega)) tk.tk }
  · refine ⟨?_, .inl rfl⟩
    unfold stB at h
    split at h
    · rename_i q; exact .inl q
    · rename_i q; exact .inr q
    · cases h
  · have h : (if f.lam then T.th else [])[k]? = some x := h
    cases e : f.lam with
    | false => rw [e] at h; cases h
    | true =>
      rw [e] at h
      have F := M.th k x h
      obtain ⟨cd, Pt, hcd, tb, m1, m2⟩ := hl e
      obtain ⟨a, g, pg, bg, sg, dV, kV, doc, pm, cdv', ct, oc, an, od, osl, Ng, h1, h2, h3, h4, h5, h6, h7, h8, h9, h10, h11, h12⟩ := F.ok
      exact ⟨F.exm, a, g, cd, Pt, 3 * n + 2, pg, bg, sg, dV, kV, doc, pm, cdv', ct, oc, an, od, osl, Ng, h1, h2, h3, h4, h5, h6, h7, h8, h9, h10, h11, fun t ht => h12 t ht _ _ rfl rfl, tb, hcd, m1, m2, hr, fun j y hj => ⟨(cf j y hj).ok⟩⟩
/-- THE STEP: one call deeper -/
theorem fn_step (M : Env1 Pg K mg c P T) {n j : Nat} {fn : Fn} {f : FnS} {fa : Addr} {fd : FuncData} (hj : P.fns[j]? = some fn) (hc : chkF T fn f = true) (F : FunD K f.nm f.nm (defArgs f.st) (defBody f.st) (defScope f.st) [] [] fa fd) (calls : ∀ j x, (T.fs.map (·.nm))[j]? = some x → CallAt Pg w K mg base c T.kws P n j x)
    (hl : f.lam = true → ∃ cd Pt, fd.code = .ref cd ∧ LamX.TabB base mg cd Pt ∧ (Pt, lamQ f) ∈ c.T ∧ ∀ p ∈ c.T, p.1 = Pt → p.2 = lamQ f) :
    FnOk Pg w K mg base (L2.CX Pg w) (3 * (n + 1) + 2) fa fd f.ps (spF c (callO P (n + 1)) j) := by
  unfold chkF at hc
  simp only [Bool.and_eq_true, decide_eq_true_eq] at hc
  obtain ⟨⟨⟨⟨h1, h2⟩, h3⟩, h4⟩, h5⟩ := hc
  have S := scB_ok h4
  have lp : f.ps.length = f.np := by unfold FnS.ps; rw [List.length_take]; omega
  have look : ∀ {vs : List V} {H : Hp} {Q : VK} {E : XK}, spF c (callO P (n + 1)) j vs H Q E → vs.length = f.np ∧ ∃ b ρ G ds, RH c.toSC ρ H G ∧ RDs c.K ρ H ds vs ∧ b ≤ G.length ∧ ds.length = f.np ∧ PX c E ρ H (evS P (callO P n) fn.body b (ds.map some ++ List.replicate (fn.sl - fn.ar) none) G).toR (zV c H Q) := fun {vs H Q E} h => by
    obtain ⟨b, ρ, G, ds, rh, rds, lb, h⟩ := h
    unfold callO at h
    rw [hj] at h
    dsimp only at h
    split at h
    · rename_i hl
      exact ⟨by rw [← rds.length, hl, h1], b, ρ, G, ds, rh, rds, lb, by rw [hl, h1], h⟩
    · exact h.elim
  obtain ⟨oc, od, dV, kV, doc, pm, an, cdv, ct, osl, rfl, lk, hcd, _, _⟩ := F.ex
  refine fn_of (k := 3 * n + 4) lk hcd S (fun vs H Q E h => by rw [(look h).1, lp]) fun A outer s H vs Q E hr h => ?_
  have X := ctx_of (f := f) (fa := fa) (cdv := cdv) (A := A) (outer := outer) (s := s) (H := H) (E := E) M h4 calls hr hl
  refine ⟨tS c P (callO P n) E fn.body, (sndS fn.body).bl X S.kind _ h5, ?_⟩
  obtain ⟨_, b, ρ, G, ds, rh, rds, lb, hl', h⟩ := look h
  exact ⟨b, ρ, G, _, ⟨rh, start_sl rds (by rw [hl', h1]) h2, lb⟩, toR_read h⟩
end
end Ev
set_option Elab.async false
set_option linter.all false
set_option maxRecDepth 100000
set_option maxHeartbeats 8000000
/-! EvW: all defs, at any depth; the defs that are handed a call. -/
namespace Ev
open PySem PySem.Spec PyProof.Rows L2
section
variable {Pg : Program} {w : World} {K : PySem.W.Frag} {mg : Str → Option Value} {base : Heap} {c : SX} {P : Pr} {T : Tbl}
/-- a def of the table, as the written part has it -/
structure DefF (K : PySem.W.Frag) (mg : Str → Option Value) (base : Heap) (c : SX) (T : Tbl) (j : Nat) (f : FnS) : Prop where
  ok : ∃ fa fd, FunD K f.nm f.nm (defArgs f.st) (defBody f.st) (defScope f.st) [] [] fa fd ∧ mg f.nm = some (.ref fa) ∧ Binds K fd f.ps [] ∧ isDb f.nm = false ∧ (∀ ks p, (j, ks, p) ∈ T.kws → KwOk K fd f.ps p ks) ∧
    (f.lam = true → ∃ cd Pt, fd.code = .ref cd ∧ LamX.TabB base mg cd Pt ∧ (Pt, lamQ f) ∈ c.T ∧ ∀ p ∈ c.T, p.1 = Pt → p.2 = lamQ f)
theorem nm_at {j : Nat} {x : Str} (h : (T.fs.map (·.nm))[j]? = some x) : ∃ f, T.fs[j]? = some f ∧ f.nm = x := by
  rw [List.getElem?_map] at h
  cases q : T.fs[j]? with
  | none => rw [q] at h; cases h
  | some f => rw [q] at h; exact ⟨f, rfl, Option.some.inj h⟩
theorem calls_all (M : Env1 Pg K mg c P T) (hF : ∀ (j : Nat) (f : FnS), T.fs[j]? = some f → ∃ fn, P.fns[j]? = some fn ∧ chkF T fn f = true) (hD : ∀ (j : Nat) (f : FnS), T.fs[j]? = some f → DefF K mg base c T j f) :
    ∀ n j x, (T.fs.map (·.nm))[j]? = some x → CallAt Pg w K mg base c T.kws P n j x
  | 0, j, x, h => by
    obtain ⟨f, hf, rfl⟩ := nm_at h
    obtain ⟨fa, fd, F, h1, h2, h3, h4, _⟩ := (hD j f hf).ok
    exact ⟨fa, fd, f.ps, fn_zero, h1, F.kp, h2, h3, h4⟩
  | n + 1, j, x, h => by
    obtain ⟨f, hf, rfl⟩ := nm_at h
    obtain ⟨fa, fd, F, h1, h2, h3, h4, h5⟩ := (hD j f hf).ok
    obtain ⟨fn, hj, hc⟩ := hF j f hf
    exact ⟨fa, fd, f.ps, fn_step M hj hc F (calls_all M hF hD n) h5, h1, F.kp, h2, h3, h4⟩
end
/-! ### try: call() .. except E as e: return e.f / return ''; try: return call() except E as e: return pre + e.f -/
section
variable {c : SX} {X : Cx}
theorem Takes.len {W : WX} (tk : Takes X W) : Takes X (fun cls d σ H => σ.length = X.N.length → W cls d σ H) := fun u s' x => by
  obtain ⟨a, B, sI, pins, σ, H, cls, d, e, I, nb, up, sky, na, os, ag, w⟩ := x
  exact tk u s' ⟨a, B, sI, pins, σ, H, cls, d, e, I, nb, up, sky, na, os, ag, w I.len⟩
theorem refused_gives {x a E e fld q : Str} {sg : Scope} {g : Addr} {cdg : Value} {k j : Nat} {p1 p2 p3 p4 p5 p6 p7 p8 p9 p10 p11 : Pos} (hK : c.K = X.K) (hne : ([a, e] : List Str).Nodup) (hE : sg.names.lookup E = some .globalImplicit) (he : sg.names.lookup e = some .local) (hmE : X.mg E = some (.ref (c.cls k))) (hde : isDb E = false)
    (hfld : c.fld k = fld) (hx : XfC X.K (c.cls k)) (hno : PySem.W.findIn X.K (.ref (c.cls k)) fld = some none) (hv1 : isDb e = false) (hv2 : isCd e = false) :
    LamX.GivesTo X [a, e] x sg g cdg [.Try [.Expr (.Call (.Name a p1) [] [] p2) p3] [.ExceptHandler (some (.Name E p4)) (some e) [.Return (some (.Attribute (.Name e p5) fld p6)) p7] p8] [] [] p9, .Return (some (.Constant (.str Str.empty) j p10)) p11] a q (TTk c (k, none)) := by
  intro f c' s H Q tl act hc h
  have hgl : Gl (cxOf C8.CX0 X.prog X.w X.K X.mg X.base [a, e] x sg g cdg X.A X.stack s H C8.E0).nox E := hE
  have hel : (cxOf C8.CX0 X.prog X.w X.K X.mg X.base [a, e] x sg g cdg X.A X.stack s H C8.E0).nox.env.kindOf e = some .local := he
  refine ⟨_, pss_cons (ps_try_as (X := (cxOf C8.CX0 X.prog X.w X.K X.mg X.base [a, e] x sg g cdg X.A X.stack s H C8.E0).nox) (c := .ref (c.cls k)) (i := 1) (n := e) (Wout := fun _ _ _ _ => False)
      (tb := fun W D σ H => ∃ Ech : XK, (∀ cls d σ' H', Ech cls d H' → σ'.length = 2 → W cls d σ' H') ∧ σ[0]? = some (some (.ref f)) ∧ H c' = some (LamX.CodeO c' q) ∧ tl Ech H (fun _ H1 => D.nx σ H1))
      (ts := fun a' cls d => tRet (tXf a' cls d (c.cls k) fld (tVar 1)))
      rfl rfl hne rfl hel ⟨hgl, hde, .inl hmE⟩ LamX.takes0 (fun W pn xe tk _ => ?_) (fun a' oe cls d pn hz hf => ?_)) (pss_one (ps_ret pe_str)), ?_⟩
  · refine ⟨fun pins s' σ H' D I h' => ?_⟩
    obtain ⟨Ech, hW, h1, h2, h3⟩ := h'
    have hp := act (fun cls d σ H => σ.length = 2 → W cls d σ H) pn xe Ech p1 p2 (Takes.len tk) hW
    exact (pss_one (ps_expr (pos := p3) hp)).run pins s' σ H' D I ⟨h1, h2, h3⟩
  · exact pss_one (ps_ret (pe_xf hx hno hz hf (pe_var (i := 1) rfl (.inl hel) hv1 hv2)))
  · refine ⟨catchX c k Q, fun cls d σ' H' hc' hl => ?_, rfl, hc, h⟩
    obtain ⟨b, e1, e2, e3⟩ := hc'
    refine ⟨b, by rw [← hK]; exact e1, fun hb a' _ => ?_, e3⟩
    obtain ⟨dd, v, h1, h2, h3, h4⟩ := e2 hb
    exact ⟨.ref a', List.getElem?_set_self (by omega), rfl, h2, dd, [(c.fld k, v)], v, h1, h3, by rw [hfld]; simp [List.lookup], h4⟩
theorem asked_gives {x a E e fld q pre : Str} {sg : Scope} {g : Addr} {cdg : Value} {k j : Nat} {p1 p2 p3 p4 p5 p6 p7 p8 p9 p10 p11 : Pos} (hK : c.K = X.K) (hne : ([a, e] : List Str).Nodup) (hE : sg.names.lookup E = some .globalImplicit) (he : sg.names.lookup e = some .local) (hmE : X.mg E = some (.ref (c.cls k))) (hde : isDb E = false)
    (hfld : c.fld k = fld) (hx : XfC X.K (c.cls k)) (hno : PySem.W.findIn X.K (.ref (c.cls k)) fld = some none) (hv1 : isDb e = false) (hv2 : isCd e = false) :
    LamX.GivesTo X [a, e] x sg g cdg [.Try [.Return (some (.Call (.Name a p1) [] [] p2)) p3] [.ExceptHandler (some (.Name E p4)) (some e) [.Return (some (.BinOp (.Constant (.str pre) j p10) .Add (.Attribute (.Name e p5) fld p6) p11)) p7] p8] [] [] p9] a q (TTk c (k, some pre)) := by
  intro f c' s H Q tl act hc h
  have hgl : Gl (cxOf C8.CX0 X.prog X.w X.K X.mg X.base [a, e] x sg g cdg X.A X.stack s H C8.E0).nox E := hE
  have hel : (cxOf C8.CX0 X.prog X.w X.K X.mg X.base [a, e] x sg g cdg X.A X.stack s H C8.E0).nox.env.kindOf e = some .local := he
  refine ⟨_, pss_one (ps_try_as (X := (cxOf C8.CX0 X.prog X.w X.K X.mg X.base [a, e] x sg g cdg X.A X.stack s H C8.E0).nox) (c := .ref (c.cls k)) (i := 1) (n := e) (Wout := fun _ _ _ _ => False)
      (tb := fun W D σ H => ∃ Ech : XK, (∀ cls d σ' H', Ech cls d H' → σ'.length = 2 → W cls d σ' H') ∧ σ[0]? = some (some (.ref f)) ∧ H c' = some (LamX.CodeO c' q) ∧ tl Ech H D.rt)
      (ts := fun a' cls d => tRet (tOp (fun x y H Q => ∃ i j, x = .str i ∧ y = .str j ∧ i.length + j.length ≤ sizeLine ∧ Q (.str (i ++ j)) H) (tC (.str pre)) (tXf a' cls d (c.cls k) fld (tVar 1))))
      rfl rfl hne rfl hel ⟨hgl, hde, .inl hmE⟩ LamX.takes0 (fun W pn xe tk _ => ?_) (fun a' oe cls d pn hz hf => ?_)), ?_⟩
  · refine ⟨fun pins s' σ H' D I h' => ?_⟩
    obtain ⟨Ech, hW, h1, h2, h3⟩ := h'
    have hp := act (fun cls d σ H => σ.length = 2 → W cls d σ H) pn xe Ech p1 p2 (Takes.len tk) hW
    exact (pss_one (ps_ret (pos := p3) hp)).run pins s' σ H' D I ⟨h1, h2, h3⟩
  · exact pss_one (ps_ret (pe_op op_add_str pe_str (pe_xf hx hno hz hf (pe_var (i := 1) rfl (.inl hel) hv1 hv2))))
  · refine ⟨catchX c k fun v H' => ∃ w, v = .str w ∧ pre.length + w.length ≤ lim ∧ Q (.str (pre ++ w)) H', fun cls d σ' H' hc' hl => ?_, rfl, hc, h⟩
    obtain ⟨b, e1, e2, e3⟩ := hc'
    refine ⟨b, by rw [← hK]; exact e1, fun hb a' _ => ?_, e3⟩
    obtain ⟨dd, v, h1, h2, h3, w, hw, hl2, h4⟩ := e2 hb
    exact ⟨.ref a', List.getElem?_set_self (by omega), rfl, h2, dd, [(c.fld k, v)], v, h1, h3, by rw [hfld]; simp [List.lookup], pre, w, rfl, hw, lim_line hl2, h4⟩
end
end Ev
set_option Elab.async false
set_option linter.all false
set_option maxRecDepth 100000
set_option maxHeartbeats 8000000
/-! EvX: an exception class of the text over ValueError: def __init__(self, f): super().__init__(f); self.f = f. -/
namespace Ev
namespace OwnX
open PySem PySem.W PySem.Calls PyProof.Rows PySem.HandSPX
def iA (f : Str) (p1 p2 : Pos) : Arguments := { posonlyargs := [], args := [{ arg := "self", annotation := none, pos := p1 }, { arg := f, annotation := none, pos := p2 }], vararg := none, kwonlyargs := [], kw_defaults := [], kwarg := none, defaults := [] }
def iB (f : Str) (q : Nat → Pos) : List Stmt := [.Expr (.Call (.Attribute (.Call (.Name "super" (q 0)) [] [] (q 1)) "__init__" (q 2)) [.Name f (q 3)] [] (q 4)) (q 5), .Assign [.Attribute (.Name "self" (q 6)) f (q 7)] (.Name f (q 8)) (q 9)]
def iS (f : Str) : Scope := { kind := .function, names := [(PySem.Str.ofString "self", .local), (f, .local), (PySem.Str.ofString "__class__", .free), (PySem.Str.ofString "super", .globalImplicit)], isGenerator := false, isCoroutine := false, more := [] }
/-- what is asked of the field's name -/
structure FldOk (f : Str) : Prop where
  nf : (f == ("self" : Str)) = false
  nc : (f == ("__class__" : Str)) = false
  ns : (f == ("super" : Str)) = false
  nd : (f == ("__debug__" : Str)) = false
  bind : ∀ (qual : Str) (p1 p2 : Pos) (q : Nat → Pos) (doc pm : Value) (an : Option Addr) (cdv ct : Value) (cc : Addr) (a b : Value), bindArgs (ksFn "__init__" qual (iA f p1 p2) (iB f q) (iS f) .none .none doc pm an cdv ct cc) ⟨[a, b], []⟩ = pure [((("self" : Str), a) : Str × Value), (f, b)]
theorem lk_self (f : Str) : (iS f).names.lookup ("self" : Str) = some .local := rfl
theorem lk_f {f : Str} (F : FldOk f) : (iS f).names.lookup f = some .local := by
  show (match f == ("self" : Str) with | true => some NameKind.local | false => (match f == f with | true => some NameKind.local | false => _)) = some .local
  rw [F.nf, beq_self_eq_true]
theorem ne_of_beq {a b : Str} (h : (a == b) = false) : (b == a) = false := by
  cases q : b == a with
  | false => rfl
  | true =>
    have e : b = a := eq_of_beq q
    rw [e] at h
    simp at h
theorem lk_class {f : Str} (F : FldOk f) : (iS f).names.lookup ("__class__" : Str) = some .free := by
  show (match ("__class__" : Str) == f with | true => some NameKind.local | false => some NameKind.free) = some .free
  rw [ne_of_beq F.nc]
theorem lk_super {f : Str} (F : FldOk f) : (iS f).names.lookup ("super" : Str) = some .globalImplicit := by
  show (match ("super" : Str) == f with | true => some NameKind.local | false => some NameKind.globalImplicit) = some .globalImplicit
  rw [ne_of_beq F.ns]
/-- what the written part says of the class x, at C, and of its __init__, at fI -/
structure ExTxt (K : Frag) (mg : Str → Option Value) (prog : Program) (C fI : Addr) (x f : Str) : Prop where
  gC : mg x = some (.ref C)
  nx : (x == ("__debug__" : Str)) = false
  cls : ∃ nm q N bs bm sn sub ab col dd k0 k1 k2 k3 k5, K.lookup C = some (excClassObj nm q C N bs bm true sn sub ab col dd k0 k1 k2 k3 k5 "ValueError.__new__") ∧ refsVE bm = true
  sa : findIn K (.ref C) "__setattr__" = some (some (.builtin "object.__setattr__"))
  noN : findIn K (.ref C) f = some none
  iC : findIn K (.ref C) "__init__" = some (some (.ref fI))
  tC : typeIn K (.ref fI) = some (.type "function")
  kC : keepIn K (.ref C) = true
  exC : subIn K (.ref C) (.type "BaseException") = some true
  tyC : typeIn K (.ref C) = some (.type "type")
  veC : subIn K (.ref C) (.type "ValueError") = some true
  sub : mroIn K C (.ref C) = some true
  sup : mg "super" = none
  ks : ks_superIn K C C "__init__" = some (some (.builtin "ValueError.__init__"))
  opq : nsIn K cStatics "thirdparty.any" = some none
  top : (prog.main.scope.names.lookup ("super" : Str)).isSome = false
  fn : ∃ (oc : Value) (od : Option Addr) (doc pm : Value) (an : Option Addr) (cda : Addr) (ct : Value) (cc : Addr) (osl : Array (Option Value)) (qual : Str) (p1 p2 : Pos) (q : Nat → Pos),
    K.lookup fI = some ⟨oc, od, .func (ksFn "__init__" qual (iA f p1 p2) (iB f q) (iS f) .none .none doc pm an (.ref cda) ct cc), osl⟩ ∧ codeIn K (.ref cda) qual = true ∧
    (∃ cl cld csl, K.lookup cc = some ⟨cl, cld, .cell (some (.ref C)), csl⟩) ∧ ∃ ccl cdd vs ccs file tf, K.lookup cda = some ⟨ccl, cdd, .fields vs, ccs⟩ ∧ vs[2]? = some (.str file tf) ∧ ((prog.main.file : Str) == file) = true ∧ ((q 2).endLine == (q 4).line) = true
/-- what __init__ leaves of a fresh exception at x -/
structure InitEnd (f : Str) (h h' : Heap) (x C dx t1 : Addr) (v : Value) : Prop where
  keep : ∀ b o, b ≠ x → h.get? b = some o → h'.get? b = some o
  obj : h'.get? x = some { cls := .ref C, dict := some dx, data := .fields #[.ref t1, .none, .none, .none, .bool false, .none] }
  dbig : h.objs.size ≤ dx
  dne : dx ≠ x
  ns : h'.Ns1 dx (fun y => if y = f then some v else none)
/-- a made exception -/
structure OwnMade (f : Str) (h h' : Heap) (e C d : Addr) (v : Value) : Prop where
  keep : ∀ b o, h.get? b = some o → h'.get? b = some o
  new : h.objs.size ≤ e
  obj : ∃ oe vs, h'.get? e = some oe ∧ oe.cls = .ref C ∧ oe.dict = some d ∧ oe.data = .fields vs ∧ vs[1]? = some .none
  dbig : h.objs.size ≤ d
  dne : d ≠ e
  ns : h'.Ns1 d (fun y => if y = f then some v else none)
section
variable {prog : Program} {w : World} {A : Around} {E : Value → Shared → Prop} {R : Result → Shared → Prop} {s : Shared} {K : Frag} {mg mb : Str → Option Value} {C fI : Addr} {nx f : Str}
/-- the bound built-in __init__, called: the args are laid anew -/
theorem call_mw {hh : Heap} {g : Array GenState} {d : Drawn} {tk : Nat} {os : OsState} {u x t0 : Addr} {rest : List Value} {Q : Value → Shared → Prop} {nm q : Str} {N : Addr} {bs bm : List Value} {hdct : Bool} {sn : List Str} {sub : List Value} {ab : Bool} {col : Option Bool} {dd : Option Addr} {k0 k1 k2 k3 k5 : Option Value}
    (hC : hh.get? C = some (excClassObj nm q C N bs bm hdct sn sub ab col dd k0 k1 k2 k3 k5 "ValueError.__new__")) (he : hh.get? x = some (excO C t0)) (hu : hh.get? u = some (kxs_mw "ValueError.__init__" x)) (hz : rest.length ≤ sizeLine)
    (hq : ∀ h' t1, (∀ b o, b ≠ x → hh.get? b = some o → h'.get? b = some o) → h'.get? x = some (excO C t1) → Q .none ⟨h', g, d, tk, os⟩) : wpAny (model prog w) A (call (.ref u) rest) Q E ⟨hh, g, d, tk, os⟩ := by
  refine wpAny_call (codeAny_of_tree ?_)
  show wpAny _ A.in1 (callAny (.ref u) ⟨rest, []⟩) _ _ _
  unfold callAny
  refine wpAny_bind (wpAny_load hu ?_)
  simp only [kxs_mw, show (Value.type "method-wrapper" == Value.type "method" || Value.type "method-wrapper" == Value.type "builtin_function_or_method" || Value.type "method-wrapper" == Value.type "method-wrapper") = true from by decide, if_true]
  refine KFB.if_so (by decide) ?_
  refine wpAny_bind (check_bound_init PySem.F.excBase_ValueError.toExcCallFacts hC he rfl ?_)
  refine wpAny_bind (wpAny_pure (wpAny_pure ?_))
  refine ⟨plainId_quiet PySem.F.excBase_ValueError.init.plain _, codeAny_builtin PySem.F.excBase_ValueError.initEntry ?_⟩
  exact exc_init_tree (cls := .ref C) (t0 := t0) (dv := none) (c2 := .none) (c3 := .none) (b4 := .bool false) he hz fun h' k1 k2 _ => hq h' _ k1 k2
theorem lookup_bind {f : Str} {v : Value} {x : Addr} (F : FldOk f) : ([(("self" : Str), Value.ref x), (f, v)] : List (Str × Value)).reverse.lookup f = some v ∧ ([(("self" : Str), Value.ref x), (f, v)] : List (Str × Value)).reverse.lookup ("self" : Str) = some (.ref x) := by
  refine ⟨?_, ?_⟩
  · show (match f == f with | true => some v | false => _) = some v
    rw [beq_self_eq_true]
  · show (match ("self" : Str) == f with | true => some v | false => some (Value.ref x)) = some (.ref x)
    rw [ne_of_beq F.nf]
theorem eval_mc {o : Expr} {name : Str} {apos pos : Pos} {args : List Expr} {env : Env} (hp : (apos.endLine == pos.line) = true) (hf : methodCallForm (args.length + 0) (backTo pos (starEach args env)) (backToKw pos (keywordEach [] env)) = true) :
    eval (.Call (.Attribute o name apos) args [] pos) env = (do
      let ov ← attributeBase o name env (eval o env)
      standAt apos.atName
      let (f, first) ← holding [ov] (getMethod ov name (do return (← importBound o env).getD true))
      callWith pos f first (backTo pos (starEach args env)) []) := by
  show (do
    let ov ← attributeBase o name env (eval o env)
    standAt apos.atName
    methodCall o name apos pos env ov (args.length + 0) (backTo pos (starEach args env)) (backToKw pos (keywordEach [] env))) = _
  unfold methodCall calleeOf methodCallPos
  simp only [hf, hp, if_true, Bool.not_true, Bool.false_or, pure_bind]
  rfl
theorem own_init (F : FldOk f) (T : ExTxt K mg prog C fI nx f) {x t0 : Addr} {v : Value} (X : K.In s.heap) (hlim : s.heap.NoLimit) (hG : s.heap.Ns mainGlobals mg) (hB : s.heap.Ns builtinsNs mb) (hb : ∀ y : Str, y ≠ "__name__" → mb y = bootBuiltins y)
    (hx : s.heap.get? x = some (excO C t0)) (hnx : K.lookup x = none) (hroom : A.depth < recursionLimit)
    (hq : ∀ h' tk dx t1, InitEnd f s.heap h' x C dx t1 v → R (.ok (.ret .none)) { s with heap := h', toks := tk }) :
    codeAny (model prog w) A (.call (.ref fI) ⟨[.ref x, v], []⟩) R s := by
  obtain ⟨oc, od, doc, pm, an, cda, ct, cc, osl, qual, p1, p2, q, ho, hcd, ⟨cl, cld, csl, hcell⟩, ccl, cdd, vs, ccs, file, tf, hcode, hvs, hfile, hline⟩ := T.fn
  obtain ⟨nm, qn, N, bs, bm, sn, sub, ab, col, dd, k0, k1, k2, k3, k5, hC, hbm⟩ := T.cls
  have hcl : clsIn K C = some { name := nm, bases := bs, mro := .ref C :: bm, ns := N, qualname := qn, hasDict := true, slotNames := sn, subclasses := sub, abstract := ab, collection := col, hasDel := false } := by unfold clsIn; rw [hC] <;> rfl
  have hks := T.ks
  unfold ks_superIn at hks
  rw [hcl] at hks
  obtain ⟨hp, g, dr, tk, os⟩ := s
  refine ks_codeAny_call_defAt (fd := ksFn "__init__" qual (iA f p1 p2) (iB f q) (iS f) .none .none doc pm an (.ref cda) ct cc) (body := iB f q) (binds := [(("self" : Str), .ref x), (f, v)]) hroom (X _ _ ho) rfl hlim (codeRec_of X hcd) rfl (BindsTo.of_eq (F.bind ..)) (fun y hy => ?_) (fun y hy => ?_) (fun h₁ hns hk => ?_) rfl rfl rfl
  · have hy : y ∈ [(PySem.Str.ofString "self", NameKind.local), (f, .local), (PySem.Str.ofString "__class__", .free), (PySem.Str.ofString "super", .globalImplicit)] := hy
    simp only [List.mem_cons, List.not_mem_nil, or_false] at hy
    rcases hy with rfl | rfl | rfl | rfl <;> (intro z; cases z)
  · simp only [List.mem_cons, List.not_mem_nil, or_false] at hy
    rcases hy with rfl | rfl
    · exact lk_self f
    · exact lk_f F
  have hk : ∀ b o, hp.get? b = some o → h₁.get? b = some o := hk
  have hns : h₁.Ns hp.objs.size (fun y => ([(("self" : Str), Value.ref x), (f, v)] : List (Str × Value)).reverse.lookup y) := hns
  have X₁ : K.In h₁ := X.keeps hk
  have hx₁ := hk _ _ hx
  show _root_.PySem.wpAt (model prog w) (A.deeper (ksEnv qual (iS f) hp.objs.size fI (.ref cda) cc)) (.func (iB f q) (ksEnv qual (iS f) hp.objs.size fI (.ref cda) cc)) (execs (iB f q) (ksEnv qual (iS f) hp.objs.size fI (.ref cda) cc)) _ _ _
  generalize henv : ksEnv qual (iS f) hp.objs.size fI (.ref cda) cc = env
  have es : env.scope = iS f := by rw [← henv]
  have el : env.locals = hp.objs.size := by rw [← henv]
  have eself : env.kindOf ("self" : Str) = some .local := by unfold Env.kindOf; rw [es]; exact lk_self f
  have ef : env.kindOf f = some .local := by unfold Env.kindOf; rw [es]; exact lk_f F
  have ec : env.kindOf ("__class__" : Str) = some .free := by unfold Env.kindOf; rw [es]; exact lk_class F
  have esu : env.kindOf ("super" : Str) = some .globalImplicit := by unfold Env.kindOf; rw [es]; exact lk_super F
  have ek : env.scope.kind = .function := by rw [es]; rfl
  have hL : env.locals ≠ x := by rw [el]; exact Nat.ne_of_gt (Heap.lt_size hx)
  rw [← el] at hns
  have q1 := X₁ _ _ ho
  have q2 := X₁ _ _ hcode
  rw [show execs (iB f q) env = execs [.Expr (.Call (.Attribute (.Call (.Name "super" (q 0)) [] [] (q 1)) "__init__" (q 2)) [.Name f (q 3)] [] (q 4)) (q 5), .Assign [.Attribute (.Name "self" (q 6)) f (q 7)] (.Name f (q 8)) (q 9)] env from rfl]
  refine ks_wpAt_execs_cons (ks_wpAt_Expr_any (ks_wpAt_MethodCall ?hh (eval_mc hline rfl)) ?hi)
  case hi => rw [← henv]; rfl
  case hh =>
    refine ks_wpAt_super_base (env := env) esu ec (show (("__init__" : Str) == ("__class__" : Str)) = false by decide) (by rw [← henv]) q1 rfl rfl (by rw [← henv]) q2 rfl hvs hfile T.top ?_
    -- the names of super()
    refine ks_loadName_global ek esu (loadGlobal_builtin (show h₁.Ns env.globals mg by rw [← henv]; exact hG.keeps hk) T.sup (show h₁.Ns env.builtins mb by rw [← henv]; exact hB.keeps hk) ((hb _ (by decide +kernel)).trans (show bootBuiltins "super" = some (.type "super") by decide +kernel)) ⟨rfl, ?_⟩)
    refine wpAny_loadName_free (c := cc) ek ec (by rw [← henv]; rfl) ⟨_, X₁ _ _ hcell, rfl⟩ ?_
    refine wpAny_loadName_local ek eself hns (lookup_bind F).2 ?_
    refine ks_wpAny_isType_cls (X₁ _ _ hC) rfl ⟨rfl, ?_⟩
    refine ks_wpAny_call_super (X₁ _ _ hC) rfl hx₁ rfl (fun c e => by cases e) (looks_mroIn X₁ T.sub) (fun h₂ e₂ k₂ => ?_)
    have X₂ : K.In h₂ := X₁.keeps k₂
    have hx₂ := k₂ _ _ hx₁
    have I₂ : InstAt h₂ x (excO C t0) C none := ⟨hx₂, rfl, rfl, trivial⟩
    refine kxs_getMethod kxs_ValueError e₂ (looks_opaque X₂ T.opq) (l₀ := .ref C :: bm) (fun A Q E s k q => wpAny_bind ((looks_clsIn X₂ hcl) A _ E s k (wpAny_pure q))) rfl X₂ hks (I₂.type.andThen (looks_subIn X₂ T.veC)) (ks_ne X₂ I₂ hcl) (show (("__init__" : Str) == ("__class__" : Str)) = false by decide) ?_
    -- the call of the bound __init__
    generalize hs₃ : h₂.push (kxs_mw "ValueError.__init__" x) = h₃
    have k₃ : ∀ b o, h₂.get? b = some o → h₃.get? b = some o := fun b o e => by rw [← hs₃]; exact Heap.get?_push_of_some _ e
    have hu : h₃.get? h₂.objs.size = some (kxs_mw "ValueError.__init__" x) := by rw [← hs₃]; exact Heap.get?_push_at rfl rfl
    have X₃ : K.In h₃ := X₂.keeps k₃
    have hn₃ : h₃.Ns env.locals (fun y => ([(("self" : Str), Value.ref x), (f, v)] : List (Str × Value)).reverse.lookup y) := (hns.keeps k₂).keeps k₃
    refine kxs_callWith (i := "ValueError.__init__") (x := x) rfl (evalArgs_plain ?_)
    refine Calls.spliced_cons (ESX.ldL hn₃ (lookup_bind F).1 (Calls.spliced_nil ⟨hu, ?_⟩) ek ef F.nd)
    show wpAny _ _ (call (.ref h₂.objs.size) [v]) _ _ _
    refine call_mw (hh := h₃) (X₃ _ _ hC) (k₃ _ _ hx₂) hu (by rw [sizeLine_eq]; exact (by decide : 1 ≤ 16777216)) (fun h₄ t1 k₄ hx₄ => ?_)
    have X₄ : K.In h₄ := fun a o e => k₄ a o (fun z => by rw [z, hnx] at e; cases e) (X₃ a o e)
    obtain ⟨oL, esL, epL, hoL, hrL⟩ := hn₃
    have hn₄ : h₄.Ns env.locals (fun y => ([(("self" : Str), Value.ref x), (f, v)] : List (Str × Value)).reverse.lookup y) := ⟨oL, esL, epL, k₄ _ _ hL hoL, hrL⟩
    show _root_.PySem.wpAt (model prog w) (A.deeper env) _ (execs [.Assign [.Attribute (.Name "self" (q 6)) f (q 7)] (.Name f (q 8)) (q 9)] env) _ _ _
    refine wpAt_of_wpAny (wpAny_execs_cons (plainObj_wpAny_Assign_Attribute ?_))
    refine ESX.ldL hn₄ (lookup_bind F).1 (ESX.ldL hn₄ (lookup_bind F).2 ?_ ek eself) ek ef F.nd
    refine PySem.W.set_plain X₄ (ox := excO C t1) (od := none) ⟨hx₄, rfl, rfl, trivial⟩ T.sa ?_
    refine exc_osa X₄ hx₄ hcl (show refsVE (.ref C :: bm) = true from hbm) rfl T.noN (fun h₅ tk₅ dx k₅ dn dne hx₅ hn₅ => ?_)
    refine wpAny_execs_nil ?_
    have old : ∀ b o, b ≠ x → hp.get? b = some o → h₄.get? b = some o := fun b o hb e => k₄ b o hb (k₃ _ _ (k₂ _ _ (hk b o e)))
    have sz : hp.objs.size ≤ h₄.objs.size := by
      have z : env.locals < h₄.objs.size := hn₄.lt
      rw [el] at z
      exact Nat.le_of_lt z
    exact hq h₅ tk₅ dx t1 ⟨fun b o hb e => k₅ b o hb (old b o hb e), hx₅, Nat.le_trans sz dn, dne, hn₅⟩
theorem one_size (v : Value) : [v].length ≤ sizeLine := by
  rw [sizeLine_eq]
  exact (by decide : 1 ≤ 16777216)
theorem own_made (F : FldOk f) (T : ExTxt K mg prog C fI nx f) {v : Value} (X : K.In s.heap) (hlim : s.heap.NoLimit) (hG : s.heap.Ns mainGlobals mg) (hB : s.heap.Ns builtinsNs mb) (hb : ∀ y : Str, y ≠ "__name__" → mb y = bootBuiltins y) (hroom : A.depth + 1 < recursionLimit)
    (hq : ∀ h' tk e d, OwnMade f s.heap h' e C d v → R (.ok (.ret (.ref e))) { s with heap := h', toks := tk }) :
    codeAny (model prog w) A (.call (.ref C) ⟨[v], []⟩) R s := by
  obtain ⟨nm, q, N, bs, bm, sn, sub, ab, col, dd, k0, k1, k2, k3, k5, hC, hbm⟩ := T.cls
  obtain ⟨hp, g, dr, tk, os⟩ := s
  have k : ∀ b o, hp.get? b = some o → ((hp.push (kdv_tup [v])).push (excO C hp.objs.size)).get? b = some o := fun b o e => Heap.get?_push_of_some _ (Heap.get?_push_of_some _ e)
  have hget : ((hp.push (kdv_tup [v])).push (excO C hp.objs.size)).get? (hp.objs.size + 1) = some (excO C hp.objs.size) := by heap_get
  have hnx : K.lookup (hp.objs.size + 1) = none := by
    cases e : K.lookup (hp.objs.size + 1) with
    | none => rfl
    | some o =>
      have z : hp.get? (hp.objs.size + 1) = some o := X _ _ e
      exact absurd (Nat.lt_of_succ_lt (Heap.lt_size z)) (Nat.lt_irrefl _)
  refine call_own PySem.F.excBase_ValueError (fun X => refsVE_contains X bm hbm) (X _ _ hC) (looks_findIn X T.iC) (fun self => bind_fn X self T.tC) (one_size v) ?_
  refine own_init (s := ⟨(hp.push (kdv_tup [v])).push (excO C hp.objs.size), g, dr, tk, os⟩) F T (X.keeps k) (hlim.keeps k) (hG.keeps k) (hB.keeps k) hb hget hnx ?_ fun h' tk' dx t1 ⟨k', hx, dn, dne, hns⟩ => ?_
  · show A.depth + 1 < recursionLimit
    exact hroom
  · have old : ∀ b o, hp.get? b = some o → h'.get? b = some o := fun b o e => k' b o (Nat.ne_of_lt (Nat.lt_succ_of_lt (Heap.lt_size e))) (k b o e)
    have z : hp.objs.size + 1 + 1 ≤ dx := by
      first
        | (simpa only [Heap.size_push] using dn)
        | exact dn
        | (have q := dn; rw [Heap.size_push, Heap.size_push] at q; exact q)
    exact ⟨rfl, hq h' tk' (hp.objs.size + 1) dx ⟨old, Nat.le_succ _, ⟨_, _, hx, rfl, rfl, rfl, rfl⟩, Nat.le_trans (Nat.le_trans (Nat.le_succ _) (Nat.le_succ _)) z, dne, hns⟩⟩
end
end OwnX
section
open PySem PySem.Spec PyProof.Rows L2
theorem relO_own {f : Str} {v : V} {v' : Value} (r : RelV v v') (y : Str) : RelO (List.lookup y [(f, v)]) (if y = f then some v' else none) := by
  by_cases hw : y = f
  · subst hw
    rw [if_pos rfl]
    have q : List.lookup y [(y, v)] = some v := by simp [List.lookup]
    rw [q]
    exact r
  · rw [if_neg hw]
    have qw : (y == f) = false := by simpa using hw
    have q2 : List.lookup y [(f, v)] = none := by simp [List.lookup, qw]
    rw [q2]
    trivial
variable {X : Cx} {C fI : Addr} {x f : Str}
def tMkOwn (f : Str) (C : Addr) (ta : TA) : L2.St → Hp → XK → Prop := fun σ H Q => ta σ H fun vs H1 => ∃ v, vs = [v] ∧ ∀ d, H1 d = none → Q (.ref C) (some d) (upd H1 d (.xd [(f, v)]))
theorem pmk_own {a : Expr} {ta : TA} {p pos : Pos} {k : Nat} (F : OwnX.FldOk f) (T : OwnX.ExTxt X.K X.mg X.prog C fI x f) (hr : Room (k + 1) X.A) (ha : PA X [a] ta) (hg : Gl X x)
    (he : starEach (a :: []) X.env = (false, eval a X.env) :: starEach [] X.env) (hpl : (backTo pos (starEach [] X.env)).any (·.1) = false := by rfl) :
    PMk X (.Call (.Name x p) [a] [] pos) (tMkOwn f C ta) := by
  intro pins s σ H Q I h
  refine wpAny_Call_Name_kw (ld_glob I hg T.gC ?_ T.nx)
  refine PySem.W.callWith_K (h₀ := X.base) I.ok.mod.kin T.kC (thn (ha.run pos pins s σ H _ I h) fun us s1 hh => ?_) he hpl
  obtain ⟨vs, H1, I1, r1, v, ev, q1⟩ := hh
  subst ev
  refine ⟨I1.kIn, ?_⟩
  cases r1 with
  | cons rv rn =>
    rename_i v' us'
    cases rn
    show wpAny _ _ (call (.ref C) [v']) _ _ _
    have hlim := I1.nolimit
    obtain ⟨mb, hb1, hb2⟩ := I1.mod.blt
    have hG := I1.mod.glob.keeps I1.bk
    have hB := hb1.keeps I1.bk
    obtain ⟨hp, g, dr, tk, os⟩ := s1
    refine wpAny_call (OwnX.own_made F T I1.kIn hlim hG hB hb2 (by have := hr.dp; omega) fun h' tk' e d M => ?_)
    show MkP X pins σ Q (.ref e) ⟨h', g, dr, tk', os⟩
    obtain ⟨oe, fv, hoe, hc, hd, hdat, h1⟩ := M.obj
    have hns := M.ns
    obtain ⟨G', g1, g2⟩ := restrict h' fun b => decide (b ≠ e)
    have gk : ∀ b, b ≠ e → G'.get? b = h'.get? b := fun b hb => g1 b (decide_eq_true hb)
    have ge : G'.get? e = none := g2 e (by simp)
    have old : ∀ b o, hp.get? b = some o → G'.get? b = some o := fun b o q => (gk b (Nat.ne_of_lt (Nat.lt_of_lt_of_le (Heap.lt_size q) M.new))).trans (M.keep b o q)
    have ob : ObjOk X.prog X.w (upd H1 d (.xd [(f, v)])) G' d (.xd [(f, v)]) :=
      ⟨_, hns.at (fun o q => (gk d M.dne).trans q), fun y => relO_own rv y⟩
    have J : Inv X pins σ (upd H1 d (.xd [(f, v)])) ⟨G', g, dr, tk', os⟩ := I1.laid (t' := tk') old M.dbig ob
    refine ⟨e, oe, fv, ⟨G', g, dr, tk', os⟩, _, .ref C, some d, rfl, J, fun b o q => ?_, ge, hoe, ⟨hc, hd⟩, hdat, h1, ?_, rfl, I1.bare, raises_own T.exC T.tyC, q1 d (I1.hok.fresh M.dbig)⟩
    · by_cases hb : b = e
      · have q' : G'.get? b = some o := q
        rw [hb, ge] at q'; cases q'
      · exact (gk b hb).symm.trans q
    · rw [upd_ne (Ne.symm M.dne)]
      exact I1.hok.fresh M.new
theorem raise_own {c : SX} {k n : Nat} {W : XK} (F : OwnX.FldOk f) (T : OwnX.ExTxt X.K X.mg X.prog (c.cls k) fI x f) (hf : c.fld k = f) (hc : X.calm = true) (hr : Room (n + 1) X.A) (tk : Takes X (fun cls d _ H => W cls d H)) : RaiseOk c k x W X := fun a ta p pos pos2 hs ha hg => by
  subst hf
  exact ps_raise hc tk (pmk_own F T hr ha hg (star_one hs))
end
end Ev
set_option Elab.async false
set_option linter.all false
set_option maxRecDepth 100000
set_option maxHeartbeats 8000000
/-! EvY: the law's def; the Hook; what the written part says. -/
namespace Ev
open PySem PySem.Spec PyProof.Rows L2 He
/-! ### the law's def -/
/-- of the script's numbers comes True -/
def spLaw (c : SX) (C : Ev.Cl) (j : Nat) : Sp := fun vs H Q _ => ∃ (a : Addr) (ns : List Int), vs = [.ref a] ∧ (∀ p ∈ c.T, H p.1 = some (.tbl #[])) ∧ SqL c.K H a (ns.map V.int) ∧ (∀ H', Q (.bl true) H') ∧ ∃ G, C j 0 [.fl (ns.map D.int)] [] = .ok (.bl true) G
theorem rds_ints {K : PySem.W.Frag} {ρ : List Addr} {H : Hp} : ∀ ns : List Int, RDs K ρ H (ns.map D.int) (ns.map V.int)
  | [] => .nil
  | n :: ns => .cons (.int n) (rds_ints ns)
theorem hok_lock {P : Program} {w : World} {H : Hp} {h : Heap} {a : Addr} {xs : List V} (ok : HOk P w H h) (e : H a = some (.lst xs)) : ∃ o, HOk P w (L2.upd H a (.frz o (.lst xs))) h := by
  obtain ⟨_, its, n, _, eo⟩ := ok a _ e
  have oth : ∀ b u, H b = some u → u ≠ .lst xs → b ≠ a := fun b u q n z => by rw [z, e] at q; cases q; exact n rfl
  refine ⟨{ cls := .type "list", data := .seq its.toArray n }, fun (b : Addr) (u : HO) q => ?_⟩
  by_cases hb : b = a
  · subst hb
    rw [upd_same] at q
    cases q
    exact ⟨eo, (ok b _ e).stay (fun _ _ _ q => q) (fun c q => by rw [upd_ne (oth c _ q (by simp))]; exact q) fun c ys q => by rw [upd_ne (oth c _ q (by simp))]; exact q⟩
  · rw [upd_ne hb] at q
    exact (ok b u q).stay (fun _ _ _ q => q) (fun c q => by rw [upd_ne (oth c _ q (by simp))]; exact q) fun c ys q => by rw [upd_ne (oth c _ q (by simp))]; exact q
theorem fn_law {P : Program} {w : World} {K : PySem.W.Frag} {mg : Str → Option Value} {base : Heap} {k : Nat} {f : Addr} {fd : FuncData} {x : Str} {c : SX} {C : Ev.Cl} {j : Nat} (hK : c.K = K) (F : FnOk P w K mg base (L2.CX P w) k f fd [x] (spF c C j)) : FnOk P w K mg base (L2.CX P w) k f fd [x] (spLaw c C j) := by
  refine ⟨fun vs H Q E h => by obtain ⟨a, ns, rfl, _⟩ := h; rfl, fun A outer s H args us vs Q E hr he hb hv hs => ?_⟩
  obtain ⟨a, ns, rfl, ht, hS, hQ, G, hG⟩ := hs
  have go : ∀ H', Env0 P w K mg base A outer s H' → SqF c.K H' a (ns.map V.int) → (∀ p ∈ c.T, H' p.1 = some (.tbl #[])) → codeAny (model P w) A (.call (.ref f) args) (CR (L2.CX P w) outer P w H' s (fun v _ => v = .bl true) (fun _ _ _ => False)) s := fun H' he' hF ht' =>
    F.run A outer s H' args us [.ref a] _ _ hr he' hb hv ⟨0, [], [], [.fl (ns.map D.int)], ⟨rfl, .nil, fun n a o e => by simp at e, fun p hp => LamX.TabS.nil (ht' p hp)⟩, .cons (.fl hF (rds_ints ns)) .nil, Nat.le_refl _, by
      rw [hG]
      intro ρ' H1 st rh v rv fr
      cases (show RD c.K ρ' H1 (.bl true) v from rv)
      rfl⟩
  have fin : ∀ H', (∀ h' H2, Un (frs outer) [] H' H2 s.heap h' → Un (frs outer) [] H H2 s.heap h') → codeAny (model P w) A (.call (.ref f) args) (CR (L2.CX P w) outer P w H' s (fun v _ => v = .bl true) (fun _ _ _ => False)) s → codeAny (model P w) A (.call (.ref f) args) (CR (L2.CX P w) outer P w H s Q E) s := fun H' hU h =>
    codeAny_mono h fun r s' hq => by
      cases r with
      | error e =>
        obtain ⟨_, _, _, _, _, _, _, _, _, _, _, _, z⟩ := hq
        exact z.elim
      | ok fl =>
        cases fl with
        | ret u =>
          obtain ⟨v, H2, h1, h2, h3, h4, h5, rfl⟩ := hq
          exact ⟨_, H2, h1, h2, hU _ _ h3, h4, h5, hQ H2⟩
        | next => exact False.elim hq
        | brk => exact False.elim hq
        | cont => exact False.elim hq
  rcases hS with (e | ⟨o, e⟩) | e
  · obtain ⟨o, ok⟩ := hok_lock he.hok e
    have oth : ∀ b u, H b = some u → u ≠ .lst (ns.map V.int) → b ≠ a := fun b u q n z => by rw [z, e] at q; cases q; exact n rfl
    have no : ∀ b, H b = none → b ≠ a := fun b q z => by rw [z, e] at q; cases q
    have nn : ∀ b, H b = none → L2.upd H a (.frz o (.lst (ns.map V.int))) b = none := fun b q => by rw [upd_ne (no b q)]; exact q
    refine fin _ (fun h' H2 un => ⟨fun b ob g n => un.keep b ob g (nn b n), fun b ob g n => un.slot b ob g (nn b n), fun b ob g n => un.free b ob g (nn b n), un.there, fun b xs q => un.tups b xs ?_, fun b ob u q => un.frzs b ob u ?_, fun b ps q => un.tbls b ps ?_⟩) (go (L2.upd H a (.frz o (.lst (ns.map V.int)))) ⟨he.frames, he.mod, fun b ob g => ⟨(he.bs b ob g).1, nn b (he.bs b ob g).2⟩, he.bsz, he.funs, fun b hb => nn b (he.frf b hb), ok, he.bare⟩ (.inl ⟨o, upd_same⟩) fun p hp => ?_)
    · rw [upd_ne (oth b _ q (by simp))]; exact q
    · rw [upd_ne (oth b _ q (by simp))]; exact q
    · rw [upd_ne (oth b _ q (by simp))]; exact q
    · rw [upd_ne (oth _ _ (ht p hp) (by simp))]; exact ht p hp
  · exact fin H (fun _ _ z => z) (go H he (.inl ⟨o, e⟩) ht)
  · exact fin H (fun _ _ z => z) (go H he (.inr e) ht)
end Ev
set_option Elab.async false
set_option linter.all false
set_option maxRecDepth 100000
set_option maxHeartbeats 8000000
/-! EvZ: the Hook; what the written part says. -/
namespace Ev
open PySem PySem.Spec PyProof.Rows L2 He
/-! ### own exceptions -/
abbrev ExV : Type := Option (Str × Str × Arguments × FuncBody × Scope × Addr × List Str × Addr)
def inA (K : PySem.W.Frag) (x : Str) : Addr := ma K (ga K x) "__init__"
def exW (K : PySem.W.Frag) (x : Str) : ExV := match K.lookup (inA K x) with
  | some ⟨_, _, .func fd, _⟩ => some (fd.name, fd.qualname, fd.params, fd.body, fd.scope, fd.globals, fd.closure.map (·.1), fd.builtins)
  | _ => none
def inSt : Stmt → Stmt
  | .ClassDef _ _ _ body _ _ _ _ _ _ _ => body.getD 0 (.Pass ⟨0, 0, 0, 0⟩)
  | s => s
def exV (x : Str) (st : Stmt) : ExV := some ("__init__", x ++ ".__init__", defArgs (inSt st), .stmts (defBody (inSt st)), defScope (inSt st), mainGlobals, ["__class__"], builtinsNs)
def clsB (K : PySem.W.Frag) (C : Addr) : Bool := match K.lookup C with
  | some ⟨.type t, _, .cls cd, sl⟩ => (match cd.mro, sl.toList with
    | .ref C' :: bm, [_, _, _, _, some (.builtin n), _] => decide (t = "type") && (decide (C' = C) && (decide (n = "ValueError.__new__") && (!cd.hasDel && (cd.hasDict && HandSPX.refsVE bm))))
    | _, _ => false)
  | _ => false
theorem clsB_ok {K : PySem.W.Frag} {C : Addr} (h : clsB K C = true) : ∃ nm q N bs bm sn sub ab col dd k0 k1 k2 k3 k5, K.lookup C = some (excClassObj nm q C N bs bm true sn sub ab col dd k0 k1 k2 k3 k5 "ValueError.__new__") ∧ HandSPX.refsVE bm = true := by
  unfold clsB at h
  split at h
  · rename_i t dd cd sl ho
    split at h
    · rename_i C' bm k0 k1 k2 k3 n k5 hm hs
      simp only [Bool.and_eq_true, decide_eq_true_eq, Bool.not_eq_true'] at h
      obtain ⟨rfl, rfl, rfl, hdel, hhd, hv⟩ := h
      obtain ⟨nm, bs, mro, ns, qn, hd, sn, sub, ab, col, del⟩ := cd
      dsimp only at hm hdel hhd
      subst hm hdel hhd
      have hsl : sl = #[k0, k1, k2, k3, some (.builtin "ValueError.__new__"), k5] := by
        obtain ⟨l⟩ := sl
        simp only at hs
        rw [hs]
      subst hsl
      exact ⟨nm, qn, ns, bs, bm, sn, sub, ab, col, dd, k0, k1, k2, k3, k5, ho, hv⟩
    · cases h
  · cases h
def cellB (K : PySem.W.Frag) (cc C : Addr) : Bool := match K.lookup cc with
  | some ⟨_, _, .cell (some (.ref D)), _⟩ => decide (D = C)
  | _ => false
theorem cellB_ok {K : PySem.W.Frag} {cc C : Addr} (h : cellB K cc C = true) : ∃ cl cld csl, K.lookup cc = some ⟨cl, cld, .cell (some (.ref C)), csl⟩ := by
  unfold cellB at h
  split at h
  · rename_i a b D d ho
    have e := of_decide_eq_true h
    rw [e] at ho
    exact ⟨_, _, _, ho⟩
  · cases h
def fileV (Pg : Program) : Option Value → Bool
  | some (.str file _) => (Pg.main.file : Str) == file
  | _ => false
def at2 (vs : Array Value) : Option Value := vs[2]?
def fileB (Pg : Program) (K : PySem.W.Frag) (cda : Addr) : Bool := match K.lookup cda with
  | some ⟨_, _, .fields vs, _⟩ => fileV Pg (at2 vs)
  | _ => false
theorem fileB_ok {Pg : Program} {K : PySem.W.Frag} {cda : Addr} (h : fileB Pg K cda = true) : ∃ ccl cdd vs ccs file tf, K.lookup cda = some ⟨ccl, cdd, .fields vs, ccs⟩ ∧ vs[2]? = some (.str file tf) ∧ ((Pg.main.file : Str) == file) = true := by
  unfold fileB at h
  split at h
  · rename_i a b vs d ho
    unfold fileV at h
    split at h
    · rename_i file tf hv
      exact ⟨_, _, vs, _, file, tf, ho, hv, h⟩
    · cases h
  · cases h
def iniB (Pg : Program) (K : PySem.W.Frag) (fI C : Addr) : Bool := match K.lookup fI with
  | some ⟨_, _, .func fd, _⟩ => (match fd.defaults, fd.kwdefaults, fd.code, fd.closure with
    | .none, .none, .ref cda, [(_, cc)] => PySem.W.codeIn K (.ref cda) fd.qualname && (cellB K cc C && fileB Pg K cda)
    | _, _, _, _ => false)
  | _ => false
def exB (Pg : Program) (K : PySem.W.Frag) (x f : Str) : Bool :=
  clsB K (ga K x) && (eqO (PySem.W.findIn K (.ref (ga K x)) "__setattr__") (some (some (.builtin "object.__setattr__"))) && (eqO (PySem.W.findIn K (.ref (ga K x)) f) (some none) && (eqO (PySem.W.findIn K (.ref (ga K x)) "__init__") (some (some (.ref (inA K x)))) &&
  (decide (PySem.W.typeIn K (.ref (inA K x)) = some (.type "function")) && (PySem.W.keepIn K (.ref (ga K x)) && (decide (PySem.W.subIn K (.ref (ga K x)) (.type "BaseException") = some true) && (decide (PySem.W.typeIn K (.ref (ga K x)) = some (.type "type")) &&
  (decide (PySem.W.subIn K (.ref (ga K x)) (.type "ValueError") = some true) && (decide (PySem.W.mroIn K (ga K x) (.ref (ga K x)) = some true) && (eqO (PySem.W.ks_superIn K (ga K x) (ga K x) "__init__") (some (some (.builtin "ValueError.__init__"))) &&
  (eqO (PySem.W.nsIn K cStatics "thirdparty.any") (some none) && (iniB Pg K (inA K x) (ga K x) && (xfB K (ga K x) && decide (PySem.W.exmOne K (.ref (ga K x)) (.ref (ga K x)) = some true))))))))))))))
/-- the text of the class's __init__ -/
def InitOk (f : Str) (st : Stmt) : Prop := ∃ (p1 p2 : Pos) (q : Nat → Pos), defArgs (inSt st) = OwnX.iA f p1 p2 ∧ defBody (inSt st) = OwnX.iB f q ∧ defScope (inSt st) = OwnX.iS f ∧ ((q 2).endLine == (q 4).line) = true
theorem exB_ok {Pg : Program} {K : PySem.W.Frag} {h : Heap} {mg : Str → Option Value} {x f : Str} {st : Stmt} (X : K.In h) (G : h.Ns mainGlobals mg) (gx : mg x = some (.ref (ga K x))) (hx : (x == ("__debug__" : Str)) = false) (hs : mg "super" = none) (ht : (Pg.main.scope.names.lookup ("super" : Str)).isSome = false)
    (hi : InitOk f st) (hw : exW K x = exV x st) (hb : exB Pg K x f = true) : OwnX.ExTxt K mg Pg (ga K x) (inA K x) x f ∧ XfC K (ga K x) ∧ PySem.W.exmOne K (.ref (ga K x)) (.ref (ga K x)) = some true := by
  unfold exB at hb
  simp only [Bool.and_eq_true, decide_eq_true_eq] at hb
  obtain ⟨b1, b2, b3, b4, b5, b6, b7, b8, b9, b10, b11, b12, b13, b14, b15⟩ := hb
  obtain ⟨p1, p2, q, i1, i2, i3, i4⟩ := hi
  refine ⟨⟨gx, hx, clsB_ok b1, eqO_ok b2, eqO_ok b3, eqO_ok b4, b5, b6, b7, b8, b9, b10, hs, eqO_ok b11, eqO_ok b12, ht, ?_⟩, xfB_ok b14, b15⟩
  unfold exW exV at hw
  unfold iniB at b13
  split at hw
  · rename_i oc od fd osl lk
    rw [lk] at b13
    dsimp only at b13
    split at b13
    · rename_i cda nmc cc e1 e2 e3 e4
      simp only [Bool.and_eq_true] at b13
      obtain ⟨c1, c2, c3⟩ := b13
      obtain ⟨n1, n2, n3, n4, n5, n6, n7, n8, n9, n10, n11, n12, n13, n14, n15⟩ := fd
      dsimp only at e1 e2 e3 e4 c1
      subst e1 e2 e3 e4
      simp only [Option.some.injEq, Prod.mk.injEq] at hw
      obtain ⟨h1, h2, h3, h4, h5, h6, h7, h8⟩ := hw
      have h7' : nmc = "__class__" := by simpa using h7
      subst h1 h2 h3 h4 h5 h6 h7' h8
      rw [i1, i2, i3] at lk
      exact ⟨oc, od, _, _, _, cda, _, cc, osl, _, p1, p2, q, lk, c1, cellB_ok c2, by
        obtain ⟨ccl, cdd, vs, ccs, file, tf, z1, z2, z3⟩ := fileB_ok c3
        exact ⟨ccl, cdd, vs, ccs, file, tf, z1, z2, z3, i4⟩⟩
    · cases b13
  · cases hw
/-! ### constants -/
def dvOf : D → Option Dv
  | .non => some .non
  | .bl b => some (.bl b)
  | .int i => some (.int i)
  | .str s => some (.str s)
  | _ => none
def dvsOf : List D → Option (List Dv)
  | [] => some []
  | d :: ds => match dvOf d, dvsOf ds with
    | some v, some vs => some (v :: vs)
    | _, _ => none
theorem dvOf_ok {K : PySem.W.Frag} {ρ : List Addr} {H : Hp} {d : D} {v : Dv} (h : dvOf d = some v) : RD K ρ H d (v.v K) := by
  cases d <;> first | (cases h) | skip
  · exact .non
  · exact .bl _
  · exact .int _
  · exact .str _
theorem dvsOf_ok {K : PySem.W.Frag} {ρ : List Addr} {H : Hp} : ∀ {ds : List D} {vs : List Dv}, dvsOf ds = some vs → RDs K ρ H ds (vs.map (Dv.v K))
  | [], _, h => by cases h; exact .nil
  | d :: ds, _, h => by
    unfold dvsOf at h
    split at h
    · rename_i v vs h1 h2
      cases h
      exact .cons (dvOf_ok h1) (dvsOf_ok h2)
    · cases h
def cstB (K : PySem.W.Frag) (x : Str) : D → Bool
  | .int i => (Fa.int x i).ok K
  | .str z => (Fa.str x z).ok K
  | .tup ds => (Fa.glo x).ok K && (match dvsOf ds with
    | some vs => tupB K x vs
    | none => false)
  | _ => false
theorem cstB_ok {K : PySem.W.Frag} {h : Heap} {mg : Str → Option Value} {x : Str} {d : D} (X : K.In h) (G : h.Ns mainGlobals mg) (hb : cstB K x d = true) : ∃ v u, mg x = some u ∧ RelV v u ∧ ∀ ρ H, RD K ρ H d v := by
  cases d with
  | int i =>
    obtain ⟨t, e⟩ := int_ok X G hb
    exact ⟨.int i, _, e, ⟨t, rfl⟩, fun _ _ => .int i⟩
  | str z =>
    obtain ⟨t, e⟩ := str_ok X G hb
    exact ⟨.str z, _, e, ⟨t, rfl⟩, fun _ _ => .str z⟩
  | tup ds =>
    have hb : ((Fa.glo x).ok K && (match dvsOf ds with
      | some vs => tupB K x vs
      | none => false)) = true := hb
    rw [Bool.and_eq_true] at hb
    obtain ⟨h1, h2⟩ := hb
    split at h2
    · rename_i vs e
      exact ⟨.ref (ga K x), _, glo_ok X G h1, rfl, fun ρ H => .tup (tupB_ok h2 H) (dvsOf_ok e)⟩
    · cases h2
  | _ => cases hb
end Ev
set_option Elab.async false
set_option linter.all false
set_option maxRecDepth 100000
set_option maxHeartbeats 8000000
/-! EvZa: the Hook; the law's end. -/
namespace Ev
open PySem PySem.Spec PyProof.Rows L2 He
/-! ### the Hook -/
def asY (g : Addr → Option Obj) (n : Nat) : List Addr := cStatics :: asD g n
def KY (g : Addr → Option Obj) (n : Nat) : PySem.W.Frag := frT g (asY g n)
structure SaysY (fa : List Fa) (fn : List DefD) (tf : List Defn) (ex : PySem.W.Frag → Bool) (xl : List (Str × ExV)) (h : Heap) (K : PySem.W.Frag) : Prop where
  d : SaysD fa fn K
  more : ex K = true
  ini : xl.map (fun x => exW K x.1) = xl.map (·.2)
  hd : ∀ p ∈ tf, PySem.W.codeHdIn K (cT K p).1 (cT K p).2 = true
  out : ∀ p ∈ tf, K.lookup (cT K p).2 = none
  empty : ∀ p ∈ tf, h.get? (cT K p).2 = some { cls := .none, data := .fields #[] }
abbrev AlY : Type := AlD × Bool × List ExV
def obsK (fa : List Fa) (fn : List DefD) (tf : List Defn) (ex : PySem.W.Frag → Bool) (xl : List (Str × ExV)) (g : Addr → Option Obj) (K : PySem.W.Frag) : AlY := (obsD fa fn K, ex K && tabsB g tf K, xl.map fun x => exW K x.1)
def obsY (n : Nat) (fa : List Fa) (fn : List DefD) (tf : List Defn) (ex : PySem.W.Frag → Bool) (xl : List (Str × ExV)) (g : Addr → Option Obj) : AlY := obsK fa fn tf ex xl g (KY g n)
def valY (fn : List DefD) (xl : List (Str × ExV)) : AlY := (valD fn, true, xl.map (·.2))
theorem saysY_of {n : Nat} {fa : List Fa} {fn : List DefD} {tf : List Defn} {ex : PySem.W.Frag → Bool} {xl : List (Str × ExV)} {h : Heap} (e : obsY n fa fn tf ex xl h.get? = valY fn xl) : SaysY fa fn tf ex xl h (KY h.get? n) := by
  have e1 : obsD fa fn (KY h.get? n) = valD fn := congrArg (fun z : AlY => z.1) e
  have e2 : (ex (KY h.get? n) && tabsB h.get? tf (KY h.get? n)) = true := congrArg (fun z : AlY => z.2.1) e
  have e3 : xl.map (fun x => exW (KY h.get? n) x.1) = xl.map (·.2) := congrArg (fun z : AlY => z.2.2) e
  obtain ⟨h1, h2⟩ := ba e2
  have key : ∀ p ∈ tf, PySem.W.codeHdIn (KY h.get? n) (cT (KY h.get? n) p).1 (cT (KY h.get? n) p).2 = true ∧ ∃ o, h.get? (cT (KY h.get? n) p).2 = some o ∧ emptyTab o = true := fun p hp => by
    obtain ⟨h3, h4⟩ := ba (List.all_eq_true.mp h2 p hp)
    refine ⟨h3, ?_⟩
    cases q : h.get? (cT (KY h.get? n) p).2 with
    | none =>
      rw [q] at h4
      cases h4
    | some o =>
      rw [q] at h4
      exact ⟨o, rfl, h4⟩
  refine ⟨e1, h1, e3, fun p hp => (key p hp).1, fun p hp => ?_, fun p hp => ?_⟩
  · obtain ⟨_, o, q, z⟩ := key p hp
    exact frT_none q z
  · obtain ⟨_, o, q, z⟩ := key p hp
    rw [q, emptyTab_eq z]
def hookY (n : Nat) (fa : List Fa) (fn : List DefD) (tf : List Defn) (ex : PySem.W.Frag → Bool) (xl : List (Str × ExV)) : PySem.W.Hook where
  α := AlY
  obs := fun s => obsY n fa fn tf ex xl s.heap.get?
  val := fun _ => valY fn xl
  says := fun _ h => ∃ K : PySem.W.Frag, K.In h ∧ SaysY fa fn tf ex xl h K
  of := fun _ _ e => ⟨_, frT_in, saysY_of e⟩
  keeps := fun _ _ _ ⟨K, hK, c⟩ k => ⟨K, PySem.W.Frag.In.keeps hK k, ⟨c.d, c.more, c.ini, c.hd, c.out, fun p hp => k _ _ (c.empty p hp)⟩⟩
theorem obsY_eq {n : Nat} {fa : List Fa} {fn : List DefD} {tf : List Defn} {ex : PySem.W.Frag → Bool} {xl : List (Str × ExV)} {g : Addr → Option Obj} {s : Shared} (h : ∀ a, g a = s.heap.get? a) : obsY n fa fn tf ex xl g = (hookY n fa fn tf ex xl).obs s := by
  have e : g = s.heap.get? := funext h
  rw [e] <;> rfl
/-! ### what a law's text gives -/
/-- a def that is handed a call -/
structure TkS where
  nm : Str
  st : Stmt
  a : Str
  e : Str
structure LawIn where
  T : Tbl
  P : Pr
  flds : List Str
  xst : List Stmt
  tks : List TkS
def BindOk (nm : Str) (st : Stmt) (ps : List Str) : Prop := ∀ (kV doc pm : Value) (an : Option Addr) (cdv ct : Value) (us : List Value), us.length = ps.length → bindArgs (PySem.W.fnOf nm nm (defArgs st) (defBody st) (defScope st) .none kV doc pm an cdv ct) ⟨us, []⟩ = pure (ps.zip us)
def KwB (f : FnS) (ks : List Str) (p : List Nat) : Prop := ∀ (kV doc pm : Value) (an : Option Addr) (cdv ct : Value) (s : Shared) (ws ws' : List Value), ws.length = p.length → permL p ws = some ws' →
  BindsTo s (PySem.W.fnOf f.nm f.nm (defArgs f.st) (defBody f.st) (defScope f.st) .none kV doc pm an cdv ct) ⟨ws.take (p.length - ks.length), ks.zip (ws.drop (p.length - ks.length))⟩ (f.ps.zip ws')
/-- the two forms -/
def TkB (k : TkS) (E fld : Str) (pre : Option Str) : Prop := match pre with
  | none => ∃ (j : Nat) (p1 p2 p3 p4 p5 p6 p7 p8 p9 p10 p11 : Pos), defBody k.st = [.Try [.Expr (.Call (.Name k.a p1) [] [] p2) p3] [.ExceptHandler (some (.Name E p4)) (some k.e) [.Return (some (.Attribute (.Name k.e p5) fld p6)) p7] p8] [] [] p9, .Return (some (.Constant (.str Str.empty) j p10)) p11]
  | some pre => ∃ (j : Nat) (p1 p2 p3 p4 p5 p6 p7 p8 p9 p10 p11 : Pos), defBody k.st = [.Try [.Return (some (.Call (.Name k.a p1) [] [] p2)) p3] [.ExceptHandler (some (.Name E p4)) (some k.e) [.Return (some (.BinOp (.Constant (.str pre) j p10) .Add (.Attribute (.Name k.e p5) fld p6) p11)) p7] p8] [] [] p9]
def tkSc (k : TkS) (E : Str) : Bool := scB [k.a, k.e] [k.a] (defScope k.st) && (decide ((defScope k.st).names.lookup E = some .globalImplicit) && (decide ((defScope k.st).names.lookup k.e = some .local) && (decide ((defScope k.st).names.lookup k.a = some .local) && (!isDb k.nm && (!isDb k.a && (!isCd k.a && (!isDb k.e && !isCd k.e)))))))
namespace LawIn
variable (I : LawIn)
def lams : List FnS := I.T.fs.filter (·.lam)
def tf : List Defn := I.lams.map fun f => (f.nm, none)
def c (K : PySem.W.Frag) : SX := { K := K, T := I.lams.map fun f => ((cT K (f.nm, none)).2, lamQ f), cls := fun k => ga K (I.T.ex.getD k Str.empty), fld := fun k => I.flds.getD k Str.empty }
def fnd (nm : Str) (st : Stmt) : DefD := ⟨(nm, none), nm, nm, defArgs st, defBody st, defScope st, [], []⟩
def fn : List DefD := I.T.fs.map (fun f => fnd f.nm f.st) ++ I.tks.map fun k => fnd k.nm k.st
def fa : List Fa := I.T.fs.map (fun f => .glo f.nm) ++ (I.tks.map (fun k => .glo k.nm) ++ (I.T.ex.map .glo ++ (("super" : Str) :: bnames).map .free))
def xl : List (Str × ExV) := (I.T.ex.zip I.xst).map fun p => (p.1, exV p.1 p.2)
def ex (Pg : Program) (K : PySem.W.Frag) : Bool := ((I.T.ex.zip I.flds).all fun p => exB Pg K p.1 p.2) && (((I.T.cs.zip I.P.cs).all fun p => cstB K p.1 p.2) && I.lams.all fun f => I.lams.all fun g => !decide ((cT K (f.nm, none)).2 = (cT K (g.nm, none)).2) || decide (lamQ f = lamQ g))
/-- what is seen without the heap -/
def okB (Pg : Program) : Bool := decide (I.T.fs.length = I.P.fns.length) && ((I.P.fns.zip I.T.fs).all (fun p => chkF I.T p.1 p.2) && (I.T.fs.all (fun f => !isDb f.nm) && (I.T.cs.all (fun x => !isDb x) && (decide (I.T.cs.length = I.P.cs.length) && (I.T.ex.all (fun x => !isDb x) &&
  (decide (I.flds.length = I.T.ex.length) && (decide (I.xst.length = I.T.ex.length) && (decide (I.tks.map (·.nm) = I.T.th) && (decide (I.P.th.length = I.tks.length) && ((I.tks.zip I.P.th).all (fun p => tkSc p.1 (I.T.ex.getD p.2.1 Str.empty) && decide (p.2.1 < I.T.ex.length)) &&
  !(Pg.main.scope.names.lookup ("super" : Str)).isSome))))))))))
/-- what is shown by rfl, one by one -/
structure Ok (Pg : Program) : Prop where
  b : I.okB Pg = true
  bd : ∀ f ∈ I.T.fs, BindOk f.nm f.st f.ps
  kw : ∀ (j : Nat) (ks : List Str) (p : List Nat), (j, ks, p) ∈ I.T.kws → ∀ f, I.T.fs[j]? = some f → KwB f ks p
  fl : ∀ f ∈ I.flds, OwnX.FldOk f
  ini : ∀ p ∈ I.xst.zip I.flds, InitOk p.2 p.1
  tb : ∀ k ∈ I.tks, BindOk k.nm k.st [k.a]
  tk : ∀ (i : Nat) (k : TkS) (t : Nat × Option Str), I.tks[i]? = some k → I.P.th[i]? = some t → TkB k (I.T.ex.getD t.1 Str.empty) (I.flds.getD t.1 Str.empty) t.2
end LawIn
theorem zip_at {α β : Type} {a : List α} {b : List β} {k : Nat} {x : α} {y : β} (h1 : a[k]? = some x) (h2 : b[k]? = some y) : (x, y) ∈ a.zip b := List.mem_of_getElem? (List.getElem?_zip_eq_some.mpr ⟨h1, h2⟩)
theorem getD_at {α : Type} {a : List α} {k : Nat} {x d : α} (h : a[k]? = some x) : a.getD k d = x := by rw [List.getD_eq_getElem?_getD, h]; rfl
theorem at_len {α β : Type} {a : List α} {b : List β} {k : Nat} {x : α} (h : a[k]? = some x) (e : b.length = a.length) : ∃ y, b[k]? = some y := by
  have hk : k < b.length := by rw [e]; exact (List.getElem?_eq_some_iff.mp h).1
  exact ⟨_, List.getElem?_eq_getElem hk⟩
namespace LawIn
variable {I : LawIn} {Pg : Program} {w : World} {K : PySem.W.Frag} {mg : Str → Option Value} {h : Heap}
structure Bs (I : LawIn) (Pg : Program) : Prop where
  len : I.T.fs.length = I.P.fns.length
  chk : ∀ p ∈ I.P.fns.zip I.T.fs, chkF I.T p.1 p.2 = true
  fdb : ∀ f ∈ I.T.fs, isDb f.nm = false
  cdb : ∀ x ∈ I.T.cs, isDb x = false
  clen : I.T.cs.length = I.P.cs.length
  xdb : ∀ x ∈ I.T.ex, isDb x = false
  flen : I.flds.length = I.T.ex.length
  slen : I.xst.length = I.T.ex.length
  tnm : I.tks.map (·.nm) = I.T.th
  tlen : I.P.th.length = I.tks.length
  tks : ∀ p ∈ I.tks.zip I.P.th, tkSc p.1 (I.T.ex.getD p.2.1 Str.empty) = true ∧ p.2.1 < I.T.ex.length
  sup : (Pg.main.scope.names.lookup ("super" : Str)).isSome = false
theorem bs (O : I.Ok Pg) : Bs I Pg := by
  have b := O.b
  unfold okB at b
  simp only [Bool.and_eq_true, decide_eq_true_eq, List.all_eq_true, Bool.not_eq_true'] at b
  obtain ⟨b1, b2, b3, b4, b5, b6, b7, b8, b9, b10, b11, b12⟩ := b
  exact ⟨b1, b2, b3, b4, b5, b6, b7, b8, b9, b10, b11, b12⟩
variable (O : I.Ok Pg) (X : K.In h) (G : h.Ns mainGlobals mg) (c : SaysY I.fa I.fn I.tf (I.ex Pg) I.xl h K)
include O X G c
theorem glo {f : FnS} (hf : f ∈ I.T.fs) : mg f.nm = some (.ref (ga K f.nm)) := glo_ok X G (c.d.facts (f := .glo f.nm) (by unfold fa; exact List.mem_append_left _ (List.mem_map.mpr ⟨f, hf, rfl⟩)))
theorem gloT {k : TkS} (hk : k ∈ I.tks) : mg k.nm = some (.ref (ga K k.nm)) := glo_ok X G (c.d.facts (f := .glo k.nm) (by unfold fa; exact List.mem_append_right _ (List.mem_append_left _ (List.mem_map.mpr ⟨k, hk, rfl⟩))))
theorem gloX {x : Str} (hx : x ∈ I.T.ex) : mg x = some (.ref (ga K x)) := glo_ok X G (c.d.facts (f := .glo x) (by unfold fa; exact List.mem_append_right _ (List.mem_append_right _ (List.mem_append_left _ (List.mem_map.mpr ⟨x, hx, rfl⟩)))))
theorem free {x : Str} (hx : x ∈ ("super" : Str) :: bnames) : mg x = none := free_ok X G (c.d.facts (f := .free x) (by unfold fa; exact List.mem_append_right _ (List.mem_append_right _ (List.mem_append_right _ (List.mem_map.mpr ⟨x, hx, rfl⟩)))))
theorem funD {f : FnS} (hf : f ∈ I.T.fs) : ∃ fd, FunD K f.nm f.nm (defArgs f.st) (defBody f.st) (defScope f.st) [] [] (ga K f.nm) fd := c.d.defs (d := fnd f.nm f.st) (by unfold fn; exact List.mem_append_left _ (List.mem_map.mpr ⟨f, hf, rfl⟩))
theorem funT {k : TkS} (hk : k ∈ I.tks) : ∃ fd, FunD K k.nm k.nm (defArgs k.st) (defBody k.st) (defScope k.st) [] [] (ga K k.nm) fd := c.d.defs (d := fnd k.nm k.st) (by unfold fn; exact List.mem_append_right _ (List.mem_map.mpr ⟨k, hk, rfl⟩))
theorem exs {k : Nat} {x : Str} (hx : I.T.ex[k]? = some x) : ∃ f, I.flds[k]? = some f ∧ OwnX.FldOk f ∧ OwnX.ExTxt K mg Pg (ga K x) (inA K x) x f ∧ XfC K (ga K x) ∧ PySem.W.exmOne K (.ref (ga K x)) (.ref (ga K x)) = some true := by
  have B := bs O
  obtain ⟨f, hf⟩ := at_len hx B.flen
  obtain ⟨st, hst⟩ := at_len hx B.slen
  have hm := List.mem_of_getElem? hx
  have hi := List.map_inj_left.mp c.ini (x, exV x st) (List.mem_map.mpr ⟨(x, st), zip_at hx hst, rfl⟩)
  have he := c.more
  unfold ex at he
  simp only [Bool.and_eq_true, List.all_eq_true] at he
  refine ⟨f, hf, O.fl f (List.mem_of_getElem? hf), exB_ok X G (gloX O X G c hm) (B.xdb x hm) (free O X G c List.mem_cons_self) B.sup (O.ini (st, f) (zip_at hst hf)) hi (he.1 (x, f) (zip_at hx hf))⟩
theorem env1 : Env1 Pg K mg (I.c K) I.P I.T where
  eK := rfl
  bi := fun x hx => free O X G c (List.mem_cons_of_mem _ hx)
  cs := fun k x d hx hd => by
    have he := c.more
    unfold ex at he
    simp only [Bool.and_eq_true] at he
    exact ⟨(bs O).cdb x (List.mem_of_getElem? hx), cstB_ok X G (List.all_eq_true.mp he.2.1 (x, d) (zip_at hx hd))⟩
  rs := fun k x hx Y W e1 e2 e3 hc hr tk => by
    obtain ⟨f, hf, h1, h2, _, _⟩ := exs O X G c hx
    subst e1 e2 e3
    have e : (I.c Y.K).cls k = ga Y.K x := by show ga Y.K (I.T.ex.getD k Str.empty) = _; rw [getD_at hx]
    exact raise_own (n := 0) (f := f) h1 (by rw [e]; exact h2) (getD_at hf) hc hr tk
  th := fun k x hx => by
    have B := bs O
    rw [← B.tnm, List.getElem?_map] at hx
    cases q : I.tks[k]? with
    | none => rw [q] at hx; cases hx
    | some t =>
      rw [q] at hx
      obtain rfl : t.nm = x := Option.some.inj hx
      have hm := List.mem_of_getElem? q
      obtain ⟨th, hth⟩ := at_len q B.tlen
      obtain ⟨s1, s2⟩ := B.tks (t, th) (zip_at q hth)
      unfold tkSc at s1
      simp only [Bool.and_eq_true, decide_eq_true_eq, Bool.not_eq_true'] at s1
      obtain ⟨a1, a2, a3, a4, a5, a6, a7, a8, a9⟩ := s1
      obtain ⟨x, hx⟩ : ∃ x, I.T.ex[th.1]? = some x := ⟨_, List.getElem?_eq_getElem s2⟩
      obtain ⟨f, hf, h1, h2, h3, h4⟩ := exs O X G c hx
      have e : (I.c K).cls th.1 = ga K x := by show ga K (I.T.ex.getD th.1 Str.empty) = _; rw [getD_at hx]
      have ef : (I.c K).fld th.1 = f := getD_at hf
      have S := scB_ok a1
      refine ⟨fun t' ht' => ?_, ?_⟩
      · rw [hth] at ht'
        cases ht'
        rw [e]
        exact h4
      · obtain ⟨fd, F⟩ := funT O X G c hm
        have b := F.bindsN (O.tb t hm)
        obtain ⟨oc, od, dV, kV, doc, pm, an, cdv, ct, osl, rfl, lk, hcd, _, _⟩ := F.ex
        refine ⟨t.a, ga K t.nm, _, _, _, dV, kV, doc, pm, cdv, ct, oc, an, od, osl, [t.a, t.e], gloT O X G c hm, F.kp, lk, hcd, b, S, rfl, .inl a4, a5, a6, a7, fun t' ht' Y q' e1 e2 => ?_⟩
        rw [hth] at ht'
        cases ht'
        have hb := O.tk k t th q hth
        rw [getD_at hx, getD_at hf] at hb
        rw [getD_at hx] at a2
        obtain ⟨ci, pre⟩ := th
        have gX : Y.mg x = some (.ref ((I.c K).cls ci)) := by rw [e2, e]; exact gloX O X G c (List.mem_of_getElem? hx)
        have hX : XfC Y.K ((I.c K).cls ci) := by rw [e1, e]; exact h3
        have hN : PySem.W.findIn Y.K (.ref ((I.c K).cls ci)) f = some none := by rw [e1, e]; exact h2.noN
        cases pre with
        | none =>
          obtain ⟨j, p1, p2, p3, p4, p5, p6, p7, p8, p9, p10, p11, hbd⟩ := hb
          rw [hbd]
          exact refused_gives e1.symm S.nd a2 a3 gX (B.xdb x (List.mem_of_getElem? hx)) ef hX hN a8 a9
        | some pre =>
          obtain ⟨j, p1, p2, p3, p4, p5, p6, p7, p8, p9, p10, p11, hbd⟩ := hb
          rw [hbd]
          exact asked_gives e1.symm S.nd a2 a3 gX (B.xdb x (List.mem_of_getElem? hx)) ef hX hN a8 a9
theorem defF {base : Heap} (hT : ∀ p ∈ I.tf, LamX.TabB base mg (cT K p).1 (cT K p).2) (j : Nat) (f : FnS) (hj : I.T.fs[j]? = some f) : DefF K mg base (I.c K) I.T j f := by
  have B := bs O
  have hm := List.mem_of_getElem? hj
  obtain ⟨fd, F⟩ := funD O X G c hm
  refine ⟨⟨ga K f.nm, fd, F, glo O X G c hm, F.bindsN (O.bd f hm), B.fdb f hm, fun ks p hk => ?_, fun hl => ?_⟩⟩
  · obtain ⟨oc, od, dV, kV, doc, pm, an, cdv, ct, osl, rfl, lk, hcd, hD, _⟩ := F.ex
    rcases hD with ⟨_, rfl⟩ | ⟨e, _⟩
    · exact fun s ws ws' _ hl hp => O.kw j ks p hk f hj kV doc pm an cdv ct s ws ws' hl hp
    · exact absurd rfl e
  · have hml : f ∈ I.lams := List.mem_filter.mpr ⟨hm, hl⟩
    have hmt : ((f.nm, none) : Defn) ∈ I.tf := List.mem_map.mpr ⟨f, hml, rfl⟩
    obtain ⟨oc, od, dV, kV, doc, pm, an, cdv, ct, osl, e, lk, hcd, _, _⟩ := F.ex
    obtain ⟨cd, ec⟩ := codeIn_ref hcd
    have ecd : fd.code = .ref cd := by rw [e]; exact ec
    have e1 : (cT K (f.nm, none)).1 = cd := codeOf_eq (p := (f.nm, none)) lk ecd
    have tb := hT _ hmt
    rw [e1] at tb
    refine ⟨cd, (cT K (f.nm, none)).2, ecd, tb, List.mem_map.mpr ⟨f, hml, rfl⟩, fun p hp hq => ?_⟩
    obtain ⟨g, hg, rfl⟩ := List.mem_map.mp hp
    have he := c.more
    unfold ex at he
    simp only [Bool.and_eq_true] at he
    have z := List.all_eq_true.mp (List.all_eq_true.mp he.2.2 g hg) f hml
    simp only [Bool.or_eq_true, Bool.not_eq_true', decide_eq_false_iff_not, decide_eq_true_eq] at z
    exact z.elim (fun n => absurd hq n) id
/-- THE END: what the law's text gives where the evaluator answers True -/
theorem law_at {l : PySem.W.OpenLaw} (hl : l.prog = Pg) {n N j : Nat} {f : FnS} {x : Str} (hj : I.T.fs[j]? = some f) (hps : f.ps = [x]) {fa : Addr} (hfa : mg f.nm = some (.ref fa))
    (hlaw : ∀ ns : List Int, ns.length ≤ n → (∀ z ∈ ns, Builtin.Int.intBits z ≤ 1048576) → ∃ G, callO I.P (N + 1) j 0 [.fl (ns.map D.int)] [] = .ok (.bl true) G) : LamX.LawAtS l w K (L2.CX Pg w) (3 * (N + 1) + 2) n x mg fa h := by
  subst hl
  have hm := List.mem_of_getElem? hj
  have hx := glo O X G c hm
  rw [hfa] at hx
  cases hx
  obtain ⟨fd, F⟩ := funD O X G c hm
  have hF : ∀ (j : Nat) (f : FnS), I.T.fs[j]? = some f → ∃ fn, I.P.fns[j]? = some fn ∧ chkF I.T fn f = true := fun j f hj => by
    obtain ⟨fn, hn⟩ := at_len hj (bs O).len.symm
    exact ⟨fn, hn, (bs O).chk (fn, f) (zip_at hn hj)⟩
  refine ⟨fd, I.tf.map (cT K), spLaw (I.c K) (callO I.P (N + 1)) j, fun p hp => ?_, fun p hp => ?_, fun p hp => ?_, fun s u => ?_, fun H a ns h1 h2 h3 h4 => ⟨a, ns, rfl, fun p hp => ?_, h4, fun _ => rfl, hlaw ns h1 h2⟩, fun base hb hg hT => ?_⟩
  · obtain ⟨q, hq, rfl⟩ := List.mem_map.mp hp
    exact c.empty q hq
  · obtain ⟨q, hq, rfl⟩ := List.mem_map.mp hp
    exact c.out q hq
  · obtain ⟨q, hq, rfl⟩ := List.mem_map.mp hp
    exact PySem.W.codeHd_of_K X (c.hd q hq)
  · have b := F.bindsA (ps := f.ps) (O.bd f hm) s [u] (by rw [hps]; rfl)
    rw [hps] at b
    exact b
  · obtain ⟨g, hg, rfl⟩ := List.mem_map.mp hp
    exact h3 (cT K (g.nm, none)) (List.mem_map.mpr ⟨(g.nm, none), List.mem_map.mpr ⟨g, hg, rfl⟩, rfl⟩)
  · have M := env1 O X G c
    have D := defF (base := base) O X G c fun p hp => hT _ (List.mem_map.mpr ⟨p, hp, rfl⟩)
    obtain ⟨fn, h1, h2⟩ := hF j f hj
    obtain ⟨fa', fd', F', e1, e2, e3, e4, e5⟩ := (D j f hj).ok
    rw [hfa] at e1
    cases e1
    have ed : fd' = fd := by
      obtain ⟨_, _, _, _, _, _, _, _, _, _, _, l1, _⟩ := F.ex
      obtain ⟨_, _, _, _, _, _, _, _, _, _, _, l2, _⟩ := F'.ex
      rw [l1] at l2
      cases l2
      rfl
    subst ed
    have z := fn_step (w := w) M h1 h2 F' (calls_all M hF D N) e5
    rw [hps] at z
    exact fn_law rfl z
end LawIn
end Ev
set_option Elab.async false
set_option linter.all false
/-! EvZb: one by one. -/
namespace Ev
inductive AllM {α : Type} (p : α → Prop) : List α → Prop
  | nil : AllM p []
  | cons {a : α} {l : List α} : p a → AllM p l → AllM p (a :: l)
theorem all_mem {α : Type} {p : α → Prop} {l : List α} (h : AllM p l) : ∀ a ∈ l, p a := by
  induction h with
  | nil => intro a m; cases m
  | cons h _ ih =>
    intro a m
    rcases List.mem_cons.mp m with rfl | m
    · exact h
    · exact ih a m
end Ev
set_option Elab.async false
set_option linter.all false
set_option maxRecDepth 100000
set_option maxHeartbeats 4000000
/-! EvZc: the evaluator's code, walked by simp: what is wanted behind it. -/
namespace Ev
open PySem
/-- what is wanted of a result: Q of a value, E of an exception -/
def okR {α : Type} (r : R α) (Q : α → GH → Prop) (E : Nat → D → GH → Prop) : Prop := match r with
  | .ok a S => Q a S
  | .exc c d S => E c d S
  | .bad => False
structure Kt where
  n : Sg → GH → Prop
  t : D → GH → Prop
  b : Sg → GH → Prop
  c : Sg → GH → Prop
  x : Nat → D → GH → Prop
def okS (r : RS) (k : Kt) : Prop := match r with
  | .nxt σ S => k.n σ S
  | .ret d S => k.t d S
  | .brk σ S => k.b σ S
  | .cnt σ S => k.c σ S
  | .exc c d S => k.x c d S
  | .bad => False
def no2 {α β : Type} : α → β → Prop := fun _ _ => False
def no3 {α β γ : Type} : α → β → γ → Prop := fun _ _ _ => False
variable {P : Pr} {C : Cl} {b : Nat} {σ : Sg} {S S' : GH}
section
variable {α β : Type} {Q : α → GH → Prop} {E : Nat → D → GH → Prop}
@[simp] theorem okR_ok (a : α) : okR (.ok a S) Q E ↔ Q a S := Iff.rfl
@[simp] theorem okR_exc (c : Nat) (d : D) : okR (.exc c d S : R α) Q E ↔ E c d S := Iff.rfl
@[simp] theorem okR_bad : okR (.bad : R α) Q E ↔ False := Iff.rfl
@[simp] theorem okR_bind (r : R β) (f : β → GH → R α) : okR (r.bind f) Q E ↔ okR r (fun a S => okR (f a S) Q E) E := by cases r <;> exact Iff.rfl
theorem okR_mono {r : R α} {Q' : α → GH → Prop} {E' : Nat → D → GH → Prop} (h : okR r Q E) (k : ∀ a S, Q a S → Q' a S) (k' : ∀ c d S, E c d S → E' c d S) : okR r Q' E' := by
  cases r with
  | ok a S => exact k a S h
  | exc c d S => exact k' c d S h
  | bad => exact h
theorem eq_ok {r : R α} {v : α} (h : okR r (fun a T => a = v ∧ T = S) no3) : r = .ok v S := by
  cases r with
  | ok a T => obtain ⟨rfl, rfl⟩ := h; rfl
  | exc c d T => exact h.elim
  | bad => exact h.elim
theorem eq_exc {r : R α} {c : Nat} {v : D} (h : okR r no2 (fun c' a T => c' = c ∧ a = v ∧ T = S)) : r = .exc c v S := by
  cases r with
  | ok a T => exact h.elim
  | exc c d T => obtain ⟨rfl, rfl, rfl⟩ := h; rfl
  | bad => exact h.elim
def brR {α : Type} (o : Option Bool) (x y : R α) : R α := match o with
  | some true => x
  | some false => y
  | none => .bad
@[simp] theorem okR_br (t : Bool) (x y : R α) : okR (brR (some t) x y) Q E ↔ (t = true → okR x Q E) ∧ (t = false → okR y Q E) := by cases t <;> simp [brR]
@[simp] theorem brR_t (x y : R α) : brR (some true) x y = x := rfl
@[simp] theorem brR_f (x y : R α) : brR (some false) x y = y := rfl
end
variable {Q : D → GH → Prop} {E : Nat → D → GH → Prop} {k : Kt}
@[simp] theorem okR_if {α : Type} {c : Prop} [Decidable c] {x y : R α} {Q : α → GH → Prop} : okR (if c then x else y) Q E ↔ (c → okR x Q E) ∧ (¬ c → okR y Q E) := by
  by_cases h : c <;> simp [h]
/-! ### expressions -/
@[simp] theorem ev_var (i : Nat) : ev P C (.var i) b σ S = match σ[i]? with | some (some d) => .ok d S | _ => .bad := by unfold ev; rfl
@[simp] theorem ev_cint (i : Int) : ev P C (.cint i) b σ S = .ok (.int i) S := by unfold ev; rfl
@[simp] theorem ev_cstr (x : Str) : ev P C (.cstr x) b σ S = .ok (.str x) S := by unfold ev; rfl
@[simp] theorem ev_cbl (t : Bool) : ev P C (.cbl t) b σ S = .ok (.bl t) S := by unfold ev; rfl
@[simp] theorem ev_cnon : ev P C .cnon b σ S = .ok .non S := by unfold ev; rfl
@[simp] theorem ev_glob (i : Nat) : ev P C (.glob i) b σ S = match P.cs[i]? with | some d => .ok d S | none => .bad := by (conv => lhs; unfold ev) <;> rfl
@[simp] theorem ev_bin (op : BOp) (a c : X) : ev P C (.bin op a c) b σ S = (ev P C a b σ S).bind fun d S1 => (ev P C c b σ S1).bind fun e S2 => opBin op d e S2 := by (conv => lhs; unfold ev) <;> rfl
def negR (d : D) (S : GH) : R D := match d with
  | .int i => .ok (.int (-i)) S
  | _ => .bad
@[simp] theorem negR_int (i : Int) : negR (.int i) S = .ok (.int (-i)) S := rfl
@[simp] theorem ev_neg (a : X) : ev P C (.neg a) b σ S = (ev P C a b σ S).bind negR := by (conv => lhs; unfold ev) <;> rfl
def notR (d : D) (S : GH) : R D := match d with
  | .bl k => .ok (.bl (!k)) S
  | _ => .bad
@[simp] theorem notR_bl (t : Bool) : notR (.bl t) S = .ok (.bl (!t)) S := rfl
@[simp] theorem ev_not (a : X) : ev P C (.not a) b σ S = (ev P C a b σ S).bind notR := by (conv => lhs; unfold ev) <;> rfl
def blD : D → Option Bool
  | .bl t => some t
  | _ => none
@[simp] theorem blD_bl (t : Bool) : blD (.bl t) = some t := rfl
@[simp] theorem ev_and (a c : X) : ev P C (.and a c) b σ S = (ev P C a b σ S).bind fun d S1 => brR (blD d) (ev P C c b σ S1) (.ok (.bl false) S1) := by
  conv => lhs; unfold ev
  congr; funext d S1; cases d with
  | bl t => cases t <;> rfl
  | _ => rfl
@[simp] theorem ev_or (a c : X) : ev P C (.or a c) b σ S = (ev P C a b σ S).bind fun d S1 => brR (blD d) (.ok (.bl true) S1) (ev P C c b σ S1) := by
  conv => lhs; unfold ev
  congr; funext d S1; cases d with
  | bl t => cases t <;> rfl
  | _ => rfl
@[simp] theorem ev_cmp (op : COp) (a c : X) : ev P C (.cmp op a c) b σ S = (ev P C a b σ S).bind fun d S1 => (ev P C c b σ S1).bind fun e S2 => opCmp op d e S2 := by (conv => lhs; unfold ev) <;> rfl
@[simp] theorem ev_chain (op op' : COp) (a c e : X) : ev P C (.chain op op' a c e) b σ S = (ev P C a b σ S).bind fun d S1 => (ev P C c b σ S1).bind fun d' S2 => (opCmp op d d' S2).bind fun k S3 => brR (blD k) ((ev P C e b σ S3).bind fun d'' S4 => opCmp op' d' d'' S4) (.ok (.bl false) S3) := by
  conv => lhs; unfold ev
  congr; funext d S1; congr; funext d' S2; congr; funext k S3; cases k with
  | bl t => cases t <;> rfl
  | _ => rfl
@[simp] theorem ev_ite (t a c : X) : ev P C (.ite t a c) b σ S = (ev P C t b σ S).bind fun d S1 => brR (truth d S1) (ev P C a b σ S1) (ev P C c b σ S1) := by
  conv => lhs; unfold ev
  congr <;> (funext d S1; cases truth d S1 with
  | none => rfl
  | some t => cases t <;> rfl)
@[simp] theorem ev_tup (as : X) : ev P C (.tup as) b σ S = ev P C as b σ S := by (conv => lhs; unfold ev) <;> rfl
@[simp] theorem ev_lst (as : X) : ev P C (.lst as) b σ S = asTup (ev P C as b σ S) fun ds S1 => .ok (.tl ds) S1 := by (conv => lhs; unfold ev) <;> rfl
@[simp] theorem ev_nil : ev P C .nil b σ S = .ok (.tup []) S := by unfold ev; rfl
@[simp] theorem ev_cons (a as : X) : ev P C (.cons a as) b σ S = (ev P C a b σ S).bind fun d S1 => (fix d S1).bind fun d' S2 => asTup (ev P C as b σ S2) fun ds S3 => .ok (.tup (d' :: ds)) S3 := by (conv => lhs; unfold ev) <;> rfl
@[simp] theorem asTup_tup (ds : List D) (f : List D → GH → R D) : asTup (.ok (.tup ds) S) f = f ds S := rfl
theorem asTup_eq (r : R D) (f : List D → GH → R D) : asTup r f = r.bind fun d S => match d with | .tup ds => f ds S | _ => .bad := rfl
def tupR (f : List D → GH → R D) (d : D) (S : GH) : R D := match d with
  | .tup ds => f ds S
  | _ => .bad
@[simp] theorem tupR_tup (f : List D → GH → R D) (ds : List D) : tupR f (.tup ds) S = f ds S := rfl
@[simp] theorem okR_asTup (r : R D) (f : List D → GH → R D) : okR (asTup r f) Q E ↔ okR r (fun d S => okR (tupR f d S) Q E) E := okR_bind r (tupR f)
@[simp] theorem fix_non : fix .non S = .ok .non S := rfl
@[simp] theorem fix_bl (t : Bool) : fix (.bl t) S = .ok (.bl t) S := rfl
@[simp] theorem fix_int (i : Int) : fix (.int i) S = .ok (.int i) S := rfl
@[simp] theorem fix_str (x : Str) : fix (.str x) S = .ok (.str x) S := rfl
@[simp] theorem fix_tup (x : List D) : fix (.tup x) S = .ok (.tup x) S := rfl
@[simp] theorem fix_fl (x : List D) : fix (.fl x) S = .ok (.fl x) S := rfl
@[simp] theorem fix_ref (n : Nat) : fix (.ref n) S = .ok (.ref n) S := rfl
@[simp] theorem fix_tl (x : List D) : fix (.tl x) S = .ok (.ref S.length) (S ++ [.lst x]) := rfl
@[simp] theorem ev_idx (a c : X) : ev P C (.idx a c) b σ S = (ev P C a b σ S).bind fun d S1 => (ev P C c b σ S1).bind fun e S2 => opIdx d e S2 := by (conv => lhs; unfold ev) <;> rfl
@[simp] theorem ev_rev (a : X) : ev P C (.rev a) b σ S = (ev P C a b σ S).bind fun d S1 => opRev d S1 := by (conv => lhs; unfold ev) <;> rfl
@[simp] theorem ev_call (j : Nat) (as : X) (h : P.keepOf j = false) : ev P C (.call j as) b σ S = drop S.length (asTup (ev P C as S.length σ S) fun ds S1 => C j S.length ds S1) := by (conv => lhs; unfold ev); rw [h]; rfl
theorem ev_callk (j : Nat) (p : List Nat) (as : X) : ev P C (.callk j p as) b σ S = drop S.length (asTup (ev P C as S.length σ S) fun ds S1 => match permD p ds with | some ds' => C j S.length ds' S1 | none => .bad) := by (conv => lhs; unfold ev) <;> rfl
@[simp] theorem ev_b1 (f : B1) (a : X) : ev P C (.b1 f a) b σ S = (ev P C a b σ S).bind fun d S1 => opB1 f d S1 := by (conv => lhs; unfold ev) <;> rfl
def mxR (d e : D) (S : GH) : R D := match d, e with
  | .int i, .int j => .ok (.int (max i j)) S
  | _, _ => .bad
def mnR (d e : D) (S : GH) : R D := match d, e with
  | .int i, .int j => .ok (.int (min i j)) S
  | _, _ => .bad
@[simp] theorem mxR_int (i j : Int) : mxR (.int i) (.int j) S = .ok (.int (max i j)) S := rfl
@[simp] theorem mnR_int (i j : Int) : mnR (.int i) (.int j) S = .ok (.int (min i j)) S := rfl
@[simp] theorem ev_mx (a c : X) : ev P C (.mx a c) b σ S = (ev P C a b σ S).bind fun d S1 => (ev P C c b σ S1).bind fun e S2 => mxR d e S2 := by (conv => lhs; unfold ev) <;> rfl
@[simp] theorem ev_mn (a c : X) : ev P C (.mn a c) b σ S = (ev P C a b σ S).bind fun d S1 => (ev P C c b σ S1).bind fun e S2 => mnR d e S2 := by (conv => lhs; unfold ev) <;> rfl
def optR (o : Option Bool) (S : GH) : R D := match o with
  | some k => .ok (.bl k) S
  | none => .bad
@[simp] theorem optR_some (t : Bool) : optR (some t) S = .ok (.bl t) S := rfl
@[simp] theorem ev_isi (t : Ty) (a : X) : ev P C (.isi t a) b σ S = (ev P C a b σ S).bind fun d S1 => optR (isTy t d) S1 := by (conv => lhs; unfold ev) <;> rfl
@[simp] theorem ev_thunk (n : Nat) (e : X) : ev P C (.thunk n e) b σ S = thunkR (P.th[n]?) (drop S.length (ev P C e S.length σ S)) := by (conv => lhs; unfold ev) <;> rfl
def slcR (d : D) (i : Option (Option Int)) (f : Option Int → R D) : R D := match i with
  | some i => f i
  | none => .bad
@[simp] theorem slcR_some (d : D) (i : Option Int) (f : Option Int → R D) : slcR d (some i) f = f i := rfl
@[simp] theorem ev_slc (a lo hi : X) : ev P C (.slc a lo hi) b σ S = (ev P C a b σ S).bind fun d S1 => (ev P C lo b σ S1).bind fun l S2 => slcR d (partX lo l) fun i => (ev P C hi b σ S2).bind fun h S3 => slcR d (partX hi h) fun j => opSl d i j S3 := by
  (conv => lhs; unfold ev) <;> rfl
@[simp] theorem partX_cnon (d : D) : partX .cnon d = some none := rfl
theorem partX_int {x : X} (i : Int) (h : isCnon x = false) : partX x (.int i) = some (some i) := by unfold partX; rw [h]; rfl
@[simp] theorem partX_cint (x : Int) (i : Int) : partX (.cint x) (.int i) = some (some i) := rfl
@[simp] theorem partX_var (x : Nat) (i : Int) : partX (.var x) (.int i) = some (some i) := rfl
@[simp] theorem partX_bin (op : BOp) (x y : X) (i : Int) : partX (.bin op x y) (.int i) = some (some i) := rfl
@[simp] theorem partX_b1 (f : B1) (x : X) (i : Int) : partX (.b1 f x) (.int i) = some (some i) := rfl
@[simp] theorem partX_neg (x : X) (i : Int) : partX (.neg x) (.int i) = some (some i) := rfl
/-! operations on the usual values -/
@[simp] theorem bin_add (i j : Int) : opBin .add (.int i) (.int j) S = .ok (.int (i + j)) S := rfl
@[simp] theorem bin_sub (i j : Int) : opBin .sub (.int i) (.int j) S = .ok (.int (i - j)) S := rfl
@[simp] theorem bin_mul (i j : Int) : opBin .mul (.int i) (.int j) S = if mulOk i j then .ok (.int (i * j)) S else .bad := rfl
@[simp] theorem bin_fdiv (i j : Int) : opBin .fdiv (.int i) (.int j) S = if 0 < j ∧ j < 1073741824 then .ok (.int (i / j)) S else .bad := rfl
@[simp] theorem bin_mod (i j : Int) : opBin .mod (.int i) (.int j) S = if 0 < j then .ok (.int (i % j)) S else .bad := rfl
@[simp] theorem bin_addT (x y : List D) : opBin .add (.tup x) (.tup y) S = if x.length + y.length ≤ lim then .ok (.tup (x ++ y)) S else .bad := rfl
@[simp] theorem bin_addL (x y : List D) : opBin .add (.tl x) (.tl y) S = if x.length + y.length ≤ lim then .ok (.tl (x ++ y)) S else .bad := rfl
@[simp] theorem cmp_lt (i j : Int) : opCmp .lt (.int i) (.int j) S = .ok (.bl (decide (i < j))) S := rfl
@[simp] theorem cmp_le (i j : Int) : opCmp .le (.int i) (.int j) S = .ok (.bl (decide (i ≤ j))) S := rfl
@[simp] theorem cmp_gt (i j : Int) : opCmp .gt (.int i) (.int j) S = .ok (.bl (decide (j < i))) S := rfl
@[simp] theorem cmp_ge (i j : Int) : opCmp .ge (.int i) (.int j) S = .ok (.bl (decide (j ≤ i))) S := rfl
@[simp] theorem cmp_eq (i j : Int) : opCmp .eq (.int i) (.int j) S = .ok (.bl (decide (i = j))) S := rfl
@[simp] theorem cmp_ne (i j : Int) : opCmp .ne (.int i) (.int j) S = .ok (.bl (!decide (i = j))) S := rfl
@[simp] theorem cmp_is (d : D) : opCmp .is_ d .non S = .ok (.bl (isNon d)) S := rfl
@[simp] theorem cmp_isnt (d : D) : opCmp .isnt d .non S = .ok (.bl (!isNon d)) S := rfl
@[simp] theorem isNon_non : isNon .non = true := rfl
@[simp] theorem isNon_int (i : Int) : isNon (.int i) = false := rfl
@[simp] theorem isNon_tup (i : List D) : isNon (.tup i) = false := rfl
@[simp] theorem isNon_str (i : Str) : isNon (.str i) = false := rfl
@[simp] theorem isNon_bl (i : Bool) : isNon (.bl i) = false := rfl
@[simp] theorem isNon_ref (i : Nat) : isNon (.ref i) = false := rfl
@[simp] theorem truth_bl (t : Bool) : truth (.bl t) S = some t := rfl
@[simp] theorem truth_non : truth .non S = some false := rfl
@[simp] theorem truth_int (i : Int) : truth (.int i) S = some (decide (i ≠ 0)) := rfl
@[simp] theorem truth_tup (x : List D) : truth (.tup x) S = some (!x.isEmpty) := rfl
@[simp] theorem truth_tl (x : List D) : truth (.tl x) S = some (!x.isEmpty) := rfl
@[simp] theorem seqv_tup (x : List D) : seqv (.tup x) S = some x := rfl
@[simp] theorem seqv_tl (x : List D) : seqv (.tl x) S = some x := rfl
@[simp] theorem seqv_fl (x : List D) : seqv (.fl x) S = some x := rfl
@[simp] theorem lsv_tl (x : List D) : lsv (.tl x) S = some x := rfl
@[simp] theorem lsv_fl (x : List D) : lsv (.fl x) S = some x := rfl
@[simp] theorem opLen_tup (x : List D) : opB1 .len (.tup x) S = .ok (.int x.length) S := rfl
@[simp] theorem opLen_tl (x : List D) : opB1 .len (.tl x) S = .ok (.int x.length) S := rfl
@[simp] theorem opLen_fl (x : List D) : opB1 .len (.fl x) S = .ok (.int x.length) S := rfl
@[simp] theorem opTuple_tl (x : List D) : opB1 .tuple (.tl x) S = .ok (.tup x) S := rfl
@[simp] theorem opTuple_tup (x : List D) : opB1 .tuple (.tup x) S = .ok (.tup x) S := rfl
@[simp] theorem opAbs (i : Int) : opB1 .abs (.int i) S = .ok (.int (if i < 0 then -i else i)) S := rfl
@[simp] theorem opInt (i : Int) : opB1 .int (.int i) S = .ok (.int i) S := rfl
@[simp] theorem intsD_map (l : List Int) : intsD (l.map D.int) = some l := by
  induction l with
  | nil => rfl
  | cons a l ih => show (intsD (l.map D.int)).map (a :: ·) = _; rw [ih]; rfl
@[simp] theorem intsD_nil : intsD [] = some [] := rfl
@[simp] theorem intsD_cons (a : Int) (l : List D) : intsD (.int a :: l) = (intsD l).map (a :: ·) := rfl
@[simp] theorem boolsD_map (l : List Bool) : boolsD (l.map D.bl) = some l := by
  induction l with
  | nil => rfl
  | cons a l ih => show (boolsD (l.map D.bl)).map (a :: ·) = _; rw [ih]; rfl
@[simp] theorem opRev_tup (x : List D) : opRev (.tup x) S = .ok (.tup x.reverse) S := rfl
@[simp] theorem opRev_tl (x : List D) : opRev (.tl x) S = .ok (.tl x.reverse) S := rfl
@[simp] theorem opSl_tup (x : List D) (i j : Option Int) : opSl (.tup x) i j S = .ok (.tup (cutD x i j)) S := rfl
@[simp] theorem opSl_tl (x : List D) (i j : Option Int) : opSl (.tl x) i j S = .ok (.tl (cutD x i j)) S := rfl
@[simp] theorem opSl_fl (x : List D) (i j : Option Int) : opSl (.fl x) i j S = .ok (.tl (cutD x i j)) S := rfl
def ixR (o : Option D) (S : GH) : R D := match o with
  | some v => .ok v S
  | none => .bad
@[simp] theorem ixR_some (d : D) : ixR (some d) S = .ok d S := rfl
@[simp] theorem opIdx_tup (x : List D) (i : Int) : opIdx (.tup x) (.int i) S = ixR (L2.atI x i) S := rfl
@[simp] theorem opIdx_tl (x : List D) (i : Int) : opIdx (.tl x) (.int i) S = ixR (L2.atI x i) S := rfl
@[simp] theorem opIdx_fl (x : List D) (i : Int) : opIdx (.fl x) (.int i) S = ixR (L2.atI x i) S := rfl
/-! clean data -/
@[simp] theorem ck_int (n : Nat) (i : Int) : ck n (.int i) = true := by cases n <;> rfl
@[simp] theorem ck_bl (n : Nat) (i : Bool) : ck n (.bl i) = true := by cases n <;> rfl
@[simp] theorem ck_non (n : Nat) : ck n .non = true := by cases n <;> rfl
@[simp] theorem ck_str (n : Nat) (x : Str) : ck n (.str x) = PyData.strOk x := by cases n <;> rfl
@[simp] theorem ck_ref (n m : Nat) : ck n (.ref m) = false := by cases n <;> rfl
@[simp] theorem ck_tup (n : Nat) (x : List D) : ck (n + 1) (.tup x) = x.all (ck n) := rfl
@[simp] theorem ck_tl (n : Nat) (x : List D) : ck (n + 1) (.tl x) = x.all (ck n) := rfl
@[simp] theorem ck_fl (n : Nat) (x : List D) : ck (n + 1) (.fl x) = x.all (ck n) := rfl
@[simp] theorem drop_ok {d : D} (n : Nat) (h : cl d = true) : drop n (.ok d S) = .ok d (S.take n) := by
  show (if cl d = true then R.ok d (S.take n) else _) = _
  exact if_pos h
@[simp] theorem drop_exc {c : Nat} {d : D} (n : Nat) (h : cl d = true) : drop n (.exc c d S) = .exc c d (S.take n) := by
  show (if cl d = true then R.exc c d (S.take n) else _) = _
  exact if_pos h
theorem drop_okI (d : D) (h : cl d = true) : drop S.length (.ok d S) = .ok d S := by rw [drop_ok _ h, List.take_length]
theorem drop_excI (c : Nat) (d : D) (h : cl d = true) : drop S.length (.exc c d S) = .exc c d S := by rw [drop_exc _ h, List.take_length]
@[simp] theorem take_app {α : Type} (x y : List α) : (x ++ y).take (x.length + y.length) = x ++ y := by rw [← List.length_append, List.take_length]
theorem okR_drop {r : R D} {n : Nat} (h : okR r (fun d S => cl d = true ∧ Q d (S.take n)) (fun c d S => cl d = true ∧ E c d (S.take n))) : okR (drop n r) Q E := by
  cases r with
  | ok d S => rw [drop_ok n h.1]; exact h.2
  | exc c d S => rw [drop_exc n h.1]; exact h.2
  | bad => exact h
/-! ### statements -/
@[simp] theorem okS_nxt : okS (.nxt σ S) k ↔ k.n σ S := Iff.rfl
@[simp] theorem okS_ret (d : D) : okS (.ret d S) k ↔ k.t d S := Iff.rfl
@[simp] theorem okS_brk : okS (.brk σ S) k ↔ k.b σ S := Iff.rfl
@[simp] theorem okS_cnt : okS (.cnt σ S) k ↔ k.c σ S := Iff.rfl
@[simp] theorem okS_exc (c : Nat) (d : D) : okS (.exc c d S) k ↔ k.x c d S := Iff.rfl
@[simp] theorem okS_bad : okS .bad k ↔ False := Iff.rfl
@[simp] theorem okS_of {α : Type} (r : R α) (f : α → GH → RS) : okS (RS.of r f) k ↔ okR r (fun a S => okS (f a S) k) k.x := by cases r <;> exact Iff.rfl
def brS (o : Option Bool) (x y : RS) : RS := match o with
  | some true => x
  | some false => y
  | none => .bad
@[simp] theorem okS_br (t : Bool) (x y : RS) : okS (brS (some t) x y) k ↔ (t = true → okS x k) ∧ (t = false → okS y k) := by cases t <;> simp [brS]
theorem okS_mono {r : RS} {k' : Kt} (h : okS r k) (hn : ∀ σ S, k.n σ S → k'.n σ S) (ht : ∀ d S, k.t d S → k'.t d S) (hb : ∀ σ S, k.b σ S → k'.b σ S) (hc : ∀ σ S, k.c σ S → k'.c σ S) (hx : ∀ c d S, k.x c d S → k'.x c d S) : okS r k' := by
  cases r with
  | nxt σ S => exact hn σ S h
  | ret d S => exact ht d S h
  | brk σ S => exact hb σ S h
  | cnt σ S => exact hc σ S h
  | exc c d S => exact hx c d S h
  | bad => exact h
def seqR (r : RS) (f : Sg → GH → RS) : RS := match r with
  | .nxt σ S => f σ S
  | r => r
@[simp] theorem okS_seqR (r : RS) (f : Sg → GH → RS) : okS (seqR r f) k ↔ okS r { k with n := fun σ S => okS (f σ S) k } := by cases r <;> exact Iff.rfl
@[simp] theorem evS_skip : evS P C .skip b σ S = .nxt σ S := by unfold evS; rfl
@[simp] theorem evS_seq (a c : X) : evS P C (.seq a c) b σ S = seqR (evS P C a b σ S) fun σ' S' => evS P C c b σ' S' := by
  conv => lhs; unfold evS
  cases evS P C a b σ S <;> rfl
def optS (o : Option Sg) (S : GH) : RS := match o with
  | some σ => .nxt σ S
  | none => .bad
@[simp] theorem optS_some : optS (some σ) S = .nxt σ S := rfl
@[simp] theorem evS_asg (tg e : X) : evS P C (.asg tg e) b σ S = RS.of (ev P C e b σ S) fun d S1 => RS.of (fix d S1) fun d' S2 => optS (bindT tg d' σ) S2 := by
  conv => lhs; unfold evS
  congr
@[simp] theorem bindT_var (i : Nat) (d : D) : bindT (.var i) d σ = some (σ.set i (some d)) := by unfold bindT; rfl
@[simp] theorem bindT_tup (ts : X) (ds : List D) : bindT (.tup ts) (.tup ds) σ = bindTs ts ds σ := by (conv => lhs; unfold bindT) <;> rfl
@[simp] theorem bindTs_nil : bindTs .nil [] σ = some σ := by unfold bindTs; rfl
@[simp] theorem bindTs_cons (t ts : X) (d : D) (ds : List D) : bindTs (.cons t ts) (d :: ds) σ = (bindT t d σ).bind fun σ' => bindTs ts ds σ' := by (conv => lhs; unfold bindTs) <;> rfl
@[simp] theorem evS_expr (e : X) : evS P C (.expr e) b σ S = RS.of (ev P C e b σ S) fun _ S1 => .nxt σ S1 := by (conv => lhs; unfold evS) <;> rfl
@[simp] theorem evS_ret (e : X) : evS P C (.ret e) b σ S = RS.of (ev P C e b σ S) fun d S1 => .ret d S1 := by (conv => lhs; unfold evS) <;> rfl
@[simp] theorem evS_retn : evS P C .retn b σ S = .ret .non S := by unfold evS; rfl
@[simp] theorem evS_ifs (t a c : X) : evS P C (.ifs t a c) b σ S = RS.of (ev P C t b σ S) fun d S1 => brS (truth d S1) (evS P C a b σ S1) (evS P C c b σ S1) := by
  conv => lhs; unfold evS
  congr <;> (funext d S1; cases truth d S1 with
  | none => rfl
  | some t => cases t <;> rfl)
@[simp] theorem evS_brk : evS P C .brk b σ S = .brk σ S := by unfold evS; rfl
@[simp] theorem evS_cnt : evS P C .cnt b σ S = .cnt σ S := by unfold evS; rfl
def raiR (c : Nat) (d : D) (S : GH) : RS := if cl d && !isTl d then .exc c d S else .bad
@[simp] theorem raiR_str (c : Nat) (x : Str) : raiR c (.str x) S = if PyData.strOk x then .exc c (.str x) S else .bad := by
  unfold raiR; simp [isTl]
@[simp] theorem evS_rais (c : Nat) (e : X) : evS P C (.rais c e) b σ S = RS.of (ev P C e b σ S) fun d S1 => raiR c d S1 := by (conv => lhs; unfold evS) <;> rfl
def augR (op : BOp) (i : Nat) (σ : Sg) (d v : D) (S1 : GH) : RS := match d, v with
  | .int x, .int y => RS.of (opBin op (.int x) (.int y) S1) fun r S2 => .nxt (σ.set i (some r)) S2
  | _, _ => .bad
@[simp] theorem augR_int (op : BOp) (i : Nat) (x y : Int) : augR op i σ (.int x) (.int y) S = RS.of (opBin op (.int x) (.int y) S) fun r S2 => .nxt (σ.set i (some r)) S2 := rfl
@[simp] theorem okS_if {c : Prop} [Decidable c] {x y : RS} : okS (if c then x else y) k ↔ (c → okS x k) ∧ (¬ c → okS y k) := by
  by_cases h : c <;> simp [h]
/-- a def, called -/
@[simp] theorem okR_toR (r : RS) : okR r.toR Q E ↔ okS r { n := fun _ S => Q .non S, t := Q, b := no2, c := no2, x := E } := by cases r <;> exact Iff.rfl
theorem callO_succ {n j : Nat} {f : Fn} {ds : List D} (h : P.fns[j]? = some f) (hl : ds.length = f.ar) : callO P (n + 1) j b ds S = (evS P (callO P n) f.body b (ds.map some ++ List.replicate (f.sl - f.ar) none) S).toR := by
  conv => lhs; unfold callO
  rw [h]
  dsimp only
  rw [if_pos hl]
/-! ### loops -/
def turn (P : Pr) (C : Cl) (sc : Bool) (tg body : X) (b : Nat) (d : D) (σ : Sg) (S : GH) : RS := scop sc b S fun b' => match bindT tg d σ with
  | some σ2 => evS P C body b' σ2 S
  | none => .bad
@[simp] theorem okS_turnF {tg body : X} {d : D} {σ2 : Sg} (h : bindT tg d σ = some σ2) : okS (turn P C false tg body b d σ S) k ↔ okS (evS P C body b σ2 S) k := by unfold turn scop; rw [h]; exact Iff.rfl
theorem okS_turnT {tg body : X} {d : D} {σ2 : Sg} (h : bindT tg d σ = some σ2) : okS (turn P C true tg body b d σ S) k ↔ okS (evS P C body S.length σ2 S) { k with n := fun σ' S' => k.n (σ'.map (keepV S.length)) (S'.take S.length), b := fun σ' S' => k.b (σ'.map (keepV S.length)) (S'.take S.length), c := fun σ' S' => k.c (σ'.map (keepV S.length)) (S'.take S.length) } := by
  unfold turn scop
  rw [h]
  dsimp only
  rw [if_pos rfl]
  cases evS P C body S.length σ2 S <;> exact Iff.rfl
theorem forL_ok {α : Type} {enc : α → D} {f : D → Sg → GH → RS} {I : List α → Sg → GH → Prop} (hs : ∀ x xs σ S, I (x :: xs) σ S → okS (f (enc x) σ S) { k with n := I xs, b := k.n, c := I xs }) (he : ∀ σ S, I [] σ S → k.n σ S) :
    ∀ (xs : List α) (σ : Sg) (S : GH), I xs σ S → okS (forL f (xs.map enc) σ S) k
  | [], σ, S, h => he σ S h
  | x :: xs, σ, S, h => by
    have q := hs x xs σ S h
    show okS (forL f (enc x :: xs.map enc) σ S) k
    unfold forL
    cases e : f (enc x) σ S with
    | nxt σ' S' => rw [e] at q; exact forL_ok hs he xs σ' S' q
    | cnt σ' S' => rw [e] at q; exact forL_ok hs he xs σ' S' q
    | brk σ' S' => rw [e] at q; exact q
    | ret d S' => rw [e] at q; exact q
    | exc c d S' => rw [e] at q; exact q
    | bad => rw [e] at q; exact q
/-- for over what is locked by nobody -/
theorem for_ok {α : Type} {enc : α → D} {sc : Bool} {tg it body : X} {I : List α → Sg → GH → Prop} {S1 : GH} (xs : List α) (hit : ev P C it b σ S = .ok (itD (xs.map enc) []) S1) (h0 : I xs σ S1)
    (hs : ∀ x xs σ S, I (x :: xs) σ S → okS (turn P C sc tg body b (enc x) σ S) { k with n := I xs, b := k.n, c := I xs }) (he : ∀ σ S, I [] σ S → k.n σ S) : okS (evS P C (.forr sc tg it body) b σ S) k := by
  have h := forL_ok (k := k) hs he xs σ S1 h0
  conv => arg 1; unfold evS
  rw [hit]
  dsimp only [itD]
  show okS (RS.mapS _ _) k
  have e : ∀ r : RS, r.mapS (unlock [] S1) = r := fun r => by cases r <;> rfl
  rw [e]
  exact h
/-- the same where a list is locked -/
theorem for_lk {α : Type} {enc : α → D} {sc : Bool} {tg it body : X} {lk : List D} {I : List α → Sg → GH → Prop} {S1 : GH} (xs : List α) (hit : ev P C it b σ S = .ok (itD (xs.map enc) lk) S1) (h0 : I xs σ (lock lk S1))
    (hs : ∀ x xs σ S, I (x :: xs) σ S → okS (turn P C sc tg body b (enc x) σ S) { n := I xs, t := fun d S => k.t d (unlock lk S1 S), b := fun σ S => k.n σ (unlock lk S1 S), c := I xs, x := fun c d S => k.x c d (unlock lk S1 S) }) (he : ∀ σ S, I [] σ S → k.n σ (unlock lk S1 S)) : okS (evS P C (.forr sc tg it body) b σ S) k := by
  have h := forL_ok (k := { n := fun σ S => k.n σ (unlock lk S1 S), t := fun d S => k.t d (unlock lk S1 S), b := fun σ S => k.b σ (unlock lk S1 S), c := fun σ S => k.c σ (unlock lk S1 S), x := fun c d S => k.x c d (unlock lk S1 S) }) hs he xs σ _ h0
  conv => arg 1; unfold evS
  rw [hit]
  dsimp only [itD]
  show okS (RS.mapS _ _) k
  have e : ∀ r : RS, okS r { n := fun σ S => k.n σ (unlock lk S1 S), t := fun d S => k.t d (unlock lk S1 S), b := fun σ S => k.b σ (unlock lk S1 S), c := fun σ S => k.c σ (unlock lk S1 S), x := fun c d S => k.x c d (unlock lk S1 S) } → okS (r.mapS (unlock lk S1)) k := fun r h => by cases r <;> exact h
  exact e _ h
theorem ev_irng (as : X) : ev P C (.irng as) b σ S = asTup (ev P C as b σ S) fun ds S1 => match opRng ds with | some xs => .ok (itD xs []) S1 | none => .bad := by (conv => lhs; unfold ev) <;> rfl
theorem ev_iseq (e : X) : ev P C (.iseq e) b σ S = (ev P C e b σ S).bind fun d S1 => match seqv d S1 with | some xs => .ok (itD xs (lkOf d)) S1 | none => .bad := by (conv => lhs; unfold ev) <;> rfl
@[simp] theorem lkOf_tup (x : List D) : lkOf (.tup x) = [] := rfl
@[simp] theorem lkOf_tl (x : List D) : lkOf (.tl x) = [] := rfl
@[simp] theorem lkOf_fl (x : List D) : lkOf (.fl x) = [] := rfl
@[simp] theorem lkOf_ref (n : Nat) : lkOf (.ref n) = [.ref n] := rfl
/-- a comprehension over plain values, nothing made -/
def compF (P : Pr) (C : Cl) (e tg cond : X) (own : List Nat) (b : Nat) (σ : Sg) (d : D) (S2 : GH) : R (Option D) := match bindT tg d (wipeS σ own) with
  | some σ' => (ev P C cond b σ' S2).bind fun k S3 => match truth k S3 with
    | some true => (ev P C e b σ' S3).bind fun v S4 => (fix v S4).bind fun v' S5 => .ok (some v') S5
    | some false => .ok none S3
    | none => .bad
  | none => .bad
theorem compLoop_map {α : Type} {enc : α → D} {f : D → GH → R (Option D)} {g : α → Option D} : ∀ (xs : List α), (∀ x ∈ xs, f (enc x) S = .ok (g x) S) → compLoop f (xs.map enc) S = .ok (xs.filterMap g) S
  | [], _ => rfl
  | x :: xs, h => by
    show compLoop f (enc x :: xs.map enc) S = _
    unfold compLoop
    rw [h x List.mem_cons_self, R.bind_ok, compLoop_map xs fun y hy => h y (List.mem_cons_of_mem _ hy), R.bind_ok, List.filterMap_cons]
    cases g x <;> rfl
theorem ev_comp {α : Type} {enc : α → D} {e tg it cond : X} {own : List Nat} {g : α → Option D} (xs : List α) (hit : ev P C it b σ S = .ok (itD (xs.map enc) []) S) (hl : xs.length ≤ lim) (hf : ∀ x ∈ xs, compF P C e tg cond own b σ (enc x) S = .ok (g x) S) :
    ev P C (.comp e tg it cond own) b σ S = .ok (.tl (xs.filterMap g)) S := by
  conv => lhs; unfold ev
  rw [hit]
  show (if (xs.map enc).length > lim then R.bad else _) = _
  rw [List.length_map, if_neg (Nat.not_lt.mpr hl)]
  have h := compLoop_map (S := S) xs hf
  show unlR _ (compLoop (compF P C e tg cond own b σ) (xs.map enc) S) = _
  rw [h]
  rfl
/-! ### places -/
@[simp] theorem atI_lit (xs : List D) (k : Nat) : L2.atI xs (no_index (@OfNat.ofNat Int k instOfNat)) = xs[@OfNat.ofNat Nat k (instOfNatNat k)]? := by
  show (L2.ixN xs.length (k : Int)).bind (fun j => xs[j]?) = xs[k]?
  unfold L2.ixN
  rw [if_pos (Int.natCast_nonneg k)]
  by_cases h : k < xs.length
  · rw [if_pos (by omega), Int.toNat_natCast]
    rfl
  · rw [if_neg (by omega), List.getElem?_eq_none (by omega)]
    rfl
theorem atI_nat (xs : List D) (k : Nat) : L2.atI xs (k : Int) = xs[k]? := by
  unfold L2.atI L2.ixN
  rw [if_pos (Int.natCast_nonneg k)]
  by_cases h : k < xs.length
  · rw [if_pos (by omega), Int.toNat_natCast]
    rfl
  · rw [if_neg (by omega), List.getElem?_eq_none (by omega)]
    rfl
/-! ### unrolled -/
def bnd {α : Type} (o : Option Sg) (f : Sg → R α) : R α := match o with
  | some σ => f σ
  | none => .bad
@[simp] theorem bnd_some {α : Type} (f : Sg → R α) : bnd (some σ) f = f σ := rfl
@[simp] theorem wipeS_nil : wipeS σ [] = σ := rfl
@[simp] theorem wipeS_cons (v : Nat) (vs : List Nat) : wipeS σ (v :: vs) = (wipeS σ vs).set v none := rfl
@[simp] theorem compF_eq (e tg cond : X) (own : List Nat) (d : D) : compF P C e tg cond own b σ d S = bnd (bindT tg d (wipeS σ own)) fun σ' => (ev P C cond b σ' S).bind fun k S3 => brR (truth k S3) ((ev P C e b σ' S3).bind fun v S4 => (fix v S4).bind fun v' S5 => .ok (some v') S5) (.ok none S3) := by
  unfold compF bnd
  cases bindT tg d (wipeS σ own) with
  | none => rfl
  | some σ' =>
    refine congrArg (R.bind (ev P C cond b σ' S)) ?_
    funext k S3
    cases truth k S3 with
    | none => rfl
    | some t => cases t <;> rfl
def compR (P : Pr) (C : Cl) (e tg cond : X) (own : List Nat) (b : Nat) (σ : Sg) (d : D) (S1 : GH) : R D := match d with
  | .tup (.tup items :: lk) => if items.length > lim then .bad else unlR (unlock lk S1) (compLoop (compF P C e tg cond own b σ) items (lock lk S1))
  | _ => .bad
theorem ev_compU (e tg it cond : X) (own : List Nat) : ev P C (.comp e tg it cond own) b σ S = (ev P C it b σ S).bind (compR P C e tg cond own b σ) := by
  conv => lhs; unfold ev
  refine congrArg (R.bind (ev P C it b σ S)) ?_
  funext d S1
  unfold compR compF
  rfl
@[simp] theorem compR_it (e tg cond : X) (own : List Nat) (items lk : List D) : compR P C e tg cond own b σ (itD items lk) S = if items.length > lim then .bad else unlR (unlock lk S) (compLoop (compF P C e tg cond own b σ) items (lock lk S)) := rfl
@[simp] theorem okR_unlR {f : GH → GH} (r : R (List D)) {Q : D → GH → Prop} : okR (unlR f r) Q E ↔ okR r (fun r S => Q (.tl r) (f S)) (fun c d S => E c d (f S)) := by cases r <;> exact Iff.rfl
@[simp] theorem compLoop_nil (f : D → GH → R (Option D)) : compLoop f [] S = .ok [] S := rfl
@[simp] theorem compLoop_cons (f : D → GH → R (Option D)) (d : D) (ds : List D) : compLoop f (d :: ds) S = (f d S).bind fun o S1 => (compLoop f ds S1).bind fun r S2 => .ok (match o with | some v => v :: r | none => r) S2 := rfl
@[simp] theorem forL_nil (f : D → Sg → GH → RS) : forL f [] σ S = .nxt σ S := rfl
@[simp] theorem okS_forL_cons (f : D → Sg → GH → RS) (d : D) (ds : List D) : okS (forL f (d :: ds) σ S) k ↔ okS (f d σ S) { k with n := fun σ' S' => okS (forL f ds σ' S') k, b := k.n, c := fun σ' S' => okS (forL f ds σ' S') k } := by
  conv => lhs; unfold forL
  cases f d σ S <;> exact Iff.rfl
@[simp] theorem lock_nil : lock [] S = S := rfl
@[simp] theorem unlock_nil (S0 : GH) : unlock [] S0 S = S := rfl
def optI (o : Option (List D)) (lk : List D) (S : GH) : R D := match o with
  | some xs => .ok (itD xs lk) S
  | none => .bad
@[simp] theorem optI_some (xs lk : List D) : optI (some xs) lk S = .ok (itD xs lk) S := rfl
@[simp] theorem ev_irng' (as : X) : ev P C (.irng as) b σ S = asTup (ev P C as b σ S) fun ds S1 => optI (opRng ds) [] S1 := by
  rw [ev_irng]
  refine congrArg _ (funext fun ds => funext fun S1 => ?_)
  cases opRng ds <;> rfl
@[simp] theorem ev_iseq' (e : X) : ev P C (.iseq e) b σ S = (ev P C e b σ S).bind fun d S1 => optI (seqv d S1) (lkOf d) S1 := by
  rw [ev_iseq]
  refine congrArg _ (funext fun d => funext fun S1 => ?_)
  cases seqv d S1 <;> rfl
theorem two62 : (-(2 ^ 62) : Int) = -4611686018427387904 ∧ (2 ^ 62 : Int) = 4611686018427387904 := by decide +kernel
theorem opRng1 {j : Int} (h : -4611686018427387904 ≤ j ∧ j ≤ 16777216) : opRng [.int j] = some (rngD 0 j.toNat) := by
  show (if -(2 ^ 62) ≤ j ∧ j ≤ (lim : Int) then _ else _) = _
  rw [two62.1]
  exact if_pos h
theorem opRng2 {i j : Int} (h : -4611686018427387904 ≤ i ∧ i < 4611686018427387904 ∧ -4611686018427387904 ≤ j ∧ j < 4611686018427387904 ∧ j - i ≤ 16777216) : opRng [.int i, .int j] = some (rngD i (j - i).toNat) := by
  show (if -(2 ^ 62) ≤ i ∧ i < 2 ^ 62 ∧ -(2 ^ 62) ≤ j ∧ j < 2 ^ 62 ∧ j - i ≤ (lim : Int) then _ else _) = _
  rw [two62.1, two62.2]
  exact if_pos h
def perR (o : Option (List D)) (f : List D → R D) : R D := match o with
  | some ds => f ds
  | none => .bad
@[simp] theorem perR_some (ds : List D) (f : List D → R D) : perR (some ds) f = f ds := rfl
@[simp] theorem ev_callk' (j : Nat) (p : List Nat) (as : X) : ev P C (.callk j p as) b σ S = drop S.length (asTup (ev P C as S.length σ S) fun ds S1 => perR (permD p ds) fun ds' => C j S.length ds' S1) := by
  rw [ev_callk]
  refine congrArg _ (congrArg _ (funext fun ds => funext fun S1 => ?_))
  cases permD p ds <;> rfl
@[simp] theorem permD_nil (ds : List D) : permD [] ds = some [] := rfl
@[simp] theorem permD_cons (i : Nat) (p : List Nat) (ds : List D) : permD (i :: p) ds = (ds[i]?).bind fun d => (permD p ds).map (d :: ·) := by
  unfold permD
  rw [List.mapM_cons]
  cases ds[i]? with
  | none => rfl
  | some d =>
    show (List.mapM (m := Option) (fun i => ds[i]?) p >>= fun bs => pure (d :: bs)) = _
    cases List.mapM (fun i => ds[i]?) p <;> rfl
@[simp] theorem okR_thunk0 (c : Nat) (r : R D) : okR (thunkR (some (c, none)) r) Q E ↔ okR r (fun _ S => Q (.str Str.empty) S) (fun c' d S => c' = c ∧ Q d S) := by
  unfold thunkR
  cases r with
  | ok d S => exact Iff.rfl
  | bad => exact Iff.rfl
  | exc c' d S =>
    dsimp only
    by_cases h : c' = c
    · simp [h]
    · simp [h]
@[simp] theorem le_lim (n : Nat) : n ≤ lim ↔ n ≤ 16777216 := Iff.rfl
@[simp] theorem lt_lim (n : Nat) : lim < n ↔ 16777216 < n := Iff.rfl
@[simp] theorem boolsD_nil : boolsD [] = some [] := rfl
@[simp] theorem boolsD_cons (a : Bool) (l : List D) : boolsD (.bl a :: l) = (boolsD l).map (a :: ·) := rfl
@[simp] theorem opAll_tl (x : List D) : opB1 .all (.tl x) S = optR ((boolsD x).map (·.all id)) S := by
  show (match boolsD x with | some bs => R.ok (D.bl (bs.all id)) S | none => .bad) = _
  cases boolsD x <;> rfl
@[simp] theorem opAny_tl (x : List D) : opB1 .any (.tl x) S = optR ((boolsD x).map (·.any id)) S := by
  show (match boolsD x with | some bs => R.ok (D.bl (bs.any id)) S | none => .bad) = _
  cases boolsD x <;> rfl
def intR (o : Option Int) (S : GH) : R D := match o with
  | some k => .ok (.int k) S
  | none => .bad
@[simp] theorem intR_some (i : Int) : intR (some i) S = .ok (.int i) S := rfl
@[simp] theorem opSum_tl (x : List D) : opB1 .sum (.tl x) S = intR ((intsD x).map List.sum) S := by
  show (match intsD x with | some ns => R.ok (D.int ns.sum) S | none => .bad) = _
  cases intsD x <;> rfl
@[simp] theorem opMax_tl (x : List D) : opB1 .max (.tl x) S = opMax x S := rfl
@[simp] theorem opMin_tl (x : List D) : opB1 .min (.tl x) S = opMin x S := rfl
theorem opMax_ints {x : List D} {i : Int} {ns : List Int} (h : intsD x = some (i :: ns)) : opMax x S = .ok (.int (maxI i ns)) S := by unfold opMax; rw [h]
theorem opMin_ints {x : List D} {i : Int} {ns : List Int} (h : intsD x = some (i :: ns)) : opMin x S = .ok (.int (minI i ns)) S := by unfold opMin; rw [h]
theorem len_lim {n : Nat} (h : n ≤ 16777216) : n ≤ lim := h
end Ev
set_option Elab.async false
set_option linter.all false
set_option maxRecDepth 100000
set_option maxHeartbeats 4000000
/-! EvZd: data compared. -/
namespace Ev
open PySem
variable {S : GH}
theorem pyAll_map (xs : List D) : D.pyAll xs = xs.map D.py := by
  induction xs with
  | nil => simp [D.pyAll]
  | cons a l ih => simp [D.pyAll, ih]
theorem py_refl : ∀ (n : Nat) (d : D), ck n d = true → PyData.eqv d.py d.py = true
  | _, .non, _ => by simp [D.py, PyData.eqv]
  | _, .bl _, _ => by simp [D.py, PyData.eqv]
  | _, .int _, _ => by simp [D.py, PyData.eqv]
  | _, .str _, _ => by simp [D.py, PyData.eqv]
  | _, .ref _, h => by simp at h
  | _, .bw _, h => by simp [ck] at h
  | _, .dv _ _, h => by simp [ck] at h
  | _, .sv _, h => by simp [ck] at h
  | 0, .tup _, h => by simp [ck] at h
  | 0, .tl _, h => by simp [ck] at h
  | 0, .fl _, h => by simp [ck] at h
  | n + 1, .tup xs, h => by
    have all : ∀ l : List D, (∀ x ∈ l, ck n x = true) → PyData.eqvAll (D.pyAll l) (D.pyAll l) = true := by
      intro l
      induction l with
      | nil => intro _; simp [D.pyAll, PyData.eqvAll]
      | cons a l ih => intro hl; simp [D.pyAll, PyData.eqvAll, py_refl n a (hl a List.mem_cons_self), ih fun x hx => hl x (List.mem_cons_of_mem _ hx)]
    simp only [D.py, PyData.eqv]
    exact all xs (by simpa using h)
  | n + 1, .tl xs, h => by
    have all : ∀ l : List D, (∀ x ∈ l, ck n x = true) → PyData.eqvAll (D.pyAll l) (D.pyAll l) = true := by
      intro l
      induction l with
      | nil => intro _; simp [D.pyAll, PyData.eqvAll]
      | cons a l ih => intro hl; simp [D.pyAll, PyData.eqvAll, py_refl n a (hl a List.mem_cons_self), ih fun x hx => hl x (List.mem_cons_of_mem _ hx)]
    simp only [D.py, PyData.eqv]
    exact all xs (by simpa using h)
  | n + 1, .fl xs, h => by
    have all : ∀ l : List D, (∀ x ∈ l, ck n x = true) → PyData.eqvAll (D.pyAll l) (D.pyAll l) = true := by
      intro l
      induction l with
      | nil => intro _; simp [D.pyAll, PyData.eqvAll]
      | cons a l ih => intro hl; simp [D.pyAll, PyData.eqvAll, py_refl n a (hl a List.mem_cons_self), ih fun x hx => hl x (List.mem_cons_of_mem _ hx)]
    simp only [D.py, PyData.eqv]
    exact all xs (by simpa using h)
theorem deq_refl {d : D} (h : cl d = true) : deq d d = true := py_refl 20 d h
theorem cmp_ne_self {d : D} (h : cl (res d S) = true) : opCmp .ne d d S = .ok (.bl false) S := by
  unfold opCmp
  cases d <;> first | (simp; done) | (dsimp only; rw [h]; simp [deq_refl h])
theorem cmp_eq_self {d : D} (h : cl (res d S) = true) : opCmp .eq d d S = .ok (.bl true) S := by
  unfold opCmp
  cases d <;> first | (simp; done) | (dsimp only; rw [h]; simp [deq_refl h])
/-- of whole numbers -/
theorem dlt_ints (xs ys : List Int) : dlt (.tup (xs.map D.int)) (.tup (ys.map D.int)) = decide (xs < ys) := by
  have e : ∀ l : List Int, D.pyAll (l.map D.int) = l.map PyData.int := fun l => by rw [pyAll_map, List.map_map]; exact List.map_congr_left fun x _ => by simp [D.py]
  unfold dlt
  simp only [D.py, e]
  rw [PySem.W.dataLt_tuple]
  exact PySem.W.dataLt_ints xs ys
theorem alk_ints : ∀ (xs ys : List Int), alk (.tup (xs.map D.int)) (.tup (ys.map D.int)) = true := by
  have e : ∀ l : List Int, D.pyAll (l.map D.int) = l.map PyData.int := fun l => by rw [pyAll_map, List.map_map]; exact List.map_congr_left fun x _ => by simp [D.py]
  intro xs ys
  unfold alk
  simp only [D.py, e, PySem.W.alike]
  induction xs generalizing ys with
  | nil => simp [PySem.W.alikeAll]
  | cons a l ih =>
    cases ys with
    | nil => simp [PySem.W.alikeAll]
    | cons b r => simp only [List.map_cons, PySem.W.alikeAll, PySem.W.alike, Bool.true_and]; exact ih r
theorem cl_ints (xs : List Int) : cl (.tup (xs.map D.int)) = true := by simp
theorem cmp_ltT (xs ys : List Int) : opCmp .lt (.tup (xs.map D.int)) (.tup (ys.map D.int)) S = .ok (.bl (decide (xs < ys))) S := by
  show (if (cl _ && cl _ && alk _ _ && !isNon _) = true then R.ok (D.bl (dlt _ _)) S else _) = _
  rw [cl_ints, cl_ints, alk_ints, dlt_ints]
  rfl
theorem cmp_leT (xs ys : List Int) : opCmp .le (.tup (xs.map D.int)) (.tup (ys.map D.int)) S = .ok (.bl (!decide (ys < xs))) S := by
  show (if (cl _ && cl _ && alk _ _ && !isNon _) = true then R.ok (D.bl (!dlt _ _)) S else _) = _
  rw [cl_ints, cl_ints, alk_ints, dlt_ints]
  rfl
@[simp] theorem cmp_lt3 (a b c a' b' c' : Int) : opCmp .lt (.tup [.int a, .int b, .int c]) (.tup [.int a', .int b', .int c']) S = .ok (.bl (decide ([a, b, c] < [a', b', c']))) S := cmp_ltT [a, b, c] [a', b', c']
@[simp] theorem cmp_le3 (a b c a' b' c' : Int) : opCmp .le (.tup [.int a, .int b, .int c]) (.tup [.int a', .int b', .int c']) S = .ok (.bl (!decide ([a', b', c'] < [a, b, c]))) S := cmp_leT [a, b, c] [a', b', c']
/-- the least of rows of whole numbers -/
def minL (x : List Int) (xs : List (List Int)) : List Int := xs.foldl (fun a y => if y < a then y else a) x
theorem intsD_tup (x : List D) (r : List D) : intsD (.tup x :: r) = none := rfl
theorem opMin_rows (x : List Int) (xs : List (List Int)) : opMin ((x :: xs).map fun r => D.tup (r.map D.int)) S = .ok (.tup ((minL x xs).map D.int)) S := by
  have h : alkAll ((x :: xs).map fun r => D.tup (r.map D.int)) = true := by
    unfold alkAll
    simp only [Bool.and_eq_true, List.all_eq_true, List.mem_map]
    refine ⟨⟨fun d ⟨r, _, e⟩ => e ▸ cl_ints r, fun d ⟨r, _, e⟩ d' ⟨r', _, e'⟩ => e ▸ e' ▸ alk_ints r r'⟩, fun d ⟨r, _, e⟩ => e ▸ rfl⟩
  unfold opMin
  rw [List.map_cons, intsD_tup]
  dsimp only
  rw [List.map_cons] at h
  rw [if_pos h]
  congr 1
  unfold minDD minL
  clear h
  induction xs generalizing x with
  | nil => rfl
  | cons a l ih =>
    rw [List.map_cons, List.foldl_cons, List.foldl_cons, dlt_ints]
    by_cases q : a < x
    · rw [decide_eq_true q, if_pos rfl, if_pos q]; exact ih a
    · rw [decide_eq_false q, if_neg (by simp), if_neg q]; exact ih x
/-- it is one of them, and none is less -/
theorem minL_mem (x : List Int) (xs : List (List Int)) : minL x xs ∈ x :: xs := by
  unfold minL
  induction xs generalizing x with
  | nil => simp
  | cons a l ih =>
    rw [List.foldl_cons]
    by_cases q : a < x
    · rw [if_pos q]
      exact List.mem_cons_of_mem _ (ih a)
    · rw [if_neg q]
      rcases List.mem_cons.mp (ih x) with h | h
      · rw [h]; exact List.mem_cons_self
      · exact List.mem_cons_of_mem _ (List.mem_cons_of_mem _ h)
theorem lt_tot (a b : List Int) : a < b ∨ a = b ∨ b < a := by
  rcases Decidable.em (a < b) with h | h
  · exact .inl h
  · rcases Decidable.em (b < a) with h' | h'
    · exact .inr (.inr h')
    · exact .inr (.inl (List.le_antisymm (List.not_lt.mp h') (List.not_lt.mp h)))
theorem minL_le (x : List Int) (xs : List (List Int)) : ∀ y ∈ x :: xs, ¬ y < minL x xs := by
  unfold minL
  induction xs generalizing x with
  | nil => intro y hy; simp at hy; subst hy; exact List.lt_irrefl y
  | cons a l ih =>
    intro y hy
    rw [List.foldl_cons]
    by_cases q : a < x
    · rw [if_pos q]
      rcases List.mem_cons.mp hy with rfl | hy
      · intro z
        exact ih a a List.mem_cons_self (List.lt_trans q z)
      · exact ih a y hy
    · rw [if_neg q]
      rcases List.mem_cons.mp hy with rfl | hy
      · exact ih y y List.mem_cons_self
      · rcases List.mem_cons.mp hy with rfl | hy
        · intro z
          have := ih x x List.mem_cons_self
          rcases lt_tot y x with h | h | h
          · exact q h
          · subst h; exact this z
          · exact this (List.lt_trans h z)
        · exact ih x y (List.mem_cons_of_mem _ hy)
/-- the least is one alone -/
theorem least_one {m m' : List Int} {A B : List Int → Prop} (h : ∀ t, A t ↔ B t) (a : A m) (a' : ∀ t, A t → ¬ t < m) (b : B m') (b' : ∀ t, B t → ¬ t < m') : m = m' := by
  rcases lt_tot m m' with q | q | q
  · exact absurd q (b' m ((h m).mp a))
  · exact q
  · exact absurd q (a' m' ((h m').mpr b))
/-! ### unrolled -/
variable {P : Pr} {C : Cl} {b : Nat} {σ : Sg} {k : Kt}
def bndS (o : Option Sg) (f : Sg → RS) : RS := match o with
  | some σ => f σ
  | none => .bad
@[simp] theorem bndS_some (f : Sg → RS) : bndS (some σ) f = f σ := rfl
theorem turn_gen {tg body : X} {d : D} : turn P C false tg body b d σ S = bndS (bindT tg d σ) fun σ2 => evS P C body b σ2 S := by
  unfold turn scop bndS
  cases bindT tg d σ <;> rfl
theorem for_u {sc : Bool} {tg it body : X} {items : List D} {S1 : GH} (hit : ev P C it b σ S = .ok (itD items []) S1) : okS (evS P C (.forr sc tg it body) b σ S) k ↔ okS (forL (turn P C sc tg body b) items σ S1) k := by
  conv => lhs; arg 1; unfold evS
  rw [hit]
  dsimp only [itD]
  have e : ∀ r : RS, okS (r.mapS (unlock [] S1)) k ↔ okS r k := fun r => by cases r <;> exact Iff.rfl
  exact e _
theorem lsvR {m : Nat} {x : List D} (h : S[m]? = some (.lst x)) : lsv (.ref m) S = some x := by unfold lsv; dsimp only; rw [h]
theorem seqvR {m : Nat} {x : List D} (h : S[m]? = some (.lst x)) : seqv (.ref m) S = some x := lsvR h
theorem bin_addRT {m : Nat} {x y : List D} (h : S[m]? = some (.lst x)) : opBin .add (.ref m) (.tl y) S = if x.length + y.length ≤ lim then .ok (.tl (x ++ y)) S else .bad := by
  unfold opBin
  dsimp only
  have e : lsw (.ref m) S = some x := by unfold lsw; dsimp only; rw [h]
  have e2 : lsw (.tl y) S = some y := rfl
  rw [e, e2]
theorem opLen_at {m : Nat} {x : List D} (h : S[m]? = some (.lst x)) : opB1 .len (.ref m) S = .ok (.int x.length) S := by
  show (match seqv (.ref m) S with | some xs => R.ok (D.int xs.length) S | none => .bad) = _
  rw [seqvR h]
theorem opMin_at {m : Nat} {x : List D} (h : S[m]? = some (.lst x)) : opB1 .min (.ref m) S = opMin x S := by
  show (match lsv (.ref m) S with | some xs => opMin xs S | none => .bad) = _
  rw [lsvR h]
theorem opMax_at {m : Nat} {x : List D} (h : S[m]? = some (.lst x)) : opB1 .max (.ref m) S = opMax x S := by
  show (match lsv (.ref m) S with | some xs => opMax xs S | none => .bad) = _
  rw [lsvR h]
theorem opTuple_at {m : Nat} {x : List D} (h : S[m]? = some (.lst x)) : opB1 .tuple (.ref m) S = .ok (.tup x) S := by
  show (match lsv (.ref m) S with | some xs => R.ok (D.tup xs) S | none => .bad) = _
  rw [lsvR h]
theorem opRev_at {m : Nat} {x : List D} (h : S[m]? = some (.lst x)) : opRev (.ref m) S = .ok (.tl x.reverse) S := by
  show (match lsv (.ref m) S with | some xs => R.ok (D.tl xs.reverse) S | none => .bad) = _
  rw [lsvR h]
theorem opIdx_at {m : Nat} {x : List D} (h : S[m]? = some (.lst x)) (i : Int) : opIdx (.ref m) (.int i) S = ixR (L2.atI x i) S := by
  show (match seqv (.ref m) S, D.int i with | some xs, .int i => (match L2.atI xs i with | some v => R.ok v S | none => .bad) | _, _ => .bad) = _
  rw [seqvR h]
  rfl
/-! ### a list changed -/
def setS (o : Option GH) (σ : Sg) : RS := match o with
  | some S => .nxt σ S
  | none => .bad
@[simp] theorem setS_some : setS (some S) σ = .nxt σ S := rfl
@[simp] theorem evS_sset (o i e : X) : evS P C (.sset o i e) b σ S = RS.of (ev P C e b σ S) fun v S1 => RS.of (fix v S1) fun v' S2 => RS.of (ev P C o b σ S2) fun od S3 => RS.of (ev P C i b σ S3) fun k S4 => setS (opSet b od k v' S4) σ := by (conv => lhs; unfold evS) <;> rfl
@[simp] theorem may_int (n : Nat) (v : Int) : may b n (.int v) = true := by unfold may; simp [isTl]
theorem may_clean {v : D} (n : Nat) (h : cl v = true) (ht : isTl v = false) : may b n v = true := by unfold may; simp [ht, h]
@[simp] theorem opSet0 (k : Int) (v : D) (xs : List D) (R : GH) : opSet b (.ref 0) (.int k) v (.lst xs :: R) = if may b 0 v then (L2.ixN xs.length k).map fun j => .lst (xs.set j v) :: R else none := rfl
@[simp] theorem ixN_lit (n k : Nat) : L2.ixN n (no_index (@OfNat.ofNat Int k instOfNat)) = if (@OfNat.ofNat Nat k (instOfNatNat k)) < n then some (@OfNat.ofNat Nat k (instOfNatNat k)) else none := by
  show L2.ixN n (k : Int) = if k < n then some k else none
  unfold L2.ixN
  rw [if_pos (Int.natCast_nonneg k)]
  by_cases h : k < n
  · rw [if_pos (by omega), if_pos h, Int.toNat_natCast]
  · rw [if_neg (by omega), if_neg h]
@[simp] theorem opIdx0 (i : Int) (xs : List D) (R : GH) : opIdx (.ref 0) (.int i) (.lst xs :: R) = ixR (L2.atI xs i) (.lst xs :: R) := opIdx_at rfl i
/-! ### a comprehension over a list that a name holds -/
theorem unlock_lock (m : Nat) : unlock [.ref m] S (lock [.ref m] S) = S := by
  show unlock [] S (match S[m]? with | some o => (lock [.ref m] S).set m o | none => lock [.ref m] S) = S
  have e : lock [.ref m] S = match S[m]? with | some o => S.set m (lock1 o) | none => S := rfl
  rw [e]
  cases q : S[m]? with
  | none => rfl
  | some o =>
    show (S.set m (lock1 o)).set m o = S
    rw [List.set_set]
    apply List.ext_getElem?
    intro i
    rw [List.getElem?_set]
    by_cases h : m = i
    · subst h
      rw [if_pos rfl, q]
      split <;> rename_i hh
      · rfl
      · have := (List.getElem?_eq_some_iff.mp q).1
        exact absurd this hh
    · rw [if_neg h]
theorem ev_compR {α : Type} {enc : α → D} {e tg it cond : X} {own : List Nat} {g : α → Option D} {m : Nat} (xs : List α) (hit : ev P C it b σ S = .ok (itD (xs.map enc) [.ref m]) S) (hl : xs.length ≤ lim) (hf : ∀ x ∈ xs, compF P C e tg cond own b σ (enc x) (lock [.ref m] S) = .ok (g x) (lock [.ref m] S)) :
    ev P C (.comp e tg it cond own) b σ S = .ok (.tl (xs.filterMap g)) S := by
  rw [ev_compU, hit, R.bind_ok, compR_it, if_neg (by rw [List.length_map]; exact Nat.not_lt.mpr hl)]
  rw [compLoop_map (S := lock [.ref m] S) xs hf]
  show R.ok (D.tl (xs.filterMap g)) (unlock [.ref m] S (lock [.ref m] S)) = _
  rw [unlock_lock]
theorem iseq_at {m : Nat} {x : List D} {i : Nat} (h : S[m]? = some (.lst x)) (hi : σ[i]? = some (some (.ref m))) : ev P C (.iseq (.var i)) b σ S = .ok (itD x [.ref m]) S := by
  simp [hi, seqvR h]
def appR (b m : Nat) (v : D) (S : GH) : R D := opM1 .append b (.ref m) v S
theorem append_at {m : Nat} {x : List D} {v : D} (h : S[m]? = some (.lst x)) (hl : x.length < lim) (hv : may b m v = true) : opM1 .append b (.ref m) v S = .ok .non (S.set m (.lst (x ++ [v]))) := by
  unfold opM1 opM
  dsimp only
  rw [h]
  dsimp only
  rw [if_pos hl]
  dsimp only
  rw [if_pos hv]
def guR (c : Bool) (r : R D) : R D := if c then r else .bad
@[simp] theorem guR_t (r : R D) : guR true r = r := rfl
@[simp] theorem ev_m1 (f : M1) (o a : X) : ev P C (.m1 f o a) b σ S = (ev P C o b σ S).bind fun d S1 => guR (lsv d S1).isSome ((ev P C a b σ S1).bind fun e S2 => (fix e S2).bind fun e' S3 => opM1 f b d e' S3) := by (conv => lhs; unfold ev) <;> rfl
/-! ### cuts, effects -/
theorem okS_cut {a c : X} (N : Sg → GH → Prop) (h1 : okS (evS P C a b σ S) { k with n := N }) (h2 : ∀ σ S, N σ S → okS (evS P C c b σ S) k) : okS (evS P C (.seq a c) b σ S) k := by
  rw [evS_seq, okS_seqR]
  exact okS_mono h1 (fun σ S h => h2 σ S h) (fun _ _ h => h) (fun _ _ h => h) (fun _ _ h => h) (fun _ _ _ h => h)
theorem compLoop_inv {α : Type} {E : Nat → D → GH → Prop} {enc : α → D} {f : D → GH → R (Option D)} {I : List α → List D → GH → Prop} (hs : ∀ x xs acc S, I (x :: xs) acc S → okR (f (enc x) S) (fun o S' => I xs (acc ++ o.toList) S') E) :
    ∀ (xs : List α) (acc : List D) (S : GH), I xs acc S → okR (compLoop f (xs.map enc) S) (fun r S' => I [] (acc ++ r) S') E
  | [], acc, S, h => by
    show I [] (acc ++ []) S
    rw [List.append_nil]
    exact h
  | x :: xs, acc, S, h => by
    show okR (compLoop f (enc x :: xs.map enc) S) _ _
    rw [compLoop_cons, okR_bind]
    refine okR_mono (hs x xs acc S h) (fun o S' h' => ?_) fun _ _ _ h => h
    rw [okR_bind]
    refine okR_mono (compLoop_inv hs xs (acc ++ o.toList) S' h') (fun r S2 h2 => ?_) fun _ _ _ h => h
    cases o with
    | none => simpa using h2
    | some v => simpa [List.append_assoc] using h2
/-- a comprehension with effects over a list that a name holds -/
theorem comp_inv {α : Type} {enc : α → D} {e tg it cond : X} {own : List Nat} {lk : List D} {I : List α → List D → GH → Prop} {Q : D → GH → Prop} {E : Nat → D → GH → Prop} {S1 : GH} (xs : List α) (hit : ev P C it b σ S = .ok (itD (xs.map enc) lk) S1) (hl : xs.length ≤ 16777216) (h0 : I xs [] (lock lk S1))
    (hs : ∀ x xs acc S, I (x :: xs) acc S → okR (compF P C e tg cond own b σ (enc x) S) (fun o S' => I xs (acc ++ o.toList) S') no3) (he : ∀ r S, I [] r S → Q (.tl r) (unlock lk S1 S)) : okR (ev P C (.comp e tg it cond own) b σ S) Q E := by
  rw [ev_compU, hit, R.bind_ok, compR_it, if_neg (by rw [List.length_map]; exact Nat.not_lt.mpr hl), okR_unlR]
  exact okR_mono (compLoop_inv hs xs [] _ h0) (fun r S' h => he r S' h) fun _ _ _ h => h.elim
@[simp] theorem okR_drop_bind {Q : D → GH → Prop} {E : Nat → D → GH → Prop} {α : Type} (m : Nat) (r : R α) (f : α → GH → R D) : okR (drop m (r.bind f)) Q E ↔ okR r (fun d S => okR (drop m (f d S)) Q E) (fun c d S => okR (drop m (.exc c d S)) Q E) := by cases r <;> exact Iff.rfl
@[simp] theorem okR_drop_asTup {Q : D → GH → Prop} {E : Nat → D → GH → Prop} (m : Nat) (r : R D) (f : List D → GH → R D) : okR (drop m (asTup r f)) Q E ↔ okR r (fun d S => okR (drop m (tupR f d S)) Q E) (fun c d S => okR (drop m (.exc c d S)) Q E) := by cases r <;> exact Iff.rfl
end Ev
set_option Elab.async false
set_option linter.all false
set_option maxRecDepth 100000
set_option maxHeartbeats 4000000
/-! WvA: lists by value: an evaluator whose names hold lists themselves. -/
namespace Ev
open PySem
mutual
/-- plain data: no list, no object within -/
def pl : D → Bool
  | .non => true
  | .bl _ => true
  | .int _ => true
  | .str _ => true
  | .tup xs => plA xs
  | .tl _ => false
  | .fl xs => plA xs
  | .ref _ => false
  | .bw _ => false
  | .dv _ _ => false
  | .sv _ => false
def plA : List D → Bool
  | [] => true
  | x :: xs => pl x && plA xs
end
/-- at the top no list, no object -/
def nb : D → Bool
  | .non => true
  | .bl _ => true
  | .int _ => true
  | .str _ => true
  | .tup _ => true
  | .fl _ => true
  | _ => false
def frzV (d : D) (δ : GH) : R D := match d with
  | .tl xs => .ok (.fl xs) δ
  | d => if nb d then .ok d δ else .bad
/-- a list that a name holds, read -/
def lf : D → D
  | .bw xs => .tl xs
  | d => d
def lr : D → D
  | .bw _ => .ref 0
  | d => d
/-- handed on to a call -/
def bo : D → D
  | .tl xs => .bw xs
  | d => d
def rd1 : Option D → Option D
  | some (.tl xs) => some (.bw xs)
  | o => o
def rd (ρ : Sg) : Sg := ρ.map rd1
def opBinV (op : BOp) (d e : D) (δ : GH) : R D := match op with
  | .add => opBin .add (lf d) (lf e) δ
  | op => opBin op d e δ
def opCmpV (op : COp) (d e : D) (δ : GH) : R D := match op with
  | .eq => opCmp .eq (lf d) (lf e) δ
  | .ne => opCmp .ne (lf d) (lf e) δ
  | .in_ => opCmp .in_ d (lf e) δ
  | .nin => opCmp .nin d (lf e) δ
  | op => opCmp op d e δ
def dropV (r : R D) : R D := match r with
  | .ok d δ => if cl d then .ok d δ else .bad
  | .exc c d δ => if cl d then .exc c d δ else .bad
  | .bad => .bad
def globR (o : Option D) (δ : GH) : R D := match o with
  | some d => if pl d then .ok d δ else .bad
  | none => .bad
def varR (o : Option (Option D)) (δ : GH) : R D := match o with
  | some (some d) => .ok d δ
  | _ => .bad
def nbR (d : D) (r : R D) : R D := if nb d then r else .bad
def isBw : D → Bool
  | .bw _ => true
  | _ => false
def isVr : X → Bool
  | .var _ => true
  | _ => false
def seqI (vb : Bool) (d : D) (δ : GH) : Option (List D) := if isRef d || (isBw d && !vb) then none else seqv (lf d) δ
def optL (o : Option (List D)) (δ : GH) : R (List D) := match o with
  | some xs => .ok xs δ
  | none => .bad
def enumD (xs : List D) : List D := xs.zipIdx.map fun p => .tup [.int p.2, p.1]
def zipD (xs ys : List D) : List D := (xs.zip ys).map fun p => .tup [p.1, p.2]
def zipO (a b : Option (List D)) (δ : GH) : R (List D) := match a, b with
  | some xs, some ys => .ok (zipD xs ys) δ
  | _, _ => .bad
def nbO (v : D) (δ : GH) : R (Option D) := if nb v then .ok (some v) δ else .bad
def scolR (j : Nat) (tg : X) (τ0 : Sg) (o : Option (List D)) (δ : GH) : R D := match o with
  | some items => if items.length > 1000 then .bad else (match scol j tg τ0 items with
    | some xs => .ok (.sv xs) δ
    | none => .bad)
  | none => .bad
abbrev CV := Nat → List D → GH → R D
mutual
/-- expressions: the names hold values -/
def vv (P : Pr) (C : CV) : X → Sg → GH → R D
  | .var i, τ, δ => varR τ[i]? δ
  | .cint i, _, δ => .ok (.int i) δ
  | .cstr s, _, δ => .ok (.str s) δ
  | .cbl t, _, δ => .ok (.bl t) δ
  | .cnon, _, δ => .ok .non δ
  | .glob k, _, δ => globR P.cs[k]? δ
  | .bin op a c, τ, δ => (vv P C a τ δ).bind fun d δ1 => (vv P C c τ δ1).bind fun e δ2 => opBinV op d e δ2
  | .neg a, τ, δ => (vv P C a τ δ).bind negR
  | .not a, τ, δ => (vv P C a τ δ).bind notR
  | .and a c, τ, δ => (vv P C a τ δ).bind fun d δ1 => brR (blD d) (vv P C c τ δ1) (.ok (.bl false) δ1)
  | .or a c, τ, δ => (vv P C a τ δ).bind fun d δ1 => brR (blD d) (.ok (.bl true) δ1) (vv P C c τ δ1)
  | .cmp op a c, τ, δ => (vv P C a τ δ).bind fun d δ1 => (vv P C c τ δ1).bind fun e δ2 => opCmpV op d e δ2
  | .chain op op' a c e, τ, δ => (vv P C a τ δ).bind fun d δ1 => (vv P C c τ δ1).bind fun d' δ2 => (opCmpV op d d' δ2).bind fun k δ3 => brR (blD k) ((vv P C e τ δ3).bind fun d'' δ4 => opCmpV op' d' d'' δ4) (.ok (.bl false) δ3)
  | .ite t a c, τ, δ => (vv P C t τ δ).bind fun d δ1 => brR (truth (lf d) δ1) (vv P C a τ δ1) (vv P C c τ δ1)
  | .tup as, τ, δ => (vvA P C as τ δ).bind fun ds δ1 => if ds.all nb then .ok (.tup ds) δ1 else .bad
  | .lst as, τ, δ => (vvA P C as τ δ).bind fun ds δ1 => if ds.all nb then .ok (.tl ds) δ1 else .bad
  | .idx a i, τ, δ => (vv P C a τ δ).bind fun d δ1 => (vv P C i τ δ1).bind fun e δ2 => opIdx (lf d) e δ2
  | .slc a lo hi, τ, δ => (vv P C a τ δ).bind fun d δ1 => (vv P C lo τ δ1).bind fun l δ2 => slcR d (partX lo l) fun i => (vv P C hi τ δ2).bind fun h δ3 => slcR d (partX hi h) fun j => opSl (lf d) i j δ3
  | .rev a, τ, δ => (vv P C a τ δ).bind fun d δ1 => opRev (lf d) δ1
  | .call j as, τ, δ => if P.keepOf j then .bad else dropV ((vvA P C as τ δ).bind fun ds δ1 => C j ds δ1)
  | .callk j p as, τ, δ => dropV ((vvA P C as τ δ).bind fun ds δ1 => perR (permD p ds) fun ds' => C j ds' δ1)
  | .b1 f a, τ, δ => (vv P C a τ δ).bind fun d δ1 => opB1 f (lf d) δ1
  | .mx a c, τ, δ => (vv P C a τ δ).bind fun d δ1 => (vv P C c τ δ1).bind fun e δ2 => mxR d e δ2
  | .mn a c, τ, δ => (vv P C a τ δ).bind fun d δ1 => (vv P C c τ δ1).bind fun e δ2 => mnR d e δ2
  | .isi t a, τ, δ => (vv P C a τ δ).bind fun d δ1 => optR (isTy t (lr d)) δ1
  | .lrng as, τ, δ => (vvA P C as τ δ).bind fun ds δ1 => (optL (opRng ds) δ1).bind fun xs δ2 => .ok (.tl xs) δ2
  | .comp e tg it cond own, τ, δ => (vvI P C it τ δ).bind fun items δ1 => if items.length > lim then .bad else
    (compLoop (fun d δ2 => bnd (bindT tg d (wipeS τ own)) fun τ' => (vv P C cond τ' δ2).bind fun k δ3 => brR (truth (lf k) δ3) ((vv P C e τ' δ3).bind fun v δ4 => nbO v δ4) (.ok none δ3)) items δ1).bind fun r δ2 => .ok (.tl r) δ2
  | .frz a, τ, δ => (vv P C a τ δ).bind fun d δ1 => frzV d δ1
  | .scomp j tg a own, τ, δ => (vv P C a τ δ).bind fun d δ1 => scolR j tg (wipeS τ own) (seqv (lf d) δ1) δ1
  | .thunk k e, τ, δ => thunkR (P.th[k]?) (dropV (vv P C e τ δ))
  | _, _, _ => .bad
/-- arguments -/
def vvA (P : Pr) (C : CV) : X → Sg → GH → R (List D)
  | .nil, _, δ => .ok [] δ
  | .cons a as, τ, δ => (vv P C a τ δ).bind fun d δ1 => (vvA P C as τ δ1).bind fun ds δ2 => .ok (bo d :: ds) δ2
  | _, _, _ => .bad
/-- what is walked -/
def vvI (P : Pr) (C : CV) : X → Sg → GH → R (List D)
  | .iseq e, τ, δ => (vv P C e τ δ).bind fun d δ1 => optL (seqI (isVr e) d δ1) δ1
  | .irng as, τ, δ => (vvA P C as τ δ).bind fun ds δ1 => optL (opRng ds) δ1
  | .ienum e, τ, δ => (vv P C e τ δ).bind fun d δ1 => (optL (seqI (isVr e) d δ1) δ1).bind fun xs δ2 => .ok (enumD xs) δ2
  | .izip a c, τ, δ => (vv P C a τ δ).bind fun d δ1 => (vv P C c τ δ1).bind fun e δ2 => zipO (seqI (isVr a) d δ2) (seqI (isVr c) e δ2) δ2
  | _, _, _ => .bad
end
/-! ### statements -/
def tlv : Option (Option D) → Option (List D)
  | some (some (.tl xs)) => some xs
  | _ => none
def lmeth (f : M1) (xs : List D) (a : D) (δ : GH) : Option (D × List D) := match f with
  | .append => if xs.length < lim && nb a then some (.non, xs ++ [a]) else none
  | .extend => (lsw (lf a) δ).bind fun ys => if xs.length + ys.length ≤ lim && ys.all cl && !isRef a then some (.non, xs ++ ys) else none
  | .remove => match a with
    | .int k => (intsD xs).bind fun ns => (ns.idxOf? k).map fun j => (.non, xs.eraseIdx j)
    | _ => none
  | .popat => match a with
    | .int i => (L2.ixN xs.length i).bind fun j => xs[j]?.map fun v => (v, xs.eraseIdx j)
    | _ => none
  | .index => none
def popR (o : Option (List D)) (j : Nat) (ρ : Sg) (δ : GH) : R (D × Sg) := match o with
  | some xs => (match xs.getLast? with
    | some v => .ok (v, ρ.set j (some (.tl xs.dropLast))) δ
    | none => .bad)
  | none => .bad
def methR (o : Option (D × List D)) (j : Nat) (ρ : Sg) (δ : GH) : R (D × Sg) := match o with
  | some p => .ok (p.1, ρ.set j (some (.tl p.2))) δ
  | none => .bad
def guO {α β : Type} (o : Option α) (r : R β) : R β := match o with
  | some _ => r
  | none => .bad
/-- an expression whose method may change a name's list -/
def vvM (P : Pr) (C : CV) : X → Sg → GH → R (D × Sg)
  | .m0 .pop (.var j), ρ, δ => popR (tlv ρ[j]?) j ρ δ
  | .m1 f (.var j) a, ρ, δ => guO (tlv ρ[j]?) ((vvM P C a ρ δ).bind fun p δ1 => methR ((tlv p.2[j]?).bind fun xs => lmeth f xs p.1 δ1) j p.2 δ1)
  | x, ρ, δ => (vv P C x (rd ρ) δ).bind fun d δ1 => .ok (d, ρ) δ1
def movR (j : Nat) (ρ : Sg) (δ : GH) : R (D × Sg) := match ρ[j]? with
  | some (some (.tl xs)) => .ok (.tl xs, ρ.set j none) δ
  | some (some d) => .ok (d, ρ) δ
  | _ => .bad
/-- the same where a name's list is handed over -/
def vvR (P : Pr) (C : CV) : X → Sg → GH → R (D × Sg)
  | .var j, ρ, δ => movR j ρ δ
  | x, ρ, δ => vvM P C x ρ δ
def store (tg : X) (d : D) (ρ : Sg) : Option Sg := if isBw d then none else bindT tg d ρ
def raiV (c : Nat) (d : D) (δ : GH) : RS := if nb d then raiR c d δ else .bad
def mk1 : Option D → Option D → Option D
  | none, _ => none
  | some _, o => o
def mk (ρ0 ρ : Sg) : Sg := List.zipWith mk1 ρ0 ρ
def forV (m : Sg → Sg) (f : D → Sg → GH → RS) : List D → Sg → GH → RS
  | [], ρ, δ => .nxt ρ δ
  | d :: ds, ρ, δ => match f d ρ δ with
    | .nxt ρ' δ' => forV m f ds (m ρ') δ'
    | .cnt ρ' δ' => forV m f ds (m ρ') δ'
    | .brk ρ' δ' => .nxt (m ρ') δ'
    | r => r
def whV (m : Sg → Sg) (t : Sg → GH → R D) (f : Sg → GH → RS) : Nat → Sg → GH → RS
  | 0, _, _ => .bad
  | n + 1, ρ, δ => RS.of (t ρ δ) fun k δ1 => match truth (lf k) δ1 with
    | some true => (match f ρ δ1 with
      | .nxt ρ' δ' => whV m t f n (m ρ') δ'
      | .cnt ρ' δ' => whV m t f n (m ρ') δ'
      | .brk ρ' δ' => .nxt (m ρ') δ'
      | r => r)
    | some false => .nxt ρ δ1
    | none => .bad
def lkX : X → List Nat
  | .var i => [i]
  | _ => []
def lkI : X → List Nat
  | .iseq e => lkX e
  | .ienum e => lkX e
  | .izip a c => lkX a ++ lkX c
  | _ => []
def frz1 (j : Nat) (ρ : Sg) : Sg := match ρ[j]? with
  | some (some (.tl xs)) => ρ.set j (some (.bw xs))
  | _ => ρ
def frz (l : List Nat) (ρ : Sg) : Sg := l.foldl (fun ρ j => frz1 j ρ) ρ
def thw1 (ρ0 : Sg) (j : Nat) (ρ : Sg) : Sg := match ρ0[j]?, ρ[j]? with
  | some (some (.tl _)), some (some (.bw xs)) => ρ.set j (some (.tl xs))
  | _, _ => ρ
def thw (ρ0 : Sg) (l : List Nat) (ρ : Sg) : Sg := l.foldl (fun ρ j => thw1 ρ0 j ρ) ρ
def RS.mapG (r : RS) (f : Sg → Sg) : RS := match r with
  | .nxt ρ δ => .nxt (f ρ) δ
  | .ret d δ => .ret d δ
  | .exc c d δ => .exc c d δ
  | _ => .bad
def turnV (P : Pr) (C : CV) (tg : X) (g : Sg → GH → RS) (d : D) (ρ : Sg) (δ : GH) : RS := bndS (bindT tg d ρ) fun ρ2 => g ρ2 δ
def setV (j : Nat) (k v : D) (ρ : Sg) (δ : GH) : RS := match ρ[j]?, k with
  | some (some (.tl xs)), .int n => if nb v then (match L2.ixN xs.length n with
    | some i => .nxt (ρ.set j (some (.tl (xs.set i v)))) δ
    | none => .bad) else .bad
  | some (some (.ref r)), .int n => if nb v && cl v then (match δ[r]? with
    | some (.lst xs) => (match L2.ixN xs.length n with
      | some i => .nxt ρ (δ.set r (.lst (xs.set i v)))
      | none => .bad)
    | _ => .bad) else .bad
  | _, _ => .bad
def isV : X → Option Nat
  | .var j => some j
  | _ => none
def vvS (P : Pr) (C : CV) : X → Sg → GH → RS
  | .skip, ρ, δ => .nxt ρ δ
  | .seq a c, ρ, δ => seqR (vvS P C a ρ δ) fun ρ' δ' => vvS P C c ρ' δ'
  | .asg tg e, ρ, δ => RS.of (vvR P C e ρ δ) fun p δ1 => optS (store tg p.1 p.2) δ1
  | .aug i op e, ρ, δ => RS.of (varR ρ[i]? δ) fun d _ => RS.of (vv P C e (rd ρ) δ) fun v δ1 => augR op i ρ d v δ1
  | .expr e, ρ, δ => RS.of (vvM P C e ρ δ) fun p δ1 => .nxt p.2 δ1
  | .ret e, ρ, δ => RS.of (vvR P C e ρ δ) fun p δ1 => .ret p.1 δ1
  | .retn, _, δ => .ret .non δ
  | .ifs t a c, ρ, δ => RS.of (vv P C t (rd ρ) δ) fun d δ1 => brS (truth (lf d) δ1) (vvS P C a ρ δ1) (vvS P C c ρ δ1)
  | .whl sc t body, ρ, δ => if sc then .bad else whV (mk ρ) (fun ρ' δ' => vv P C t (rd ρ') δ') (fun ρ' δ' => vvS P C body ρ' δ') P.w ρ δ
  | .forr sc tg it body, ρ, δ => if sc then .bad else RS.of (vvI P C it (rd ρ) δ) fun xs δ1 => (forV (mk (frz (lkI it) ρ)) (turnV P C tg fun ρ' δ' => vvS P C body ρ' δ') xs (frz (lkI it) ρ) δ1).mapG (thw ρ (lkI it))
  | .brk, ρ, δ => .brk ρ δ
  | .cnt, ρ, δ => .cnt ρ δ
  | .rais c e, ρ, δ => RS.of (vv P C e (rd ρ) δ) fun d δ1 => raiV c d δ1
  | .sset o i e, ρ, δ => match isV o with
    | some j => RS.of (vvM P C e ρ δ) fun p δ1 => RS.of (nbR p.1 (varR p.2[j]? δ1)) fun _ _ => RS.of (vvM P C i p.2 δ1) fun q δ2 => setV j q.1 p.1 q.2 δ2
    | none => .bad
  | _, _, _ => .bad
/-- a call of the def j: n calls deep at most -/
def callV (P : Pr) : Nat → CV
  | 0 => fun _ _ _ => .bad
  | n + 1 => fun j ds δ => match P.fns[j]? with
    | some f => if ds.length = f.ar then (vvS P (callV P n) f.body (ds.map some ++ List.replicate (f.sl - f.ar) none) δ).toR else .bad
    | none => .bad
end Ev
set_option Elab.async false
set_option linter.all false
set_option maxRecDepth 100000
set_option maxHeartbeats 4000000
/-! WvB: values against objects: what an operation gives is the same. -/
namespace Ev
open PySem
/-- a shared object's place -/
def Img (π : Nat → Nat) (n m : Nat) : Prop := ∃ k, k < n ∧ π k = m
def HV (π : Nat → Nat) (n : Nat) (S : GH) (v d : D) : Prop := match v with
  | .tl xs => plA xs = true ∧ d = .tl xs
  | .fl xs => plA xs = true ∧ d = .fl xs
  | .sv xs => plA xs = true ∧ d = .sv xs
  | .bw xs => plA xs = true ∧ ∃ m, d = .ref m ∧ ¬ Img π n m ∧ (S[m]? = some (.lst xs) ∨ S[m]? = some (.llk xs))
  | .ref k => k < n ∧ d = .ref (π k)
  | v => pl v = true ∧ d = v
def plO : GO → Bool
  | .lst xs => plA xs
  | _ => false
structure Sh (π : Nat → Nat) (n : Nat) (δ S : GH) : Prop where
  len : δ.length = n
  at_ : ∀ k o, δ[k]? = some o → S[π k]? = some o ∧ plO o = true
  inj : ∀ k l, k < n → l < n → π k = π l → k = l
structure RelE (π : Nat → Nat) (n : Nat) (τ : Sg) (δ : GH) (σ : Sg) (S : GH) : Prop where
  sh : Sh π n δ S
  sl : ∀ (i : Nat) (v : D), τ[i]? = some (some v) → ∃ d, σ[i]? = some (some d) ∧ HV π n S v d
def Fr (π : Nat → Nat) (n : Nat) (S S' : GH) : Prop := S.length ≤ S'.length ∧ ∀ m o, S[m]? = some o → ¬ Img π n m → S'[m]? = some o
variable {π : Nat → Nat} {n : Nat} {S S1 S' T : GH} {δ δ1 δ' : GH} {τ σ : Sg} {v w d e : D}
theorem Fr.refl (S : GH) : Fr π n S S := ⟨Nat.le_refl _, fun _ _ h _ => h⟩
theorem Fr.trans (h : Fr π n S S1) (k : Fr π n S1 S') : Fr π n S S' := ⟨Nat.le_trans h.1 k.1, fun m o e i => k.2 m o (h.2 m o e i) i⟩
theorem Fr.app (S T : GH) : Fr π n S (S ++ T) := ⟨by rw [List.length_append]; omega, fun m o e _ => by rw [List.getElem?_append_left (List.getElem?_eq_some_iff.mp e).1]; exact e⟩
theorem HV.step (h : HV π n S v d) (f : Fr π n S S') : HV π n S' v d := by
  cases v <;> try exact h
  obtain ⟨h1, m, h2, h3, h4⟩ := h
  exact ⟨h1, m, h2, h3, h4.imp (fun e => f.2 m _ e h3) (fun e => f.2 m _ e h3)⟩
theorem RelE.step (h : RelE π n τ δ σ S) (k : Sh π n δ1 S1) (f : Fr π n S S1) : RelE π n τ δ1 σ S1 := ⟨k, fun i v e => let ⟨d, h1, h2⟩ := h.sl i v e; ⟨d, h1, h2.step f⟩⟩
theorem HV.of (h : pl v = true) : HV π n S v v := by
  cases v <;> first | exact ⟨h, rfl⟩ | (simp [pl] at h; done)
theorem HV.eq (h : HV π n S v d) (k : pl v = true) : d = v := by
  cases v <;> first | exact h.2 | (simp [pl] at k; done)
theorem HV.plN (h : HV π n S v d) (k : nb v = true) : pl v = true := by
  cases v <;> first | exact h.1 | (simp [nb] at k; done)
theorem HV.eqN (h : HV π n S v d) (k : nb v = true) : d = v := h.eq (h.plN k)
theorem plA_all {xs : List D} : plA xs = true ↔ ∀ x ∈ xs, pl x = true := by
  induction xs with
  | nil => simp [plA]
  | cons x xs ih => simp [plA, ih]
theorem plA_sub {xs ys : List D} (h : plA xs = true) (k : ∀ y ∈ ys, y ∈ xs) : plA ys = true := plA_all.mpr fun y hy => plA_all.mp h y (k y hy)
theorem plA_app {xs ys : List D} (h : plA xs = true) (k : plA ys = true) : plA (xs ++ ys) = true := plA_all.mpr fun y hy => (List.mem_append.mp hy).elim (plA_all.mp h y) (plA_all.mp k y)
theorem nb_pl (h : pl v = true) : nb v = true := by cases v <;> first | rfl | (simp [pl] at h; done)
/-- results -/
def SimR {α β : Type} (π : Nat → Nat) (n : Nat) (H : GH → α → β → Prop) (S : GH) (r : R α) (r' : R β) : Prop := match r with
  | .ok v δ' => ∃ d S', r' = .ok d S' ∧ H S' v d ∧ Sh π n δ' S' ∧ Fr π n S S'
  | .exc c v δ' => ∃ S', r' = .exc c v S' ∧ pl v = true ∧ Sh π n δ' S' ∧ Fr π n S S'
  | .bad => True
section
variable {α β γ ε : Type} {H1 : GH → α → β → Prop} {H2 : GH → γ → ε → Prop}
theorem SimR.bad {r' : R β} : SimR π n H1 S (.bad : R α) r' := trivial
theorem SimR.ok {a : α} {b : β} (h : H1 S a b) (s : Sh π n δ S) : SimR π n H1 S (.ok a δ) (.ok b S) := ⟨b, S, rfl, h, s, .refl _⟩
theorem SimR.from {r : R α} {r' : R β} (h : SimR π n H1 S1 r r') (f : Fr π n S S1) : SimR π n H1 S r r' := by
  cases r with
  | ok v δ => obtain ⟨d, S2, e, a, b, c⟩ := h; exact ⟨d, S2, e, a, b, f.trans c⟩
  | exc c v δ => obtain ⟨S2, e, a, b, q⟩ := h; exact ⟨S2, e, a, b, f.trans q⟩
  | bad => trivial
theorem SimR.bind {r : R α} {r' : R β} {f : α → GH → R γ} {g : β → GH → R ε} (h : SimR π n H1 S r r') (k : ∀ v d δ1 S1, H1 S1 v d → Sh π n δ1 S1 → Fr π n S S1 → SimR π n H2 S1 (f v δ1) (g d S1)) : SimR π n H2 S (r.bind f) (r'.bind g) := by
  cases r with
  | ok v δ =>
    obtain ⟨d, S2, rfl, a, b, c⟩ := h
    exact (k v d δ S2 a b c).from c
  | exc c v δ => obtain ⟨S2, rfl, a, b, q⟩ := h; exact ⟨S2, rfl, a, b, q⟩
  | bad => trivial
theorem SimR.imp {H3 : GH → α → β → Prop} {r : R α} {r' : R β} (h : SimR π n H1 S r r') (k : ∀ S' v d, H1 S' v d → H3 S' v d) : SimR π n H3 S r r' := by
  cases r with
  | ok v δ => obtain ⟨d, S2, e, a, b, c⟩ := h; exact ⟨d, S2, e, k _ _ _ a, b, c⟩
  | exc c v δ => exact h
  | bad => trivial
end
abbrev SimD (π : Nat → Nat) (n : Nat) (S : GH) (r r' : R D) : Prop := SimR π n (HV π n) S r r'
/-! ### sequences -/
theorem Sh.lst (h : Sh π n δ S) {k : Nat} {xs : List D} (e : δ[k]? = some (.lst xs)) : S[π k]? = some (.lst xs) ∧ plA xs = true := h.at_ k _ e
theorem Sh.some (h : Sh π n δ S) {k : Nat} {o : GO} (e : δ[k]? = some o) : ∃ xs, o = .lst xs := by
  have := (h.at_ k o e).2
  cases o with
  | lst xs => exact ⟨xs, rfl⟩
  | _ => cases this
theorem lsv_ref {m : Nat} {xs : List D} (h : S[m]? = some (.lst xs) ∨ S[m]? = some (.llk xs)) : lsv (.ref m) S = some xs := by
  unfold lsv; dsimp only; rcases h with h | h <;> rw [h]
theorem lsw_ref {m : Nat} {xs : List D} (h : S[m]? = some (.lst xs) ∨ S[m]? = some (.llk xs)) : lsw (.ref m) S = some xs := by
  unfold lsw; dsimp only; rcases h with h | h <;> rw [h]
theorem res_ref {m : Nat} {xs : List D} (h : S[m]? = some (.lst xs) ∨ S[m]? = some (.llk xs)) : res (.ref m) S = .tl xs := by
  unfold res; dsimp only; rcases h with h | h <;> rw [h]
theorem sim_lsv (h : HV π n S v d) (s : Sh π n δ S) {xs : List D} (e : lsv (lf v) δ = some xs) : lsv d S = some xs ∧ plA xs = true := by
  cases v with
  | tl ys => obtain ⟨h1, rfl⟩ := h; cases e; exact ⟨rfl, h1⟩
  | fl ys => obtain ⟨h1, rfl⟩ := h; cases e; exact ⟨rfl, h1⟩
  | bw ys => obtain ⟨h1, m, rfl, _, h4⟩ := h; cases e; exact ⟨lsv_ref h4, h1⟩
  | ref k =>
    obtain ⟨h1, rfl⟩ := h
    have e' : lsv (.ref k) δ = some xs := e
    unfold lsv at e'
    dsimp only at e'
    cases q : δ[k]? with
    | none => rw [q] at e'; cases e'
    | some o =>
      obtain ⟨ys, rfl⟩ := s.some q
      rw [q] at e'
      cases e'
      obtain ⟨a, b⟩ := s.lst q
      exact ⟨lsv_ref (.inl a), b⟩
  | _ => cases e
theorem sim_lsw (h : HV π n S v d) (s : Sh π n δ S) {xs : List D} (e : lsw (lf v) δ = some xs) : lsw d S = some xs ∧ plA xs = true := by
  cases v with
  | tl ys => obtain ⟨h1, rfl⟩ := h; cases e; exact ⟨rfl, h1⟩
  | bw ys => obtain ⟨h1, m, rfl, _, h4⟩ := h; cases e; exact ⟨lsw_ref h4, h1⟩
  | ref k =>
    obtain ⟨h1, rfl⟩ := h
    have e' : lsw (.ref k) δ = some xs := e
    unfold lsw at e'
    dsimp only at e'
    cases q : δ[k]? with
    | none => rw [q] at e'; cases e'
    | some o =>
      obtain ⟨ys, rfl⟩ := s.some q
      rw [q] at e'
      cases e'
      obtain ⟨a, b⟩ := s.lst q
      exact ⟨lsw_ref (.inl a), b⟩
  | _ => cases e
theorem HV.tup {ds : List D} (h : HV π n S (.tup ds) d) : d = .tup ds ∧ plA ds = true := ⟨h.2, by have := h.1; rwa [pl] at this⟩
theorem sim_seqv (h : HV π n S v d) (s : Sh π n δ S) {xs : List D} (e : seqv (lf v) δ = some xs) : seqv d S = some xs ∧ plA xs = true := by
  cases v with
  | tup ys => obtain ⟨rfl, h1⟩ := h.tup; cases e; exact ⟨rfl, h1⟩
  | tl ys => obtain ⟨h1, rfl⟩ := h; cases e; exact ⟨rfl, h1⟩
  | fl ys => obtain ⟨h1, rfl⟩ := h; cases e; exact ⟨rfl, h1⟩
  | bw ys => obtain ⟨h1, m, rfl, _, h4⟩ := h; cases e; exact ⟨lsv_ref h4, h1⟩
  | ref k => obtain ⟨h1, rfl⟩ := h; exact sim_lsv (v := .ref k) ⟨h1, rfl⟩ s e
  | _ => cases e
/-- clean data is the same -/
theorem HV.cl (h : HV π n S v d) (k : cl v = true) : d = v := by
  cases v <;> first | exact h.2 | (simp at k; done) | (simp [ck] at k; done)
theorem sim_res (h : HV π n S v d) (s : Sh π n δ S) (k : Ev.cl (res (lf v) δ) = true) : res d S = res (lf v) δ := by
  cases v with
  | bw ys => obtain ⟨h1, m, rfl, _, h4⟩ := h; exact res_ref h4
  | ref i =>
    obtain ⟨h1, rfl⟩ := h
    have k' : Ev.cl (res (.ref i) δ) = true := k
    cases q : δ[i]? with
    | none => unfold res at k'; dsimp only at k'; rw [q] at k'; simp at k'
    | some o =>
      obtain ⟨ys, rfl⟩ := s.some q
      obtain ⟨a, b⟩ := s.lst q
      rw [res_ref (.inl a)]
      exact (res_ref (.inl q)).symm
  | tl ys => obtain ⟨h1, rfl⟩ := h; rfl
  | fl ys => obtain ⟨h1, rfl⟩ := h; rfl
  | non => obtain ⟨h1, rfl⟩ := h; rfl
  | bl _ => obtain ⟨h1, rfl⟩ := h; rfl
  | int _ => obtain ⟨h1, rfl⟩ := h; rfl
  | str _ => obtain ⟨h1, rfl⟩ := h; rfl
  | tup _ => obtain ⟨h1, rfl⟩ := h; rfl
  | dv _ _ => simp [lf, res, ck] at k
  | sv _ => simp [lf, res, ck] at k
theorem HV.int {i : Int} (h : HV π n S (.int i) d) : d = .int i := h.2
theorem HV.isInt {i : Int} (h : HV π n S v (.int i)) : v = .int i := by
  cases v with
  | int j => exact h.2.symm
  | bw ys => obtain ⟨_, m, q, _⟩ := h; cases q
  | _ => cases h.2
/-- a result that is plain and the same -/
theorem sim_same {r : R D} {r' : R D} (s : Sh π n δ S) (h : ∀ u δ', r = .ok u δ' → δ' = δ ∧ HV π n S u u ∧ r' = .ok u S) (k : ∀ c u δ', r ≠ .exc c u δ') : SimD π n S r r' := by
  cases r with
  | ok u δ' => obtain ⟨rfl, h2, rfl⟩ := h u δ' rfl; exact .ok h2 s
  | exc c u δ' => exact absurd rfl (k c u δ')
  | bad => trivial
end Ev
set_option Elab.async false
set_option linter.all false
set_option maxRecDepth 100000
set_option maxHeartbeats 4000000
/-! WvC: the operations. -/
namespace Ev
open PySem
variable {π : Nat → Nat} {n : Nat} {S S1 S' T : GH} {δ δ1 δ' : GH} {τ σ : Sg} {v w d e : D}
theorem sim_op {r r' : R D} (s : Sh π n δ S) (sm : Same δ r) (h : ∀ u, r = .ok u δ → HV π n S u u ∧ r' = .ok u S) : SimD π n S r r' := by
  cases r with
  | ok u δ' =>
    obtain rfl : δ' = δ := sm
    obtain ⟨h1, rfl⟩ := h u rfl
    exact .ok h1 s
  | exc c u δ' => exact sm.elim
  | bad => trivial
theorem opBin_addL {xs ys : List D} (h : lsw d S = some xs) (k : lsw e S = some ys) : opBin .add d e S = if xs.length + ys.length ≤ lim then .ok (.tl (xs ++ ys)) S else .bad := by
  unfold opBin
  cases d <;> first | (cases h; done) | (dsimp only; rw [h, k])
theorem lsw_lf {xs : List D} (h : lf v = .tup xs) : v = .tup xs := by cases v <;> first | exact h | (cases h; done)
theorem lf_int {i : Int} (h : lf v = .int i) : v = .int i := by cases v <;> first | exact h | (cases h; done)
theorem lf_tl_nbw {xs : List D} (h : lf v = .tl xs) : v = .tl xs ∨ v = .bw xs := by cases v <;> first | exact .inl h | (cases h; done) | (cases h; exact .inr rfl)
theorem HVi (i : Int) : HV π n S (.int i) (.int i) := ⟨rfl, rfl⟩
theorem HVb (i : Bool) : HV π n S (.bl i) (.bl i) := ⟨rfl, rfl⟩
theorem HVt {xs : List D} (h : plA xs = true) : HV π n S (.tup xs) (.tup xs) := ⟨by rw [pl]; exact h, rfl⟩
theorem HVl {xs : List D} (h : plA xs = true) : HV π n S (.tl xs) (.tl xs) := ⟨h, rfl⟩
theorem sim_bin (op : BOp) (hv : HV π n S v d) (hw : HV π n S w e) (s : Sh π n δ S) : SimD π n S (opBinV op v w δ) (opBin op d e S) := by
  have iz : ∀ (op : BOp), (∀ a b T, opBin op a b T = .bad ∨ ∃ i j, a = .int i ∧ b = .int j) → (∀ i j T u, opBin op (.int i) (.int j) T = .ok u T → (∃ k, u = .int k) ∧ ∀ T', opBin op (.int i) (.int j) T' = .ok u T') → SimD π n S (opBin op v w δ) (opBin op d e S) := fun op h1 h2 => by
    refine sim_op s (same_bin op v w) fun u hu => ?_
    rcases h1 v w δ with q | ⟨i, j, rfl, rfl⟩
    · rw [q] at hu; cases hu
    · obtain ⟨⟨k, rfl⟩, q⟩ := h2 i j δ u hu
      rw [hv.int, hw.int, q S]
      exact ⟨HVi k, rfl⟩
  cases op with
  | add =>
    refine sim_op s (same_bin .add (lf v) (lf w)) fun u hu0 => ?_
    have hu : opBin .add (lf v) (lf w) δ = .ok u δ := hu0
    clear hu0
    by_cases c1 : ∃ i j, lf v = .int i ∧ lf w = .int j
    · obtain ⟨i, j, q1, q2⟩ := c1
      rw [q1, q2] at hu
      cases hu
      have a1 := lf_int q1
      have a2 := lf_int q2
      subst a1 a2
      rw [hv.int, hw.int]
      exact ⟨HVi _, rfl⟩
    · by_cases c2 : ∃ xs ys, lf v = .tup xs ∧ lf w = .tup ys
      · obtain ⟨xs, ys, q1, q2⟩ := c2
        rw [q1, q2] at hu
        have a1 := lsw_lf q1
        have a2 := lsw_lf q2
        subst a1 a2
        rw [bin_addT] at hu
        split at hu
        · rename_i hl
          cases hu
          rw [hv.tup.1, hw.tup.1, bin_addT, if_pos hl]
          exact ⟨HVt (plA_app hv.tup.2 hw.tup.2), rfl⟩
        · cases hu
      · have hu2 : (match lsw (lf v) δ, lsw (lf w) δ with | some xs, some ys => if xs.length + ys.length ≤ lim then R.ok (D.tl (xs ++ ys)) δ else .bad | _, _ => .bad) = .ok u δ := by
          rw [← hu]
          unfold opBin
          generalize lf v = a at c1 c2
          generalize lf w = b at c1 c2
          cases a <;> cases b <;> first | rfl | exact absurd ⟨_, _, rfl, rfl⟩ c1 | exact absurd ⟨_, _, rfl, rfl⟩ c2
        cases e1 : lsw (lf v) δ with
        | none => rw [e1] at hu2; cases hu2
        | some xs =>
          cases e2 : lsw (lf w) δ with
          | none => rw [e1, e2] at hu2; cases hu2
          | some ys =>
            rw [e1, e2] at hu2
            dsimp only at hu2
            obtain ⟨a1, p1⟩ := sim_lsw hv s e1
            obtain ⟨a2, p2⟩ := sim_lsw hw s e2
            rw [opBin_addL a1 a2]
            split at hu2
            · rename_i hl
              cases hu2
              rw [if_pos hl]
              exact ⟨HVl (plA_app p1 p2), rfl⟩
            · cases hu2
  | sub => exact iz .sub (fun a b T => by cases a <;> cases b <;> first | exact .inl rfl | exact .inr ⟨_, _, rfl, rfl⟩) fun i j T u h => by cases h; exact ⟨⟨_, rfl⟩, fun _ => rfl⟩
  | mul =>
    refine sim_op s (same_bin .mul v w) fun u hu => ?_
    have hu : opBin .mul v w δ = .ok u δ := hu
    cases v with
    | int i =>
      cases w with
      | int j =>
        rw [bin_mul] at hu
        split at hu
        · rename_i hm
          cases hu
          rw [hv.int, hw.int, bin_mul, if_pos hm]
          exact ⟨HVi _, rfl⟩
        · cases hu
      | _ => cases hu
    | tup xs =>
      cases w with
      | int j =>
        obtain ⟨rfl, p1⟩ := hv.tup
        rw [hw.int]
        have hu' : (if xs.length ≤ 1000 ∧ -1000 ≤ j ∧ j ≤ 1000 then R.ok (D.tup (List.replicate j.toNat xs).flatten) δ else .bad) = .ok u δ := hu
        have g : opBin .mul (.tup xs) (.int j) S = (if xs.length ≤ 1000 ∧ -1000 ≤ j ∧ j ≤ 1000 then R.ok (D.tup (List.replicate j.toNat xs).flatten) S else .bad) := rfl
        rw [g]
        split at hu'
        · rename_i hm
          cases hu'
          rw [if_pos hm]
          refine ⟨HVt (plA_sub p1 fun y hy => ?_), rfl⟩
          obtain ⟨l, hl, hy⟩ := List.mem_flatten.mp hy
          rw [List.eq_of_mem_replicate hl] at hy
          exact hy
        · cases hu'
      | _ => cases hu
    | tl xs =>
      cases w with
      | int j =>
        obtain ⟨p1, rfl⟩ := hv
        rw [hw.int]
        have hu' : (if (decide (xs.length * j.toNat ≤ lim) && decide (-(2 ^ 63) ≤ j) && decide (j < 2 ^ 63)) = true then R.ok (D.tl (List.replicate j.toNat xs).flatten) δ else .bad) = .ok u δ := hu
        have g : opBin .mul (.tl xs) (.int j) S = (if (decide (xs.length * j.toNat ≤ lim) && decide (-(2 ^ 63) ≤ j) && decide (j < 2 ^ 63)) = true then R.ok (D.tl (List.replicate j.toNat xs).flatten) S else .bad) := rfl
        rw [g]
        split at hu'
        · rename_i hm
          cases hu'
          rw [if_pos hm]
          refine ⟨HVl (plA_sub p1 fun y hy => ?_), rfl⟩
          obtain ⟨l, hl, hy⟩ := List.mem_flatten.mp hy
          rw [List.eq_of_mem_replicate hl] at hy
          exact hy
        · cases hu'
      | _ => cases hu
    | _ => cases w <;> cases hu
  | fdiv =>
    exact iz .fdiv (fun a b T => by cases a <;> cases b <;> first | exact .inl rfl | exact .inr ⟨_, _, rfl, rfl⟩) fun i j T u h => by
      rw [bin_fdiv] at h
      split at h
      · rename_i q; cases h; exact ⟨⟨_, rfl⟩, fun _ => by rw [bin_fdiv, if_pos q]⟩
      · cases h
  | mod =>
    exact iz .mod (fun a b T => by cases a <;> cases b <;> first | exact .inl rfl | exact .inr ⟨_, _, rfl, rfl⟩) fun i j T u h => by
      rw [bin_mod] at h
      split at h
      · rename_i q; cases h; exact ⟨⟨_, rfl⟩, fun _ => by rw [bin_mod, if_pos q]⟩
      · cases h
  | pow =>
    exact iz .pow (fun a b T => by cases a <;> cases b <;> first | exact .inl rfl | exact .inr ⟨_, _, rfl, rfl⟩) fun i j T u h => by
      have g : ∀ T : GH, opBin .pow (.int i) (.int j) T = if 0 ≤ j ∧ j ≤ 1000000 ∧ i.natAbs < 2 ^ 64 then .ok (.int (i ^ j.toNat)) T else .bad := fun T => rfl
      rw [g] at h
      split at h
      · rename_i q; cases h; exact ⟨⟨_, rfl⟩, fun T' => by rw [g, if_pos q]⟩
      · cases h
/-- a comparison gives a truth -/
theorem cmp_blV {op : COp} {a b u : D} (h : opCmp op a b S = .ok u S') : ∃ t, u = .bl t := by
  unfold opCmp at h
  cases op <;> (try dsimp only at h) <;> (repeat' (split at h)) <;> first | (cases h; exact ⟨_, rfl⟩) | (cases h; done)
theorem isNon_sim (h : HV π n S v d) : isNon d = isNon v := by
  cases v with
  | bw ys => obtain ⟨h1, m, rfl, _, h4⟩ := h; rfl
  | _ => rw [h.2] <;> rfl
theorem sim_memD (hw : HV π n S w e) (s : Sh π n δ S) {xs : List D} (k : seqv (lf w) δ = some xs) : seqv e S = some xs := (sim_seqv hw s k).1
theorem sim_cmp (op : COp) (hv : HV π n S v d) (hw : HV π n S w e) (s : Sh π n δ S) : SimD π n S (opCmpV op v w δ) (opCmp op d e S) := by
  have go : ∀ (a b : D) (r' : R D), Same δ (opCmp op a b δ) → (∀ u, opCmp op a b δ = .ok u δ → r' = .ok u S) → SimD π n S (opCmp op a b δ) r' := fun a b r' sm h => sim_op s sm fun u hu => by
    obtain ⟨t, rfl⟩ := cmp_blV hu
    exact ⟨HVb t, h _ hu⟩
  -- the ordered ones
  have ord : ∀ op : COp, opCmpV op v w δ = opCmp op v w δ → (∀ a b T u, opCmp op a b T = .ok u T → (∃ i j, a = .int i ∧ b = .int j) ∨ (cl a && cl b && alk a b && !isNon a) = true) → (∀ a b T T' u, opCmp op a b T = .ok u T → ((∃ i j, a = .int i ∧ b = .int j) ∨ (cl a && cl b && alk a b && !isNon a) = true) → opCmp op a b T' = .ok u T') → SimD π n S (opCmpV op v w δ) (opCmp op d e S) := fun op e1 h1 h2 => by
    rw [e1]
    refine sim_op s (same_cmp op v w) fun u hu => ?_
    obtain ⟨t, rfl⟩ := cmp_blV hu
    refine ⟨HVb t, ?_⟩
    have c := h1 v w δ _ hu
    have z := h2 v w δ S _ hu c
    rcases c with ⟨i, j, rfl, rfl⟩ | c
    · rw [hv.int, hw.int]; exact z
    · simp only [Bool.and_eq_true] at c
      rw [hv.cl c.1.1.1, hw.cl c.1.1.2]; exact z
  cases op with
  | lt =>
    exact ord .lt rfl (fun a b T u h => by
      unfold opCmp at h; dsimp only at h; split at h
      · exact .inl ⟨_, _, rfl, rfl⟩
      · split at h <;> first | (rename_i q; exact .inr q) | (cases h; done)) fun a b T T' u h c => by
        unfold opCmp at h ⊢; dsimp only at h ⊢; split at h
        · cases h; rfl
        · split at h
          · cases h; rename_i q; rw [if_pos q]
          · cases h
  | le =>
    exact ord .le rfl (fun a b T u h => by
      unfold opCmp at h; dsimp only at h; split at h
      · exact .inl ⟨_, _, rfl, rfl⟩
      · split at h <;> first | (rename_i q; exact .inr q) | (cases h; done)) fun a b T T' u h c => by
        unfold opCmp at h ⊢; dsimp only at h ⊢; split at h
        · cases h; rfl
        · split at h
          · cases h; rename_i q; rw [if_pos q]
          · cases h
  | gt =>
    exact ord .gt rfl (fun a b T u h => by
      unfold opCmp at h; dsimp only at h; split at h
      · exact .inl ⟨_, _, rfl, rfl⟩
      · split at h <;> first | (rename_i q; exact .inr q) | (cases h; done)) fun a b T T' u h c => by
        unfold opCmp at h ⊢; dsimp only at h ⊢; split at h
        · cases h; rfl
        · split at h
          · cases h; rename_i q; rw [if_pos q]
          · cases h
  | ge =>
    exact ord .ge rfl (fun a b T u h => by
      unfold opCmp at h; dsimp only at h; split at h
      · exact .inl ⟨_, _, rfl, rfl⟩
      · split at h <;> first | (rename_i q; exact .inr q) | (cases h; done)) fun a b T T' u h c => by
        unfold opCmp at h ⊢; dsimp only at h ⊢; split at h
        · cases h; rfl
        · split at h
          · cases h; rename_i q; rw [if_pos q]
          · cases h
  | eq =>
    refine go (lf v) (lf w) _ (same_cmp .eq _ _) fun u hu => ?_
    by_cases c1 : ∃ i j, lf v = .int i ∧ lf w = .int j
    · obtain ⟨i, j, q1, q2⟩ := c1
      have a1 := lf_int q1
      have a2 := lf_int q2
      subst a1 a2
      rw [hv.int, hw.int]
      cases hu; rfl
    · have hu2 : (if (cl (res (lf v) δ) && cl (res (lf w) δ)) = true then R.ok (D.bl (deq (res (lf v) δ) (res (lf w) δ))) δ else .bad) = .ok u δ := by
        rw [← hu]
        unfold opCmp
        generalize lf v = a at c1
        generalize lf w = b at c1
        cases a <;> cases b <;> first | rfl | exact absurd ⟨_, _, rfl, rfl⟩ c1
      split at hu2
      · rename_i q
        cases hu2
        rw [Bool.and_eq_true] at q
        have a1 := sim_res hv s q.1
        have a2 := sim_res hw s q.2
        by_cases c2 : ∃ i j, d = .int i ∧ e = .int j
        · obtain ⟨i, j, rfl, rfl⟩ := c2
          exact absurd ⟨i, j, by rw [hv.isInt]; rfl, by rw [hw.isInt]; rfl⟩ c1
        · have : opCmp .eq d e S = (if (cl (res d S) && cl (res e S)) = true then R.ok (D.bl (deq (res d S) (res e S))) S else .bad) := by
            unfold opCmp
            cases d <;> cases e <;> first | rfl | exact absurd ⟨_, _, rfl, rfl⟩ c2
          rw [this, a1, a2, q.1, q.2]
          rfl
      · cases hu2
  | ne =>
    refine go (lf v) (lf w) _ (same_cmp .ne _ _) fun u hu => ?_
    by_cases c1 : ∃ i j, lf v = .int i ∧ lf w = .int j
    · obtain ⟨i, j, q1, q2⟩ := c1
      have a1 := lf_int q1
      have a2 := lf_int q2
      subst a1 a2
      rw [hv.int, hw.int]
      cases hu; rfl
    · have hu2 : (if (cl (res (lf v) δ) && cl (res (lf w) δ)) = true then R.ok (D.bl (!deq (res (lf v) δ) (res (lf w) δ))) δ else .bad) = .ok u δ := by
        rw [← hu]
        unfold opCmp
        generalize lf v = a at c1
        generalize lf w = b at c1
        cases a <;> cases b <;> first | rfl | exact absurd ⟨_, _, rfl, rfl⟩ c1
      split at hu2
      · rename_i q
        cases hu2
        rw [Bool.and_eq_true] at q
        have a1 := sim_res hv s q.1
        have a2 := sim_res hw s q.2
        by_cases c2 : ∃ i j, d = .int i ∧ e = .int j
        · obtain ⟨i, j, rfl, rfl⟩ := c2
          exact absurd ⟨i, j, by rw [hv.isInt]; rfl, by rw [hw.isInt]; rfl⟩ c1
        · have : opCmp .ne d e S = (if (cl (res d S) && cl (res e S)) = true then R.ok (D.bl (!deq (res d S) (res e S))) S else .bad) := by
            unfold opCmp
            cases d <;> cases e <;> first | rfl | exact absurd ⟨_, _, rfl, rfl⟩ c2
          rw [this, a1, a2, q.1, q.2]
          rfl
      · cases hu2
  | is_ =>
    refine go v w _ (same_cmp .is_ _ _) fun u hu => ?_
    cases w with
    | non =>
      obtain ⟨_, rfl⟩ := hw
      cases hu
      rw [cmp_is, isNon_sim hv]
    | _ => cases hu
  | isnt =>
    refine go v w _ (same_cmp .isnt _ _) fun u hu => ?_
    cases w with
    | non =>
      obtain ⟨_, rfl⟩ := hw
      cases hu
      rw [cmp_isnt, isNon_sim hv]
    | _ => cases hu
  | in_ =>
    refine go v (lf w) _ (same_cmp .in_ _ _) fun u hu => ?_
    by_cases hsv : ∃ xs, w = .sv xs
    · obtain ⟨xs, rfl⟩ := hsv
      rw [hw.2]
      cases v with
      | int k =>
        have hu' : R.ok (D.bl (memD (.int k) xs)) δ = .ok u δ := hu
        cases hu'
        rw [hv.2]
        rfl
      | _ => cases hu
    have hu2 : (match seqv (lf w) δ with | some xs => if (cl v && xs.all cl) = true then R.ok (D.bl (memD v xs)) δ else .bad | none => .bad) = .ok u δ := by
      cases w with
      | sv xs => exact absurd ⟨xs, rfl⟩ hsv
      | _ => exact hu
    cases e1 : seqv (lf w) δ with
    | none => rw [e1] at hu2; cases hu2
    | some xs =>
      rw [e1] at hu2
      dsimp only at hu2
      split at hu2
      · rename_i q
        cases hu2
        have : opCmp .in_ d e S = (match seqv e S with | some xs => if (cl d && xs.all cl) = true then R.ok (D.bl (memD d xs)) S else .bad | none => .bad) := by
          cases e with
          | sv ys => have := sim_memD hw s e1; cases this
          | _ => rfl
        rw [this, sim_memD hw s e1]
        have q1 := (Bool.and_eq_true _ _ ▸ q).1
        rw [hv.cl q1]
        dsimp only
        rw [if_pos q]
      · cases hu2
  | nin =>
    refine go v (lf w) _ (same_cmp .nin _ _) fun u hu => ?_
    by_cases hsv : ∃ xs, w = .sv xs
    · obtain ⟨xs, rfl⟩ := hsv
      rw [hw.2]
      cases v with
      | int k =>
        have hu' : R.ok (D.bl (!memD (.int k) xs)) δ = .ok u δ := hu
        cases hu'
        rw [hv.2]
        rfl
      | _ => cases hu
    have hu2 : (match seqv (lf w) δ with | some xs => if (cl v && xs.all cl) = true then R.ok (D.bl (!memD v xs)) δ else .bad | none => .bad) = .ok u δ := by
      cases w with
      | sv xs => exact absurd ⟨xs, rfl⟩ hsv
      | _ => exact hu
    cases e1 : seqv (lf w) δ with
    | none => rw [e1] at hu2; cases hu2
    | some xs =>
      rw [e1] at hu2
      dsimp only at hu2
      split at hu2
      · rename_i q
        cases hu2
        have : opCmp .nin d e S = (match seqv e S with | some xs => if (cl d && xs.all cl) = true then R.ok (D.bl (!memD d xs)) S else .bad | none => .bad) := by
          cases e with
          | sv ys => have := sim_memD hw s e1; cases this
          | _ => rfl
        rw [this, sim_memD hw s e1]
        have q1 := (Bool.and_eq_true _ _ ▸ q).1
        rw [hv.cl q1]
        dsimp only
        rw [if_pos q]
      · cases hu2
end Ev
set_option Elab.async false
set_option linter.all false
set_option maxRecDepth 100000
set_option maxHeartbeats 4000000
/-! WvD: more operations. -/
namespace Ev
open PySem
variable {π : Nat → Nat} {n : Nat} {S S1 S' T : GH} {δ δ1 δ' : GH} {τ σ : Sg} {v w d e : D}
theorem sim_idx (hv : HV π n S v d) (hw : HV π n S w e) (s : Sh π n δ S) : SimD π n S (opIdx (lf v) w δ) (opIdx d e S) := by
  refine sim_op s (same_idx _ _) fun u hu => ?_
  unfold opIdx at hu
  split at hu
  · rename_i xs i e1
    obtain ⟨a, p⟩ := sim_seqv hv s e1
    rw [hw.int]
    unfold opIdx
    rw [a]
    dsimp only
    split at hu
    · rename_i x hx
      cases hu
      refine ⟨.of (plA_all.mp p _ ?_), rfl⟩
      unfold L2.atI at hx
      cases q : L2.ixN xs.length i with
      | none => rw [q] at hx; cases hx
      | some j => rw [q] at hx; exact List.mem_of_getElem? hx
    · cases hu
  · cases hu
theorem cutD_mem (xs : List D) (lo hi : Option Int) : ∀ y ∈ cutD xs lo hi, y ∈ xs := fun y hy => List.mem_of_mem_drop (List.mem_of_mem_take hy)
theorem sim_sl (lo hi : Option Int) (hv : HV π n S v d) (s : Sh π n δ S) : SimD π n S (opSl (lf v) lo hi δ) (opSl d lo hi S) := by
  refine sim_op s (same_sl _ _ _) fun u hu => ?_
  by_cases c : ∃ xs, lf v = .tup xs
  · obtain ⟨xs, q⟩ := c
    have a := lsw_lf q
    subst a
    cases hu
    rw [hv.tup.1]
    exact ⟨HVt (plA_sub hv.tup.2 (cutD_mem _ _ _)), rfl⟩
  · have hu2 : (match lsv (lf v) δ with | some xs => R.ok (D.tl (cutD xs lo hi)) δ | none => .bad) = .ok u δ := by
      rw [← hu]
      unfold opSl
      generalize lf v = a at c
      cases a <;> first | rfl | exact absurd ⟨_, rfl⟩ c
    cases e1 : lsv (lf v) δ with
    | none => rw [e1] at hu2; cases hu2
    | some xs =>
      rw [e1] at hu2
      cases hu2
      obtain ⟨a, p⟩ := sim_lsv hv s e1
      refine ⟨HVl (plA_sub p (cutD_mem _ _ _)), ?_⟩
      unfold opSl
      cases d <;> first | (cases a; done) | (dsimp only; rw [a])
theorem sim_rev (hv : HV π n S v d) (s : Sh π n δ S) : SimD π n S (opRev (lf v) δ) (opRev d S) := by
  refine sim_op s (same_rev _) fun u hu => ?_
  by_cases c : ∃ xs, lf v = .tup xs
  · obtain ⟨xs, q⟩ := c
    have a := lsw_lf q
    subst a
    cases hu
    rw [hv.tup.1]
    exact ⟨HVt (plA_sub hv.tup.2 fun y hy => List.mem_reverse.mp hy), rfl⟩
  · have hu2 : (match lsv (lf v) δ with | some xs => R.ok (D.tl xs.reverse) δ | none => .bad) = .ok u δ := by
      rw [← hu]
      unfold opRev
      generalize lf v = a at c
      cases a <;> first | rfl | exact absurd ⟨_, rfl⟩ c
    cases e1 : lsv (lf v) δ with
    | none => rw [e1] at hu2; cases hu2
    | some xs =>
      rw [e1] at hu2
      cases hu2
      obtain ⟨a, p⟩ := sim_lsv hv s e1
      refine ⟨HVl (plA_sub p fun y hy => List.mem_reverse.mp hy), ?_⟩
      unfold opRev
      cases d <;> first | (cases a; done) | (dsimp only; rw [a])
theorem sim_truth (hv : HV π n S v d) (s : Sh π n δ S) {t : Bool} (h : truth (lf v) δ = some t) : truth d S = some t := by
  cases v with
  | bl b => rw [hv.2]; exact h
  | non => rw [hv.2]; exact h
  | int i => rw [hv.2]; exact h
  | str x => cases h
  | tup xs => rw [hv.2]; exact h
  | dv _ _ => cases h
  | sv _ => cases h
  | tl xs => rw [hv.2]; exact h
  | fl xs => rw [hv.2]; exact h
  | bw xs =>
    obtain ⟨h1, m, rfl, _, h4⟩ := hv
    show (seqv (.ref m) S).map (fun xs => !xs.isEmpty) = _
    rw [show seqv (.ref m) S = some xs from lsv_ref h4]
    exact h
  | ref k =>
    have h' : (seqv (lf (.ref k)) δ).map (fun xs => !xs.isEmpty) = some t := h
    cases e1 : seqv (lf (.ref k)) δ with
    | none => rw [e1] at h'; cases h'
    | some xs =>
      obtain ⟨a, _⟩ := sim_seqv hv s e1
      obtain ⟨_, rfl⟩ := hv
      show (seqv (.ref (π k)) S).map (fun xs => !xs.isEmpty) = _
      rw [a, ← h', e1]
theorem sim_isTy (hv : HV π n S v d) {ty : Ty} {t : Bool} (h : isTy ty (lr v) = some t) : isTy ty d = some t := by
  cases v with
  | bw xs => obtain ⟨h1, m, rfl, _, h4⟩ := hv; cases ty <;> exact h
  | ref k => rw [hv.2]; cases ty <;> exact h
  | _ => rw [hv.2]; exact h
theorem maxDD_memV (r : List D) (x : D) : maxDD x r ∈ x :: r := by
  unfold maxDD
  induction r generalizing x with
  | nil => simp
  | cons a l ih =>
    rw [List.foldl_cons]
    split
    · exact List.mem_cons_of_mem _ (ih a)
    · rcases List.mem_cons.mp (ih x) with h | h
      · rw [h]; exact List.mem_cons_self
      · exact List.mem_cons_of_mem _ (List.mem_cons_of_mem _ h)
theorem minDD_memV (r : List D) (x : D) : minDD x r ∈ x :: r := by
  unfold minDD
  induction r generalizing x with
  | nil => simp
  | cons a l ih =>
    rw [List.foldl_cons]
    split
    · exact List.mem_cons_of_mem _ (ih a)
    · rcases List.mem_cons.mp (ih x) with h | h
      · rw [h]; exact List.mem_cons_self
      · exact List.mem_cons_of_mem _ (List.mem_cons_of_mem _ h)
theorem max_any {xs : List D} {u : D} {S' : GH} (p : plA xs = true) (h : opMax xs δ = .ok u S') : pl u = true ∧ ∀ S, opMax xs S = .ok u S := by
  unfold opMax at h ⊢
  split at h
  · rename_i e; cases h; exact ⟨rfl, fun _ => rfl⟩
  · cases h
  · rename_i e
    cases xs with
    | nil => cases h
    | cons x r =>
      dsimp only at h ⊢
      split at h
      · rename_i k; cases h; exact ⟨plA_all.mp p _ (maxDD_memV r x), fun S => by rw [if_pos k]⟩
      · cases h
theorem min_any {xs : List D} {u : D} {S' : GH} (p : plA xs = true) (h : opMin xs δ = .ok u S') : pl u = true ∧ ∀ S, opMin xs S = .ok u S := by
  unfold opMin at h ⊢
  split at h
  · rename_i e; cases h; exact ⟨rfl, fun _ => rfl⟩
  · cases h
  · rename_i e
    cases xs with
    | nil => cases h
    | cons x r =>
      dsimp only at h ⊢
      split at h
      · rename_i k; cases h; exact ⟨plA_all.mp p _ (minDD_memV r x), fun S => by rw [if_pos k]⟩
      · cases h
theorem ins_mem {le : D → D → Bool} {a y : D} : ∀ {l : List D}, y ∈ ins le a l → y = a ∨ y ∈ l
  | [], h => .inl (by simpa [ins] using h)
  | b :: r, h => by
    unfold ins at h
    split at h
    · rcases List.mem_cons.mp h with h | h
      · exact .inl h
      · exact .inr h
    · rcases List.mem_cons.mp h with h | h
      · exact .inr (by rw [h]; exact List.mem_cons_self)
      · exact (ins_mem h).imp id fun z => List.mem_cons_of_mem _ z
theorem isort_mem {le : D → D → Bool} {y : D} : ∀ {l : List D}, y ∈ isort le l → y ∈ l
  | [], h => h
  | a :: r, h => by
    rcases ins_mem (show y ∈ ins le a (isort le r) from h) with h | h
    · rw [h]; exact List.mem_cons_self
    · exact List.mem_cons_of_mem _ (isort_mem h)
theorem dedup_mem' : ∀ (xs acc : List D) {y : D}, y ∈ xs.foldl (fun acc x => if memD x acc then acc else acc ++ [x]) acc → y ∈ acc ∨ y ∈ xs
  | [], acc, y, h => .inl h
  | x :: xs, acc, y, h => by
    rw [List.foldl_cons] at h
    rcases dedup_mem' xs _ h with h | h
    · split at h
      · exact .inl h
      · rcases List.mem_append.mp h with h | h
        · exact .inl h
        · have : y = x := by simpa using h
          rw [this]
          exact .inr List.mem_cons_self
    · exact .inr (List.mem_cons_of_mem _ h)
theorem dedup_mem {xs : List D} {y : D} (h : y ∈ dedupD xs) : y ∈ xs := by
  rcases dedup_mem' xs [] h with h | h
  · cases h
  · exact h
theorem sim_b1 (f : B1) (hv : HV π n S v d) (s : Sh π n δ S) : SimD π n S (opB1 f (lf v) δ) (opB1 f d S) := by
  refine sim_op s (same_b1 f _) fun u hu => ?_
  have lsvs : ∀ {β : Type} (g : List D → Option β), (lsv (lf v) δ).bind g = none ∨ ∃ b, (lsv (lf v) δ).bind g = some b ∧ (lsv d S).bind g = some b := fun g => by
    cases e1 : lsv (lf v) δ with
    | none => exact .inl rfl
    | some xs =>
      rw [(sim_lsv hv s e1).1]
      cases e2 : g xs with
      | none => exact .inl e2
      | some b => exact .inr ⟨b, e2, e2⟩
  cases f with
  | len =>
    by_cases c : ∃ x, lf v = .str x
    · obtain ⟨x, q⟩ := c
      have a : v = .str x := by cases v <;> first | exact q | (cases q; done)
      subst a
      rw [hv.2]
      have g : ∀ T : GH, opB1 .len (.str x) T = if x.length ≤ lim then .ok (.int x.length) T else .bad := fun T => rfl
      have hu' : opB1 .len (.str x) δ = .ok u δ := hu
      rw [g] at hu' ⊢
      split at hu'
      · rename_i k; cases hu'; rw [if_pos k]; exact ⟨HVi _, rfl⟩
      · cases hu'
    · have g : ∀ (a : D) (T : GH), (¬ ∃ x, a = .str x) → opB1 .len a T = (match seqv a T with | some xs => R.ok (D.int xs.length) T | none => .bad) := fun a T c => by
        cases a <;> first | rfl | exact absurd ⟨_, rfl⟩ c
      rw [g _ _ c] at hu
      cases e1 : seqv (lf v) δ with
      | none => rw [e1] at hu; cases hu
      | some xs =>
        rw [e1] at hu
        cases hu
        obtain ⟨a, _⟩ := sim_seqv hv s e1
        rw [g d S (fun ⟨x, q⟩ => by rw [q] at a; cases a), a]
        exact ⟨HVi _, rfl⟩
  | sum =>
    have hu2 : (match (lsv (lf v) δ).bind intsD with | some ns => R.ok (D.int ns.sum) δ | none => .bad) = .ok u δ := hu
    rcases lsvs intsD with q | ⟨b, q1, q2⟩
    · rw [q] at hu2; cases hu2
    · rw [q1] at hu2; cases hu2
      have : opB1 .sum d S = (match (lsv d S).bind intsD with | some ns => R.ok (D.int ns.sum) S | none => .bad) := rfl
      rw [this, q2]
      exact ⟨HVi _, rfl⟩
  | all =>
    have hu2 : (match (lsv (lf v) δ).bind boolsD with | some ns => R.ok (D.bl (ns.all id)) δ | none => .bad) = .ok u δ := hu
    rcases lsvs boolsD with q | ⟨b, q1, q2⟩
    · rw [q] at hu2; cases hu2
    · rw [q1] at hu2; cases hu2
      have : opB1 .all d S = (match (lsv d S).bind boolsD with | some ns => R.ok (D.bl (ns.all id)) S | none => .bad) := rfl
      rw [this, q2]
      exact ⟨HVb _, rfl⟩
  | any =>
    have hu2 : (match (lsv (lf v) δ).bind boolsD with | some ns => R.ok (D.bl (ns.any id)) δ | none => .bad) = .ok u δ := hu
    rcases lsvs boolsD with q | ⟨b, q1, q2⟩
    · rw [q] at hu2; cases hu2
    · rw [q1] at hu2; cases hu2
      have : opB1 .any d S = (match (lsv d S).bind boolsD with | some ns => R.ok (D.bl (ns.any id)) S | none => .bad) := rfl
      rw [this, q2]
      exact ⟨HVb _, rfl⟩
  | max =>
    have hu2 : (match lsv (lf v) δ with | some xs => opMax xs δ | none => .bad) = .ok u δ := hu
    cases e1 : lsv (lf v) δ with
    | none => rw [e1] at hu2; cases hu2
    | some xs =>
      rw [e1] at hu2
      obtain ⟨a, p⟩ := sim_lsv hv s e1
      obtain ⟨h1, h2⟩ := max_any p hu2
      have : opB1 .max d S = (match lsv d S with | some xs => opMax xs S | none => .bad) := rfl
      rw [this, a]
      exact ⟨.of h1, h2 S⟩
  | min =>
    have hu2 : (match lsv (lf v) δ with | some xs => opMin xs δ | none => .bad) = .ok u δ := hu
    cases e1 : lsv (lf v) δ with
    | none => rw [e1] at hu2; cases hu2
    | some xs =>
      rw [e1] at hu2
      obtain ⟨a, p⟩ := sim_lsv hv s e1
      obtain ⟨h1, h2⟩ := min_any p hu2
      have : opB1 .min d S = (match lsv d S with | some xs => opMin xs S | none => .bad) := rfl
      rw [this, a]
      exact ⟨.of h1, h2 S⟩
  | sset =>
    have hu2 : (match lsv (lf v) δ with | some xs => if ssOk xs then R.ok (D.tl (isort dle (dedupD xs))) δ else .bad | none => .bad) = .ok u δ := hu
    cases e1 : lsv (lf v) δ with
    | none => rw [e1] at hu2; cases hu2
    | some xs =>
      rw [e1] at hu2
      obtain ⟨a, p⟩ := sim_lsv hv s e1
      dsimp only at hu2
      split at hu2
      · rename_i k
        cases hu2
        have : opB1 .sset d S = (match lsv d S with | some xs => if ssOk xs then R.ok (D.tl (isort dle (dedupD xs))) S else .bad | none => .bad) := rfl
        rw [this, a]
        dsimp only
        rw [if_pos k]
        exact ⟨HVl (plA_sub p fun y hy => dedup_mem (isort_mem hy)), rfl⟩
      · cases hu2
  | sorted =>
    have hu2 : (match lsv (lf v) δ with | some xs => if sortOk xs then R.ok (D.tl (isort dle xs)) δ else .bad | none => .bad) = .ok u δ := hu
    cases e1 : lsv (lf v) δ with
    | none => rw [e1] at hu2; cases hu2
    | some xs =>
      rw [e1] at hu2
      obtain ⟨a, p⟩ := sim_lsv hv s e1
      dsimp only at hu2
      split at hu2
      · rename_i k
        cases hu2
        have : opB1 .sorted d S = (match lsv d S with | some xs => if sortOk xs then R.ok (D.tl (isort dle xs)) S else .bad | none => .bad) := rfl
        rw [this, a]
        dsimp only
        rw [if_pos k]
        exact ⟨HVl (plA_sub p fun y hy => isort_mem hy), rfl⟩
      · cases hu2
  | tuple =>
    by_cases c : ∃ xs, lf v = .tup xs
    · obtain ⟨xs, q⟩ := c
      have a := lsw_lf q
      subst a
      cases hu
      rw [hv.tup.1]
      exact ⟨HVt hv.tup.2, rfl⟩
    · have hu2 : (match lsv (lf v) δ with | some xs => R.ok (D.tup xs) δ | none => .bad) = .ok u δ := by
        rw [← hu]
        generalize lf v = a at c
        cases a <;> first | rfl | exact absurd ⟨_, rfl⟩ c
      cases e1 : lsv (lf v) δ with
      | none => rw [e1] at hu2; cases hu2
      | some xs =>
        rw [e1] at hu2
        cases hu2
        obtain ⟨a, p⟩ := sim_lsv hv s e1
        refine ⟨HVt p, ?_⟩
        have : opB1 .tuple d S = (match lsv d S with | some xs => R.ok (D.tup xs) S | none => .bad) := by cases d <;> first | (cases a; done) | rfl
        rw [this, a]
  | list =>
    have hu2 : (match seqv (lf v) δ with | some xs => R.ok (D.tl xs) δ | none => .bad) = .ok u δ := hu
    cases e1 : seqv (lf v) δ with
    | none => rw [e1] at hu2; cases hu2
    | some xs =>
      rw [e1] at hu2
      cases hu2
      obtain ⟨a, p⟩ := sim_seqv hv s e1
      have : opB1 .list d S = (match seqv d S with | some xs => R.ok (D.tl xs) S | none => .bad) := rfl
      rw [this, a]
      exact ⟨HVl p, rfl⟩
  | abs =>
    cases v with
    | int i => cases hu; rw [hv.2]; exact ⟨HVi _, rfl⟩
    | _ => cases hu
  | int =>
    cases v with
    | int i => cases hu; rw [hv.2]; exact ⟨HVi _, rfl⟩
    | bl i => cases hu; rw [hv.2]; exact ⟨HVi _, rfl⟩
    | _ => cases hu
  | str => cases hu
theorem rng_pl {ds xs : List D} (h : opRng ds = some xs) : plA xs = true := by
  have : ∀ lo n, plA (rngD lo n) = true := fun lo n => plA_all.mpr fun y hy => by
    obtain ⟨i, _, rfl⟩ := List.mem_map.mp hy
    rfl
  unfold opRng at h
  split at h
  · split at h <;> cases h; exact this _ _
  · split at h <;> cases h; exact this _ _
  · cases h
end Ev
set_option Elab.async false
set_option linter.all false
set_option maxRecDepth 100000
set_option maxHeartbeats 4000000
/-! WvE: names, calls, locks. -/
namespace Ev
open PySem
variable {π : Nat → Nat} {n n0 : Nat} {S S0 S1 S2 S' T : GH} {δ δ1 δ' : GH} {τ τ' σ σ' : Sg} {v w d e : D}
def Slr (π : Nat → Nat) (n : Nat) (τ σ : Sg) (S : GH) : Prop := σ.length = τ.length ∧ ∀ (i : Nat) (v : D), τ[i]? = some (some v) → ∃ d, σ[i]? = some (some d) ∧ HV π n S v d
theorem Slr.step (h : Slr π n τ σ S) (f : Fr π n S S') : Slr π n τ σ S' := ⟨h.1, fun i v e => let ⟨d, h1, h2⟩ := h.2 i v e; ⟨d, h1, h2.step f⟩⟩
theorem Slr.set (h : Slr π n τ σ S) (k : HV π n S v d) (i : Nat) : Slr π n (τ.set i (some v)) (σ.set i (some d)) S := by
  refine ⟨by rw [List.length_set, List.length_set]; exact h.1, fun j u e => ?_⟩
  by_cases x : i = j
  · subst x
    have hl : i < τ.length := by
      by_cases y : i < τ.length
      · exact y
      · rw [List.getElem?_eq_none (by rw [List.length_set]; omega)] at e; cases e
    rw [List.getElem?_set_self hl] at e
    cases e
    exact ⟨d, by rw [List.getElem?_set_self (by rw [h.1]; exact hl)], k⟩
  · rw [List.getElem?_set_ne x] at e ⊢
    exact h.2 j u e
theorem Slr.wipe1 (h : Slr π n τ σ S) (i : Nat) (o : Option D) : Slr π n (τ.set i none) (σ.set i o) S := by
  refine ⟨by rw [List.length_set, List.length_set]; exact h.1, fun j u e => ?_⟩
  by_cases x : i = j
  · subst x
    by_cases hl : i < τ.length
    · rw [List.getElem?_set_self hl] at e
      cases e
    · rw [List.getElem?_eq_none (by rw [List.length_set]; omega)] at e; cases e
  · rw [List.getElem?_set_ne x] at e ⊢
    exact h.2 j u e
theorem Slr.wipe (h : Slr π n τ σ S) : ∀ l : List Nat, Slr π n (wipeS τ l) (wipeS σ l) S
  | [] => h
  | i :: l => (Slr.wipe h l).wipe1 i none
theorem Slr.bindX (tg : X) : (∀ (d : D) (τ τ' σ : Sg), Slr π n τ σ S → pl d = true → bindT tg d τ = some τ' → ∃ σ', bindT tg d σ = some σ' ∧ Slr π n τ' σ' S) ∧
    (∀ (ds : List D) (τ τ' σ : Sg), Slr π n τ σ S → plA ds = true → bindTs tg ds τ = some τ' → ∃ σ', bindTs tg ds σ = some σ' ∧ Slr π n τ' σ' S) := by
  induction tg with
  | var i =>
    refine ⟨fun d τ τ' σ h p e => ?_, fun ds τ τ' σ h p e => ?_⟩
    · rw [bindT_var] at e; cases e
      exact ⟨_, bindT_var i d, h.set (.of p) i⟩
    · unfold bindTs at e; cases e
  | tup ts ih =>
    refine ⟨fun d τ τ' σ h p e => ?_, fun ds τ τ' σ h p e => ?_⟩
    · cases d with
      | tup ds =>
        rw [bindT_tup] at e
        rw [pl] at p
        obtain ⟨σ', h1, h2⟩ := ih.2 ds τ τ' σ h p e
        exact ⟨σ', by rw [bindT_tup]; exact h1, h2⟩
      | _ => unfold bindT at e; cases e
    · unfold bindTs at e; cases e
  | nil =>
    refine ⟨fun d τ τ' σ h p e => ?_, fun ds τ τ' σ h p e => ?_⟩
    · unfold bindT at e; cases e
    · cases ds with
      | nil => rw [bindTs_nil] at e; cases e; exact ⟨σ, bindTs_nil, h⟩
      | cons _ _ => unfold bindTs at e; cases e
  | cons t ts ih1 ih2 =>
    refine ⟨fun d τ τ' σ h p e => ?_, fun ds τ τ' σ h p e => ?_⟩
    · unfold bindT at e; cases e
    · cases ds with
      | nil => unfold bindTs at e; cases e
      | cons d ds =>
        rw [bindTs_cons] at e
        rw [plA, Bool.and_eq_true] at p
        cases q : bindT t d τ with
        | none => rw [q] at e; cases e
        | some τ1 =>
          rw [q] at e
          obtain ⟨σ1, h1, h2⟩ := ih1.1 d τ τ1 σ h p.1 q
          obtain ⟨σ', h3, h4⟩ := ih2.2 ds τ1 τ' σ1 h2 p.2 e
          exact ⟨σ', by rw [bindTs_cons, h1]; exact h3, h4⟩
  | _ =>
    refine ⟨fun d τ τ' σ h p e => ?_, fun ds τ τ' σ h p e => ?_⟩
    · unfold bindT at e; cases e
    · unfold bindTs at e; cases e
/-! ### calls -/
def HVs (π : Nat → Nat) (n : Nat) (S : GH) : List D → List D → Prop
  | [], [] => True
  | v :: vs, d :: ds => HV π n S v d ∧ isTl v = false ∧ HVs π n S vs ds
  | _, _ => False
theorem HVs.step (f : Fr π n S S') : ∀ {vs ds : List D}, HVs π n S vs ds → HVs π n S' vs ds
  | [], [], _ => trivial
  | v :: vs, d :: ds, h => ⟨h.1.step f, h.2.1, HVs.step f h.2.2⟩
  | [], _ :: _, h => h.elim
  | _ :: _, [], h => h.elim
theorem HVs.len : ∀ {vs ds : List D}, HVs π n S vs ds → ds.length = vs.length
  | [], [], _ => rfl
  | v :: vs, d :: ds, h => by rw [List.length_cons, List.length_cons, HVs.len h.2.2]
  | [], _ :: _, h => h.elim
  | _ :: _, [], h => h.elim
theorem HVs.get : ∀ {vs ds : List D} {i : Nat} {v : D}, HVs π n S vs ds → vs[i]? = some v → ∃ d, ds[i]? = some d ∧ HV π n S v d ∧ isTl v = false
  | v :: vs, d :: ds, 0, w, h, e => by cases e; exact ⟨d, rfl, h.1, h.2.1⟩
  | v :: vs, d :: ds, i + 1, w, h, e => by
    obtain ⟨d', h1, h2⟩ := HVs.get (i := i) h.2.2 (by simpa using e)
    exact ⟨d', by simpa using h1, h2⟩
  | [], [], _, _, _, e => by simp at e
  | [], _ :: _, _, _, h, _ => h.elim
  | _ :: _, [], _, _, h, _ => h.elim
theorem HVs.perm : ∀ {p : List Nat} {vs ds vs' : List D}, HVs π n S vs ds → permD p vs = some vs' → ∃ ds', permD p ds = some ds' ∧ HVs π n S vs' ds'
  | [], vs, ds, vs', h, e => by rw [permD_nil] at e; cases e; exact ⟨[], permD_nil _, trivial⟩
  | i :: p, vs, ds, vs', h, e => by
    rw [permD_cons] at e
    cases q : vs[i]? with
    | none => rw [q] at e; cases e
    | some v =>
      rw [q] at e
      cases q2 : permD p vs with
      | none => rw [q2] at e; cases e
      | some us =>
        rw [q2] at e
        cases e
        obtain ⟨d, h1, h2⟩ := HVs.get h q
        obtain ⟨ds', h3, h4⟩ := HVs.perm h q2
        exact ⟨d :: ds', by rw [permD_cons, h1, h3]; rfl, h2.1, h2.2, h4⟩
theorem HVs.same {vs ds : List D} (h : HVs π n S vs ds) (k : vs.all nb = true) : ds = vs ∧ plA vs = true := by
  induction vs generalizing ds with
  | nil => cases ds with
    | nil => exact ⟨rfl, rfl⟩
    | cons _ _ => exact h.elim
  | cons v vs ih => cases ds with
    | nil => exact h.elim
    | cons d ds =>
      rw [List.all_cons, Bool.and_eq_true] at k
      obtain ⟨h1, h2⟩ := ih h.2.2 k.2
      rw [h1, h.1.eqN k.1]
      exact ⟨rfl, by rw [plA, h.1.plN k.1, h2]; rfl⟩
/-- frames of a call that began with n0 objects -/
def Fz (π : Nat → Nat) (n n0 : Nat) (S S' : GH) : Prop := n0 ≤ S'.length ∧ ∀ m o, m < n0 → S[m]? = some o → ¬ Img π n m → S'[m]? = some o
theorem Fz.trans (h : Fz π n n0 S S1) (k : Fz π n n0 S1 S') : Fz π n n0 S S' := ⟨k.1, fun m o l e i => k.2 m o l (h.2 m o l e i) i⟩
theorem Fr.fz (h : Fr π n S S') (k : n0 ≤ S.length) : Fz π n n0 S S' := ⟨Nat.le_trans k h.1, fun m o _ e i => h.2 m o e i⟩
def RVt (π : Nat → Nat) (n n0 : Nat) (S : GH) (v d : D) : Prop := match v with
  | .tl xs => plA xs = true ∧ (d = .tl xs ∨ ∃ m, d = .ref m ∧ n0 ≤ m ∧ S[m]? = some (.lst xs))
  | .bw _ => True
  | v => HV π n S v d
theorem HV.rvt (h : HV π n S v d) : RVt π n n0 S v d := by
  cases v <;> first | exact h | exact ⟨h.1, .inl h.2⟩ | trivial
def SimC (π : Nat → Nat) (n n0 : Nat) (S : GH) (r r' : R D) : Prop := match r with
  | .ok v δ' => ∃ d S', r' = .ok d S' ∧ RVt π n n0 S' v d ∧ Sh π n δ' S' ∧ Fz π n n0 S S'
  | .exc c v δ' => ∃ S', r' = .exc c v S' ∧ pl v = true ∧ Sh π n δ' S' ∧ Fz π n n0 S S'
  | .bad => True
theorem SimC.from {r r' : R D} (h : SimC π n n0 S1 r r') (f : Fz π n n0 S S1) : SimC π n n0 S r r' := by
  cases r with
  | ok v δ => obtain ⟨d, S2, e, a, b, c⟩ := h; exact ⟨d, S2, e, a, b, f.trans c⟩
  | exc c v δ => obtain ⟨S2, e, a, b, q⟩ := h; exact ⟨S2, e, a, b, f.trans q⟩
  | bad => trivial
theorem SimR.bindC {α β : Type} {H1 : GH → α → β → Prop} {r : R α} {r' : R β} {f : α → GH → R D} {g : β → GH → R D} (h : SimR π n H1 S r r') (l : n0 ≤ S.length) (k : ∀ v d δ1 S1, H1 S1 v d → Sh π n δ1 S1 → Fr π n S S1 → SimC π n n0 S1 (f v δ1) (g d S1)) : SimC π n n0 S (r.bind f) (r'.bind g) := by
  cases r with
  | ok v δ =>
    obtain ⟨d, S2, rfl, a, b, c⟩ := h
    exact (k v d δ S2 a b c).from (c.fz l)
  | exc c v δ => obtain ⟨S2, rfl, a, b, q⟩ := h; exact ⟨S2, rfl, a, b, q.fz l⟩
  | bad => trivial
theorem SimR.c {r r' : R D} (h : SimD π n S r r') (l : n0 ≤ S.length) : SimC π n n0 S r r' := by
  cases r with
  | ok v δ =>
    obtain ⟨d, S2, rfl, a, b, c⟩ := h
    exact ⟨d, S2, rfl, a.rvt, b, c.fz l⟩
  | exc c v δ => obtain ⟨S2, rfl, a, b, q⟩ := h; exact ⟨S2, rfl, a, b, q.fz l⟩
  | bad => trivial
theorem Sh.lt (h : Sh π n δ S) {k : Nat} (hk : k < n) : π k < S.length := by
  have hk' : k < δ.length := by rw [h.len]; exact hk
  exact (List.getElem?_eq_some_iff.mp (h.at_ k _ (List.getElem?_eq_getElem hk')).1).1
theorem Sh.take (h : Sh π n δ S) (k : ∀ i, i < n → π i < n0) : Sh π n δ (S.take n0) := ⟨h.len, fun i o e => by
  obtain ⟨h1, h2⟩ := h.at_ i o e
  have : i < n := by rw [← h.len]; exact (List.getElem?_eq_some_iff.mp e).1
  exact ⟨by rw [List.getElem?_take_of_lt (k i this)]; exact h1, h2⟩, h.inj⟩
theorem sim_drop {r r' : R D} {δ0 : GH} (h : SimC π n S.length S r r') (s0 : Sh π n δ0 S) : SimD π n S (dropV r) (drop S.length r') := by
  have pk : ∀ i, i < n → π i < S.length := fun i hi => s0.lt hi
  have ft : ∀ S', Fz π n S.length S S' → Fr π n S (S'.take S.length) := fun S' f => ⟨by rw [List.length_take]; have := f.1; omega, fun m o e i => by
    have := (List.getElem?_eq_some_iff.mp e).1
    rw [List.getElem?_take_of_lt this]
    exact f.2 m o this e i⟩
  cases r with
  | ok v δ =>
    obtain ⟨d, S2, rfl, a, b, c⟩ := h
    show SimD π n S (if cl v = true then R.ok v δ else .bad) _
    split
    · rename_i k
      by_cases ht : ∃ xs, v = .tl xs
      · obtain ⟨xs, rfl⟩ := ht
        obtain ⟨p, q⟩ := a
        rcases q with rfl | ⟨m, rfl, h1, h2⟩
        · rw [drop_ok _ k]
          exact ⟨_, _, rfl, ⟨p, rfl⟩, b.take pk, ft _ c⟩
        · have e : drop S.length (.ok (.ref m) S2) = .ok (.tl xs) (S2.take S.length) := by
            show (if cl (.ref m) = true then R.ok (D.ref m) (S2.take S.length) else (match S2[m]? with | some (.lst xs) => (if (decide (S.length ≤ m) && xs.all (ck 19)) = true then R.ok (D.tl xs) (S2.take S.length) else .bad) | _ => .bad)) = _
            rw [if_neg (by simp), h2]
            dsimp only
            rw [if_pos]
            rw [Bool.and_eq_true]
            exact ⟨decide_eq_true h1, k⟩
          rw [e]
          exact ⟨_, _, rfl, ⟨p, rfl⟩, b.take pk, ft _ c⟩
      · have a' : HV π n S2 v d := by cases v <;> first | exact a | exact absurd ⟨_, rfl⟩ ht | (simp [ck] at k; done)
        have e := a'.cl k
        subst e
        rw [drop_ok _ k]
        refine ⟨_, _, rfl, ?_, b.take pk, ft _ c⟩
        cases d <;> first | exact a' | (simp at k; done) | (simp [ck] at k; done)
    · trivial
  | exc c v δ =>
    obtain ⟨S2, rfl, a, b, q⟩ := h
    show SimD π n S (if cl v = true then R.exc c v δ else .bad) _
    split
    · rename_i k
      rw [drop_exc _ k]
      exact ⟨_, rfl, a, b.take pk, ft _ q⟩
    · trivial
  | bad => trivial
def CSim (C2 : CV) (C : Cl) : Prop := ∀ (π : Nat → Nat) (n j : Nat) (vs : List D) (δ S : GH) (ds : List D) (n0 : Nat), HVs π n S vs ds → Sh π n δ S → n0 ≤ S.length → SimC π n n0 S (C2 j vs δ) (C j n0 ds S)
/-! ### locks -/
def LkOk (π : Nat → Nat) (n : Nat) (S : GH) (lk : List D) : Prop := ∀ x ∈ lk, ∃ m, x = .ref m ∧ ¬ Img π n m
theorem lock_get : ∀ (lk : List D) {S : GH} {m : Nat}, (lock lk S)[m]? = S[m]? ∨ ((lock lk S)[m]? = (S[m]?).map lock1 ∧ .ref m ∈ lk)
  | [], S, m => .inl rfl
  | x :: lk, S, m => by
    cases x with
    | ref i =>
      have e : lock (.ref i :: lk) S = lock lk (match S[i]? with | some o => S.set i (lock1 o) | none => S) := rfl
      rw [e]
      cases q : S[i]? with
      | none => exact (lock_get lk (S := S) (m := m)).imp id fun h => ⟨h.1, List.mem_cons_of_mem _ h.2⟩
      | some o =>
        dsimp only
        have il := (List.getElem?_eq_some_iff.mp q).1
        by_cases x : i = m
        · subst x
          refine .inr ⟨?_, List.mem_cons_self⟩
          have g : (S.set i (lock1 o))[i]? = some (lock1 o) := List.getElem?_set_self il
          have l2 : lock1 (lock1 o) = lock1 o := by cases o <;> rfl
          rcases lock_get lk (S := S.set i (lock1 o)) (m := i) with h | ⟨h, _⟩
          · rw [h, g, q]; rfl
          · rw [h, g, q]; show some (lock1 (lock1 o)) = _; rw [l2]; rfl
        · have g : (S.set i (lock1 o))[m]? = S[m]? := List.getElem?_set_ne x
          rcases lock_get lk (S := S.set i (lock1 o)) (m := m) with h | ⟨h, k⟩
          · exact .inl (by rw [h, g])
          · exact .inr ⟨by rw [h, g], List.mem_cons_of_mem _ k⟩
    | _ => exact (lock_get lk (S := S) (m := m)).imp id fun h => ⟨h.1, List.mem_cons_of_mem _ h.2⟩
theorem lock_len (lk : List D) (S : GH) : (lock lk S).length = S.length := (lock_gd lk (b := 0) (S := S) fun n o h => absurd h (Nat.not_lt_zero n)).2
theorem unlock_len (lk : List D) (S0 S : GH) : (unlock lk S0 S).length = S.length := (unlock_gd lk (b := 0) (S0 := S0) (S := S) (fun n o h => absurd h (Nat.not_lt_zero n)) fun n o h => absurd h (Nat.not_lt_zero n)).2
theorem unlock_get : ∀ (lk : List D) {S0 S : GH} {m : Nat}, (unlock lk S0 S)[m]? = S[m]? ∨ (.ref m ∈ lk ∧ ∃ o, S0[m]? = some o)
  | [], _, _, _ => .inl rfl
  | x :: lk, S0, S, m => by
    cases x with
    | ref i =>
      have e : unlock (.ref i :: lk) S0 S = unlock lk S0 (match S0[i]? with | some o => S.set i o | none => S) := rfl
      rw [e]
      cases q : S0[i]? with
      | none => exact (unlock_get lk (S0 := S0) (S := S) (m := m)).imp id fun h => ⟨List.mem_cons_of_mem _ h.1, h.2⟩
      | some o =>
        dsimp only
        by_cases x : i = m
        · subst x
          exact .inr ⟨List.mem_cons_self, o, q⟩
        · have g : (S.set i o)[m]? = S[m]? := List.getElem?_set_ne x
          rcases unlock_get lk (S0 := S0) (S := S.set i o) (m := m) with h | h
          · exact .inl (by rw [h, g])
          · exact .inr ⟨List.mem_cons_of_mem _ h.1, h.2⟩
    | _ => exact (unlock_get lk (S0 := S0) (S := S) (m := m)).imp id fun h => ⟨List.mem_cons_of_mem _ h.1, h.2⟩
theorem unlock_in : ∀ (lk : List D) {S0 S : GH} {m : Nat} {o : GO}, .ref m ∈ lk → S0[m]? = some o → m < S.length → (unlock lk S0 S)[m]? = some o
  | [], _, _, _, _, h, _, _ => by cases h
  | x :: lk, S0, S, m, o, h, k, l => by
    cases x with
    | ref i =>
      have e : unlock (.ref i :: lk) S0 S = unlock lk S0 (match S0[i]? with | some o => S.set i o | none => S) := rfl
      rw [e]
      by_cases x : i = m
      · subst x
        rw [k]
        exact unlock_at k lk (List.getElem?_set_self l)
      · rcases List.mem_cons.mp h with h | h
        · cases h; exact absurd rfl x
        · cases q : S0[i]? with
          | none => exact unlock_in lk h k l
          | some o => exact unlock_in lk h k (by dsimp only; rw [List.length_set]; exact l)
    | _ =>
      rcases List.mem_cons.mp h with h | h
      · cases h
      · exact unlock_in lk h k l
theorem LkOk.step (h : LkOk π n S lk) : LkOk π n S' lk := h
theorem HV.lock (h : HV π n S v d) (lk : List D) : HV π n (Ev.lock lk S) v d := by
  cases v <;> try exact h
  obtain ⟨h1, m, h2, h3, h4⟩ := h
  refine ⟨h1, m, h2, h3, ?_⟩
  rcases lock_get lk (S := S) (m := m) with q | ⟨q, _⟩
  · rw [q]; exact h4
  · rw [q]; rcases h4 with h4 | h4 <;> (rw [h4]; exact .inr rfl)
theorem Slr.lock (h : Slr π n τ σ S) (lk : List D) : Slr π n τ σ (Ev.lock lk S) := ⟨h.1, fun i v e => let ⟨d, h1, h2⟩ := h.2 i v e; ⟨d, h1, h2.lock lk⟩⟩
theorem Sh.lock {lk : List D} (h : Sh π n δ S) (k : LkOk π n S lk) : Sh π n δ (Ev.lock lk S) := ⟨h.len, fun i o e => by
  obtain ⟨h1, h2⟩ := h.at_ i o e
  refine ⟨?_, h2⟩
  rcases lock_get lk (S := S) (m := π i) with q | ⟨_, q⟩
  · rw [q]; exact h1
  · obtain ⟨m, e1, e2⟩ := k _ q
    cases e1
    exact absurd ⟨i, by rw [← h.len]; exact (List.getElem?_eq_some_iff.mp e).1, rfl⟩ e2, h.inj⟩
theorem Sh.unlock {lk : List D} (h : Sh π n δ S) (k : LkOk π n S0 lk) : Sh π n δ (Ev.unlock lk S0 S) := ⟨h.len, fun i o e => by
  obtain ⟨h1, h2⟩ := h.at_ i o e
  refine ⟨?_, h2⟩
  rcases unlock_get lk (S0 := S0) (S := S) (m := π i) with q | ⟨q, _⟩
  · rw [q]; exact h1
  · obtain ⟨m, e1, e2⟩ := k _ q
    cases e1
    exact absurd ⟨i, by rw [← h.len]; exact (List.getElem?_eq_some_iff.mp e).1, rfl⟩ e2, h.inj⟩
theorem Fr.unlock {lk : List D} (f : Fr π n (Ev.lock lk S) S') : Fr π n S (Ev.unlock lk S S') := ⟨by rw [unlock_len]; have := f.1; rw [lock_len] at this; exact this, fun m o e i => by
  have l : m < S.length := (List.getElem?_eq_some_iff.mp e).1
  have l2 : m < S'.length := by have := f.1; rw [lock_len] at this; omega
  by_cases hm : .ref m ∈ lk
  · exact unlock_in lk hm e l2
  · rcases unlock_get lk (S0 := S) (S := S') (m := m) with q | ⟨q, _⟩
    · rw [q]
      refine f.2 m o ?_ i
      rcases lock_get lk (S := S) (m := m) with q | ⟨_, q⟩
      · rw [q]; exact e
      · exact absurd q hm
    · exact absurd q hm⟩
end Ev
set_option Elab.async false
set_option linter.all false
set_option maxRecDepth 100000
set_option maxHeartbeats 4000000
/-! WvF: expressions. -/
namespace Ev
open PySem
variable {P : Pr} {C2 : CV} {C : Cl} {π : Nat → Nat} {n n0 : Nat} {S S0 S1 S2 S' T : GH} {δ δ1 δ' : GH} {τ τ' σ σ' : Sg} {v w d e : D}
structure Sim (P : Pr) (C2 : CV) (C : Cl) (x : X) : Prop where
  e : ∀ {π n b τ δ σ S}, Sh π n δ S → Slr π n τ σ S → SimD π n S (vv P C2 x τ δ) (ev P C x b σ S)
  a : ∀ {π n b τ δ σ S}, Sh π n δ S → Slr π n τ σ S → SimR π n (fun S' vs d => ∃ ds, d = D.tup ds ∧ HVs π n S' vs ds) S (vvA P C2 x τ δ) (ev P C x b σ S)
  i : ∀ {π n b τ δ σ S}, Sh π n δ S → Slr π n τ σ S → SimR π n (fun S' xs d => ∃ lk, d = itD xs lk ∧ plA xs = true ∧ LkOk π n S' lk ∧ (∀ x' ∈ lk, ∃ i ∈ lkI x, σ[i]? = some (some x') ∧ ∃ ys, τ[i]? = some (some (.bw ys))) ∧ ∀ i ∈ lkI x, ∀ ys, τ[i]? = some (some (.bw ys)) → ∃ m, σ[i]? = some (some (.ref m)) ∧ .ref m ∈ lk) S (vvI P C2 x τ δ) (ev P C x b σ S)
theorem Sim.of {x : X} (ha : ∀ τ δ, vvA P C2 x τ δ = .bad) (hi : ∀ τ δ, vvI P C2 x τ δ = .bad) (h : ∀ {π n b τ δ σ S}, Sh π n δ S → Slr π n τ σ S → SimD π n S (vv P C2 x τ δ) (ev P C x b σ S)) : Sim P C2 C x :=
  ⟨h, fun _ _ => by rw [ha]; trivial, fun _ _ => by rw [hi]; trivial⟩
theorem Sim.no {x : X} (h : ∀ τ δ, vv P C2 x τ δ = .bad) (ha : ∀ τ δ, vvA P C2 x τ δ = .bad) (hi : ∀ τ δ, vvI P C2 x τ δ = .bad) : Sim P C2 C x :=
  ⟨fun _ _ => by rw [h]; trivial, fun _ _ => by rw [ha]; trivial, fun _ _ => by rw [hi]; trivial⟩
theorem sim_neg (h : HV π n S v d) (s : Sh π n δ S) : SimD π n S (negR v δ) (negR d S) := by
  cases v with
  | int i => rw [h.2]; exact .ok (HVi _) s
  | _ => trivial
theorem sim_not (h : HV π n S v d) (s : Sh π n δ S) : SimD π n S (notR v δ) (notR d S) := by
  cases v with
  | bl i => rw [h.2]; exact .ok (HVb _) s
  | _ => trivial
theorem sim_brB {r1 r2 r1' r2' : R D} (h : HV π n S v d) (h1 : SimD π n S r1 r1') (h2 : SimD π n S r2 r2') : SimD π n S (brR (blD v) r1 r2) (brR (blD d) r1' r2') := by
  cases v with
  | bl i => rw [h.2]; cases i; exact h2; exact h1
  | _ => trivial
theorem sim_brT {α β : Type} {H1 : GH → α → β → Prop} {r1 r2 : R α} {r1' r2' : R β} (h : HV π n S v d) (s : Sh π n δ S) (h1 : SimR π n H1 S r1 r1') (h2 : SimR π n H1 S r2 r2') : SimR π n H1 S (brR (truth (lf v) δ) r1 r2) (brR (truth d S) r1' r2') := by
  cases e : truth (lf v) δ with
  | none => trivial
  | some t =>
    rw [sim_truth h s e]
    cases t; exact h2; exact h1
theorem sim_mx (h : HV π n S v d) (k : HV π n S w e) (s : Sh π n δ S) : SimD π n S (mxR v w δ) (mxR d e S) := by
  cases v with
  | int i => cases w with
    | int j => rw [h.2, k.2]; exact .ok (HVi _) s
    | _ => trivial
  | _ => cases w <;> trivial
theorem sim_mn (h : HV π n S v d) (k : HV π n S w e) (s : Sh π n δ S) : SimD π n S (mnR v w δ) (mnR d e S) := by
  cases v with
  | int i => cases w with
    | int j => rw [h.2, k.2]; exact .ok (HVi _) s
    | _ => trivial
  | _ => cases w <;> trivial
theorem sim_part {x : X} {o : Option Int} (h : HV π n S v d) (e : partX x v = some o) : partX x d = some o := by
  unfold partX at e ⊢
  split at e
  · rename_i k; rw [if_pos k]; exact e
  · rename_i k
    rw [if_neg k]
    cases v with
    | int i => rw [h.2]; exact e
    | _ => cases e
theorem sim_slc {x : X} {f g : Option Int → R D} {a b : D} (h : HV π n S v d) (k : ∀ o, SimD π n S (f o) (g o)) : SimD π n S (slcR a (partX x v) f) (slcR b (partX x d) g) := by
  cases e : partX x v with
  | none => trivial
  | some o => rw [sim_part h e]; exact k o
theorem fix_bo (h : HV π n S v d) (s : Sh π n δ S) : SimD π n S (.ok (bo v) δ) (fix d S) := by
  cases v with
  | tl xs =>
    obtain ⟨p, rfl⟩ := h
    refine ⟨.ref S.length, S ++ [.lst xs], rfl, ⟨p, S.length, rfl, ?_, .inl (by simp)⟩, ⟨s.len, fun k o e => ?_, s.inj⟩, .app _ _⟩
    · rintro ⟨k, hk, e⟩
      have := s.lt hk
      omega
    · obtain ⟨h1, h2⟩ := s.at_ k o e
      exact ⟨by rw [List.getElem?_append_left (List.getElem?_eq_some_iff.mp h1).1]; exact h1, h2⟩
  | bw xs => obtain ⟨p, m, rfl, h2⟩ := h; exact .ok ⟨p, m, rfl, h2⟩ s
  | ref k => obtain ⟨p, rfl⟩ := h; exact .ok ⟨p, rfl⟩ s
  | fl xs => obtain ⟨p, rfl⟩ := h; exact .ok ⟨p, rfl⟩ s
  | dv _ _ => cases h.1
  | sv xs => obtain ⟨p, rfl⟩ := h; exact .ok ⟨p, rfl⟩ s
  | non => obtain ⟨p, rfl⟩ := h; exact .ok ⟨p, rfl⟩ s
  | bl _ => obtain ⟨p, rfl⟩ := h; exact .ok ⟨p, rfl⟩ s
  | int _ => obtain ⟨p, rfl⟩ := h; exact .ok ⟨p, rfl⟩ s
  | str _ => obtain ⟨p, rfl⟩ := h; exact .ok ⟨p, rfl⟩ s
  | tup _ => obtain ⟨p, rfl⟩ := h; exact .ok ⟨p, rfl⟩ s
theorem sim_thunk {t : Option (Nat × Option Str)} {r r' : R D} (h : SimD π n S r r') : SimD π n S (thunkR t r) (thunkR t r') := by
  cases t with
  | none => trivial
  | some p =>
    obtain ⟨c, o⟩ := p
    cases o with
    | none =>
      cases r with
      | ok v δ => obtain ⟨d, S2, rfl, a, b, f⟩ := h; exact ⟨_, S2, rfl, ⟨rfl, rfl⟩, b, f⟩
      | exc k v δ =>
        obtain ⟨S2, rfl, a, b, f⟩ := h
        show SimD π n S (if k = c then R.ok v δ else .bad) (if k = c then R.ok v S2 else .bad)
        split
        · exact ⟨v, S2, rfl, .of a, b, f⟩
        · trivial
      | bad => trivial
    | some pre =>
      cases r with
      | ok v δ => obtain ⟨d, S2, rfl, a, b, f⟩ := h; exact ⟨d, S2, rfl, a, b, f⟩
      | exc k v δ =>
        obtain ⟨S2, rfl, a, b, f⟩ := h
        cases v with
        | str z =>
          show SimD π n S (if k = c ∧ pre.length + z.length ≤ lim then R.ok (.str (pre ++ z)) δ else .bad) (if k = c ∧ pre.length + z.length ≤ lim then R.ok (.str (pre ++ z)) S2 else .bad)
          split
          · exact ⟨_, S2, rfl, ⟨rfl, rfl⟩, b, f⟩
          · trivial
        | _ => trivial
      | bad => trivial
theorem enum_pl {xs : List D} (h : plA xs = true) : plA (enumD xs) = true := plA_all.mpr fun y hy => by
  obtain ⟨p, hp, rfl⟩ := List.mem_map.mp hy
  have : p.1 ∈ xs := by
    have := List.mem_zipIdx hp
    rw [this.2.2]
    exact List.getElem_mem _
  simp [pl, plA, plA_all.mp h _ this]
theorem zip_pl {xs ys : List D} (h : plA xs = true) (k : plA ys = true) : plA (zipD xs ys) = true := plA_all.mpr fun y hy => by
  obtain ⟨p, hp, rfl⟩ := List.mem_map.mp hy
  have h1 := (List.of_mem_zip hp).1
  have h2 := (List.of_mem_zip hp).2
  simp [pl, plA, plA_all.mp h _ h1, plA_all.mp k _ h2]
theorem sim_seqI {vb : Bool} {xs : List D} (h : HV π n S v d) (s : Sh π n δ S) (e : seqI vb v δ = some xs) : seqv d S = some xs ∧ plA xs = true ∧ LkOk π n S (lkOf d) ∧ (∀ x' ∈ lkOf d, vb = true ∧ d = x' ∧ ∃ ys, v = .bw ys) ∧ (∀ ys, v = .bw ys → ∃ m, d = .ref m) := by
  unfold seqI at e
  split at e
  · cases e
  · rename_i q
    obtain ⟨h1, h2⟩ := sim_seqv h s e
    refine ⟨h1, h2, ?_⟩
    cases v with
    | bw ys =>
      obtain ⟨_, m, rfl, h3, _⟩ := h
      have hv : vb = true := by simpa [isRef, isBw] using q
      exact ⟨fun x hx => by
        have : x = .ref m := by simpa using hx
        exact ⟨m, this, h3⟩, fun x hx => ⟨hv, by
        have : x = .ref m := by simpa using hx
        exact ⟨this.symm, ys, rfl⟩⟩, fun _ _ => ⟨m, rfl⟩⟩
    | ref k => simp [isRef] at q
    | tl _ => rw [h.2]; exact ⟨fun x hx => (by cases hx), fun x hx => (by cases hx), fun ys q => (by cases q)⟩
    | fl _ => rw [h.2]; exact ⟨fun x hx => (by cases hx), fun x hx => (by cases hx), fun ys q => (by cases q)⟩
    | tup _ => rw [h.2]; exact ⟨fun x hx => (by cases hx), fun x hx => (by cases hx), fun ys q => (by cases q)⟩
    | _ => cases e
theorem lk_var {a : X} {b : Nat} {x' : D} (hx : isVr a = true ∧ d = x' ∧ ∃ ys, v = .bw ys) (e : ev P C a b σ S = .ok d S') (e2 : vv P C2 a τ δ = .ok v δ') : ∃ i ∈ lkX a, σ[i]? = some (some x') ∧ ∃ ys, τ[i]? = some (some (.bw ys)) := by
  cases a with
  | var i =>
    rw [ev_var] at e
    unfold vv varR at e2
    refine ⟨i, List.mem_singleton.mpr rfl, ?_, ?_⟩
    · split at e
      · rename_i q; cases e; rw [q, hx.2.1]
      · cases e
    · split at e2
      · rename_i q; cases e2; obtain ⟨ys, rfl⟩ := hx.2.2; exact ⟨ys, q⟩
      · cases e2
  | _ => cases hx.1
theorem lk_var2 {a : X} {b i : Nat} {ys : List D} (hi : i ∈ lkX a) (hy : τ[i]? = some (some (.bw ys))) (k : ∀ ys, v = .bw ys → ∃ m, d = .ref m) (e : ev P C a b σ S = .ok d S') (e2 : vv P C2 a τ δ = .ok v δ') : ∃ m, σ[i]? = some (some (.ref m)) ∧ .ref m ∈ lkOf d := by
  cases a with
  | var j =>
    obtain rfl : i = j := List.mem_singleton.mp hi
    rw [ev_var] at e
    unfold vv varR at e2
    rw [hy] at e2
    cases e2
    obtain ⟨m, rfl⟩ := k ys rfl
    refine ⟨m, ?_, by simp⟩
    split at e
    · rename_i q; cases e; exact q
    · cases e
  | _ => cases hi
theorem SimR.keep {α β : Type} {H1 : GH → α → β → Prop} {r : R α} {r' : R β} (h : SimR π n H1 S r r') : SimR π n (fun S' v d => H1 S' v d ∧ r' = .ok d S' ∧ ∃ δ, r = .ok v δ) S r r' := by
  cases r with
  | ok v δ => obtain ⟨d, S2, e, a, b, c⟩ := h; exact ⟨d, S2, e, ⟨a, e, δ, rfl⟩, b, c⟩
  | exc c v δ => exact h
  | bad => trivial
theorem sim_loop {f : D → GH → R (Option D)} {f' : D → GH → R (Option D)} (hf : ∀ d δ S, pl d = true → Sh π n δ S → Fr π n S0 S → SimR π n (fun S' r d => r = d ∧ ∀ v, r = some v → pl v = true) S (f d δ) (f' d S)) :
    ∀ (ds : List D) (δ S : GH), plA ds = true → Sh π n δ S → Fr π n S0 S → SimR π n (fun S' r d => r = d ∧ plA r = true) S (compLoop f ds δ) (compLoop f' ds S)
  | [], δ, S, _, s, _ => .ok ⟨rfl, rfl⟩ s
  | d :: ds, δ, S, p, s, fr => by
    rw [plA, Bool.and_eq_true] at p
    rw [compLoop_cons, compLoop_cons]
    refine (hf d δ S p.1 s fr).bind fun o o' δ1 S1 ho s1 f1 => ?_
    obtain ⟨rfl, ho⟩ := ho
    refine (sim_loop hf ds δ1 S1 p.2 s1 (fr.trans f1)).bind fun r r' δ2 S2 hr s2 f2 => ?_
    obtain ⟨rfl, hr⟩ := hr
    refine .ok ⟨rfl, ?_⟩ s2
    cases o with
    | none => exact hr
    | some v => show plA (v :: r) = true; rw [plA, ho v rfl, hr]; rfl
theorem sim_bnd {α β : Type} {H1 : GH → α → β → Prop} {tg : X} {f : Sg → R α} {g : Sg → R β} (h : Slr π n τ σ S) (p : pl d = true) (k : ∀ τ' σ', Slr π n τ' σ' S → SimR π n H1 S (f τ') (g σ')) : SimR π n H1 S (bnd (bindT tg d τ) f) (bnd (bindT tg d σ) g) := by
  cases e : bindT tg d τ with
  | none => trivial
  | some τ' =>
    obtain ⟨σ', e', h'⟩ := (Slr.bindX tg).1 d τ τ' σ h p e
    rw [e']
    exact k τ' σ' h'
theorem sim_glob {o : Option D} (s : Sh π n δ S) : SimD π n S (globR o δ) (match o with | some d => .ok d S | none => .bad) := by
  cases o with
  | none => trivial
  | some d =>
    show SimD π n S (if pl d = true then R.ok d δ else .bad) _
    split
    · rename_i h; exact .ok (.of h) s
    · trivial
end Ev
set_option Elab.async false
set_option linter.all false
set_option maxRecDepth 100000
set_option maxHeartbeats 8000000
/-! WvG: all expressions. -/
namespace Ev
open PySem
variable {P : Pr} {C2 : CV} {C : Cl} {π : Nat → Nat} {n n0 : Nat} {S S0 S1 S2 S' T : GH} {δ δ1 δ' : GH} {τ τ' σ σ' : Sg} {v w d e : D}
theorem tupR_eq {f : List D → GH → R D} {r : R D} : asTup r f = r.bind (tupR f) := rfl
theorem sim_tupR {α : Type} {H2 : GH → α → D → Prop} {r : R (List D)} {r' : R D} {f : List D → GH → R α} {g : List D → GH → R D} (h : SimR π n (fun S' vs d => ∃ ds, d = D.tup ds ∧ HVs π n S' vs ds) S r r')
    (k : ∀ vs ds δ1 S1, HVs π n S1 vs ds → Sh π n δ1 S1 → Fr π n S S1 → SimR π n H2 S1 (f vs δ1) (g ds S1)) : SimR π n H2 S (r.bind f) (asTup r' g) := by
  rw [tupR_eq]
  refine SimR.bind h fun vs d δ1 S1 ⟨ds, e, hs⟩ s1 f1 => ?_
  subst e
  exact k vs ds δ1 S1 hs s1 f1
theorem sim_scol {j : Nat} {tg : X} {τ0 σ0 : Sg} (l : Slr π n τ0 σ0 S) : ∀ (ds : List D) {xs : List D}, plA ds = true → scol j tg τ0 ds = some xs → scol j tg σ0 ds = some xs ∧ plA xs = true
  | [], xs, _, h => by
    have h' : some [] = some xs := h
    cases h'
    exact ⟨rfl, rfl⟩
  | d :: ds, xs, p, h => by
    rw [plA, Bool.and_eq_true] at p
    unfold scol at h
    cases e1 : bindT tg d τ0 with
    | none => rw [e1] at h; cases h
    | some τ' =>
      rw [e1] at h
      dsimp only at h
      obtain ⟨σ', e2, l2⟩ := (Slr.bindX tg).1 d τ0 τ' σ0 l p.1 e1
      cases e3 : intO τ'[j]? with
      | none => rw [e3] at h; cases h
      | some v =>
        rw [e3] at h
        dsimp only at h
        have hk : ∃ k, v = .int k ∧ τ'[j]? = some (some (.int k)) := by
          unfold intO at e3
          split at e3
          · rename_i k q
            cases e3
            exact ⟨k, rfl, q⟩
          · cases e3
        obtain ⟨k, rfl, q⟩ := hk
        obtain ⟨d', h1, h2⟩ := l2.2 j _ q
        rw [h2.2] at h1
        cases e4 : scol j tg τ0 ds with
        | none => rw [e4] at h; cases h
        | some ys =>
          rw [e4] at h
          have h' : some (.int k :: ys) = some xs := h
          cases h'
          obtain ⟨a1, a2⟩ := sim_scol l ds p.2 e4
          refine ⟨?_, by rw [plA, a2]; rfl⟩
          unfold scol
          rw [e2]
          dsimp only
          rw [h1]
          show (scol j tg σ0 ds).map (D.int k :: ·) = _
          rw [a1]
          rfl
theorem sim_comp {e tg it cond : X} {own : List Nat} (ie : Sim P C2 C e) (ii : Sim P C2 C it) (ic : Sim P C2 C cond) {b : Nat} (s : Sh π n δ S) (l : Slr π n τ σ S) : SimD π n S (vv P C2 (.comp e tg it cond own) τ δ) (ev P C (.comp e tg it cond own) b σ S) := by
  rw [ev_compU]
  unfold vv
  refine SimR.bind (ii.i s l) fun items d δ1 S1 ⟨lk, hd, hp, hk, _⟩ s1 f1 => ?_
  subst hd
  rw [compR_it]
  split
  · trivial
  · rename_i hl
    have l1 : Slr π n τ σ (lock lk S1) := (l.step f1).lock lk
    have s2 : Sh π n δ1 (lock lk S1) := s1.lock hk
    have z := sim_loop (π := π) (n := n) (S0 := lock lk S1) (f := fun d δ2 => bnd (bindT tg d (wipeS τ own)) fun τ' => (vv P C2 cond τ' δ2).bind fun k δ3 => brR (truth (lf k) δ3) ((vv P C2 e τ' δ3).bind fun v δ4 => nbO v δ4) (.ok none δ3)) (f' := compF P C e tg cond own b σ)
      (fun d δ2 S2 pd s2 f2 => by
        rw [compF_eq]
        refine sim_bnd ((l1.step f2).wipe own) pd fun τ' σ' l2 => ?_
        refine SimR.bind (ic.e s2 l2) fun k k' δ3 S3 hk3 s3 f3 => ?_
        refine sim_brT hk3 s3 ?_ (.ok ⟨rfl, fun _ q => by cases q⟩ s3)
        refine SimR.bind (ie.e s3 (l2.step f3)) fun v d' δ4 S4 hv s4 f4 => ?_
        unfold nbO
        split
        · rename_i hn
          rw [hv.eqN hn]
          have : fix v S4 = .ok v S4 := by cases v <;> first | rfl | (simp [nb] at hn; done)
          rw [this, R.bind_ok]
          exact .ok ⟨rfl, fun u q => by cases q; exact hv.plN hn⟩ s4
        · trivial) items δ1 (lock lk S1) hp s2 (.refl _)
    cases q : compLoop (fun d δ2 => bnd (bindT tg d (wipeS τ own)) fun τ' => (vv P C2 cond τ' δ2).bind fun k δ3 => brR (truth (lf k) δ3) ((vv P C2 e τ' δ3).bind fun v δ4 => nbO v δ4) (.ok none δ3)) items δ1 with
    | ok r δ2 =>
      rw [q] at z
      obtain ⟨r2, S2, q2, ⟨e1, e2⟩, s3, f3⟩ := z
      subst e1
      rw [q2]
      exact ⟨_, _, rfl, ⟨e2, rfl⟩, s3.unlock hk, f3.unlock⟩
    | exc c v δ2 =>
      rw [q] at z
      obtain ⟨S2, q2, p2, s3, f3⟩ := z
      rw [q2]
      exact ⟨_, rfl, p2, s3.unlock hk, f3.unlock⟩
    | bad => trivial
theorem sim_x (hc : CSim C2 C) : ∀ x : X, Sim P C2 C x := by
  intro x
  have na : ∀ {x : X}, (∀ τ δ, vvA P C2 x τ δ = .bad) → (∀ τ δ, vvI P C2 x τ δ = .bad) → (∀ {π n b τ δ σ S}, Sh π n δ S → Slr π n τ σ S → SimD π n S (vv P C2 x τ δ) (ev P C x b σ S)) → Sim P C2 C x := fun h1 h2 h3 => .of h1 h2 h3
  induction x with
  | var i =>
    refine na (fun _ _ => by unfold vvA; rfl) (fun _ _ => by unfold vvI; rfl) fun s l => ?_
    unfold vv
    rw [ev_var]
    unfold varR
    split
    · rename_i d e
      obtain ⟨d', h1, h2⟩ := l.2 _ _ e
      rw [h1]
      exact .ok h2 s
    · trivial
  | cint i => exact na (fun _ _ => by unfold vvA; rfl) (fun _ _ => by unfold vvI; rfl) fun s l => by unfold vv; rw [ev_cint]; exact .ok (HVi _) s
  | cstr i => exact na (fun _ _ => by unfold vvA; rfl) (fun _ _ => by unfold vvI; rfl) fun s l => by unfold vv; rw [ev_cstr]; exact .ok ⟨rfl, rfl⟩ s
  | cbl i => exact na (fun _ _ => by unfold vvA; rfl) (fun _ _ => by unfold vvI; rfl) fun s l => by unfold vv; rw [ev_cbl]; exact .ok (HVb _) s
  | cnon => exact na (fun _ _ => by unfold vvA; rfl) (fun _ _ => by unfold vvI; rfl) fun s l => by unfold vv; rw [ev_cnon]; exact .ok ⟨rfl, rfl⟩ s
  | glob k => exact na (fun _ _ => by unfold vvA; rfl) (fun _ _ => by unfold vvI; rfl) fun s l => by unfold vv; rw [ev_glob]; exact sim_glob s
  | bin op a c ia ic =>
    refine na (fun _ _ => by unfold vvA; rfl) (fun _ _ => by unfold vvI; rfl) fun s l => ?_
    unfold vv
    rw [ev_bin]
    refine SimR.bind (ia.e s l) fun v d δ1 S1 hv s1 f1 => SimR.bind (ic.e s1 (l.step f1)) fun w e δ2 S2 hw s2 f2 => sim_bin op (hv.step f2) hw s2
  | neg a ia =>
    refine na (fun _ _ => by unfold vvA; rfl) (fun _ _ => by unfold vvI; rfl) fun s l => ?_
    unfold vv
    rw [ev_neg]
    exact SimR.bind (ia.e s l) fun v d δ1 S1 hv s1 f1 => sim_neg hv s1
  | not a ia =>
    refine na (fun _ _ => by unfold vvA; rfl) (fun _ _ => by unfold vvI; rfl) fun s l => ?_
    unfold vv
    rw [ev_not]
    exact SimR.bind (ia.e s l) fun v d δ1 S1 hv s1 f1 => sim_not hv s1
  | and a c ia ic =>
    refine na (fun _ _ => by unfold vvA; rfl) (fun _ _ => by unfold vvI; rfl) fun s l => ?_
    unfold vv
    rw [ev_and]
    exact SimR.bind (ia.e s l) fun v d δ1 S1 hv s1 f1 => sim_brB hv (ic.e s1 (l.step f1)) (.ok (HVb _) s1)
  | or a c ia ic =>
    refine na (fun _ _ => by unfold vvA; rfl) (fun _ _ => by unfold vvI; rfl) fun s l => ?_
    unfold vv
    rw [ev_or]
    exact SimR.bind (ia.e s l) fun v d δ1 S1 hv s1 f1 => sim_brB hv (.ok (HVb _) s1) (ic.e s1 (l.step f1))
  | cmp op a c ia ic =>
    refine na (fun _ _ => by unfold vvA; rfl) (fun _ _ => by unfold vvI; rfl) fun s l => ?_
    unfold vv
    rw [ev_cmp]
    refine SimR.bind (ia.e s l) fun v d δ1 S1 hv s1 f1 => SimR.bind (ic.e s1 (l.step f1)) fun w e δ2 S2 hw s2 f2 => sim_cmp op (hv.step f2) hw s2
  | chain op op' a c e ia ic ie =>
    refine na (fun _ _ => by unfold vvA; rfl) (fun _ _ => by unfold vvI; rfl) fun s l => ?_
    unfold vv
    rw [ev_chain]
    refine SimR.bind (ia.e s l) fun v d δ1 S1 hv s1 f1 => SimR.bind (ic.e s1 (l.step f1)) fun w e δ2 S2 hw s2 f2 => ?_
    refine SimR.bind (sim_cmp op (hv.step f2) hw s2) fun k k' δ3 S3 hk s3 f3 => sim_brB hk ?_ (.ok (HVb _) s3)
    exact SimR.bind (ie.e s3 (((l.step f1).step f2).step f3)) fun u u' δ4 S4 hu s4 f4 => sim_cmp op' ((hw.step f3).step f4) hu s4
  | ite t a c it ia ic =>
    refine na (fun _ _ => by unfold vvA; rfl) (fun _ _ => by unfold vvI; rfl) fun s l => ?_
    unfold vv
    rw [ev_ite]
    exact SimR.bind (it.e s l) fun v d δ1 S1 hv s1 f1 => sim_brT hv s1 (ia.e s1 (l.step f1)) (ic.e s1 (l.step f1))
  | tup as ih =>
    refine na (fun _ _ => by unfold vvA; rfl) (fun _ _ => by unfold vvI; rfl) fun {π n b τ δ σ S} s l => ?_
    unfold vv
    rw [ev_tup]
    have g := ih.a (b := b) s l
    have : ev P C as b σ S = (ev P C as b σ S).bind fun d S => .ok d S := by cases ev P C as b σ S <;> rfl
    rw [this]
    refine SimR.bind g fun vs d δ1 S1 ⟨ds, hd, hs⟩ s1 f1 => ?_
    subst hd
    split
    · rename_i hn
      obtain ⟨rfl, hp⟩ := hs.same hn
      exact .ok (HVt hp) s1
    · trivial
  | lst as ih =>
    refine na (fun _ _ => by unfold vvA; rfl) (fun _ _ => by unfold vvI; rfl) fun s l => ?_
    unfold vv
    rw [ev_lst]
    refine sim_tupR (ih.a s l) fun vs ds δ1 S1 hs s1 f1 => ?_
    split
    · rename_i hn
      obtain ⟨rfl, hp⟩ := hs.same hn
      exact .ok (HVl hp) s1
    · trivial
  | nil =>
    refine ⟨fun s l => by unfold vv; trivial, fun s l => ?_, fun s l => by unfold vvI; trivial⟩
    unfold vvA
    rw [ev_nil]
    exact .ok ⟨[], rfl, trivial⟩ s
  | cons a as ia ias =>
    refine ⟨fun s l => by unfold vv; trivial, fun {π n b τ δ σ S} s l => ?_, fun s l => by unfold vvI; trivial⟩
    unfold vvA
    rw [ev_cons]
    refine SimR.bind (ia.e s l) fun v d δ1 S1 hv s1 f1 => ?_
    have g := fix_bo hv s1
    have nt : isTl (bo v) = false := by cases v <;> rfl
    revert g nt
    generalize bo v = bv
    intro g nt
    have : (vvA P C2 as τ δ1).bind (fun ds δ2 => R.ok (bv :: ds) δ2) = (R.ok bv δ1).bind fun v' δ1 => (vvA P C2 as τ δ1).bind fun ds δ2 => R.ok (v' :: ds) δ2 := rfl
    clear this
    obtain ⟨d', S2, e2, hv', s2, f2⟩ := g
    rw [e2, R.bind_ok]
    refine SimR.from ?_ f2
    refine sim_tupR (ias.a s2 ((l.step f1).step f2)) fun vs ds δ3 S3 hs s3 f3 => ?_
    exact .ok ⟨d' :: ds, rfl, hv'.step f3, nt, hs⟩ s3
  | idx a i ia ii =>
    refine na (fun _ _ => by unfold vvA; rfl) (fun _ _ => by unfold vvI; rfl) fun s l => ?_
    unfold vv
    rw [ev_idx]
    exact SimR.bind (ia.e s l) fun v d δ1 S1 hv s1 f1 => SimR.bind (ii.e s1 (l.step f1)) fun w e δ2 S2 hw s2 f2 => sim_idx (hv.step f2) hw s2
  | slc a lo hi ia il ih =>
    refine na (fun _ _ => by unfold vvA; rfl) (fun _ _ => by unfold vvI; rfl) fun s l => ?_
    unfold vv
    rw [ev_slc]
    refine SimR.bind (ia.e s l) fun v d δ1 S1 hv s1 f1 => SimR.bind (il.e s1 (l.step f1)) fun w e δ2 S2 hw s2 f2 => sim_slc hw fun o => ?_
    exact SimR.bind (ih.e s2 ((l.step f1).step f2)) fun u u' δ3 S3 hu s3 f3 => sim_slc hu fun o' => sim_sl _ _ ((hv.step f2).step f3) s3
  | rev a ia =>
    refine na (fun _ _ => by unfold vvA; rfl) (fun _ _ => by unfold vvI; rfl) fun s l => ?_
    unfold vv
    rw [ev_rev]
    exact SimR.bind (ia.e s l) fun v d δ1 S1 hv s1 f1 => sim_rev hv s1
  | call j as ih =>
    refine na (fun _ _ => by unfold vvA; rfl) (fun _ _ => by unfold vvI; rfl) fun s l => ?_
    unfold vv
    split
    · trivial
    · rename_i hk
      rw [ev_call j as (by simpa using hk)]
      refine sim_drop ?_ s
      rw [tupR_eq]
      refine SimR.bindC (ih.a s l) (Nat.le_refl _) fun vs d δ1 S1 ⟨ds, e, hs⟩ s1 f1 => ?_
      subst e
      exact hc _ _ j vs δ1 S1 ds _ hs s1 f1.1
  | callk j p as ih =>
    refine na (fun _ _ => by unfold vvA; rfl) (fun _ _ => by unfold vvI; rfl) fun s l => ?_
    unfold vv
    rw [ev_callk']
    refine sim_drop ?_ s
    rw [tupR_eq]
    refine SimR.bindC (ih.a s l) (Nat.le_refl _) fun vs d δ1 S1 ⟨ds, e, hs⟩ s1 f1 => ?_
    subst e
    show SimC _ _ _ S1 (perR (permD p vs) _) (perR (permD p ds) _)
    cases q : permD p vs with
    | none => trivial
    | some vs' =>
      obtain ⟨ds', h1, h2⟩ := hs.perm q
      rw [h1]
      exact hc _ _ j vs' δ1 S1 ds' _ h2 s1 f1.1
  | b1 f a ia =>
    refine na (fun _ _ => by unfold vvA; rfl) (fun _ _ => by unfold vvI; rfl) fun s l => ?_
    unfold vv
    rw [ev_b1]
    exact SimR.bind (ia.e s l) fun v d δ1 S1 hv s1 f1 => sim_b1 f hv s1
  | mx a c ia ic =>
    refine na (fun _ _ => by unfold vvA; rfl) (fun _ _ => by unfold vvI; rfl) fun s l => ?_
    unfold vv
    rw [ev_mx]
    exact SimR.bind (ia.e s l) fun v d δ1 S1 hv s1 f1 => SimR.bind (ic.e s1 (l.step f1)) fun w e δ2 S2 hw s2 f2 => sim_mx (hv.step f2) hw s2
  | mn a c ia ic =>
    refine na (fun _ _ => by unfold vvA; rfl) (fun _ _ => by unfold vvI; rfl) fun s l => ?_
    unfold vv
    rw [ev_mn]
    exact SimR.bind (ia.e s l) fun v d δ1 S1 hv s1 f1 => SimR.bind (ic.e s1 (l.step f1)) fun w e δ2 S2 hw s2 f2 => sim_mn (hv.step f2) hw s2
  | isi t a ia =>
    refine na (fun _ _ => by unfold vvA; rfl) (fun _ _ => by unfold vvI; rfl) fun s l => ?_
    unfold vv
    rw [ev_isi]
    refine SimR.bind (ia.e s l) fun v d δ1 S1 hv s1 f1 => ?_
    cases q : isTy t (lr v) with
    | none => trivial
    | some k => rw [sim_isTy hv q]; exact .ok (HVb _) s1
  | lrng as ih =>
    refine na (fun _ _ => by unfold vvA; rfl) (fun _ _ => by unfold vvI; rfl) fun s l => ?_
    have e : ∀ b σ S, ev P C (.lrng as) b σ S = asTup (ev P C as b σ S) fun ds S1 => match opRng ds with | some xs => .ok (.tl xs) S1 | none => .bad := fun b σ S => by (conv => lhs; unfold ev) <;> rfl
    rw [e]
    unfold vv
    refine sim_tupR (ih.a s l) fun vs ds δ1 S1 hs s1 f1 => ?_
    cases q : opRng vs with
    | none => trivial
    | some xs =>
      have hn : vs.all nb = true := by
        unfold opRng at q
        split at q <;> first | rfl | cases q
      obtain ⟨rfl, _⟩ := hs.same hn
      rw [q]
      exact .ok (HVl (rng_pl q)) s1
  | comp e tg it cond own ie _ ii ic => exact na (fun _ _ => by unfold vvA; rfl) (fun _ _ => by unfold vvI; rfl) fun s l => sim_comp ie ii ic s l
  | frz a ia =>
    refine na (fun _ _ => by unfold vvA; rfl) (fun _ _ => by unfold vvI; rfl) fun s l => ?_
    have e : ∀ b σ S, ev P C (.frz a) b σ S = (ev P C a b σ S).bind fun d S1 => .ok (frzD d) S1 := fun b σ S => by
      (conv => lhs; unfold ev) <;> rfl
    rw [e]
    unfold vv
    refine SimR.bind (ia.e s l) fun v d δ1 S1 hv s1 f1 => ?_
    unfold frzV
    split
    · obtain ⟨h1, rfl⟩ := hv
      exact .ok ⟨h1, rfl⟩ s1
    · split
      · rename_i hn
        rw [hv.eqN hn]
        have : frzD v = v := by cases v <;> first | rfl | (simp [nb] at hn; done)
        rw [this]
        exact .ok (.of (hv.plN hn)) s1
      · trivial
  | scomp j tg a own _ ia =>
    refine na (fun _ _ => by unfold vvA; rfl) (fun _ _ => by unfold vvI; rfl) fun s l => ?_
    have e : ∀ b σ S, ev P C (.scomp j tg a own) b σ S = (ev P C a b σ S).bind fun d S1 => scolR j tg (wipeS σ own) (seqv d S1) S1 := fun b σ S => by
      (conv => lhs; unfold ev)
      congr 1
    rw [e]
    unfold vv
    refine SimR.bind (ia.e s l) fun v d δ1 S1 hv s1 f1 => ?_
    cases q : seqv (lf v) δ1 with
    | none => trivial
    | some items =>
      obtain ⟨q2, hp⟩ := sim_seqv hv s1 q
      rw [q2]
      unfold scolR
      dsimp only
      split
      · trivial
      · cases q3 : scol j tg (wipeS _ own) items with
        | none => trivial
        | some xs =>
          obtain ⟨q4, hx⟩ := sim_scol ((l.step f1).wipe own) items hp q3
          rw [q4]
          exact .ok ⟨hx, rfl⟩ s1
  | thunk k e ih =>
    refine na (fun _ _ => by unfold vvA; rfl) (fun _ _ => by unfold vvI; rfl) fun s l => ?_
    unfold vv
    rw [ev_thunk]
    exact sim_thunk (sim_drop ((ih.e s l).c (Nat.le_refl _)) s)
  | iseq a ia =>
    refine ⟨fun s l => by unfold vv; trivial, fun s l => by unfold vvA; trivial, fun {π n b τ δ σ S} s l => ?_⟩
    unfold vvI
    rw [ev_iseq]
    refine SimR.bind (ia.e (b := b) s l).keep fun v d δ1 S1 ⟨hv, he, _, hr⟩ s1 f1 => ?_
    cases q : seqI (isVr a) v δ1 with
    | none => trivial
    | some xs =>
      obtain ⟨h1, h2, h3, h4, h5⟩ := sim_seqI hv s1 q
      rw [h1]
      exact .ok ⟨lkOf d, rfl, h2, h3, fun x' hx => lk_var (h4 x' hx) he hr, fun i hi ys hy => lk_var2 hi hy h5 he hr⟩ s1
  | irng as ih =>
    refine ⟨fun s l => by unfold vv; trivial, fun s l => by unfold vvA; trivial, fun s l => ?_⟩
    unfold vvI
    rw [ev_irng]
    refine sim_tupR (ih.a s l) fun vs ds δ1 S1 hs s1 f1 => ?_
    cases q : opRng vs with
    | none => trivial
    | some xs =>
      have hn : vs.all nb = true := by
        unfold opRng at q
        split at q <;> first | rfl | cases q
      obtain ⟨rfl, _⟩ := hs.same hn
      rw [q]
      exact .ok ⟨[], rfl, rng_pl q, fun x hx => (by cases hx), fun x hx => (by cases hx), fun i hi => (by cases hi)⟩ s1
  | ienum a ia =>
    refine ⟨fun s l => by unfold vv; trivial, fun s l => by unfold vvA; trivial, fun {π n b τ δ σ S} s l => ?_⟩
    have e : ∀ b σ S, ev P C (.ienum a) b σ S = (ev P C a b σ S).bind fun d S1 => match seqv d S1 with | some xs => .ok (itD (enumD xs) (lkOf d)) S1 | none => .bad := fun b σ S => by (conv => lhs; unfold ev) <;> rfl
    unfold vvI
    rw [e]
    refine SimR.bind (ia.e (b := b) s l).keep fun v d δ1 S1 ⟨hv, he, _, hr⟩ s1 f1 => ?_
    cases q : seqI (isVr a) v δ1 with
    | none => trivial
    | some xs =>
      obtain ⟨h1, h2, h3, h4, h5⟩ := sim_seqI hv s1 q
      rw [h1]
      exact .ok ⟨lkOf d, rfl, enum_pl h2, h3, fun x' hx => lk_var (h4 x' hx) he hr, fun i hi ys hy => lk_var2 hi hy h5 he hr⟩ s1
  | izip a c ia ic =>
    refine ⟨fun s l => by unfold vv; trivial, fun s l => by unfold vvA; trivial, fun {π n b τ δ σ S} s l => ?_⟩
    have e : ∀ b σ S, ev P C (.izip a c) b σ S = (ev P C a b σ S).bind fun d S1 => (ev P C c b σ S1).bind fun e S2 => match seqv d S2, seqv e S2 with | some xs, some ys => .ok (itD (zipD xs ys) (lkOf d ++ lkOf e)) S2 | _, _ => .bad := fun b σ S => by (conv => lhs; unfold ev) <;> rfl
    unfold vvI
    rw [e]
    refine SimR.bind (ia.e (b := b) s l).keep fun v d δ1 S1 ⟨hv, he, _, hr⟩ s1 f1 => ?_
    refine SimR.bind (ic.e (b := b) s1 (l.step f1)).keep fun w e δ2 S2 ⟨hw, he2, _, hr2⟩ s2 f2 => ?_
    unfold zipO
    cases q : seqI (isVr a) v δ2 with
    | none => trivial
    | some xs =>
      cases q2 : seqI (isVr c) w δ2 with
      | none => trivial
      | some ys =>
        obtain ⟨h1, h2, h3, h4, h5⟩ := sim_seqI (hv.step f2) s2 q
        obtain ⟨k1, k2, k3, k4, k5⟩ := sim_seqI hw s2 q2
        rw [h1, k1]
        refine .ok ⟨lkOf d ++ lkOf e, rfl, zip_pl h2 k2, fun x hx => (List.mem_append.mp hx).elim (h3 x) (k3 x), fun x' hx => ?_, fun i hi ys hy => ?_⟩ s2
        · rcases List.mem_append.mp hx with hx | hx
          · obtain ⟨i, i1, i2⟩ := lk_var (h4 x' hx) he hr
            exact ⟨i, List.mem_append.mpr (.inl i1), i2⟩
          · obtain ⟨i, i1, i2⟩ := lk_var (k4 x' hx) he2 hr2
            exact ⟨i, List.mem_append.mpr (.inr i1), i2⟩
        · rcases List.mem_append.mp hi with hi | hi
          · obtain ⟨m, m1, m2⟩ := lk_var2 hi hy h5 he hr
            exact ⟨m, m1, List.mem_append.mpr (.inl m2)⟩
          · obtain ⟨m, m1, m2⟩ := lk_var2 hi hy k5 he2 hr2
            exact ⟨m, m1, List.mem_append.mpr (.inr m2)⟩
  | _ => exact .no (fun _ _ => by unfold vv; rfl) (fun _ _ => by unfold vvA; rfl) (fun _ _ => by unfold vvI; rfl)
end Ev
set_option Elab.async false
set_option linter.all false
set_option maxRecDepth 100000
set_option maxHeartbeats 8000000
/-! WvH: statements: the relation, methods, stores. -/
namespace Ev
open PySem
variable {P : Pr} {C2 : CV} {C : Cl} {π : Nat → Nat} {n n0 : Nat} {S S0 S1 S2 S' T : GH} {δ δ1 δ' : GH} {ρ ρ1 ρ2 ρ' τ σ σ1 σ' : Sg} {v w d e : D}
def SV (π : Nat → Nat) (n n0 : Nat) (S : GH) (v d : D) : Prop := match v with
  | .tl xs => plA xs = true ∧ ∃ m, d = .ref m ∧ n0 ≤ m ∧ ¬ Img π n m ∧ S[m]? = some (.lst xs)
  | v => HV π n S v d
structure RelS (π : Nat → Nat) (n n0 : Nat) (ρ : Sg) (δ : GH) (σ : Sg) (S : GH) : Prop where
  sh : Sh π n δ S
  lb : n0 ≤ S.length
  ln : σ.length = ρ.length
  sl : ∀ (i : Nat) (v : D), ρ[i]? = some (some v) → ∃ d, σ[i]? = some (some d) ∧ SV π n n0 S v d
  un : ∀ (i j : Nat) (xs : List D) (v : D) (m : Nat), i ≠ j → ρ[i]? = some (some (.tl xs)) → ρ[j]? = some (some v) → σ[i]? = some (some (.ref m)) → σ[j]? = some (some (.ref m)) → False
theorem SV.step (h : SV π n n0 S v d) (f : Fr π n S S') : SV π n n0 S' v d := by
  cases v with
  | tl xs => obtain ⟨h1, m, h2, h3, h4, h5⟩ := h; exact ⟨h1, m, h2, h3, h4, f.2 m _ h5 h4⟩
  | bw xs => exact HV.step (v := .bw xs) h f
  | _ => exact h
theorem RelS.step (h : RelS π n n0 ρ δ σ S) (k : Sh π n δ1 S1) (f : Fr π n S S1) : RelS π n n0 ρ δ1 σ S1 :=
  ⟨k, Nat.le_trans h.lb f.1, h.ln, fun i v e => let ⟨d, h1, h2⟩ := h.sl i v e; ⟨d, h1, h2.step f⟩, h.un⟩
theorem rd_at {i : Nat} {v : D} (h : (rd ρ)[i]? = some (some v)) : ∃ u, ρ[i]? = some (some u) ∧ rd1 (some u) = some v := by
  unfold rd at h
  rw [List.getElem?_map] at h
  cases q : ρ[i]? with
  | none => rw [q] at h; cases h
  | some o =>
    rw [q] at h
    cases o with
    | none => cases h
    | some u => exact ⟨u, rfl, Option.some.inj h⟩
theorem RelS.slr (h : RelS π n n0 ρ δ σ S) : Slr π n (rd ρ) σ S := by
  refine ⟨by unfold rd; rw [List.length_map]; exact h.ln, fun i v e => ?_⟩
  obtain ⟨u, h1, h2⟩ := rd_at e
  obtain ⟨d, h3, h4⟩ := h.sl i u h1
  refine ⟨d, h3, ?_⟩
  cases u with
  | tl xs =>
    cases h2
    obtain ⟨p, m, rfl, _, q, r⟩ := h4
    exact ⟨p, m, rfl, q, .inl r⟩
  | _ => cases h2; exact h4
/-- what a statement keeps -/
structure Kp (ρ σ : Sg) (S : GH) (ρ' σ' : Sg) (S' : GH) : Prop where
  le : S.length ≤ S'.length
  ln : ρ'.length = ρ.length
  bk : ∀ (i : Nat) (xs : List D), ρ'[i]? = some (some (.bw xs)) → ρ[i]? = some (some (.bw xs)) ∧ σ'[i]? = σ[i]?
  ow : ∀ (i : Nat) (xs : List D) (m : Nat), ρ'[i]? = some (some (.tl xs)) → σ'[i]? = some (some (.ref m)) → S.length ≤ m ∨ ∃ (j : Nat) (ys : List D), ρ[j]? = some (some (.tl ys)) ∧ σ[j]? = some (some (.ref m))
theorem Kp.refl (h : S.length ≤ S'.length) : Kp ρ σ S ρ σ S' := ⟨h, rfl, fun _ _ h => ⟨h, rfl⟩, fun i xs m h k => .inr ⟨i, xs, h, k⟩⟩
theorem Kp.trans (h : Kp ρ σ S ρ1 σ1 S1) (k : Kp ρ1 σ1 S1 ρ' σ' S') : Kp ρ σ S ρ' σ' S' :=
  ⟨Nat.le_trans h.le k.le, k.ln.trans h.ln, fun i xs e => by
    obtain ⟨h1, h2⟩ := k.bk i xs e
    obtain ⟨h3, h4⟩ := h.bk i xs h1
    exact ⟨h3, h2.trans h4⟩, fun i xs m e e2 => by
    rcases k.ow i xs m e e2 with q | ⟨j, ys, q1, q2⟩
    · exact .inl (Nat.le_trans h.le q)
    · exact h.ow j ys m q1 q2⟩
structure Nx (π : Nat → Nat) (n n0 : Nat) (ρ σ : Sg) (S : GH) (ρ' : Sg) (δ' : GH) (σ' : Sg) (S' : GH) : Prop where
  rs : RelS π n n0 ρ' δ' σ' S'
  fz : Fz π n n0 S S'
  kp : Kp ρ σ S ρ' σ' S'
theorem Nx.trans {δ2 : GH} {σ2 : Sg} (h : Nx π n n0 ρ σ S ρ1 δ1 σ1 S1) (k : Nx π n n0 ρ1 σ1 S1 ρ2 δ2 σ2 S2) : Nx π n n0 ρ σ S ρ2 δ2 σ2 S2 := ⟨k.rs, h.fz.trans k.fz, h.kp.trans k.kp⟩
/-- a list handed over -/
def RVu (π : Nat → Nat) (n n0 : Nat) (ρ σ : Sg) (S : GH) (ρ' σ' : Sg) (S' : GH) (v d : D) : Prop := match v with
  | .tl xs => plA xs = true ∧ (d = .tl xs ∨ ∃ m, d = .ref m ∧ n0 ≤ m ∧ ¬ Img π n m ∧ S'[m]? = some (.lst xs) ∧ (S.length ≤ m ∨ ∃ (j : Nat) (ys : List D), ρ[j]? = some (some (.tl ys)) ∧ σ[j]? = some (some (.ref m))) ∧ ∀ (i : Nat) (v : D), ρ'[i]? = some (some v) → σ'[i]? ≠ some (some (.ref m)))
  | v => HV π n S' v d
def SimM (π : Nat → Nat) (n n0 : Nat) (ρ σ : Sg) (S : GH) (H : Sg → GH → D → D → Prop) (r : R (D × Sg)) (r' : R D) : Prop := match r with
  | .ok p δ' => ∃ d S', r' = .ok d S' ∧ H p.2 S' p.1 d ∧ Nx π n n0 ρ σ S p.2 δ' σ S'
  | .exc c v δ' => ∃ S', r' = .exc c v S' ∧ pl v = true ∧ Sh π n δ' S' ∧ Fz π n n0 S S'
  | .bad => True
theorem get_set {i j : Nat} {o : Option D} {v : D} (h : (ρ.set i o)[j]? = some (some v)) : (i = j ∧ o = some v) ∨ (i ≠ j ∧ ρ[j]? = some (some v)) := by
  by_cases x : i = j
  · subst x
    by_cases hl : i < ρ.length
    · rw [List.getElem?_set_self hl] at h
      exact .inl ⟨rfl, Option.some.inj h⟩
    · rw [List.getElem?_eq_none (by rw [List.length_set]; omega)] at h; cases h
  · rw [List.getElem?_set_ne x] at h
    exact .inr ⟨x, h⟩
theorem tlv_eq {o : Option (Option D)} {xs : List D} (h : tlv o = some xs) : o = some (some (.tl xs)) := by
  unfold tlv at h
  split at h
  · cases h; rfl
  · cases h
/-- an owned list changes -/
theorem RelS.chg (h : RelS π n n0 ρ δ σ S) {j m : Nat} {xs ys : List D} (hj : ρ[j]? = some (some (.tl xs))) (hm : σ[j]? = some (some (.ref m))) (p : plA ys = true) : RelS π n n0 (ρ.set j (some (.tl ys))) δ σ (S.set m (.lst ys)) ∧ Kp ρ σ S (ρ.set j (some (.tl ys))) σ (S.set m (.lst ys)) ∧ Fz π n n0 S (S.set m (.lst ys)) := by
  obtain ⟨d, h1, h2⟩ := h.sl j _ hj
  obtain ⟨_, m', e, h3, h4, h5⟩ := h2
  rw [hm] at h1
  cases h1
  cases e
  have ml := (List.getElem?_eq_some_iff.mp h5).1
  refine ⟨⟨⟨h.sh.len, fun k o e => ?_, h.sh.inj⟩, by rw [List.length_set]; exact h.lb, by rw [List.length_set]; exact h.ln, fun i v e => ?_, fun i k xs2 v m2 ne e1 e2 e3 e4 => ?_⟩, ⟨by rw [List.length_set]; exact Nat.le_refl _, by rw [List.length_set], fun i zs e => ?_, fun i zs m2 e e2 => ?_⟩, by rw [List.length_set]; exact h.lb, fun m2 o l e i => ?_⟩
  · obtain ⟨g1, g2⟩ := h.sh.at_ k o e
    have : m ≠ π k := fun q => h4 ⟨k, by rw [← h.sh.len]; exact (List.getElem?_eq_some_iff.mp e).1, q.symm⟩
    exact ⟨by rw [List.getElem?_set_ne this]; exact g1, g2⟩
  · rcases get_set e with ⟨rfl, e5⟩ | ⟨ne, e⟩
    · cases e5
      exact ⟨_, hm, p, m, rfl, h3, h4, List.getElem?_set_self ml⟩
    · obtain ⟨d2, g1, g2⟩ := h.sl i v e
      refine ⟨d2, g1, ?_⟩
      cases v with
      | tl zs =>
        obtain ⟨q1, m2, rfl, q2, q3, q4⟩ := g2
        have : m ≠ m2 := fun z => h.un j i xs _ m ne hj e hm (by rw [z]; exact g1)
        exact ⟨q1, m2, rfl, q2, q3, by rw [List.getElem?_set_ne this]; exact q4⟩
      | bw zs =>
        obtain ⟨q1, m2, rfl, q2, q3⟩ := g2
        have : m ≠ m2 := fun z => h.un j i xs _ m ne hj e hm (by rw [z]; exact g1)
        exact ⟨q1, m2, rfl, q2, by rw [List.getElem?_set_ne this]; exact q3⟩
      | _ => exact g2
  · have t1 : ∃ zs, ρ[i]? = some (some (.tl zs)) := by
      rcases get_set e1 with ⟨rfl, _⟩ | ⟨_, e⟩
      · exact ⟨_, hj⟩
      · exact ⟨_, e⟩
    have t2 : ∃ u, ρ[k]? = some (some u) := by
      rcases get_set e2 with ⟨rfl, _⟩ | ⟨_, e⟩
      · exact ⟨_, hj⟩
      · exact ⟨_, e⟩
    exact h.un i k _ _ m2 ne t1.choose_spec t2.choose_spec e3 e4
  · rcases get_set e with ⟨_, e⟩ | ⟨_, e⟩
    · cases e
    · exact ⟨e, rfl⟩
  · rcases get_set e with ⟨rfl, _⟩ | ⟨_, e⟩
    · exact .inr ⟨_, _, hj, e2⟩
    · exact .inr ⟨_, _, e, e2⟩
  · have : m ≠ m2 := by omega
    rw [List.getElem?_set_ne this]; exact e
theorem SimD.m {r r' : R D} (h : SimD π n S r r') (rs : RelS π n n0 ρ δ σ S) : SimM π n n0 ρ σ S (fun _ S' v d => HV π n S' v d) (r.bind fun d δ1 => .ok (d, ρ) δ1) r' := by
  cases r with
  | ok v δ1 =>
    obtain ⟨d, S2, rfl, a, b, c⟩ := h
    exact ⟨d, S2, rfl, a, rs.step b c, c.fz rs.lb, .refl c.1⟩
  | exc c v δ1 => obtain ⟨S2, rfl, a, b, q⟩ := h; exact ⟨S2, rfl, a, b, q.fz rs.lb⟩
  | bad => trivial
theorem ev_m0 (f : M0) (o : X) {b : Nat} : ev P C (.m0 f o) b σ S = (ev P C o b σ S).bind fun d S1 => guR (lsv d S1).isSome (opM0 f b d S1) := by (conv => lhs; unfold ev) <;> rfl
theorem opM_own {b m : Nat} {xs ys : List D} {f : List D → Option (D × List D × Option D)} {r : D} {u : Option D} (h : S[m]? = some (.lst xs)) (hb : b ≤ m) (hf : f xs = some (r, ys, u)) (hu : ∀ w, u = some w → isTl w = false) : opM b (.ref m) S f = .ok r (S.set m (.lst ys)) := by
  unfold opM
  dsimp only
  rw [h]
  dsimp only
  rw [hf]
  dsimp only
  cases u with
  | none => rfl
  | some w =>
    dsimp only
    rw [if_pos]
    unfold may
    rw [hu w rfl, if_neg (by omega)]
    rfl
theorem HV.noTl (h : HV π n S v d) (k : isTl v = false) : isTl d = false := by
  cases v with
  | bw xs => obtain ⟨_, m, rfl, _⟩ := h; rfl
  | tl xs => cases k
  | _ => rw [h.2] <;> rfl
theorem fix_no (h : isTl d = false) : fix d S = .ok d S := by cases d <;> first | rfl | cases h
theorem pl_get {xs : List D} (p : plA xs = true) {i : Nat} (h : xs[i]? = some v) : pl v = true := plA_all.mp p _ (List.mem_of_getElem? h)
theorem sim_m (hc : CSim C2 C) : ∀ (x : X) {π : Nat → Nat} {n n0 : Nat} {ρ : Sg} {δ : GH} {σ : Sg} {S : GH}, RelS π n n0 ρ δ σ S → SimM π n n0 ρ σ S (fun _ S' v d => HV π n S' v d) (vvM P C2 x ρ δ) (ev P C x n0 σ S) := by
  intro x
  have gen : ∀ (x : X) {π : Nat → Nat} {n n0 : Nat} {ρ : Sg} {δ : GH} {σ : Sg} {S : GH}, RelS π n n0 ρ δ σ S → SimM π n n0 ρ σ S (fun _ S' v d => HV π n S' v d) ((vv P C2 x (rd ρ) δ).bind fun d δ1 => .ok (d, ρ) δ1) (ev P C x n0 σ S) := fun x π n n0 ρ δ σ S rs => SimD.m ((sim_x hc x).e rs.sh rs.slr) rs
  induction x with
  | m0 f o _ =>
    intro π n n0 ρ δ σ S rs
    cases f
    cases o with
    | var j =>
      show SimM π n n0 ρ σ S _ (popR (tlv ρ[j]?) j ρ δ) _
      cases q : tlv ρ[j]? with
      | none => trivial
      | some xs =>
        have hj := tlv_eq q
        obtain ⟨d, h1, h2⟩ := rs.sl j _ hj
        obtain ⟨p, m, rfl, h3, h4, h5⟩ := h2
        unfold popR
        dsimp only
        cases q2 : xs.getLast? with
        | none => trivial
        | some v =>
          dsimp only
          have pd : plA xs.dropLast = true := plA_sub p fun y hy => List.dropLast_subset _ hy
          obtain ⟨r1, r2, r3⟩ := rs.chg hj h1 pd
          refine ⟨v, S.set m (.lst xs.dropLast), ?_, ?_, r1, r3, r2⟩
          · rw [ev_m0, ev_var, h1, R.bind_ok, lsvR h5]
            show opM0 .pop n0 (.ref m) S = _
            exact opM_own h5 h3 (u := none) (by show Option.map _ xs.getLast? = _; rw [q2]; rfl) (fun w z => by cases z)
          · exact .of (plA_all.mp p _ (List.mem_of_getLast? q2))
    | _ => exact gen _ rs
  | m1 f o a _ ia =>
    intro π n n0 ρ δ σ S rs
    cases o with
    | var j =>
      show SimM π n n0 ρ σ S _ (guO (tlv ρ[j]?) ((vvM P C2 a ρ δ).bind fun p δ1 => methR ((tlv p.2[j]?).bind fun xs => lmeth f xs p.1 δ1) j p.2 δ1)) _
      cases q : tlv ρ[j]? with
      | none => trivial
      | some xs0 =>
        have hj0 := tlv_eq q
        obtain ⟨d0, g1, g2⟩ := rs.sl j _ hj0
        obtain ⟨_, m, rfl, h3, h4, h50⟩ := g2
        show SimM π n n0 ρ σ S _ ((vvM P C2 a ρ δ).bind fun p δ1 => methR ((tlv p.2[j]?).bind fun xs => lmeth f xs p.1 δ1) j p.2 δ1) _
        have e0 : ev P C (.m1 f (.var j) a) n0 σ S = (ev P C a n0 σ S).bind fun e S2 => (fix e S2).bind fun e' S3 => opM1 f n0 (.ref m) e' S3 := by
          rw [ev_m1, ev_var, g1, R.bind_ok, lsvR h50]
          rfl
        rw [e0]
        have g := ia rs
        cases q3 : vvM P C2 a ρ δ with
        | bad => trivial
        | exc c v δ1 => rw [q3] at g; obtain ⟨S2, e1, g2, g3, g4⟩ := g; rw [e1]; exact ⟨S2, rfl, g2, g3, g4⟩
        | ok p δ1 =>
          rw [q3] at g
          obtain ⟨e, S2, e1, hv, nx⟩ := g
          rw [e1]
          obtain ⟨v, ρ1⟩ := p
          show SimM π n n0 ρ σ S _ (methR ((tlv ρ1[j]?).bind fun xs => lmeth f xs v δ1) j ρ1 δ1) ((fix e S2).bind fun e' S3 => opM1 f n0 (.ref m) e' S3)
          cases q4 : tlv ρ1[j]? with
          | none => trivial
          | some xs =>
            have hj := tlv_eq q4
            obtain ⟨d1, k1, k2⟩ := nx.rs.sl j _ hj
            rw [g1] at k1
            cases k1
            obtain ⟨pxs, m', em, k3, k4, k5⟩ := k2
            cases em
            show SimM π n n0 ρ σ S _ (methR (lmeth f xs v δ1) j ρ1 δ1) _
            -- what remains: the method itself, from a heap with the argument held
            have fin : ∀ (S3 : GH) (e' : D) (r : D) (ys : List D), RelS π n n0 ρ1 δ1 σ S3 → Fz π n n0 S2 S3 → S2.length ≤ S3.length → fix e S2 = .ok e' S3 → opM1 f n0 (.ref m) e' S3 = .ok r (S3.set m (.lst ys)) → plA ys = true → pl r = true → SimM π n n0 ρ σ S (fun _ S' v d => HV π n S' v d) (.ok (r, ρ1.set j (some (.tl ys))) δ1) ((fix e S2).bind fun e' S3 => opM1 f n0 (.ref m) e' S3) := fun S3 e' r ys rs3 fz3 le3 hfix hop py pr => by
              rw [hfix, R.bind_ok, hop]
              obtain ⟨r1, r2, r3⟩ := rs3.chg hj g1 py
              have kk : Kp ρ1 σ S2 ρ1 σ S3 := .refl le3
              exact ⟨r, _, rfl, .of pr, r1, (nx.fz.trans fz3).trans r3, (nx.kp.trans kk).trans r2⟩
            have same : isTl v = false → fix e S2 = .ok e S2 := fun z => fix_no (hv.noTl z)
            cases f with
            | append =>
              unfold lmeth
              dsimp only
              split
              · rename_i hq
                rw [Bool.and_eq_true] at hq
                have ev := hv.eqN hq.2
                subst ev
                have nt : isTl e = false := by cases e <;> first | rfl | cases hq.2
                have hl : xs.length < lim := of_decide_eq_true hq.1
                refine fin S2 e .non _ nx.rs (.trans (S1 := S2) ⟨nx.rs.lb, fun _ _ _ h _ => h⟩ ⟨nx.rs.lb, fun _ _ _ h _ => h⟩) (Nat.le_refl _) (same nt) ?_ (plA_app pxs (by rw [plA, hv.plN hq.2]; rfl)) rfl
                exact opM_own k5 k3 (u := some e) (by dsimp only; rw [if_pos hl]) (fun w z => by cases z; exact nt)
              · trivial
            | extend =>
              unfold lmeth
              dsimp only
              cases q5 : lsw (lf v) δ1 with
              | none => trivial
              | some ys =>
                obtain ⟨a1, a2⟩ := sim_lsw hv nx.rs.sh q5
                dsimp only [Option.bind_some]
                split
                · rename_i hq
                  simp only [Bool.and_eq_true, decide_eq_true_eq] at hq
                  by_cases ht : isTl v = true
                  · have : v = .tl ys := by
                      cases v with
                      | tl zs => cases q5; rfl
                      | _ => cases ht
                    subst this
                    obtain ⟨_, rfl⟩ := hv
                    have k6 : (S2 ++ [GO.lst ys])[m]? = some (.lst xs) := by rw [List.getElem?_append_left (List.getElem?_eq_some_iff.mp k5).1]; exact k5
                    have fr : Fr π n S2 (S2 ++ [.lst ys]) := .app _ _
                    have sh : Sh π n δ1 (S2 ++ [.lst ys]) := ⟨nx.rs.sh.len, fun k o e => by
                      obtain ⟨z1, z2⟩ := nx.rs.sh.at_ k o e
                      exact ⟨by rw [List.getElem?_append_left (List.getElem?_eq_some_iff.mp z1).1]; exact z1, z2⟩, nx.rs.sh.inj⟩
                    refine fin (S2 ++ [.lst ys]) (.ref S2.length) .non _ (nx.rs.step sh fr) (fr.fz nx.rs.lb) fr.1 rfl ?_ (plA_app pxs a2) rfl
                    have l2 : lsw (.ref S2.length) (S2 ++ [.lst ys]) = some ys := lsw_ref (.inl (by simp))
                    unfold opM1
                    dsimp only
                    rw [l2]
                    exact opM_own k6 k3 (u := none) (by rw [if_pos]; rw [Bool.and_eq_true]; exact ⟨decide_eq_true hq.1.1, hq.1.2⟩) (fun w z => by cases z)
                  · have ht : isTl v = false := by simpa using ht
                    refine fin S2 e .non _ nx.rs ⟨nx.rs.lb, fun _ _ _ h _ => h⟩ (Nat.le_refl _) (same ht) ?_ (plA_app pxs a2) rfl
                    unfold opM1
                    dsimp only
                    rw [a1]
                    exact opM_own k5 k3 (u := none) (by rw [if_pos]; rw [Bool.and_eq_true]; exact ⟨decide_eq_true hq.1.1, hq.1.2⟩) (fun w z => by cases z)
                · trivial
            | remove =>
              unfold lmeth
              dsimp only
              cases v with
              | int i =>
                have ei := hv.int
                subst ei
                dsimp only
                cases q5 : intsD xs with
                | none => trivial
                | some ns =>
                  dsimp only [Option.bind_some]
                  cases q6 : ns.idxOf? i with
                  | none => trivial
                  | some k =>
                    refine fin S2 (.int i) .non _ nx.rs ⟨nx.rs.lb, fun _ _ _ h _ => h⟩ (Nat.le_refl _) rfl ?_ (plA_sub pxs fun y hy => List.mem_of_mem_eraseIdx hy) rfl
                    exact opM_own k5 k3 (u := none) (by rw [q5]; dsimp only [Option.bind_some]; rw [q6]; rfl) (fun w z => by cases z)
              | _ => trivial
            | popat =>
              unfold lmeth
              dsimp only
              cases v with
              | int i =>
                have ei := hv.int
                subst ei
                dsimp only
                cases q5 : L2.ixN xs.length i with
                | none => trivial
                | some k =>
                  dsimp only [Option.bind_some]
                  cases q6 : xs[k]? with
                  | none => trivial
                  | some u =>
                    refine fin S2 (.int i) u _ nx.rs ⟨nx.rs.lb, fun _ _ _ h _ => h⟩ (Nat.le_refl _) rfl ?_ (plA_sub pxs fun y hy => List.mem_of_mem_eraseIdx hy) (pl_get pxs q6)
                    exact opM_own k5 k3 (u := none) (by rw [q5]; dsimp only [Option.bind_some]; rw [q6]; rfl) (fun w z => by cases z)
              | _ => trivial
            | index => trivial
    | _ => exact gen _ rs
  | _ => exact fun rs => gen _ rs
theorem sim_r (hc : CSim C2 C) (x : X) (rs : RelS π n n0 ρ δ σ S) : SimM π n n0 ρ σ S (fun ρ' S' v d => RVu π n n0 ρ σ S ρ' σ S' v d) (vvR P C2 x ρ δ) (ev P C x n0 σ S) := by
  have up : ∀ {r : R (D × Sg)} {r' : R D}, SimM π n n0 ρ σ S (fun _ S' v d => HV π n S' v d) r r' → SimM π n n0 ρ σ S (fun ρ' S' v d => RVu π n n0 ρ σ S ρ' σ S' v d) r r' := fun {r r'} h => by
    cases r with
    | ok p δ1 =>
      obtain ⟨d, S2, e, a, b⟩ := h
      refine ⟨d, S2, e, ?_, b⟩
      revert a
      generalize p.1 = v
      intro a
      cases v <;> first | exact a | exact ⟨a.1, .inl a.2⟩
    | exc c v δ1 => exact h
    | bad => trivial
  cases x with
  | var j =>
    show SimM π n n0 ρ σ S _ (movR j ρ δ) _
    unfold movR
    rw [ev_var]
    split
    · rename_i xs hj
      obtain ⟨d, h1, p, m, rfl, h2, h3, h4⟩ := rs.sl j _ hj
      rw [h1]
      refine ⟨.ref m, S, rfl, ⟨p, .inr ⟨m, rfl, h2, h3, h4, .inr ⟨j, xs, hj, h1⟩, fun i v e e2 => ?_⟩⟩, ⟨rs.sh, rs.lb, by rw [List.length_set]; exact rs.ln, fun i v e => ?_, fun i k zs v m2 ne e1 e2 e3 e4 => ?_⟩, ⟨rs.lb, fun _ _ _ h _ => h⟩, ⟨Nat.le_refl _, by rw [List.length_set], fun i zs e => ?_, fun i zs m2 e e2 => ?_⟩⟩
      · rcases get_set e with ⟨_, e⟩ | ⟨ne, e⟩
        · cases e
        · exact rs.un j i xs v m ne hj e h1 e2
      · rcases get_set e with ⟨_, e⟩ | ⟨ne, e⟩
        · cases e
        · exact rs.sl i v e
      · rcases get_set e1 with ⟨_, e1⟩ | ⟨_, e1⟩
        · cases e1
        · rcases get_set e2 with ⟨_, e2⟩ | ⟨_, e2⟩
          · cases e2
          · exact rs.un i k zs v m2 ne e1 e2 e3 e4
      · rcases get_set e with ⟨_, e⟩ | ⟨_, e⟩
        · cases e
        · exact ⟨e, rfl⟩
      · rcases get_set e with ⟨_, e⟩ | ⟨_, e⟩
        · cases e
        · exact .inr ⟨i, zs, e, e2⟩
    · rename_i v hnt hj
      obtain ⟨d, h1, h2⟩ := rs.sl j _ hj
      rw [h1]
      refine ⟨d, S, rfl, ?_, rs, ⟨rs.lb, fun _ _ _ h _ => h⟩, .refl (Nat.le_refl _)⟩
      cases v <;> first | exact h2 | exact absurd rfl (hnt _)
    · trivial
  | _ => exact up (sim_m hc _ rs)
end Ev
set_option Elab.async false
set_option linter.all false
set_option maxRecDepth 100000
set_option maxHeartbeats 8000000
/-! WvI: statements: stores, masks, frozen lists. -/
namespace Ev
open PySem
variable {P : Pr} {C2 : CV} {C : Cl} {π : Nat → Nat} {n n0 : Nat} {S S0 S1 S2 S' T : GH} {δ δ1 δ' : GH} {ρ ρ1 ρ2 ρ' τ σ σ1 σ' : Sg} {v w d e : D}
theorem get_setB {i j : Nat} {o : Option D} {v : Option D} (h : i ≠ j) : (ρ.set i o)[j]? = ρ[j]? := List.getElem?_set_ne h
def isL : D → Bool
  | .tl _ => true
  | .bw _ => true
  | _ => false
theorem SV.hv (h : SV π n n0 S v d) (k : isL v = false) : HV π n S v d := by cases v <;> first | exact h | cases k
theorem HV.notOwn {m : Nat} (h : HV π n S v d) (k : isL v = false) (q : ¬ Img π n m) : d ≠ .ref m := by
  rintro rfl
  cases v with
  | ref i => exact q ⟨i, h.1, by have := h.2; injection this with z; exact z.symm⟩
  | tl _ => cases k
  | bw _ => cases k
  | _ => cases h.2
/-- a value that is no list is stored -/
theorem RelS.put (h : RelS π n n0 ρ δ σ S) (k : HV π n S v d) (nl : isL v = false) (i : Nat) : RelS π n n0 (ρ.set i (some v)) δ (σ.set i (some d)) S ∧ Kp ρ σ S (ρ.set i (some v)) (σ.set i (some d)) S := by
  have hl : σ.length = ρ.length := h.ln
  refine ⟨⟨h.sh, h.lb, by rw [List.length_set, List.length_set]; exact h.ln, fun j u e => ?_, fun j l zs u m ne e1 e2 e3 e4 => ?_⟩, Nat.le_refl _, by rw [List.length_set], fun j zs e => ?_, fun j zs m e e2 => ?_⟩
  · rcases get_set e with ⟨rfl, e5⟩ | ⟨ne, e5⟩
    · cases e5
      have il : i < ρ.length := by
        by_cases y : i < ρ.length
        · exact y
        · rw [List.getElem?_eq_none (by rw [List.length_set]; omega)] at e; cases e
      exact ⟨d, List.getElem?_set_self (by rw [hl]; exact il), by cases v <;> first | exact k | cases nl⟩
    · rw [List.getElem?_set_ne ne]
      exact h.sl j u e5
  · rcases get_set e1 with ⟨rfl, e5⟩ | ⟨n1, e5⟩
    · cases e5; cases nl
    · rw [List.getElem?_set_ne n1] at e3
      rcases get_set e2 with ⟨rfl, e6⟩ | ⟨n2, e6⟩
      · cases e6
        have q := (get_set e4)
        rcases q with ⟨_, q⟩ | ⟨q, _⟩
        · obtain ⟨d2, g1, g2⟩ := h.sl j _ e5
          rw [e3] at g1
          cases g1
          obtain ⟨_, m', em, _, g3, _⟩ := g2
          cases em
          exact k.notOwn nl g3 (Option.some.inj q)
        · exact q rfl
      · rw [List.getElem?_set_ne n2] at e4
        exact h.un j l zs u m ne e5 e6 e3 e4
  · rcases get_set e with ⟨rfl, e5⟩ | ⟨ne, e5⟩
    · cases e5; cases nl
    · rw [List.getElem?_set_ne ne]; exact ⟨e5, rfl⟩
  · rcases get_set e with ⟨rfl, e5⟩ | ⟨ne, e5⟩
    · cases e5; cases nl
    · rw [List.getElem?_set_ne ne] at e2; exact .inr ⟨j, zs, e5, e2⟩
/-- a list is stored -/
theorem RelS.own (h : RelS π n n0 ρ δ σ S) {m : Nat} {xs : List D} (p : plA xs = true) (h1 : n0 ≤ m) (h2 : ¬ Img π n m) (h3 : S[m]? = some (.lst xs)) (h4 : ∀ (i : Nat) (v : D), ρ[i]? = some (some v) → σ[i]? ≠ some (some (.ref m))) (i : Nat) : RelS π n n0 (ρ.set i (some (.tl xs))) δ (σ.set i (some (.ref m))) S := by
  have hl : σ.length = ρ.length := h.ln
  refine ⟨h.sh, h.lb, by rw [List.length_set, List.length_set]; exact h.ln, fun j u e => ?_, fun j l zs u m2 ne e1 e2 e3 e4 => ?_⟩
  · rcases get_set e with ⟨rfl, e5⟩ | ⟨ne, e5⟩
    · cases e5
      have il : i < ρ.length := by
        by_cases y : i < ρ.length
        · exact y
        · rw [List.getElem?_eq_none (by rw [List.length_set]; omega)] at e; cases e
      exact ⟨_, List.getElem?_set_self (by rw [hl]; exact il), p, m, rfl, h1, h2, h3⟩
    · rw [List.getElem?_set_ne ne]
      exact h.sl j u e5
  · rcases get_set e1 with ⟨rfl, e5⟩ | ⟨n1, e5⟩
    · rcases get_set e3 with ⟨_, e6⟩ | ⟨e6, _⟩
      · cases e6
        rcases get_set e2 with ⟨rfl, _⟩ | ⟨n2, e7⟩
        · exact ne rfl
        · rw [List.getElem?_set_ne n2] at e4
          exact h4 l u e7 e4
      · exact e6 rfl
    · rw [List.getElem?_set_ne n1] at e3
      rcases get_set e2 with ⟨rfl, e6⟩ | ⟨n2, e6⟩
      · rcases get_set e4 with ⟨_, e7⟩ | ⟨e7, _⟩
        · cases e7
          exact h4 j _ e5 e3
        · exact e7 rfl
      · rw [List.getElem?_set_ne n2] at e4
        exact h.un j l zs u m2 ne e5 e6 e3 e4
theorem RelS.bindX (tg : X) : (∀ (d : D) (ρ ρ' σ : Sg), RelS π n n0 ρ δ σ S → pl d = true → bindT tg d ρ = some ρ' → ∃ σ', bindT tg d σ = some σ' ∧ RelS π n n0 ρ' δ σ' S ∧ Kp ρ σ S ρ' σ' S) ∧
    (∀ (ds : List D) (ρ ρ' σ : Sg), RelS π n n0 ρ δ σ S → plA ds = true → bindTs tg ds ρ = some ρ' → ∃ σ', bindTs tg ds σ = some σ' ∧ RelS π n n0 ρ' δ σ' S ∧ Kp ρ σ S ρ' σ' S) := by
  have nl : ∀ d : D, pl d = true → isL d = false := fun d p => by cases d <;> first | rfl | (simp [pl] at p; done)
  induction tg with
  | var i =>
    refine ⟨fun d τ τ' σ h p e => ?_, fun ds τ τ' σ h p e => ?_⟩
    · rw [bindT_var] at e; cases e
      exact ⟨_, bindT_var i d, h.put (.of p) (nl d p) i⟩
    · unfold bindTs at e; cases e
  | tup ts ih =>
    refine ⟨fun d τ τ' σ h p e => ?_, fun ds τ τ' σ h p e => ?_⟩
    · cases d with
      | tup ds =>
        rw [bindT_tup] at e
        rw [pl] at p
        obtain ⟨σ', h1, h2⟩ := ih.2 ds τ τ' σ h p e
        exact ⟨σ', by rw [bindT_tup]; exact h1, h2⟩
      | _ => unfold bindT at e; cases e
    · unfold bindTs at e; cases e
  | nil =>
    refine ⟨fun d τ τ' σ h p e => ?_, fun ds τ τ' σ h p e => ?_⟩
    · unfold bindT at e; cases e
    · cases ds with
      | nil => rw [bindTs_nil] at e; cases e; exact ⟨σ, bindTs_nil, h, .refl (Nat.le_refl _)⟩
      | cons _ _ => unfold bindTs at e; cases e
  | cons t ts ih1 ih2 =>
    refine ⟨fun d τ τ' σ h p e => ?_, fun ds τ τ' σ h p e => ?_⟩
    · unfold bindT at e; cases e
    · cases ds with
      | nil => unfold bindTs at e; cases e
      | cons d ds =>
        rw [bindTs_cons] at e
        rw [plA, Bool.and_eq_true] at p
        cases q : bindT t d τ with
        | none => rw [q] at e; cases e
        | some τ1 =>
          rw [q] at e
          obtain ⟨σ1, h1, h2, k2⟩ := ih1.1 d τ τ1 σ h p.1 q
          obtain ⟨σ', h3, h4, k4⟩ := ih2.2 ds τ1 τ' σ1 h2 p.2 e
          exact ⟨σ', by rw [bindTs_cons, h1]; exact h3, h4, k2.trans k4⟩
  | _ =>
    refine ⟨fun d τ τ' σ h p e => ?_, fun ds τ τ' σ h p e => ?_⟩
    · unfold bindT at e; cases e
    · unfold bindTs at e; cases e
def RVs (π : Nat → Nat) (n n0 : Nat) (ρ σ : Sg) (S S' : GH) (v d : D) : Prop := match v with
  | .tl xs => plA xs = true ∧ (d = .tl xs ∨ ∃ m, d = .ref m ∧ n0 ≤ m ∧ S'[m]? = some (.lst xs) ∧ (S.length ≤ m ∨ ∃ (j : Nat) (ys : List D), ρ[j]? = some (some (.tl ys)) ∧ σ[j]? = some (some (.ref m))))
  | .bw _ => True
  | v => HV π n S' v d
/-- results of statements -/
def SimT (π : Nat → Nat) (n n0 : Nat) (ρ σ : Sg) (S : GH) (r r' : RS) : Prop := match r with
  | .nxt ρ' δ' => ∃ σ' S', r' = .nxt σ' S' ∧ Nx π n n0 ρ σ S ρ' δ' σ' S'
  | .brk ρ' δ' => ∃ σ' S', r' = .brk σ' S' ∧ Nx π n n0 ρ σ S ρ' δ' σ' S'
  | .cnt ρ' δ' => ∃ σ' S', r' = .cnt σ' S' ∧ Nx π n n0 ρ σ S ρ' δ' σ' S'
  | .ret v δ' => ∃ d S', r' = .ret d S' ∧ RVs π n n0 ρ σ S S' v d ∧ Sh π n δ' S' ∧ Fz π n n0 S S' ∧ S.length ≤ S'.length
  | .exc c v δ' => ∃ S', r' = .exc c v S' ∧ pl v = true ∧ Sh π n δ' S' ∧ Fz π n n0 S S'
  | .bad => True
theorem SimT.from {r r' : RS} (h : Nx π n n0 ρ σ S ρ1 δ1 σ1 S1) (k : SimT π n n0 ρ1 σ1 S1 r r') : SimT π n n0 ρ σ S r r' := by
  cases r with
  | nxt a b => obtain ⟨σ2, S2, e, q⟩ := k; exact ⟨σ2, S2, e, h.trans q⟩
  | brk a b => obtain ⟨σ2, S2, e, q⟩ := k; exact ⟨σ2, S2, e, h.trans q⟩
  | cnt a b => obtain ⟨σ2, S2, e, q⟩ := k; exact ⟨σ2, S2, e, h.trans q⟩
  | ret v b =>
    obtain ⟨d, S2, e, q, a, f, l⟩ := k
    refine ⟨d, S2, e, ?_, a, h.fz.trans f, Nat.le_trans h.kp.le l⟩
    cases v with
    | tl xs =>
      obtain ⟨p, q⟩ := q
      refine ⟨p, q.imp id fun ⟨m, e1, e2, e3, e4⟩ => ⟨m, e1, e2, e3, ?_⟩⟩
      rcases e4 with e4 | ⟨j, ys, e4, e5⟩
      · exact .inl (Nat.le_trans h.kp.le e4)
      · exact h.kp.ow j ys m e4 e5
    | _ => exact q
  | exc c v b => obtain ⟨S2, e, q, a, f⟩ := k; exact ⟨S2, e, q, a, h.fz.trans f⟩
  | bad => trivial
theorem SimM.t {H : Sg → GH → D → D → Prop} {r : R (D × Sg)} {r' : R D} {f : D × Sg → GH → RS} {g : D → GH → RS} (h : SimM π n n0 ρ σ S H r r') (k : ∀ p δ1 d S1, H p.2 S1 p.1 d → Nx π n n0 ρ σ S p.2 δ1 σ S1 → SimT π n n0 ρ σ S (f p δ1) (g d S1)) : SimT π n n0 ρ σ S (RS.of r f) (RS.of r' g) := by
  cases r with
  | ok p δ1 => obtain ⟨d, S1, rfl, a, b⟩ := h; exact k p δ1 d S1 a b
  | exc c v δ1 => obtain ⟨S1, rfl, a⟩ := h; exact ⟨S1, rfl, a⟩
  | bad => trivial
theorem SimR.t {α β : Type} {H : GH → α → β → Prop} {r : R α} {r' : R β} {f : α → GH → RS} {g : β → GH → RS} (h : SimR π n H S r r') (l : n0 ≤ S.length) (k : ∀ v δ1 d S1, H S1 v d → Sh π n δ1 S1 → Fr π n S S1 → SimT π n n0 ρ σ S (f v δ1) (g d S1)) : SimT π n n0 ρ σ S (RS.of r f) (RS.of r' g) := by
  cases r with
  | ok p δ1 => obtain ⟨d, S1, rfl, a, b, c⟩ := h; exact k p δ1 d S1 a b c
  | exc c v δ1 => obtain ⟨S1, rfl, a, b, q⟩ := h; exact ⟨S1, rfl, a, b, q.fz l⟩
  | bad => trivial
theorem Nx.of_fr (h : RelS π n n0 ρ δ σ S) (k : Sh π n δ1 S1) (f : Fr π n S S1) : Nx π n n0 ρ σ S ρ δ1 σ S1 := ⟨h.step k f, f.fz h.lb, .refl f.1⟩
theorem bindT_tl {tg : X} {xs : List D} (h : bindT tg (.tl xs) ρ = some ρ') : ∃ i, tg = .var i ∧ ρ' = ρ.set i (some (.tl xs)) := by
  cases tg with
  | var i => rw [bindT_var] at h; cases h; exact ⟨i, rfl, rfl⟩
  | _ => unfold bindT at h; cases h
theorem sim_asg (hc : CSim C2 C) (tg x : X) (rs : RelS π n n0 ρ δ σ S) : SimT π n n0 ρ σ S (vvS P C2 (.asg tg x) ρ δ) (evS P C (.asg tg x) n0 σ S) := by
  rw [evS_asg]
  unfold vvS
  refine SimM.t (sim_r hc x rs) fun p δ1 d S1 hv nx => ?_
  obtain ⟨v, ρ1⟩ := p
  dsimp only at hv nx ⊢
  cases q : store tg v ρ1 with
  | none => trivial
  | some ρ2 =>
    unfold store at q
    split at q
    · cases q
    · rename_i hb
      by_cases ht : ∃ xs, v = .tl xs
      · obtain ⟨xs, rfl⟩ := ht
        obtain ⟨i, rfl, rfl⟩ := bindT_tl q
        obtain ⟨p, hd⟩ := hv
        have own : ∀ (S2 : GH) (m : Nat), RelS π n n0 ρ1 δ1 σ S2 → Fz π n n0 S S2 → S1.length ≤ S2.length → n0 ≤ m → ¬ Img π n m → S2[m]? = some (.lst xs) → (S.length ≤ m ∨ ∃ (j : Nat) (ys : List D), ρ[j]? = some (some (.tl ys)) ∧ σ[j]? = some (some (.ref m))) → (∀ (i : Nat) (v : D), ρ1[i]? = some (some v) → σ[i]? ≠ some (some (.ref m))) →
            SimT π n n0 ρ σ S (.nxt (ρ1.set i (some (.tl xs))) δ1) (.nxt (σ.set i (some (.ref m))) S2) := fun S2 m r2 fz le h1 h2 h3 h4 h5 => by
          refine ⟨_, _, rfl, r2.own p h1 h2 h3 h5 i, fz, Nat.le_trans nx.kp.le le, by rw [List.length_set]; exact nx.kp.ln, fun j zs e => ?_, fun j zs m2 e e2 => ?_⟩
          · rcases get_set e with ⟨_, e5⟩ | ⟨ne, e5⟩
            · cases e5
            · rw [List.getElem?_set_ne ne]
              exact nx.kp.bk j zs e5
          · rcases get_set e with ⟨rfl, e5⟩ | ⟨ne, e5⟩
            · rcases get_set e2 with ⟨_, e6⟩ | ⟨e6, _⟩
              · cases e6; exact h4
              · exact absurd rfl e6
            · rw [List.getElem?_set_ne ne] at e2
              exact nx.kp.ow j zs m2 e5 e2
        rcases hd with rfl | ⟨m, rfl, h1, h2, h3, h4, h5⟩
        · rw [fix_tl, RS.of_ok, bindT_var, optS_some]
          have fr : Fr π n S1 (S1 ++ [.lst xs]) := .app _ _
          have sh : Sh π n δ1 (S1 ++ [.lst xs]) := ⟨nx.rs.sh.len, fun k o e => by
            obtain ⟨z1, z2⟩ := nx.rs.sh.at_ k o e
            exact ⟨by rw [List.getElem?_append_left (List.getElem?_eq_some_iff.mp z1).1]; exact z1, z2⟩, nx.rs.sh.inj⟩
          refine own _ _ (nx.rs.step sh fr) (nx.fz.trans (fr.fz nx.rs.lb)) fr.1 nx.rs.lb ?_ (by simp) (.inl nx.kp.le) fun j u e e2 => ?_
          · rintro ⟨k, hk, e⟩
            have := nx.rs.sh.lt hk
            omega
          · obtain ⟨d, g1, g2⟩ := nx.rs.sl j u e
            rw [e2] at g1
            cases g1
            cases u with
            | tl zs => obtain ⟨_, m, em, _, _, q⟩ := g2; cases em; have := (List.getElem?_eq_some_iff.mp q).1; omega
            | bw zs => obtain ⟨_, m, em, _, q⟩ := g2; cases em; rcases q with q | q <;> (have := (List.getElem?_eq_some_iff.mp q).1; omega)
            | ref k => have := nx.rs.sh.lt g2.1; have z := g2.2; injection z with z; omega
            | _ => cases g2.2
        · rw [fix_ref, RS.of_ok, bindT_var, optS_some]
          exact own _ _ nx.rs nx.fz (Nat.le_refl _) h1 h2 h3 h4 h5
      · have hv' : HV π n S1 v d := by cases v <;> first | exact hv | exact absurd ⟨_, rfl⟩ ht
        have nl : isL v = false := by cases v <;> first | rfl | exact absurd ⟨_, rfl⟩ ht | exact absurd rfl hb
        have ntl : isTl d = false := hv'.noTl (by cases v <;> first | rfl | exact absurd ⟨_, rfl⟩ ht)
        rw [fix_no ntl, RS.of_ok]
        by_cases hp : pl v = true
        · have e := hv'.eq hp
          subst e
          obtain ⟨σ2, h1, h2, h3⟩ := (RelS.bindX tg).1 d ρ1 ρ2 σ nx.rs hp q
          rw [h1]
          exact ⟨σ2, S1, rfl, h2, nx.fz, nx.kp.trans h3⟩
        · have : ∃ i, tg = .var i := by
            cases v with
            | ref k => cases tg with
              | var i => exact ⟨i, rfl⟩
              | _ => unfold bindT at q; cases q
            | fl xs => cases tg with
              | var i => exact ⟨i, rfl⟩
              | _ => unfold bindT at q; cases q
            | sv xs => cases tg with
              | var i => exact ⟨i, rfl⟩
              | _ => unfold bindT at q; cases q
            | tl _ => cases nl
            | bw _ => cases nl
            | _ => exact absurd hv'.1 hp
          obtain ⟨i, rfl⟩ := this
          rw [bindT_var] at q ⊢
          cases q
          obtain ⟨h2, h3⟩ := nx.rs.put hv' nl i
          exact ⟨_, S1, rfl, h2, nx.fz, nx.kp.trans h3⟩
/-! ### masks -/
theorem mk_len (ρ0 ρ : Sg) : (mk ρ0 ρ).length = min ρ0.length ρ.length := by unfold mk; rw [List.length_zipWith]
theorem mk_at {ρ0 ρ : Sg} {i : Nat} {v : D} (h : (mk ρ0 ρ)[i]? = some (some v)) : ρ[i]? = some (some v) := by
  unfold mk at h
  rw [List.getElem?_zipWith] at h
  cases e1 : ρ0[i]? with
  | none => rw [e1] at h; cases h
  | some a =>
    cases e2 : ρ[i]? with
    | none => rw [e1, e2] at h; cases h
    | some b =>
      rw [e1, e2] at h
      cases a with
      | none => cases h
      | some a => exact h
theorem Nx.msk {ρ0 : Sg} (h : Nx π n n0 ρ σ S ρ' δ' σ' S') (l : ρ0.length = ρ.length) : Nx π n n0 ρ σ S (Ev.mk ρ0 ρ') δ' σ' S' := by
  have l1 : (Ev.mk ρ0 ρ').length = ρ'.length := by rw [mk_len, l, ← h.kp.ln, Nat.min_self]
  refine ⟨⟨h.rs.sh, h.rs.lb, by rw [l1]; exact h.rs.ln, fun i v e => h.rs.sl i v (mk_at e), fun i j xs v m ne e1 e2 => h.rs.un i j xs v m ne (mk_at e1) (mk_at e2)⟩, h.fz, h.kp.le, by rw [l1]; exact h.kp.ln, fun i xs e => h.kp.bk i xs (mk_at e), fun i xs m e => h.kp.ow i xs m (mk_at e)⟩
end Ev
set_option Elab.async false
set_option linter.all false
set_option maxRecDepth 100000
set_option maxHeartbeats 8000000
/-! WvJ: loops. -/
namespace Ev
open PySem
variable {P : Pr} {C2 : CV} {C : Cl} {π : Nat → Nat} {n n0 : Nat} {S S0 S1 S2 S' T : GH} {δ δ1 δ2 δ' : GH} {ρ ρ0 ρ1 ρ2 ρ' τ σ σ1 σ2 σ' : Sg} {v w d e : D}
theorem Nx.refl (h : RelS π n n0 ρ δ σ S) : Nx π n n0 ρ σ S ρ δ σ S := ⟨h, ⟨h.lb, fun _ _ _ h _ => h⟩, .refl (Nat.le_refl _)⟩
theorem sim_for {f g : D → Sg → GH → RS} (hf : ∀ d ρ δ σ S, pl d = true → ρ.length = ρ0.length → RelS π n n0 ρ δ σ S → SimT π n n0 ρ σ S (f d ρ δ) (g d σ S)) :
    ∀ (ds : List D) (ρ : Sg) (δ : GH) (σ : Sg) (S : GH), plA ds = true → ρ.length = ρ0.length → RelS π n n0 ρ δ σ S → SimT π n n0 ρ σ S (forV (mk ρ0) f ds ρ δ) (forL g ds σ S)
  | [], ρ, δ, σ, S, _, _, h => ⟨σ, S, rfl, .refl h⟩
  | d :: ds, ρ, δ, σ, S, p, l, h => by
    rw [plA, Bool.and_eq_true] at p
    have k := hf d ρ δ σ S p.1 l h
    unfold forV forL
    cases q : f d ρ δ with
    | nxt a b =>
      rw [q] at k
      obtain ⟨σ2, S2, e, nx⟩ := k
      rw [e]
      have nx' := nx.msk (ρ0 := ρ0) l.symm
      exact SimT.from nx' (sim_for hf ds _ _ _ _ p.2 (nx'.kp.ln.trans l) nx'.rs)
    | cnt a b =>
      rw [q] at k
      obtain ⟨σ2, S2, e, nx⟩ := k
      rw [e]
      have nx' := nx.msk (ρ0 := ρ0) l.symm
      exact SimT.from nx' (sim_for hf ds _ _ _ _ p.2 (nx'.kp.ln.trans l) nx'.rs)
    | brk a b =>
      rw [q] at k
      obtain ⟨σ2, S2, e, nx⟩ := k
      rw [e]
      exact ⟨σ2, S2, rfl, nx.msk l.symm⟩
    | ret a b => rw [q] at k; obtain ⟨d2, S2, e, z⟩ := k; rw [e]; exact ⟨d2, S2, rfl, z⟩
    | exc a b c => rw [q] at k; obtain ⟨S2, e, z⟩ := k; rw [e]; exact ⟨S2, rfl, z⟩
    | bad => trivial
theorem sim_wh {t : Sg → GH → R D} {t' : Sg → GH → R D} {f g : Sg → GH → RS} (ht : ∀ ρ δ σ S, RelS π n n0 ρ δ σ S → SimD π n S (t ρ δ) (t' σ S)) (hf : ∀ ρ δ σ S, RelS π n n0 ρ δ σ S → SimT π n n0 ρ σ S (f ρ δ) (g σ S)) :
    ∀ (k : Nat) (ρ : Sg) (δ : GH) (σ : Sg) (S : GH), ρ.length = ρ0.length → RelS π n n0 ρ δ σ S → SimT π n n0 ρ σ S (whV (mk ρ0) t f k ρ δ) (whL t' g k σ S)
  | 0, _, _, _, _, _, _ => trivial
  | k + 1, ρ, δ, σ, S, l, h => by
    unfold whV whL
    refine SimR.t (ht ρ δ σ S h) h.lb fun v δ1 d S1 hv s1 f1 => ?_
    have nx0 := Nx.of_fr h s1 f1
    refine SimT.from nx0 ?_
    have h1 := nx0.rs
    cases q : truth (lf v) δ1 with
    | none => trivial
    | some b =>
      rw [sim_truth hv s1 q]
      cases b with
      | false => exact ⟨σ, S1, rfl, .refl h1⟩
      | true =>
        have z := hf ρ δ1 σ S1 h1
        dsimp only
        cases q2 : f ρ δ1 with
        | nxt a b =>
          rw [q2] at z
          obtain ⟨σ2, S2, e, nx⟩ := z
          rw [e]
          have nx' := nx.msk (ρ0 := ρ0) l.symm
          exact SimT.from nx' (sim_wh ht hf k _ _ _ _ (nx'.kp.ln.trans l) nx'.rs)
        | cnt a b =>
          rw [q2] at z
          obtain ⟨σ2, S2, e, nx⟩ := z
          rw [e]
          have nx' := nx.msk (ρ0 := ρ0) l.symm
          exact SimT.from nx' (sim_wh ht hf k _ _ _ _ (nx'.kp.ln.trans l) nx'.rs)
        | brk a b =>
          rw [q2] at z
          obtain ⟨σ2, S2, e, nx⟩ := z
          rw [e]
          exact ⟨σ2, S2, rfl, nx.msk l.symm⟩
        | ret a b => rw [q2] at z; obtain ⟨d2, S2, e, z⟩ := z; rw [e]; exact ⟨d2, S2, rfl, z⟩
        | exc a b c => rw [q2] at z; obtain ⟨S2, e, z⟩ := z; rw [e]; exact ⟨S2, rfl, z⟩
        | bad => trivial
/-! ### lists frozen while they are walked -/
theorem rd1_idem (o : Option D) : rd1 (rd1 o) = rd1 o := by
  cases o with
  | none => rfl
  | some d => cases d <;> rfl
theorem frz1_at (j i : Nat) (ρ : Sg) : (frz1 j ρ)[i]? = if i = j then (ρ[i]?).map rd1 else ρ[i]? := by
  unfold frz1
  by_cases h : i = j
  · subst h
    rw [if_pos rfl]
    split
    · rename_i xs q
      rw [q, List.getElem?_set_self (List.getElem?_eq_some_iff.mp q).1]
      rfl
    · rename_i q
      cases e : ρ[i]? with
      | none => rfl
      | some o =>
        cases o with
        | none => rfl
        | some u => cases u <;> first | rfl | exact absurd e (q _)
  · rw [if_neg h]
    split
    · rw [List.getElem?_set_ne (Ne.symm h)]
    · rfl
theorem frz_at (i : Nat) : ∀ (l : List Nat) (ρ : Sg), (frz l ρ)[i]? = if i ∈ l then (ρ[i]?).map rd1 else ρ[i]?
  | [], ρ => by rw [if_neg (by simp)]; rfl
  | j :: l, ρ => by
    show (frz l (frz1 j ρ))[i]? = _
    rw [frz_at i l, frz1_at]
    by_cases h1 : i ∈ l
    · rw [if_pos h1, if_pos (List.mem_cons_of_mem _ h1)]
      split
      · rw [Option.map_map]; congr 1; funext o; exact rd1_idem o
      · rfl
    · rw [if_neg h1]
      by_cases h2 : i = j
      · rw [if_pos h2, if_pos (by rw [h2]; exact List.mem_cons_self)]
      · rw [if_neg h2, if_neg (by simp [h1, h2])]
theorem frz_len (l : List Nat) (ρ : Sg) : (frz l ρ).length = ρ.length := by
  unfold frz
  induction l generalizing ρ with
  | nil => rfl
  | cons j l ih =>
    rw [List.foldl_cons, ih]
    unfold frz1
    split
    · rw [List.length_set]
    · rfl
theorem thw1_inv {j i : Nat} {v : D} (h : (thw1 ρ0 j ρ)[i]? = some (some v)) : (ρ[i]? = some (some v) ∧ ¬ (i = j ∧ (∃ xs, ρ0[i]? = some (some (.tl xs))) ∧ isBw v = true)) ∨ (∃ xs xs0, v = .tl xs ∧ i = j ∧ ρ0[i]? = some (some (.tl xs0)) ∧ ρ[i]? = some (some (.bw xs))) := by
  unfold thw1 at h
  split at h
  · rename_i xs0 xs q1 q2
    rcases get_set h with ⟨rfl, e⟩ | ⟨ne, e⟩
    · cases e
      exact .inr ⟨xs, xs0, rfl, rfl, q1, q2⟩
    · exact .inl ⟨e, fun ⟨z, _⟩ => ne z.symm⟩
  · rename_i q
    refine .inl ⟨h, fun ⟨z, ⟨xs, z2⟩, z3⟩ => ?_⟩
    subst z
    cases v with
    | bw ys => exact q _ _ z2 h
    | _ => cases z3
theorem thw_inv {i : Nat} {v : D} : ∀ (l : List Nat) {ρ : Sg}, (thw ρ0 l ρ)[i]? = some (some v) → (ρ[i]? = some (some v) ∧ ¬ (i ∈ l ∧ (∃ xs, ρ0[i]? = some (some (.tl xs))) ∧ isBw v = true)) ∨ (∃ xs xs0, v = .tl xs ∧ i ∈ l ∧ ρ0[i]? = some (some (.tl xs0)) ∧ ρ[i]? = some (some (.bw xs)))
  | [], ρ, h => .inl ⟨h, fun z => by cases z.1⟩
  | j :: l, ρ, h => by
    rcases thw_inv l (ρ := thw1 ρ0 j ρ) h with ⟨h1, h2⟩ | ⟨xs, xs0, h1, h2, h3, h4⟩
    · rcases thw1_inv h1 with ⟨h3, h4⟩ | ⟨xs, xs0, h3, h4, h5, h6⟩
      · refine .inl ⟨h3, fun ⟨z1, z2, z3⟩ => ?_⟩
        rcases List.mem_cons.mp z1 with z | z
        · exact h4 ⟨z, z2, z3⟩
        · exact h2 ⟨z, z2, z3⟩
      · exact .inr ⟨xs, xs0, h3, by rw [h4]; exact List.mem_cons_self, h5, h6⟩
    · rcases thw1_inv h4 with ⟨h5, _⟩ | ⟨ys, ys0, h5, _⟩
      · exact .inr ⟨xs, xs0, h1, List.mem_cons_of_mem _ h2, h3, h5⟩
      · cases h5
theorem thw_len (l : List Nat) (ρ : Sg) : (thw ρ0 l ρ).length = ρ.length := by
  unfold thw
  induction l generalizing ρ with
  | nil => rfl
  | cons j l ih =>
    rw [List.foldl_cons, ih]
    unfold thw1
    split
    · rw [List.length_set]
    · rfl
/-- what is known of the locked lists -/
structure LkI (π : Nat → Nat) (n : Nat) (ρ σ : Sg) (S : GH) (l : List Nat) (lk : List D) : Prop where
  ok : LkOk π n S lk
  fr : ∀ x ∈ lk, ∃ i ∈ l, σ[i]? = some (some x) ∧ ∃ ys, (rd ρ)[i]? = some (some (.bw ys))
  to : ∀ i ∈ l, ∀ ys, (rd ρ)[i]? = some (some (.bw ys)) → ∃ m, σ[i]? = some (some (.ref m)) ∧ .ref m ∈ lk
theorem rd_bw {i : Nat} {ys : List D} (h : (rd ρ)[i]? = some (some (.bw ys))) : ρ[i]? = some (some (.tl ys)) ∨ ρ[i]? = some (some (.bw ys)) := by
  obtain ⟨u, h1, h2⟩ := rd_at h
  cases u with
  | tl xs => cases h2; exact .inl h1
  | bw xs => cases h2; exact .inr h1
  | _ => cases h2
theorem rd_tl {i : Nat} {ys : List D} (h : ρ[i]? = some (some (.tl ys))) : (rd ρ)[i]? = some (some (.bw ys)) := by
  unfold rd
  rw [List.getElem?_map, h]
  rfl
theorem frz_val {l : List Nat} {i : Nat} {v : D} (h : (frz l ρ)[i]? = some (some v)) : ∃ u, ρ[i]? = some (some u) ∧ ((i ∈ l ∧ rd1 (some u) = some v) ∨ (i ∉ l ∧ u = v)) := by
  rw [frz_at] at h
  split at h
  · rename_i hm
    cases q : ρ[i]? with
    | none => rw [q] at h; cases h
    | some o =>
      rw [q] at h
      cases o with
      | none => cases h
      | some u => exact ⟨u, rfl, .inl ⟨hm, Option.some.inj h⟩⟩
  · rename_i hm
    exact ⟨v, h, .inr ⟨hm, rfl⟩⟩
theorem frz_tl {l : List Nat} {i : Nat} {xs : List D} (h : (frz l ρ)[i]? = some (some (.tl xs))) : ρ[i]? = some (some (.tl xs)) ∧ i ∉ l := by
  obtain ⟨u, h1, h2⟩ := frz_val h
  rcases h2 with ⟨_, h2⟩ | ⟨h2, rfl⟩
  · cases u <;> cases h2
  · exact ⟨h1, h2⟩
/-- an owned list that is not frozen is not locked -/
theorem LkI.own (k : LkI π n ρ σ S l lk) (h : RelS π n n0 ρ δ σ S) {j m : Nat} {xs : List D} (hj : (frz l ρ)[j]? = some (some (.tl xs))) (hm : σ[j]? = some (some (.ref m))) : .ref m ∉ lk := fun hx => by
  obtain ⟨h1, h2⟩ := frz_tl hj
  obtain ⟨i, i1, i2, ys, i3⟩ := k.fr _ hx
  have ne : j ≠ i := fun z => h2 (by rw [z]; exact i1)
  obtain ⟨u, u1, _⟩ := rd_at i3
  exact h.un j i xs u m ne h1 u1 hm i2
theorem RelS.frz (h : RelS π n n0 ρ δ σ S) {l : List Nat} {lk : List D} (k : LkI π n ρ σ S l lk) : RelS π n n0 (Ev.frz l ρ) δ σ (lock lk S) := by
  refine ⟨h.sh.lock k.ok, by rw [lock_len]; exact h.lb, by rw [frz_len]; exact h.ln, fun i v e => ?_, fun i j xs v m ne e1 e2 e3 e4 => ?_⟩
  · obtain ⟨u, u1, u2⟩ := frz_val e
    obtain ⟨d, d1, d2⟩ := h.sl i u u1
    refine ⟨d, d1, ?_⟩
    by_cases ht : ∃ xs, u = .tl xs
    · obtain ⟨xs, rfl⟩ := ht
      rcases u2 with ⟨_, u2⟩ | ⟨u3, rfl⟩
      · cases u2
        obtain ⟨p, m, rfl, q1, q2, q3⟩ := d2
        exact HV.lock (v := .bw xs) (d := .ref m) ⟨p, m, rfl, q2, .inl q3⟩ lk
      · obtain ⟨p, m, rfl, q1, q2, q3⟩ := d2
        refine ⟨p, m, rfl, q1, q2, ?_⟩
        rcases lock_get lk (S := S) (m := m) with z | ⟨_, z⟩
        · rw [z]; exact q3
        · exact absurd z (k.own h e d1)
    · have hl : isTl u = false := by cases u <;> first | rfl | exact absurd ⟨_, rfl⟩ ht
      have uv : u = v := by
        rcases u2 with ⟨_, u2⟩ | ⟨_, rfl⟩
        · cases u <;> first | (cases hl; done) | (injection u2)
        · rfl
      subst uv
      have hh : HV π n S u d := by cases u <;> first | exact d2 | cases hl
      have := hh.lock lk
      cases u <;> first | exact this | cases hl
  · obtain ⟨h1, _⟩ := frz_tl e1
    obtain ⟨u, u1, _⟩ := frz_val e2
    exact h.un i j xs u m ne h1 u1 e3 e4
theorem lock_back {lk : List D} {m : Nat} {xs : List D} (h : (lock lk S)[m]? = some (.lst xs) ∨ (lock lk S)[m]? = some (.llk xs)) : S[m]? = some (.lst xs) ∨ S[m]? = some (.llk xs) := by
  rcases lock_get lk (S := S) (m := m) with z | ⟨z, _⟩
  · rwa [z] at h
  · rw [z] at h
    cases q : S[m]? with
    | none => rw [q] at h; rcases h with h | h <;> cases h
    | some o =>
      rw [q] at h
      cases o with
      | lst ys => rcases h with h | h <;> cases h; exact .inl rfl
      | llk ys => rcases h with h | h <;> cases h; exact .inr rfl
      | dct _ => rcases h with h | h <;> cases h
      | dlk _ => rcases h with h | h <;> cases h
      | inst _ _ => rcases h with h | h <;> cases h
theorem thaw_nx (h : RelS π n n0 ρ δ σ S) {l : List Nat} {lk : List D} (k : LkI π n ρ σ S l lk) (nx : Nx π n n0 (Ev.frz l ρ) σ (lock lk S) ρ2 δ2 σ2 S2) : Nx π n n0 ρ σ S (thw ρ l ρ2) δ2 σ2 (unlock lk S S2) := by
  have hf := h.frz k
  have le : S.length ≤ S2.length := by have := nx.kp.le; rw [lock_len] at this; exact this
  -- a locked place is owned by no name
  have no : ∀ (i m : Nat) (xs : List D), ρ2[i]? = some (some (.tl xs)) → σ2[i]? = some (some (.ref m)) → .ref m ∉ lk := fun i m xs e1 e2 hx => by
    rcases nx.kp.ow i xs m e1 e2 with q | ⟨j, ys, q1, q2⟩
    · rw [lock_len] at q
      obtain ⟨a, a1, a2, ys, a3⟩ := k.fr _ hx
      obtain ⟨d, d1, d2⟩ := h.slr.2 a _ a3
      rw [a2] at d1
      cases d1
      obtain ⟨_, m', em, _, d3⟩ := d2
      cases em
      rcases d3 with d3 | d3 <;> (have := (List.getElem?_eq_some_iff.mp d3).1; omega)
    · exact k.own h q1 q2 hx
  have th : ∀ (i : Nat) (xs xs0 : List D), i ∈ l → ρ[i]? = some (some (.tl xs0)) → ρ2[i]? = some (some (.bw xs)) → xs = xs0 ∧ σ2[i]? = σ[i]? ∧ ∃ m, σ[i]? = some (some (.ref m)) ∧ .ref m ∈ lk ∧ n0 ≤ m ∧ ¬ Img π n m ∧ S[m]? = some (.lst xs) ∧ plA xs = true := fun i xs xs0 hi h0 h2 => by
    obtain ⟨b1, b2⟩ := nx.kp.bk i xs h2
    rw [frz_at, if_pos hi, h0] at b1
    have : xs0 = xs := by injection b1 with b1; injection b1 with b1; injection b1
    subst this
    obtain ⟨m, m1, m2⟩ := k.to i hi _ (rd_tl h0)
    obtain ⟨d, d1, p, m', rfl, q1, q2, q3⟩ := h.sl i _ h0
    rw [m1] at d1
    cases d1
    exact ⟨rfl, b2, m, m1, m2, q1, q2, q3, p⟩
  refine ⟨⟨nx.rs.sh.unlock k.ok, by rw [unlock_len]; exact nx.rs.lb, by rw [thw_len]; exact nx.rs.ln, fun i v e => ?_, fun i j xs v m ne e1 e2 e3 e4 => ?_⟩, ?_, ⟨by rw [unlock_len]; exact le, by rw [thw_len, nx.kp.ln, frz_len], fun i xs e => ?_, fun i xs m e e2 => ?_⟩⟩
  · rcases thw_inv l e with ⟨e1, e2⟩ | ⟨xs, xs0, rfl, e2, e3, e4⟩
    · obtain ⟨d, d1, d2⟩ := nx.rs.sl i v e1
      refine ⟨d, d1, ?_⟩
      cases v with
      | tl xs =>
        obtain ⟨p, m, rfl, q1, q2, q3⟩ := d2
        refine ⟨p, m, rfl, q1, q2, ?_⟩
        rcases unlock_get lk (S0 := S) (S := S2) (m := m) with z | ⟨z, _⟩
        · rw [z]; exact q3
        · exact absurd z (no i m xs e1 d1)
      | bw xs =>
        obtain ⟨p, m, rfl, q2, q3⟩ := d2
        refine ⟨p, m, rfl, q2, ?_⟩
        rcases unlock_get lk (S0 := S) (S := S2) (m := m) with z | ⟨z, o, z2⟩
        · rw [z]; exact q3
        · obtain ⟨b1, b2⟩ := nx.kp.bk i xs e1
          obtain ⟨d', g1, g2⟩ := hf.sl i _ b1
          rw [← b2, d1] at g1
          cases g1
          obtain ⟨_, m', em, _, g4⟩ := g2
          cases em
          have g5 := lock_back g4
          have l2 : m < S2.length := by
            rcases q3 with q3 | q3 <;> exact (List.getElem?_eq_some_iff.mp q3).1
          rcases g5 with g5 | g5
          · exact .inl (unlock_in lk z g5 l2)
          · exact .inr (unlock_in lk z g5 l2)
      | _ => exact d2
    · obtain ⟨rfl, t2, m, t3, t4, t5, t6, t7, t8⟩ := th i xs xs0 e2 e3 e4
      have ml : m < S2.length := by have := (List.getElem?_eq_some_iff.mp t7).1; omega
      exact ⟨.ref m, by rw [t2]; exact t3, t8, m, rfl, t5, t6, unlock_in lk t4 t7 ml⟩
  · rcases thw_inv l e1 with ⟨a1, _⟩ | ⟨ys, ys0, ey, a2, a3, a4⟩
    · rcases thw_inv l e2 with ⟨b1, _⟩ | ⟨zs, zs0, ez, b2, b3, b4⟩
      · exact nx.rs.un i j xs v m ne a1 b1 e3 e4
      · obtain ⟨_, t2, m', t3, t4, _⟩ := th j zs zs0 b2 b3 b4
        rw [t2, t3] at e4
        cases e4
        exact no i m xs a1 e3 t4
    · obtain ⟨_, t2, m', t3, t4, _, t6, _⟩ := th i ys ys0 a2 a3 a4
      rw [t2, t3] at e3
      cases e3
      have e3 := t3
      rcases thw_inv l e2 with ⟨b1, _⟩ | ⟨zs, zs0, ez, b2, b3, b4⟩
      · cases v with
        | tl zs => exact no j m zs b1 e4 t4
        | bw zs =>
          obtain ⟨c1, c2⟩ := nx.kp.bk j zs b1
          obtain ⟨u, u1, _⟩ := frz_val c1
          exact h.un i j ys0 u m ne a3 u1 e3 (by rw [← c2]; exact e4)
        | ref q =>
          obtain ⟨d, d1, d2⟩ := nx.rs.sl j _ b1
          rw [e4] at d1
          cases d1
          have z := d2.2
          injection z with z
          exact t6 ⟨q, d2.1, z.symm⟩
        | _ =>
          obtain ⟨d, d1, d2⟩ := nx.rs.sl j _ b1
          rw [e4] at d1
          cases d1
          cases d2.2
      · obtain ⟨_, s2, m2, s3, _⟩ := th j zs zs0 b2 b3 b4
        rw [s2, s3] at e4
        cases e4
        exact h.un i j ys0 _ m ne a3 b3 e3 s3
  · refine ⟨by rw [unlock_len]; exact nx.rs.lb, fun m o lm e i => ?_⟩
    have l2 : m < S2.length := Nat.lt_of_lt_of_le lm nx.rs.lb
    by_cases hm : .ref m ∈ lk
    · exact unlock_in lk hm e l2
    · rcases unlock_get lk (S0 := S) (S := S2) (m := m) with q | ⟨q, _⟩
      · rw [q]
        refine nx.fz.2 m o lm ?_ i
        rcases lock_get lk (S := S) (m := m) with q | ⟨_, q⟩
        · rw [q]; exact e
        · exact absurd q hm
      · exact absurd q hm
  · rcases thw_inv l e with ⟨a1, a2⟩ | ⟨ys, ys0, ey, _⟩
    · obtain ⟨b1, b2⟩ := nx.kp.bk i xs a1
      refine ⟨?_, b2⟩
      obtain ⟨u, u1, u2⟩ := frz_val b1
      rcases u2 with ⟨u2, u3⟩ | ⟨_, rfl⟩
      · cases u with
        | tl ws => exact absurd ⟨u2, ⟨ws, u1⟩, rfl⟩ a2
        | bw ws => cases u3; exact u1
        | _ => cases u3
      · exact u1
    · cases ey
  · rcases thw_inv l e with ⟨a1, _⟩ | ⟨ys, ys0, ey, a2, a3, a4⟩
    · rcases nx.kp.ow i xs m a1 e2 with q | ⟨j, zs, q1, q2⟩
      · rw [lock_len] at q; exact .inl q
      · exact .inr ⟨j, zs, (frz_tl q1).1, q2⟩
    · obtain ⟨_, t2, _⟩ := th i ys ys0 a2 a3 a4
      exact .inr ⟨i, ys0, a3, by rw [← t2]; exact e2⟩
end Ev
set_option Elab.async false
set_option linter.all false
set_option maxRecDepth 100000
set_option maxHeartbeats 8000000
/-! WvK: all statements, calls. -/
namespace Ev
open PySem
variable {P : Pr} {C2 : CV} {C : Cl} {π : Nat → Nat} {n n0 : Nat} {S S0 S1 S2 S' T : GH} {δ δ1 δ2 δ' : GH} {ρ ρ0 ρ1 ρ2 ρ' τ σ σ1 σ2 σ' : Sg} {v w d e : D}
theorem opSet_own {b m : Nat} {xs : List D} {k : Int} (h : S[m]? = some (.lst xs)) (hm : may b m v = true) : opSet b (.ref m) (.int k) v S = (L2.ixN xs.length k).map fun j => S.set m (.lst (xs.set j v)) := by
  unfold opSet
  dsimp only
  rw [h]
  dsimp only
  rw [if_pos hm]
/-- a shared list changes -/
theorem RelS.chgSh (h : RelS π n n0 ρ δ σ S) {r : Nat} {xs ys : List D} (hr : δ[r]? = some (.lst xs)) (p : plA ys = true) : Nx π n n0 ρ σ S ρ (δ.set r (.lst ys)) σ (S.set (π r) (.lst ys)) := by
  have hrn : r < n := by rw [← h.sh.len]; exact (List.getElem?_eq_some_iff.mp hr).1
  have hl := h.sh.lt hrn
  have ne : ∀ m, ¬ Img π n m → π r ≠ m := fun m q z => q ⟨r, hrn, z⟩
  refine ⟨⟨⟨by rw [List.length_set]; exact h.sh.len, fun k o e => ?_, h.sh.inj⟩, by rw [List.length_set]; exact h.lb, h.ln, fun i v e => ?_, h.un⟩, ⟨by rw [List.length_set]; exact h.lb, fun m o l e i => by rw [List.getElem?_set_ne (ne m i)]; exact e⟩, .refl (by rw [List.length_set]; exact Nat.le_refl _)⟩
  · by_cases x : r = k
    · subst x
      rw [List.getElem?_set_self (List.getElem?_eq_some_iff.mp hr).1] at e
      cases e
      exact ⟨List.getElem?_set_self hl, p⟩
    · rw [List.getElem?_set_ne x] at e
      obtain ⟨h1, h2⟩ := h.sh.at_ k o e
      have kn : k < n := by rw [← h.sh.len]; exact (List.getElem?_eq_some_iff.mp e).1
      exact ⟨by rw [List.getElem?_set_ne fun z => x (h.sh.inj r k hrn kn z)]; exact h1, h2⟩
  · obtain ⟨d, h1, h2⟩ := h.sl i v e
    refine ⟨d, h1, ?_⟩
    cases v with
    | tl xs => obtain ⟨a, m, b, c, q, f⟩ := h2; exact ⟨a, m, b, c, q, by rw [List.getElem?_set_ne (ne m q)]; exact f⟩
    | bw xs => obtain ⟨a, m, b, q, f⟩ := h2; exact ⟨a, m, b, q, by rw [List.getElem?_set_ne (ne m q)]; exact f⟩
    | _ => exact h2
theorem set_pl {xs : List D} (p : plA xs = true) (h : pl v = true) (i : Nat) : plA (xs.set i v) = true := plA_all.mpr fun y hy => by
  rcases List.mem_or_eq_of_mem_set hy with z | z
  · exact plA_all.mp p y z
  · rw [z]; exact h
theorem sim_set (hc : CSim C2 C) {j : Nat} {i x : X} (rs : RelS π n n0 ρ δ σ S) : SimT π n n0 ρ σ S (vvS P C2 (.sset (.var j) i x) ρ δ) (evS P C (.sset (.var j) i x) n0 σ S) := by
  rw [evS_sset]
  show SimT π n n0 ρ σ S (RS.of (vvM P C2 x ρ δ) fun p δ1 => RS.of (nbR p.1 (varR p.2[j]? δ1)) fun _ _ => RS.of (vvM P C2 i p.2 δ1) fun q δ2 => setV j q.1 p.1 q.2 δ2) _
  refine SimM.t (sim_m hc x rs) fun p δ1 d S1 hv nx => ?_
  obtain ⟨v, ρ1⟩ := p
  dsimp only at hv nx ⊢
  unfold nbR
  split
  · rename_i hn
    have e := hv.eqN hn
    subst e
    have ht : isTl d = false := by cases d <;> first | rfl | cases hn
    rw [fix_no ht, RS.of_ok, ev_var]
    refine SimT.from nx ?_
    unfold varR
    split
    · rename_i u hu
      obtain ⟨d1, g1, g2⟩ := nx.rs.sl j u hu
      rw [g1, RS.of_ok, RS.of_ok]
      refine SimM.t (sim_m hc i nx.rs) fun q δ2 dk S2 hk nx2 => ?_
      obtain ⟨k, ρ2⟩ := q
      dsimp only at hk nx2 ⊢
      unfold setV
      split
      · rename_i xs nn hj
        obtain ⟨d2, k1, p, m, rfl, k3, k4, k5⟩ := nx2.rs.sl j _ hj
        rw [g1] at k1
        cases k1
        rw [hk.int]
        have hm : may n0 m d = true := by unfold may; rw [ht, if_neg (by omega)]; rfl
        rw [if_pos hn, opSet_own k5 hm]
        cases q : L2.ixN xs.length nn with
        | none => trivial
        | some a =>
          obtain ⟨r1, r2, r3⟩ := nx2.rs.chg hj g1 (set_pl p (hv.plN hn) a)
          exact SimT.from nx2 ⟨σ, _, rfl, r1, r3, r2⟩
      · rename_i r nn hj
        obtain ⟨d2, k1, k2⟩ := nx2.rs.sl j _ hj
        rw [g1] at k1
        cases k1
        obtain ⟨k3, rfl⟩ := k2
        rw [hk.int]
        split
        · rename_i hq
          rw [Bool.and_eq_true] at hq
          have hm : may n0 (π r) d = true := by unfold may; rw [ht]; simp only [Bool.not_false, Bool.true_and]; split; exact hq.2; rfl
          split
          · rename_i xs e
            obtain ⟨e1, e2⟩ := nx2.rs.sh.lst e
            rw [opSet_own e1 hm]
            cases q : L2.ixN xs.length nn with
            | none => trivial
            | some a => exact SimT.from nx2 ⟨σ, _, rfl, nx2.rs.chgSh e (set_pl e2 (hv.plN hn) a)⟩
          · trivial
        · trivial
      · trivial
    · trivial
  · trivial
theorem bnd_eq {tg : X} {f : Sg → RS} : (match bindT tg d σ with | some σ2 => f σ2 | none => .bad) = bndS (bindT tg d σ) f := by
  cases bindT tg d σ <;> rfl
theorem sim_forr (hc : CSim C2 C) {fb : Sg → GH → RS} {tg it body : X} (ib : ∀ ρ δ σ S, RelS π n n0 ρ δ σ S → SimT π n n0 ρ σ S (fb ρ δ) (evS P C body n0 σ S)) (rs : RelS π n n0 ρ δ σ S) :
    SimT π n n0 ρ σ S (RS.of (vvI P C2 it (rd ρ) δ) fun xs δ1 => (forV (mk (frz (lkI it) ρ)) (turnV P C2 tg fb) xs (frz (lkI it) ρ) δ1).mapG (thw ρ (lkI it))) (evS P C (.forr false tg it body) n0 σ S) := by
  unfold evS
  have z := (sim_x (P := P) hc it).i (b := n0) rs.sh rs.slr
  cases q : vvI P C2 it (rd ρ) δ with
  | bad => trivial
  | exc c v δ1 =>
    rw [q] at z
    obtain ⟨S2, e, a, b, f⟩ := z
    rw [e]
    exact ⟨S2, rfl, a, b, f.fz rs.lb⟩
  | ok xs δ1 =>
    rw [q] at z
    obtain ⟨d, S1, e, ⟨lk, ed, px, k1, k2, k3⟩, s1, f1⟩ := z
    subst ed
    rw [e]
    dsimp only [itD]
    have nx := Nx.of_fr rs s1 f1
    refine SimT.from nx ?_
    have lkI : LkI π n ρ σ S1 (Ev.lkI it) lk := ⟨k1, k2, k3⟩
    have rf := nx.rs.frz lkI
    have z := sim_for (π := π) (n := n) (n0 := n0) (ρ0 := frz (Ev.lkI it) ρ) (f := turnV P C2 tg fb) (g := fun d σ' S' => scop false n0 S' fun b' => match bindT tg d σ' with | some σ2 => evS P C body b' σ2 S' | none => .bad) (fun d ρ2 δ2 σ2 S2 pd _ r2 => by
      show SimT π n n0 ρ2 σ2 S2 (bndS (bindT tg d ρ2) fun ρ3 => fb ρ3 δ2) (match bindT tg d σ2 with | some σ3 => evS P C body n0 σ3 S2 | none => .bad)
      cases q2 : bindT tg d ρ2 with
      | none => trivial
      | some ρ3 =>
        obtain ⟨σ3, e3, r3, kp3⟩ := (RelS.bindX tg).1 d ρ2 ρ3 σ2 r2 pd q2
        rw [e3]
        exact SimT.from ⟨r3, ⟨r2.lb, fun _ _ _ h _ => h⟩, kp3⟩ (ib _ _ _ _ r3)) xs (frz (Ev.lkI it) ρ) δ1 σ (lock lk S1) px rfl rf
    -- behind the loop the lists are free again
    rw [RS.of_ok]
    generalize forV (mk (frz (Ev.lkI it) ρ)) (turnV P C2 tg fb) xs (frz (Ev.lkI it) ρ) δ1 = r at z ⊢
    generalize forL (fun d σ' S' => scop false n0 S' fun b' => match bindT tg d σ' with | some σ2 => evS P C body b' σ2 S' | none => .bad) xs σ (lock lk S1) = r' at z ⊢
    have fz : ∀ S2, Fz π n n0 (lock lk S1) S2 → Fz π n n0 S1 (unlock lk S1 S2) := fun S2 f => ⟨by rw [unlock_len]; exact f.1, fun m o lm e i => by
      have l2 : m < S2.length := Nat.lt_of_lt_of_le lm f.1
      by_cases hm : .ref m ∈ lk
      · exact unlock_in lk hm e l2
      · rcases unlock_get lk (S0 := S1) (S := S2) (m := m) with q | ⟨q, _⟩
        · rw [q]
          refine f.2 m o lm ?_ i
          rcases lock_get lk (S := S1) (m := m) with q | ⟨_, q⟩
          · rw [q]; exact e
          · exact absurd q hm
        · exact absurd q hm⟩
    cases r with
    | nxt ρ2 δ2 =>
      obtain ⟨σ2, S2, e2, nx2⟩ := z
      subst e2
      exact ⟨σ2, _, rfl, thaw_nx nx.rs lkI nx2⟩
    | brk ρ2 δ2 => trivial
    | cnt ρ2 δ2 => trivial
    | ret v δ2 =>
      obtain ⟨d2, S2, e2, rv, s2, f2, l2⟩ := z
      subst e2
      rw [lock_len] at l2
      refine ⟨d2, _, rfl, ?_, s2.unlock k1, fz S2 f2, by rw [unlock_len]; exact l2⟩
      cases v with
      | tl ys =>
        obtain ⟨p, rv⟩ := rv
        refine ⟨p, rv.imp id fun ⟨m, a, b, c, q⟩ => ⟨m, a, b, ?_, ?_⟩⟩
        · rcases unlock_get lk (S0 := S1) (S := S2) (m := m) with z | ⟨z, _⟩
          · rw [z]; exact c
          · exfalso
            rcases q with q | ⟨j, zs, q1, q2⟩
            · rw [lock_len] at q
              obtain ⟨a', a1, a2, ws, a3⟩ := k2 _ z
              obtain ⟨d, d1, d2⟩ := nx.rs.slr.2 a' _ a3
              rw [a2] at d1
              cases d1
              obtain ⟨_, m', em, _, d3⟩ := d2
              cases em
              rcases d3 with d3 | d3 <;> (have := (List.getElem?_eq_some_iff.mp d3).1; omega)
            · exact lkI.own nx.rs q1 q2 z
        · rcases q with q | ⟨j, zs, q1, q2⟩
          · rw [lock_len] at q; exact .inl q
          · exact .inr ⟨j, zs, (frz_tl q1).1, q2⟩
      | bw ys => trivial
      | _ => exact rv
    | exc c v δ2 =>
      obtain ⟨S2, e2, rv, s2, f2⟩ := z
      subst e2
      exact ⟨_, rfl, rv, s2.unlock k1, fz S2 f2⟩
    | bad => trivial
theorem sim_s (hc : CSim C2 C) : ∀ (x : X) {π : Nat → Nat} {n n0 : Nat} {ρ : Sg} {δ : GH} {σ : Sg} {S : GH}, RelS π n n0 ρ δ σ S → SimT π n n0 ρ σ S (vvS P C2 x ρ δ) (evS P C x n0 σ S) := by
  intro x
  induction x with
  | skip => intro π n n0 ρ δ σ S rs; rw [evS_skip]; exact ⟨σ, S, rfl, .refl rs⟩
  | seq a c ia ic =>
    intro π n n0 ρ δ σ S rs
    rw [evS_seq]
    have k := ia rs
    unfold vvS
    cases q : vvS P C2 a ρ δ with
    | nxt ρ1 δ1 =>
      rw [q] at k
      obtain ⟨σ1, S1, e, nx⟩ := k
      rw [e]
      exact SimT.from nx (ic nx.rs)
    | brk a b => rw [q] at k; obtain ⟨d2, S2, e, z⟩ := k; rw [e]; exact ⟨d2, S2, rfl, z⟩
    | cnt a b => rw [q] at k; obtain ⟨d2, S2, e, z⟩ := k; rw [e]; exact ⟨d2, S2, rfl, z⟩
    | ret a b => rw [q] at k; obtain ⟨d2, S2, e, z⟩ := k; rw [e]; exact ⟨d2, S2, rfl, z⟩
    | exc a b c => rw [q] at k; obtain ⟨S2, e, z⟩ := k; rw [e]; exact ⟨S2, rfl, z⟩
    | bad => trivial
  | asg tg e _ _ => exact fun rs => sim_asg hc tg e rs
  | aug i op e _ =>
    intro π n n0 ρ δ σ S rs
    unfold vvS evS
    unfold varR
    split
    · rename_i d hd
      obtain ⟨d1, g1, g2⟩ := rs.sl i d hd
      rw [g1, RS.of_ok]
      dsimp only
      refine SimR.t ((sim_x hc e).e rs.sh rs.slr) rs.lb fun v δ1 dv S1 hv s1 f1 => ?_
      have nx := Nx.of_fr rs s1 f1
      cases d with
      | int a =>
        have e1 : d1 = .int a := g2.2
        subst e1
        cases v with
        | int b =>
          have e2 := hv.int
          subst e2
          show SimT π n n0 ρ σ S (RS.of (opBin op (.int a) (.int b) δ1) fun r S2 => .nxt (ρ.set i (some r)) S2) (RS.of (opBin op (.int a) (.int b) S1) fun r S2 => .nxt (σ.set i (some r)) S2)
          have z : SimD π n S1 (opBinV op (.int a) (.int b) δ1) (opBin op (.int a) (.int b) S1) := sim_bin op (HVi a) (HVi b) s1
          have z' : opBinV op (.int a) (.int b) δ1 = opBin op (.int a) (.int b) δ1 := by cases op <;> rfl
          rw [z'] at z
          refine SimT.from nx ?_
          cases q : opBin op (.int a) (.int b) δ1 with
          | bad => trivial
          | exc c u δ2 => rw [q] at z; obtain ⟨S2, e, a1, a2, a3⟩ := z; rw [e]; exact ⟨S2, rfl, a1, a2, a3.fz nx.rs.lb⟩
          | ok u δ2 =>
            rw [q] at z
            obtain ⟨d2, S2, e, a1, a2, a3⟩ := z
            rw [e]
            have nx2 := Nx.of_fr nx.rs a2 a3
            have hu : ∃ w, u = .int w := by
              cases op <;> (try simp only [bin_add, bin_sub, bin_mul, bin_fdiv, bin_mod] at q) <;> first | (cases q; exact ⟨_, rfl⟩) | (split at q <;> cases q; exact ⟨_, rfl⟩) | skip
              have g : ∀ T : GH, opBin .pow (.int a) (.int b) T = if 0 ≤ b ∧ b ≤ 1000000 ∧ a.natAbs < 2 ^ 64 then .ok (.int (a ^ b.toNat)) T else .bad := fun T => rfl
              rw [g] at q
              split at q <;> cases q
              exact ⟨_, rfl⟩
            obtain ⟨w, rfl⟩ := hu
            obtain ⟨h2, h3⟩ := nx2.rs.put a1 rfl i
            exact ⟨_, S2, rfl, h2, nx2.fz, nx2.kp.trans h3⟩
        | _ => trivial
      | _ => trivial
    · trivial
  | expr e _ =>
    intro π n n0 ρ δ σ S rs
    rw [evS_expr]
    unfold vvS
    exact SimM.t (sim_m hc e rs) fun p δ1 d S1 hv nx => ⟨σ, S1, rfl, nx⟩
  | ret e _ =>
    intro π n n0 ρ δ σ S rs
    rw [evS_ret]
    unfold vvS
    refine SimM.t (sim_r hc e rs) fun p δ1 d S1 hv nx => ⟨d, S1, rfl, ?_, nx.rs.sh, nx.fz, nx.kp.le⟩
    revert hv
    generalize p.1 = v
    intro hv
    cases v with
    | tl xs => exact ⟨hv.1, hv.2.imp id fun ⟨m, a, b, c, q, f, _⟩ => ⟨m, a, b, q, f⟩⟩
    | bw xs => trivial
    | _ => exact hv
  | retn => intro π n n0 ρ δ σ S rs; rw [evS_retn]; exact ⟨.non, S, rfl, ⟨rfl, rfl⟩, rs.sh, ⟨rs.lb, fun _ _ _ h _ => h⟩, Nat.le_refl _⟩
  | ifs t a c _ ia ic =>
    intro π n n0 ρ δ σ S rs
    rw [evS_ifs]
    unfold vvS
    refine SimR.t ((sim_x hc t).e rs.sh rs.slr) rs.lb fun v δ1 d S1 hv s1 f1 => ?_
    have nx := Nx.of_fr rs s1 f1
    cases q : truth (lf v) δ1 with
    | none => trivial
    | some b =>
      rw [sim_truth hv s1 q]
      refine SimT.from nx ?_
      cases b
      · exact ic nx.rs
      · exact ia nx.rs
  | whl sc t body _ ib =>
    intro π n n0 ρ δ σ S rs
    unfold vvS
    split
    · trivial
    · rename_i hs
      have hs : sc = false := by simpa using hs
      subst hs
      unfold evS
      exact sim_wh (fun ρ δ σ S r => (sim_x hc t).e r.sh r.slr) (fun ρ δ σ S r => ib r) P.w ρ δ σ S rfl rs
  | forr sc tg it body _ _ ib =>
    intro π n n0 ρ δ σ S rs
    unfold vvS
    split
    · trivial
    · rename_i hs
      have hs : sc = false := by simpa using hs
      subst hs
      exact sim_forr hc (fun ρ δ σ S r => ib r) rs
  | brk => intro π n n0 ρ δ σ S rs; rw [evS_brk]; exact ⟨σ, S, rfl, .refl rs⟩
  | cnt => intro π n n0 ρ δ σ S rs; rw [evS_cnt]; exact ⟨σ, S, rfl, .refl rs⟩
  | rais c e _ =>
    intro π n n0 ρ δ σ S rs
    rw [evS_rais]
    unfold vvS
    refine SimR.t ((sim_x hc e).e rs.sh rs.slr) rs.lb fun v δ1 d S1 hv s1 f1 => ?_
    have nx := Nx.of_fr rs s1 f1
    unfold raiV
    split
    · rename_i hn
      have e := hv.eqN hn
      subst e
      unfold raiR
      split
      · exact SimT.from nx ⟨S1, rfl, hv.plN hn, nx.rs.sh, ⟨nx.rs.lb, fun _ _ _ h _ => h⟩⟩
      · trivial
    · trivial
  | sset o i e _ _ _ =>
    intro π n n0 ρ δ σ S rs
    cases o with
    | var j => exact sim_set hc rs
    | _ => trivial
  | _ => intro π n n0 ρ δ σ S rs; unfold vvS; trivial
theorem sim_call (P : Pr) : ∀ k, CSim (callV P k) (callO P k)
  | 0 => fun _ _ _ _ _ _ _ _ _ _ _ => trivial
  | k + 1 => fun π n j vs δ S ds n0 hs sh hn => by
    unfold callV callO
    cases q : P.fns[j]? with
    | none => trivial
    | some f =>
      dsimp only
      split
      · rename_i hl
        have l := hs.len
        rw [if_pos (by rw [l]; exact hl)]
        have rs : RelS π n n0 (vs.map some ++ List.replicate (f.sl - f.ar) none) δ (ds.map some ++ List.replicate (f.sl - f.ar) none) S := by
          have at_ : ∀ (i : Nat) (v : D), (vs.map some ++ List.replicate (f.sl - f.ar) none)[i]? = some (some v) → vs[i]? = some v ∧ i < vs.length := fun i v e => by
            by_cases hi : i < vs.length
            · rw [List.getElem?_append_left (by rw [List.length_map]; exact hi), List.getElem?_map] at e
              cases q : vs[i]? with
              | none => rw [q] at e; cases e
              | some u => rw [q] at e; cases e; exact ⟨rfl, hi⟩
            · rw [List.getElem?_append_right (by rw [List.length_map]; omega)] at e
              rw [List.getElem?_replicate] at e
              split at e <;> cases e
          refine ⟨sh, hn, by rw [List.length_append, List.length_append, List.length_map, List.length_map, l], fun i v e => ?_, fun i j xs v m ne e1 _ _ _ => ?_⟩
          · obtain ⟨e1, hi⟩ := at_ i v e
            obtain ⟨d, h1, h2, h3⟩ := hs.get e1
            refine ⟨d, by rw [List.getElem?_append_left (by rw [List.length_map, l]; exact hi), List.getElem?_map, h1]; rfl, ?_⟩
            cases v <;> first | exact h2 | cases h3
          · obtain ⟨e1, hi⟩ := at_ i _ e1
            obtain ⟨d, h1, h2, h3⟩ := hs.get e1
            cases h3
        have z := sim_s (P := P) (sim_call P k) f.body rs
        cases q2 : vvS P (callV P k) f.body (vs.map some ++ List.replicate (f.sl - f.ar) none) δ with
        | nxt a b => rw [q2] at z; obtain ⟨σ2, S2, e, nx⟩ := z; rw [e]; exact ⟨.non, S2, rfl, ⟨rfl, rfl⟩, nx.rs.sh, nx.fz⟩
        | ret v b =>
          rw [q2] at z
          obtain ⟨d, S2, e, rv, s2, f2, _⟩ := z
          rw [e]
          refine ⟨d, S2, rfl, ?_, s2, f2⟩
          cases v with
          | tl xs => exact ⟨rv.1, rv.2.imp id fun ⟨m, a, b, c, _⟩ => ⟨m, a, b, c⟩⟩
          | bw _ => trivial
          | _ => exact rv
        | exc c v b => rw [q2] at z; obtain ⟨S2, e, a, b, f2⟩ := z; rw [e]; exact ⟨S2, rfl, a, b, f2⟩
        | brk _ _ => trivial
        | cnt _ _ => trivial
        | bad => trivial
      · trivial
end Ev
set_option Elab.async false
set_option linter.all false
set_option maxRecDepth 100000
set_option maxHeartbeats 8000000
/-! WvL: the law itself: one list is shared with what it calls. -/
namespace Ev
open PySem
variable {P : Pr} {C2 : CV} {C : Cl} {π : Nat → Nat} {n n0 : Nat} {S S0 S1 S2 S' T : GH} {δ δ1 δ2 δ' : GH} {ρ ρ0 ρ1 ρ2 ρ' τ σ σ1 σ2 σ' : Sg} {v w d e : D}
def kl1 (n : Nat) : Option D → Option D
  | some (.ref k) => if k < n then some (.ref k) else none
  | o => o
def kl (n : Nat) (ρ : Sg) : Sg := ρ.map (kl1 n)
def unsh (n : Nat) (r : RS) : RS := match r with
  | .nxt ρ δ => .nxt (kl n ρ) (δ.take n)
  | .brk ρ δ => .brk (kl n ρ) (δ.take n)
  | .cnt ρ δ => .cnt (kl n ρ) (δ.take n)
  | .ret v δ => if isRef v then .bad else .ret v (δ.take n)
  | .exc c v δ => .exc c v (δ.take n)
  | .bad => .bad
def shB (P : Pr) (C : CV) (i : Nat) (rest : X) (p : D × Sg) (δ1 : GH) : RS := match p.1 with
  | .tl xs => unsh δ1.length (vvS P C rest (p.2.set i (some (.ref δ1.length))) (δ1 ++ [.lst xs]))
  | _ => .bad
/-- the body of the law's own loop: the list that slot sh gets is shared -/
def vvB (P : Pr) (C : CV) (sh : Nat) (body : X) (ρ : Sg) (δ : GH) : RS := match body with
  | .seq (.asg (.var i) e) rest => if i = sh then RS.of (vvR P C e ρ δ) fun p δ1 => shB P C i rest p δ1 else .bad
  | _ => .bad
/-- the law's loop, then what comes behind -/
def vvT (P : Pr) (C : CV) (sh : Nat) (tg it body tail : X) (ρ : Sg) (δ : GH) : RS :=
  seqR (RS.of (vvI P C it (rd ρ) δ) fun xs δ1 => (forV (mk (frz (lkI it) ρ)) (turnV P C tg (vvB P C sh body)) xs (frz (lkI it) ρ) δ1).mapG (thw ρ (lkI it))) fun ρ' δ' => vvS P C tail ρ' δ'
def shP (π : Nat → Nat) (n m : Nat) (k : Nat) : Nat := if k = n then m else π k
theorem Img.more {m m2 : Nat} (h : ¬ Img π n m) (k : m2 ≠ m) : ¬ Img (shP π n m2) (n + 1) m := fun ⟨i, h1, h2⟩ => by
  unfold shP at h2
  split at h2
  · exact k h2
  · exact h ⟨i, by omega, h2⟩
theorem Img.less {m m2 : Nat} (h : ¬ Img (shP π n m2) (n + 1) m) : ¬ Img π n m := fun ⟨i, h1, h2⟩ => h ⟨i, by omega, by unfold shP; rw [if_neg (by omega)]; exact h2⟩
theorem RelS.share (h : RelS π n n0 ρ δ σ S) {m : Nat} {xs : List D} (p : plA xs = true) (h2 : ¬ Img π n m) (h3 : S[m]? = some (.lst xs)) (h4 : ∀ (i : Nat) (v : D), ρ[i]? = some (some v) → σ[i]? ≠ some (some (.ref m))) (i : Nat) :
    RelS (shP π n m) (n + 1) n0 (ρ.set i (some (.ref n))) (δ ++ [.lst xs]) (σ.set i (some (.ref m))) S := by
  have hl : σ.length = ρ.length := h.ln
  have up : ∀ (j : Nat) (v d : D), ρ[j]? = some (some v) → σ[j]? = some (some d) → SV π n n0 S v d → SV (shP π n m) (n + 1) n0 S v d := fun j v d e1 e2 q => by
    cases v with
    | tl ys =>
      obtain ⟨a, m2, rfl, b, c, f⟩ := q
      exact ⟨a, m2, rfl, b, Img.more c fun z => h4 j _ e1 (by rw [z]; exact e2), f⟩
    | bw ys =>
      obtain ⟨a, m2, rfl, c, f⟩ := q
      exact ⟨a, m2, rfl, Img.more c fun z => h4 j _ e1 (by rw [z]; exact e2), f⟩
    | ref k =>
      obtain ⟨a, rfl⟩ := q
      refine ⟨by omega, ?_⟩
      unfold shP
      rw [if_neg (by omega)]
    | _ => exact q
  refine ⟨⟨by rw [List.length_append, h.sh.len]; rfl, fun k o e => ?_, fun k l hk hl e => ?_⟩, h.lb, by rw [List.length_set, List.length_set]; exact h.ln, fun j u e => ?_, fun j l zs u m2 ne e1 e2 e3 e4 => ?_⟩
  · by_cases hk : k < n
    · rw [List.getElem?_append_left (by rw [h.sh.len]; exact hk)] at e
      unfold shP
      rw [if_neg (by omega)]
      exact h.sh.at_ k o e
    · rw [List.getElem?_append_right (by rw [h.sh.len]; omega), h.sh.len] at e
      have : k = n := by
        have := (List.getElem?_eq_some_iff.mp e).1
        simp at this
        omega
      subst this
      rw [Nat.sub_self] at e
      cases e
      unfold shP
      rw [if_pos rfl]
      exact ⟨h3, p⟩
  · unfold shP at e
    split at e <;> split at e
    · omega
    · exact absurd ⟨l, by omega, e.symm⟩ h2
    · exact absurd ⟨k, by omega, e⟩ h2
    · exact h.sh.inj k l (by omega) (by omega) e
  · rcases get_set e with ⟨rfl, e5⟩ | ⟨ne, e5⟩
    · cases e5
      have il : i < ρ.length := by
        by_cases y : i < ρ.length
        · exact y
        · rw [List.getElem?_eq_none (by rw [List.length_set]; omega)] at e; cases e
      refine ⟨_, List.getElem?_set_self (by rw [hl]; exact il), ?_⟩
      show n < n + 1 ∧ D.ref m = .ref (shP π n m n)
      refine ⟨by omega, ?_⟩
      unfold shP
      rw [if_pos rfl]
    · rw [List.getElem?_set_ne ne]
      obtain ⟨d, d1, d2⟩ := h.sl j u e5
      exact ⟨d, d1, up j u d e5 d1 d2⟩
  · rcases get_set e1 with ⟨rfl, e5⟩ | ⟨n1, e5⟩
    · cases e5
    · rw [List.getElem?_set_ne n1] at e3
      rcases get_set e2 with ⟨rfl, e6⟩ | ⟨n2, e6⟩
      · rcases get_set e4 with ⟨_, e7⟩ | ⟨e7, _⟩
        · cases e7
          exact h4 j _ e5 e3
        · exact e7 rfl
      · rw [List.getElem?_set_ne n2] at e4
        exact h.un j l zs u m2 ne e5 e6 e3 e4
theorem kl_at {i : Nat} {v : D} (h : (kl n ρ)[i]? = some (some v)) : ρ[i]? = some (some v) ∧ ∀ k, v = .ref k → k < n := by
  unfold kl at h
  rw [List.getElem?_map] at h
  cases q : ρ[i]? with
  | none => rw [q] at h; cases h
  | some o =>
    rw [q] at h
    have h : kl1 n o = some v := Option.some.inj h
    cases o with
    | none => cases h
    | some u =>
      cases u with
      | ref k =>
        unfold kl1 at h
        dsimp only at h
        split at h
        · rename_i hk; cases h; exact ⟨rfl, fun _ e => by cases e; exact hk⟩
        · cases h
      | _ => cases h; exact ⟨rfl, fun _ e => by cases e⟩
theorem HV.unsh {m : Nat} (h : HV (shP π n m) (n + 1) S v d) (k : ∀ k, v = .ref k → k < n) : HV π n S v d := by
  cases v with
  | bw xs => obtain ⟨a, m2, b, c, f⟩ := h; exact ⟨a, m2, b, Img.less c, f⟩
  | ref i =>
    have hi := k i rfl
    refine ⟨hi, ?_⟩
    have := h.2
    unfold shP at this
    rw [if_neg (by omega)] at this
    exact this
  | _ => exact h
theorem Sh.unsh {m : Nat} (h : Sh (shP π n m) (n + 1) δ S) : Sh π n (δ.take n) S := ⟨by rw [List.length_take, h.len]; omega, fun k o e => by
  have hk : k < n := by
    have := (List.getElem?_eq_some_iff.mp e).1
    rw [List.length_take] at this
    omega
  rw [List.getElem?_take_of_lt hk] at e
  have := h.at_ k o e
  unfold shP at this
  rw [if_neg (by omega)] at this
  exact this, fun k l hk hl e => h.inj k l (by omega) (by omega) (by unfold shP; rw [if_neg (by omega), if_neg (by omega)]; exact e)⟩
theorem Nx.unsh {m : Nat} (hm : n0 ≤ m) (h : Nx (shP π n m) (n + 1) n0 ρ σ S ρ' δ' σ' S') : Nx π n n0 ρ σ S (kl n ρ') (δ'.take n) σ' S' := by
  have kll : (kl n ρ').length = ρ'.length := by unfold kl; rw [List.length_map]
  refine ⟨⟨h.rs.sh.unsh, h.rs.lb, by rw [kll]; exact h.rs.ln, fun i v e => ?_, fun i j xs v m ne e1 e2 => h.rs.un i j xs v m ne (kl_at e1).1 (kl_at e2).1⟩, ⟨h.fz.1, fun m2 o l e i => h.fz.2 m2 o l e (Img.more i (by omega))⟩, h.kp.le, by rw [kll]; exact h.kp.ln, fun i xs e => h.kp.bk i xs (kl_at e).1, fun i xs m e => h.kp.ow i xs m (kl_at e).1⟩
  obtain ⟨e1, e2⟩ := kl_at e
  obtain ⟨d, d1, d2⟩ := h.rs.sl i v e1
  refine ⟨d, d1, ?_⟩
  cases v with
  | tl ys => obtain ⟨a, m2, b, c, q, f⟩ := d2; exact ⟨a, m2, b, c, Img.less q, f⟩
  | bw ys => exact HV.unsh (v := .bw ys) d2 e2
  | ref k => exact HV.unsh (S := S') (v := .ref k) d2 e2
  | _ => exact d2
theorem sim_unsh {m : Nat} (hm : n0 ≤ m) {r r' : RS} (h : SimT (shP π n m) (n + 1) n0 ρ σ S r r') : SimT π n n0 ρ σ S (unsh n r) r' := by
  have fz : ∀ S', Fz (shP π n m) (n + 1) n0 S S' → Fz π n n0 S S' := fun S' f => ⟨f.1, fun m2 o l e i => f.2 m2 o l e (Img.more i (by omega))⟩
  cases r with
  | nxt a b => obtain ⟨σ2, S2, e, nx⟩ := h; exact ⟨σ2, S2, e, nx.unsh hm⟩
  | brk a b => obtain ⟨σ2, S2, e, nx⟩ := h; exact ⟨σ2, S2, e, nx.unsh hm⟩
  | cnt a b => obtain ⟨σ2, S2, e, nx⟩ := h; exact ⟨σ2, S2, e, nx.unsh hm⟩
  | ret v b =>
    obtain ⟨d, S2, e, rv, s2, f, l⟩ := h
    show SimT π n n0 ρ σ S (if isRef v = true then .bad else .ret v (b.take n)) r'
    split
    · trivial
    · rename_i hr
      refine ⟨d, S2, e, ?_, s2.unsh, fz S2 f, l⟩
      cases v with
      | tl xs => exact rv
      | bw xs => trivial
      | ref k => exact absurd rfl hr
      | _ => exact rv
  | exc c v b => obtain ⟨S2, e, a, s2, f⟩ := h; exact ⟨S2, e, a, s2.unsh, fz S2 f⟩
  | bad => trivial
theorem sim_b (hc : CSim C2 C) (sh : Nat) (body : X) (rs : RelS π n n0 ρ δ σ S) : SimT π n n0 ρ σ S (vvB P C2 sh body ρ δ) (evS P C body n0 σ S) := by
  unfold vvB
  split
  · rename_i i e rest
    split
    · rename_i hi
      rw [evS_seq, evS_asg]
      have z := sim_r (P := P) hc e rs
      cases q : vvR P C2 e ρ δ with
      | bad => trivial
      | exc c v δ1 => rw [q] at z; obtain ⟨S2, e1, a⟩ := z; rw [e1]; exact ⟨S2, rfl, a⟩
      | ok p δ1 =>
        rw [q] at z
        obtain ⟨d, S1, e1, hv, nx⟩ := z
        obtain ⟨v, ρ1⟩ := p
        dsimp only at hv nx
        rw [e1, RS.of_ok, RS.of_ok]
        cases v with
        | tl xs =>
          show SimT π n n0 ρ σ S (unsh δ1.length (vvS P C2 rest (ρ1.set i (some (.ref δ1.length))) (δ1 ++ [.lst xs]))) _
          rw [nx.rs.sh.len]
          have go : ∀ (S2 : GH) (m : Nat), RelS π n n0 ρ1 δ1 σ S2 → Fz π n n0 S S2 → S1.length ≤ S2.length → n0 ≤ m → ¬ Img π n m → S2[m]? = some (.lst xs) → plA xs = true → (∀ (i : Nat) (v : D), ρ1[i]? = some (some v) → σ[i]? ≠ some (some (.ref m))) →
              SimT π n n0 ρ σ S (unsh n (vvS P C2 rest (ρ1.set i (some (.ref n))) (δ1 ++ [.lst xs]))) (evS P C rest n0 (σ.set i (some (.ref m))) S2) := fun S2 m r2 fz le h1 h2 h3 hp h5 => by
            have r3 := r2.share hp h2 h3 h5 i
            have z := sim_unsh h1 (sim_s (P := P) hc rest r3)
            have kp : Kp ρ1 σ S1 (ρ1.set i (some (.ref n))) (σ.set i (some (.ref m))) S2 := ⟨le, by rw [List.length_set], fun j zs e => by
              rcases get_set e with ⟨_, e5⟩ | ⟨ne, e5⟩
              · cases e5
              · rw [List.getElem?_set_ne ne]; exact ⟨e5, rfl⟩, fun j zs m2 e e2 => by
              rcases get_set e with ⟨_, e5⟩ | ⟨ne, e5⟩
              · cases e5
              · rw [List.getElem?_set_ne ne] at e2; exact .inr ⟨j, zs, e5, e2⟩⟩
            have kp2 := nx.kp.trans kp
            -- the frames of what comes behind, seen from before
            revert z
            generalize unsh n (vvS P C2 rest (ρ1.set i (some (.ref n))) (δ1 ++ [.lst xs])) = r
            generalize evS P C rest n0 (σ.set i (some (.ref m))) S2 = r'
            intro z
            cases r with
            | nxt a b => obtain ⟨σ3, S3, e, q⟩ := z; exact ⟨σ3, S3, e, q.rs, fz.trans q.fz, kp2.trans q.kp⟩
            | brk a b => obtain ⟨σ3, S3, e, q⟩ := z; exact ⟨σ3, S3, e, q.rs, fz.trans q.fz, kp2.trans q.kp⟩
            | cnt a b => obtain ⟨σ3, S3, e, q⟩ := z; exact ⟨σ3, S3, e, q.rs, fz.trans q.fz, kp2.trans q.kp⟩
            | ret v b =>
              obtain ⟨d, S3, e, rv, s3, f, l⟩ := z
              refine ⟨d, S3, e, ?_, s3, fz.trans f, Nat.le_trans kp2.le l⟩
              cases v with
              | tl ys =>
                refine ⟨rv.1, rv.2.imp id fun ⟨m, a, b, c, q⟩ => ⟨m, a, b, c, ?_⟩⟩
                rcases q with q | ⟨j, ws, q1, q2⟩
                · exact .inl (Nat.le_trans kp2.le q)
                · exact kp2.ow j ws m q1 q2
              | _ => exact rv
            | exc c v b => obtain ⟨S3, e, a, s3, f⟩ := z; exact ⟨S3, e, a, s3, fz.trans f⟩
            | bad => trivial
          obtain ⟨hp, hd⟩ := hv
          rcases hd with rfl | ⟨m, rfl, h1, h2, h3, h4, h5⟩
          · rw [fix_tl, RS.of_ok, bindT_var, optS_some]
            have fr : Fr π n S1 (S1 ++ [.lst xs]) := .app _ _
            have sh : Sh π n δ1 (S1 ++ [.lst xs]) := ⟨nx.rs.sh.len, fun k o e => by
              obtain ⟨z1, z2⟩ := nx.rs.sh.at_ k o e
              exact ⟨by rw [List.getElem?_append_left (List.getElem?_eq_some_iff.mp z1).1]; exact z1, z2⟩, nx.rs.sh.inj⟩
            refine go _ _ (nx.rs.step sh fr) (nx.fz.trans (fr.fz nx.rs.lb)) fr.1 nx.rs.lb ?_ (by simp) hp fun j u e e2 => ?_
            · rintro ⟨k, hk, e⟩
              have := nx.rs.sh.lt hk
              omega
            · obtain ⟨d, g1, g2⟩ := nx.rs.sl j u e
              rw [e2] at g1
              cases g1
              cases u with
              | tl zs => obtain ⟨_, m, em, _, _, q⟩ := g2; cases em; have := (List.getElem?_eq_some_iff.mp q).1; omega
              | bw zs => obtain ⟨_, m, em, _, q⟩ := g2; cases em; rcases q with q | q <;> (have := (List.getElem?_eq_some_iff.mp q).1; omega)
              | ref k => have := nx.rs.sh.lt g2.1; have z := g2.2; injection z with z; omega
              | _ => cases g2.2
          · rw [fix_ref, RS.of_ok, bindT_var, optS_some]
            exact go _ _ nx.rs nx.fz (Nat.le_refl _) h1 h2 h3 hp h5
        | _ => trivial
    · trivial
  · trivial
theorem sim_t (hc : CSim C2 C) (sh : Nat) (tg it body tail : X) (rs : RelS π n n0 ρ δ σ S) : SimT π n n0 ρ σ S (vvT P C2 sh tg it body tail ρ δ) (evS P C (.seq (.forr false tg it body) tail) n0 σ S) := by
  rw [evS_seq]
  have k := sim_forr (P := P) hc (fb := vvB P C2 sh body) (tg := tg) (it := it) (body := body) (fun ρ δ σ S r => sim_b hc sh body r) rs
  unfold vvT
  revert k
  generalize (RS.of (vvI P C2 it (rd ρ) δ) fun xs δ1 => (forV (mk (frz (lkI it) ρ)) (turnV P C2 tg (vvB P C2 sh body)) xs (frz (lkI it) ρ) δ1).mapG (thw ρ (lkI it))) = r
  intro k
  cases r with
  | nxt ρ1 δ1 =>
    obtain ⟨σ1, S1, e, nx⟩ := k
    rw [e]
    exact SimT.from nx (sim_s (P := P) hc tail nx.rs)
  | brk a b => obtain ⟨d2, S2, e, z⟩ := k; rw [e]; exact ⟨d2, S2, rfl, z⟩
  | cnt a b => obtain ⟨d2, S2, e, z⟩ := k; rw [e]; exact ⟨d2, S2, rfl, z⟩
  | ret a b => obtain ⟨d2, S2, e, z⟩ := k; rw [e]; exact ⟨d2, S2, rfl, z⟩
  | exc a b c => obtain ⟨S2, e, z⟩ := k; rw [e]; exact ⟨S2, rfl, z⟩
  | bad => trivial
/-- the law, called with a script -/
theorem law_holds {N j sh : Nat} {f : Fn} {ns : List Int} {tg it body tail : X} (hf : P.fns[j]? = some f) (ha : f.ar = 1) (hb : f.body = .seq (.forr false tg it body) tail) (h : okS (vvT P (callV P N) sh tg it body tail (some (.fl (ns.map D.int)) :: List.replicate (f.sl - 1) none) []) { n := no2, t := fun d _ => d = .bl true, b := no2, c := no2, x := no3 }) : ∃ G, callO P (N + 1) j 0 [.fl (ns.map D.int)] [] = .ok (.bl true) G := by
  have rs : RelS (fun k => k) 0 0 (some (.fl (ns.map D.int)) :: List.replicate (f.sl - 1) none) [] (some (.fl (ns.map D.int)) :: List.replicate (f.sl - 1) none) [] := by
    have only : ∀ (i : Nat) (v : D), (some (D.fl (ns.map D.int)) :: List.replicate (f.sl - 1) none)[i]? = some (some v) → v = .fl (ns.map D.int) := fun i v e => by
      cases i with
      | zero => cases e; rfl
      | succ i => rw [List.getElem?_cons_succ, List.getElem?_replicate] at e; split at e <;> cases e
    refine ⟨⟨rfl, fun k o e => by simp at e, fun k l hk => absurd hk (Nat.not_lt_zero k)⟩, Nat.le_refl _, rfl, fun i v e => ?_, fun i k xs v m _ e1 => ?_⟩
    · have z := only i v e
      subst z
      refine ⟨_, e, ?_, rfl⟩
      exact plA_all.mpr fun y hy => by obtain ⟨z, _, rfl⟩ := List.mem_map.mp hy; rfl
    · have := only i _ e1
      cases this
  have z := sim_t (P := P) (sim_call P N) sh tg it body tail rs
  rw [callO_succ hf (by rw [ha]; rfl), ha, hb]
  cases q : vvT P (callV P N) sh tg it body tail (some (.fl (ns.map D.int)) :: List.replicate (f.sl - 1) none) [] with
  | ret v b =>
    rw [q] at z h
    obtain ⟨d, S2, e, rv, _⟩ := z
    have hv : v = .bl true := h
    subst hv
    have hd : d = .bl true := rv.2
    subst hd
    exact ⟨S2, by
      show (evS P (callO P N) (.seq (.forr false tg it body) tail) 0 (some (.fl (ns.map D.int)) :: List.replicate (f.sl - 1) none) []).toR = _
      rw [e]
      rfl⟩
  | _ => rw [q] at h; exact h.elim
end Ev
set_option Elab.async false
set_option linter.all false
set_option maxRecDepth 100000
set_option maxHeartbeats 4000000
/-! WvM: the evaluator over values, walked by simp. -/
namespace Ev
open PySem
variable {P : Pr} {C : CV} {τ ρ ρ0 : Sg} {δ δ1 : GH} {Q : D → GH → Prop} {E : Nat → D → GH → Prop} {k : Kt}
@[simp] theorem brS_t (x y : RS) : brS (some true) x y = x := rfl
@[simp] theorem brS_f (x y : RS) : brS (some false) x y = y := rfl
/-! expressions -/
theorem vv_var (i : Nat) : vv P C (.var i) τ δ = varR τ[i]? δ := by unfold vv; rfl
theorem vv_cint (i : Int) : vv P C (.cint i) τ δ = .ok (.int i) δ := by unfold vv; rfl
theorem vv_cstr (x : Str) : vv P C (.cstr x) τ δ = .ok (.str x) δ := by unfold vv; rfl
theorem vv_cbl (t : Bool) : vv P C (.cbl t) τ δ = .ok (.bl t) δ := by unfold vv; rfl
theorem vv_cnon : vv P C .cnon τ δ = .ok .non δ := by unfold vv; rfl
theorem vv_glob (i : Nat) : vv P C (.glob i) τ δ = globR P.cs[i]? δ := by unfold vv; rfl
theorem vv_bin (op : BOp) (a c : X) : vv P C (.bin op a c) τ δ = (vv P C a τ δ).bind fun d δ1 => (vv P C c τ δ1).bind fun e δ2 => opBinV op d e δ2 := by conv => lhs; unfold vv
theorem vv_neg (a : X) : vv P C (.neg a) τ δ = (vv P C a τ δ).bind negR := by conv => lhs; unfold vv
theorem vv_not (a : X) : vv P C (.not a) τ δ = (vv P C a τ δ).bind notR := by conv => lhs; unfold vv
theorem vv_and (a c : X) : vv P C (.and a c) τ δ = (vv P C a τ δ).bind fun d δ1 => brR (blD d) (vv P C c τ δ1) (.ok (.bl false) δ1) := by conv => lhs; unfold vv
theorem vv_or (a c : X) : vv P C (.or a c) τ δ = (vv P C a τ δ).bind fun d δ1 => brR (blD d) (.ok (.bl true) δ1) (vv P C c τ δ1) := by conv => lhs; unfold vv
theorem vv_cmp (op : COp) (a c : X) : vv P C (.cmp op a c) τ δ = (vv P C a τ δ).bind fun d δ1 => (vv P C c τ δ1).bind fun e δ2 => opCmpV op d e δ2 := by conv => lhs; unfold vv
theorem vv_chain (op op' : COp) (a c e : X) : vv P C (.chain op op' a c e) τ δ = (vv P C a τ δ).bind fun d δ1 => (vv P C c τ δ1).bind fun d' δ2 => (opCmpV op d d' δ2).bind fun k δ3 => brR (blD k) ((vv P C e τ δ3).bind fun d'' δ4 => opCmpV op' d' d'' δ4) (.ok (.bl false) δ3) := by conv => lhs; unfold vv
theorem vv_ite (t a c : X) : vv P C (.ite t a c) τ δ = (vv P C t τ δ).bind fun d δ1 => brR (truth (lf d) δ1) (vv P C a τ δ1) (vv P C c τ δ1) := by conv => lhs; unfold vv
def nbT (ds : List D) (δ : GH) : R D := if ds.all nb then .ok (.tup ds) δ else .bad
def nbL (ds : List D) (δ : GH) : R D := if ds.all nb then .ok (.tl ds) δ else .bad
theorem vv_tup (as : X) : vv P C (.tup as) τ δ = (vvA P C as τ δ).bind nbT := by (conv => lhs; unfold vv); rfl
theorem vv_lst (as : X) : vv P C (.lst as) τ δ = (vvA P C as τ δ).bind nbL := by (conv => lhs; unfold vv); rfl
@[simp] theorem nbT_ok {ds : List D} (h : ds.all nb = true) : nbT ds δ = .ok (.tup ds) δ := if_pos h
@[simp] theorem nbL_ok {ds : List D} (h : ds.all nb = true) : nbL ds δ = .ok (.tl ds) δ := if_pos h
@[simp] theorem nbT_nil : nbT [] δ = .ok (.tup []) δ := rfl
@[simp] theorem nbL_nil : nbL [] δ = .ok (.tl []) δ := rfl
theorem vv_idx (a c : X) : vv P C (.idx a c) τ δ = (vv P C a τ δ).bind fun d δ1 => (vv P C c τ δ1).bind fun e δ2 => opIdx (lf d) e δ2 := by conv => lhs; unfold vv
theorem vv_slc (a lo hi : X) : vv P C (.slc a lo hi) τ δ = (vv P C a τ δ).bind fun d δ1 => (vv P C lo τ δ1).bind fun l δ2 => slcR d (partX lo l) fun i => (vv P C hi τ δ2).bind fun h δ3 => slcR d (partX hi h) fun j => opSl (lf d) i j δ3 := by conv => lhs; unfold vv
theorem vv_rev (a : X) : vv P C (.rev a) τ δ = (vv P C a τ δ).bind fun d δ1 => opRev (lf d) δ1 := by conv => lhs; unfold vv
theorem vv_call (j : Nat) (as : X) (h : P.keepOf j = false) : vv P C (.call j as) τ δ = dropV ((vvA P C as τ δ).bind fun ds δ1 => C j ds δ1) := by (conv => lhs; unfold vv); rw [h]; rfl
theorem vv_callk (j : Nat) (p : List Nat) (as : X) : vv P C (.callk j p as) τ δ = dropV ((vvA P C as τ δ).bind fun ds δ1 => perR (permD p ds) fun ds' => C j ds' δ1) := by conv => lhs; unfold vv
theorem vv_b1 (f : B1) (a : X) : vv P C (.b1 f a) τ δ = (vv P C a τ δ).bind fun d δ1 => opB1 f (lf d) δ1 := by conv => lhs; unfold vv
theorem vv_mx (a c : X) : vv P C (.mx a c) τ δ = (vv P C a τ δ).bind fun d δ1 => (vv P C c τ δ1).bind fun e δ2 => mxR d e δ2 := by conv => lhs; unfold vv
theorem vv_mn (a c : X) : vv P C (.mn a c) τ δ = (vv P C a τ δ).bind fun d δ1 => (vv P C c τ δ1).bind fun e δ2 => mnR d e δ2 := by conv => lhs; unfold vv
theorem vv_isi (t : Ty) (a : X) : vv P C (.isi t a) τ δ = (vv P C a τ δ).bind fun d δ1 => optR (isTy t (lr d)) δ1 := by conv => lhs; unfold vv
theorem vv_lrng (as : X) : vv P C (.lrng as) τ δ = (vvA P C as τ δ).bind fun ds δ1 => (optL (opRng ds) δ1).bind fun xs δ2 => .ok (.tl xs) δ2 := by conv => lhs; unfold vv
theorem vv_scomp (j : Nat) (tg a : X) (own : List Nat) : vv P C (.scomp j tg a own) τ δ = (vv P C a τ δ).bind fun d δ1 => scolR j tg (wipeS τ own) (seqv (lf d) δ1) δ1 := by conv => lhs; unfold vv
theorem vv_frz (a : X) : vv P C (.frz a) τ δ = (vv P C a τ δ).bind fun d δ1 => frzV d δ1 := by conv => lhs; unfold vv
@[simp] theorem frzV_tl (xs : List D) : frzV (.tl xs) δ = .ok (.fl xs) δ := rfl
@[simp] theorem frzV_nb {d : D} (h : nb d = true) : frzV d δ = .ok d δ := by cases d <;> first | rfl | cases h
theorem vv_thunk (i : Nat) (e : X) : vv P C (.thunk i e) τ δ = thunkR (P.th[i]?) (dropV (vv P C e τ δ)) := by conv => lhs; unfold vv
/-- one element of a comprehension -/
def compV (P : Pr) (C : CV) (e tg cond : X) (own : List Nat) (τ : Sg) (d : D) (δ2 : GH) : R (Option D) := bnd (bindT tg d (wipeS τ own)) fun τ' => (vv P C cond τ' δ2).bind fun k δ3 => brR (truth (lf k) δ3) ((vv P C e τ' δ3).bind fun v δ4 => nbO v δ4) (.ok none δ3)
def compE (f : D → GH → R (Option D)) (items : List D) (δ1 : GH) : R D := if items.length > lim then .bad else (compLoop f items δ1).bind fun r δ2 => .ok (.tl r) δ2
theorem vv_comp (e tg it cond : X) (own : List Nat) : vv P C (.comp e tg it cond own) τ δ = (vvI P C it τ δ).bind (compE (compV P C e tg cond own τ)) := by (conv => lhs; unfold vv); rfl
theorem compV_eq (e tg cond : X) (own : List Nat) (d : D) : compV P C e tg cond own τ d δ = bnd (bindT tg d (wipeS τ own)) fun τ' => (vv P C cond τ' δ).bind fun k δ3 => brR (truth (lf k) δ3) ((vv P C e τ' δ3).bind fun v δ4 => nbO v δ4) (.ok none δ3) := rfl
theorem compE_eq (f : D → GH → R (Option D)) (items : List D) : compE f items δ = if items.length > lim then .bad else (compLoop f items δ).bind fun r δ2 => .ok (.tl r) δ2 := rfl
@[simp] theorem nbO_ok {v : D} (h : nb v = true) : nbO v δ = .ok (some v) δ := if_pos h
/-! arguments, what is walked -/
theorem vvA_nil : vvA P C .nil τ δ = .ok [] δ := by unfold vvA; rfl
theorem vvA_cons (a as : X) : vvA P C (.cons a as) τ δ = (vv P C a τ δ).bind fun d δ1 => (vvA P C as τ δ1).bind fun ds δ2 => .ok (bo d :: ds) δ2 := by conv => lhs; unfold vvA
theorem vvI_iseq (e : X) : vvI P C (.iseq e) τ δ = (vv P C e τ δ).bind fun d δ1 => optL (seqI (isVr e) d δ1) δ1 := by conv => lhs; unfold vvI
theorem vvI_irng (as : X) : vvI P C (.irng as) τ δ = (vvA P C as τ δ).bind fun ds δ1 => optL (opRng ds) δ1 := by conv => lhs; unfold vvI
theorem vvI_ienum (e : X) : vvI P C (.ienum e) τ δ = (vv P C e τ δ).bind fun d δ1 => (optL (seqI (isVr e) d δ1) δ1).bind fun xs δ2 => .ok (enumD xs) δ2 := by conv => lhs; unfold vvI
theorem vvI_izip (a c : X) : vvI P C (.izip a c) τ δ = (vv P C a τ δ).bind fun d δ1 => (vv P C c τ δ1).bind fun e δ2 => zipO (seqI (isVr a) d δ2) (seqI (isVr c) e δ2) δ2 := by conv => lhs; unfold vvI
@[simp] theorem optL_some (xs : List D) : optL (some xs) δ = .ok xs δ := rfl
@[simp] theorem zipO_some (xs ys : List D) : zipO (some xs) (some ys) δ = .ok (zipD xs ys) δ := rfl
@[simp] theorem isVr_var (i : Nat) : isVr (.var i) = true := rfl
@[simp] theorem seqI_tup (b : Bool) (xs : List D) : seqI b (.tup xs) δ = some xs := rfl
@[simp] theorem seqI_tl (b : Bool) (xs : List D) : seqI b (.tl xs) δ = some xs := rfl
@[simp] theorem seqI_fl (b : Bool) (xs : List D) : seqI b (.fl xs) δ = some xs := rfl
@[simp] theorem seqI_bw (xs : List D) : seqI true (.bw xs) δ = some xs := rfl
/-! small -/
@[simp] theorem varR_some (d : D) : varR (some (some d)) δ = .ok d δ := rfl
@[simp] theorem globR_some {d : D} (h : pl d = true) : globR (some d) δ = .ok d δ := if_pos h
@[simp] theorem pl_tup (xs : List D) : pl (.tup xs) = plA xs := by rw [pl]
@[simp] theorem plA_nil : plA [] = true := rfl
@[simp] theorem plA_cons (x : D) (xs : List D) : plA (x :: xs) = (pl x && plA xs) := by rw [plA]
theorem nbI {d : D} (h : nb d = true) : nb d = true := h
theorem plI {d : D} (h : pl d = true) : pl d = true := h
@[simp] theorem pl_int (i : Int) : pl (.int i) = true := plI rfl
@[simp] theorem pl_str (i : Str) : pl (.str i) = true := plI rfl
@[simp] theorem nb_fl (xs : List D) : nb (.fl xs) = true := nbI rfl
@[simp] theorem nb_non : nb .non = true := nbI rfl
@[simp] theorem nb_bl (b : Bool) : nb (.bl b) = true := nbI rfl
@[simp] theorem nb_int (i : Int) : nb (.int i) = true := nbI rfl
@[simp] theorem nb_str (i : Str) : nb (.str i) = true := nbI rfl
@[simp] theorem nb_tup (xs : List D) : nb (.tup xs) = true := nbI rfl
@[simp] theorem lf_bw (xs : List D) : lf (.bw xs) = .tl xs := rfl
@[simp] theorem lf_tl (xs : List D) : lf (.tl xs) = .tl xs := rfl
@[simp] theorem lf_fl (xs : List D) : lf (.fl xs) = .fl xs := rfl
@[simp] theorem lf_sv (xs : List D) : lf (.sv xs) = .sv xs := rfl
@[simp] theorem lf_ref (n : Nat) : lf (.ref n) = .ref n := rfl
@[simp] theorem lf_nb {d : D} (h : nb d = true) : lf d = d := by cases d <;> first | rfl | cases h
@[simp] theorem lr_bw (xs : List D) : lr (.bw xs) = .ref 0 := rfl
@[simp] theorem lr_ref (n : Nat) : lr (.ref n) = .ref n := rfl
@[simp] theorem lr_fl (xs : List D) : lr (.fl xs) = .fl xs := rfl
@[simp] theorem lr_sv (xs : List D) : lr (.sv xs) = .sv xs := rfl
@[simp] theorem lr_nb {d : D} (h : nb d = true) : lr d = d := by cases d <;> first | rfl | cases h
@[simp] theorem bo_tl (xs : List D) : bo (.tl xs) = .bw xs := rfl
@[simp] theorem bo_bw (xs : List D) : bo (.bw xs) = .bw xs := rfl
@[simp] theorem bo_fl (xs : List D) : bo (.fl xs) = .fl xs := rfl
@[simp] theorem bo_sv (xs : List D) : bo (.sv xs) = .sv xs := rfl
@[simp] theorem bo_ref (n : Nat) : bo (.ref n) = .ref n := rfl
@[simp] theorem bo_nb {d : D} (h : nb d = true) : bo d = d := by cases d <;> first | rfl | cases h
@[simp] theorem rd_nil : rd [] = [] := rfl
@[simp] theorem rd_cons (o : Option D) (ρ : Sg) : rd (o :: ρ) = rd1 o :: rd ρ := rfl
@[simp] theorem rd1_none : rd1 none = none := rfl
@[simp] theorem rd1_tl (xs : List D) : rd1 (some (.tl xs)) = some (.bw xs) := rfl
@[simp] theorem rd1_bw (xs : List D) : rd1 (some (.bw xs)) = some (.bw xs) := rfl
@[simp] theorem rd1_fl (xs : List D) : rd1 (some (.fl xs)) = some (.fl xs) := rfl
@[simp] theorem rd1_sv (xs : List D) : rd1 (some (.sv xs)) = some (.sv xs) := rfl
@[simp] theorem rd1_ref (n : Nat) : rd1 (some (.ref n)) = some (.ref n) := rfl
@[simp] theorem rd1_nb {d : D} (h : nb d = true) : rd1 (some d) = some d := by cases d <;> first | rfl | cases h
@[simp] theorem isBw_bw (xs : List D) : isBw (.bw xs) = true := rfl
theorem isBwI {d : D} (h : isBw d = false) : isBw d = false := h
@[simp] theorem isBw_tl (xs : List D) : isBw (.tl xs) = false := isBwI rfl
@[simp] theorem isBw_fl (xs : List D) : isBw (.fl xs) = false := isBwI rfl
@[simp] theorem isBw_sv (xs : List D) : isBw (.sv xs) = false := isBwI rfl
@[simp] theorem isBw_ref (n : Nat) : isBw (.ref n) = false := isBwI rfl
@[simp] theorem isBw_nb {d : D} (h : nb d = true) : isBw d = false := by cases d <;> first | rfl | cases h
@[simp] theorem isRef_nb {d : D} (h : nb d = true) : isRef d = false := by cases d <;> first | rfl | cases h
@[simp] theorem opBinV_add (d e : D) : opBinV .add d e δ = opBin .add (lf d) (lf e) δ := rfl
@[simp] theorem opBinV_sub (d e : D) : opBinV .sub d e δ = opBin .sub d e δ := rfl
@[simp] theorem opBinV_mul (d e : D) : opBinV .mul d e δ = opBin .mul d e δ := rfl
@[simp] theorem opBinV_fdiv (d e : D) : opBinV .fdiv d e δ = opBin .fdiv d e δ := rfl
@[simp] theorem opBinV_mod (d e : D) : opBinV .mod d e δ = opBin .mod d e δ := rfl
@[simp] theorem opBinV_pow (d e : D) : opBinV .pow d e δ = opBin .pow d e δ := rfl
@[simp] theorem opCmpV_eq (d e : D) : opCmpV .eq d e δ = opCmp .eq (lf d) (lf e) δ := rfl
@[simp] theorem opCmpV_ne (d e : D) : opCmpV .ne d e δ = opCmp .ne (lf d) (lf e) δ := rfl
@[simp] theorem opCmpV_in (d e : D) : opCmpV .in_ d e δ = opCmp .in_ d (lf e) δ := rfl
@[simp] theorem opCmpV_nin (d e : D) : opCmpV .nin d e δ = opCmp .nin d (lf e) δ := rfl
@[simp] theorem opCmpV_lt (d e : D) : opCmpV .lt d e δ = opCmp .lt d e δ := rfl
@[simp] theorem opCmpV_le (d e : D) : opCmpV .le d e δ = opCmp .le d e δ := rfl
@[simp] theorem opCmpV_gt (d e : D) : opCmpV .gt d e δ = opCmp .gt d e δ := rfl
@[simp] theorem opCmpV_ge (d e : D) : opCmpV .ge d e δ = opCmp .ge d e δ := rfl
@[simp] theorem opCmpV_is (d e : D) : opCmpV .is_ d e δ = opCmp .is_ d e δ := rfl
@[simp] theorem opCmpV_isnt (d e : D) : opCmpV .isnt d e δ = opCmp .isnt d e δ := rfl
@[simp] theorem dropV_ok {d : D} (h : cl d = true) : dropV (.ok d δ) = .ok d δ := if_pos h
@[simp] theorem dropV_exc {c : Nat} {d : D} (h : cl d = true) : dropV (.exc c d δ) = .exc c d δ := if_pos h
theorem okR_dropV {r : R D} (h : okR r (fun d δ => cl d = true ∧ Q d δ) (fun c d δ => cl d = true ∧ E c d δ)) : okR (dropV r) Q E := by
  cases r with
  | ok d S => rw [dropV_ok h.1]; exact h.2
  | exc c d S => rw [dropV_exc h.1]; exact h.2
  | bad => exact h
theorem okR_dropV_bind {α : Type} (r : R α) (f : α → GH → R D) : okR (dropV (r.bind f)) Q E ↔ okR r (fun d δ => okR (dropV (f d δ)) Q E) (fun c d δ => okR (dropV (.exc c d δ)) no2 E) := by
  cases r with
  | exc c d δ => show okR (dropV (.exc c d δ)) Q E ↔ okR (dropV (.exc c d δ)) no2 E; unfold dropV; dsimp only; split <;> exact Iff.rfl
  | _ => exact Iff.rfl
@[simp] theorem bin_mulL (x : List D) (k : Int) : opBin .mul (.tl x) (.int k) δ = if (decide (x.length * k.toNat ≤ lim) && decide (-(2 ^ 63) ≤ k) && decide (k < 2 ^ 63)) = true then .ok (.tl (List.replicate k.toNat x).flatten) δ else .bad := rfl
@[simp] theorem bin_mulT (x : List D) (k : Int) : opBin .mul (.tup x) (.int k) δ = if x.length ≤ 1000 ∧ -1000 ≤ k ∧ k ≤ 1000 then .ok (.tup (List.replicate k.toNat x).flatten) δ else .bad := rfl
/-! statements -/
theorem vvS_skip : vvS P C .skip ρ δ = .nxt ρ δ := by unfold vvS; rfl
theorem vvS_seq (a c : X) : vvS P C (.seq a c) ρ δ = seqR (vvS P C a ρ δ) fun ρ' δ' => vvS P C c ρ' δ' := by conv => lhs; unfold vvS
theorem vvS_asg (tg e : X) : vvS P C (.asg tg e) ρ δ = RS.of (vvR P C e ρ δ) fun p δ1 => optS (store tg p.1 p.2) δ1 := by conv => lhs; unfold vvS
theorem vvS_aug (i : Nat) (op : BOp) (e : X) : vvS P C (.aug i op e) ρ δ = RS.of (varR ρ[i]? δ) fun d _ => RS.of (vv P C e (rd ρ) δ) fun v δ1 => augR op i ρ d v δ1 := by conv => lhs; unfold vvS
theorem vvS_expr (e : X) : vvS P C (.expr e) ρ δ = RS.of (vvM P C e ρ δ) fun p δ1 => .nxt p.2 δ1 := by conv => lhs; unfold vvS
theorem vvS_ret (e : X) : vvS P C (.ret e) ρ δ = RS.of (vvR P C e ρ δ) fun p δ1 => .ret p.1 δ1 := by conv => lhs; unfold vvS
theorem vvS_retn : vvS P C .retn ρ δ = .ret .non δ := by unfold vvS; rfl
theorem vvS_ifs (t a c : X) : vvS P C (.ifs t a c) ρ δ = RS.of (vv P C t (rd ρ) δ) fun d δ1 => brS (truth (lf d) δ1) (vvS P C a ρ δ1) (vvS P C c ρ δ1) := by conv => lhs; unfold vvS
theorem vvS_brk : vvS P C .brk ρ δ = .brk ρ δ := by unfold vvS; rfl
theorem vvS_cnt : vvS P C .cnt ρ δ = .cnt ρ δ := by unfold vvS; rfl
theorem vvS_rais (c : Nat) (e : X) : vvS P C (.rais c e) ρ δ = RS.of (vv P C e (rd ρ) δ) fun d δ1 => raiV c d δ1 := by conv => lhs; unfold vvS
@[simp] theorem raiV_str (c : Nat) (x : Str) : raiV c (.str x) δ = raiR c (.str x) δ := rfl
theorem vvS_sset (j : Nat) (i e : X) : vvS P C (.sset (.var j) i e) ρ δ = RS.of (vvM P C e ρ δ) fun p δ1 => RS.of (nbR p.1 (varR p.2[j]? δ1)) fun _ _ => RS.of (vvM P C i p.2 δ1) fun q δ2 => setV j q.1 p.1 q.2 δ2 := by (conv => lhs; unfold vvS); rfl
theorem vvS_whl (t body : X) : vvS P C (.whl false t body) ρ δ = whV (mk ρ) (fun ρ' δ' => vv P C t (rd ρ') δ') (fun ρ' δ' => vvS P C body ρ' δ') P.w ρ δ := by (conv => lhs; unfold vvS); rfl
theorem vvS_forr (tg it body : X) : vvS P C (.forr false tg it body) ρ δ = RS.of (vvI P C it (rd ρ) δ) fun xs δ1 => (forV (mk (frz (lkI it) ρ)) (turnV P C tg fun ρ' δ' => vvS P C body ρ' δ') xs (frz (lkI it) ρ) δ1).mapG (thw ρ (lkI it)) := by (conv => lhs; unfold vvS); rfl
@[simp] theorem nbR_ok {d : D} {r : R D} (h : nb d = true) : nbR d r = r := if_pos h
/-- what is evaluated where nothing is changed, nothing handed over -/
def noM : X → Bool
  | .m0 _ _ => false
  | .m1 _ _ _ => false
  | _ => true
theorem vvM_gen {x : X} (h : noM x = true) : vvM P C x ρ δ = (vv P C x (rd ρ) δ).bind fun d δ1 => .ok (d, ρ) δ1 := by
  cases x <;> first | rfl | cases h
theorem vvM_other {x : X} (h : noM x = true) : vvM P C x ρ δ = (vv P C x (rd ρ) δ).bind fun d δ1 => .ok (d, ρ) δ1 := vvM_gen h
theorem vvM_pop (j : Nat) : vvM P C (.m0 .pop (.var j)) ρ δ = popR (tlv ρ[j]?) j ρ δ := rfl
theorem vvM_m1 (f : M1) (j : Nat) (a : X) : vvM P C (.m1 f (.var j) a) ρ δ = guO (tlv ρ[j]?) ((vvM P C a ρ δ).bind fun p δ1 => methR ((tlv p.2[j]?).bind fun xs => lmeth f xs p.1 δ1) j p.2 δ1) := rfl
section
variable (P C ρ δ)
def vvG (x : X) : R (D × Sg) := (vv P C x (rd ρ) δ).bind fun d δ1 => .ok (d, ρ) δ1
end
theorem vvG_eq (x : X) : vvG P C ρ δ x = (vv P C x (rd ρ) δ).bind fun d δ1 => .ok (d, ρ) δ1 := rfl
theorem vvM_var (i : Nat) : vvM P C (.var i) ρ δ = (vv P C (.var i) (rd ρ) δ).bind fun d δ1 => .ok (d, ρ) δ1 := rfl
theorem vvM_cint (i : Int) : vvM P C (.cint i) ρ δ = .ok (.int i, ρ) δ := by rw [vvM_gen rfl, vv_cint]; rfl
theorem vvM_cstr (i : Str) : vvM P C (.cstr i) ρ δ = .ok (.str i, ρ) δ := by rw [vvM_gen rfl, vv_cstr]; rfl
theorem vvM_cbl (i : Bool) : vvM P C (.cbl i) ρ δ = .ok (.bl i, ρ) δ := by rw [vvM_gen rfl, vv_cbl]; rfl
theorem vvM_cnon : vvM P C .cnon ρ δ = .ok (.non, ρ) δ := by rw [vvM_gen rfl, vv_cnon]; rfl
theorem vvM_glob (i : Nat) : vvM P C (.glob i) ρ δ = (vv P C (.glob i) (rd ρ) δ).bind fun d δ1 => .ok (d, ρ) δ1 := rfl
theorem vvM_bin (op : BOp) (a c : X) : vvM P C (.bin op a c) ρ δ = (vv P C (.bin op a c) (rd ρ) δ).bind fun d δ1 => .ok (d, ρ) δ1 := rfl
theorem vvM_neg (a : X) : vvM P C (.neg a) ρ δ = (vv P C (.neg a) (rd ρ) δ).bind fun d δ1 => .ok (d, ρ) δ1 := rfl
theorem vvM_not (a : X) : vvM P C (.not a) ρ δ = (vv P C (.not a) (rd ρ) δ).bind fun d δ1 => .ok (d, ρ) δ1 := rfl
theorem vvM_and (a c : X) : vvM P C (.and a c) ρ δ = (vv P C (.and a c) (rd ρ) δ).bind fun d δ1 => .ok (d, ρ) δ1 := rfl
theorem vvM_or (a c : X) : vvM P C (.or a c) ρ δ = (vv P C (.or a c) (rd ρ) δ).bind fun d δ1 => .ok (d, ρ) δ1 := rfl
theorem vvM_cmp (op : COp) (a c : X) : vvM P C (.cmp op a c) ρ δ = (vv P C (.cmp op a c) (rd ρ) δ).bind fun d δ1 => .ok (d, ρ) δ1 := rfl
theorem vvM_chain (op op' : COp) (a c e : X) : vvM P C (.chain op op' a c e) ρ δ = (vv P C (.chain op op' a c e) (rd ρ) δ).bind fun d δ1 => .ok (d, ρ) δ1 := rfl
theorem vvM_ite (t a c : X) : vvM P C (.ite t a c) ρ δ = (vv P C (.ite t a c) (rd ρ) δ).bind fun d δ1 => .ok (d, ρ) δ1 := rfl
theorem vvM_tup (as : X) : vvM P C (.tup as) ρ δ = (vv P C (.tup as) (rd ρ) δ).bind fun d δ1 => .ok (d, ρ) δ1 := rfl
theorem vvM_lst (as : X) : vvM P C (.lst as) ρ δ = (vv P C (.lst as) (rd ρ) δ).bind fun d δ1 => .ok (d, ρ) δ1 := rfl
theorem vvM_idx (a c : X) : vvM P C (.idx a c) ρ δ = (vv P C (.idx a c) (rd ρ) δ).bind fun d δ1 => .ok (d, ρ) δ1 := rfl
theorem vvM_slc (a c e : X) : vvM P C (.slc a c e) ρ δ = (vv P C (.slc a c e) (rd ρ) δ).bind fun d δ1 => .ok (d, ρ) δ1 := rfl
theorem vvM_rev (a : X) : vvM P C (.rev a) ρ δ = (vv P C (.rev a) (rd ρ) δ).bind fun d δ1 => .ok (d, ρ) δ1 := rfl
theorem vvM_call (j : Nat) (as : X) : vvM P C (.call j as) ρ δ = (vv P C (.call j as) (rd ρ) δ).bind fun d δ1 => .ok (d, ρ) δ1 := rfl
theorem vvM_callk (j : Nat) (p : List Nat) (as : X) : vvM P C (.callk j p as) ρ δ = (vv P C (.callk j p as) (rd ρ) δ).bind fun d δ1 => .ok (d, ρ) δ1 := rfl
theorem vvM_b1 (f : B1) (a : X) : vvM P C (.b1 f a) ρ δ = (vv P C (.b1 f a) (rd ρ) δ).bind fun d δ1 => .ok (d, ρ) δ1 := rfl
theorem vvM_mx (a c : X) : vvM P C (.mx a c) ρ δ = (vv P C (.mx a c) (rd ρ) δ).bind fun d δ1 => .ok (d, ρ) δ1 := rfl
theorem vvM_mn (a c : X) : vvM P C (.mn a c) ρ δ = (vv P C (.mn a c) (rd ρ) δ).bind fun d δ1 => .ok (d, ρ) δ1 := rfl
theorem vvM_isi (t : Ty) (a : X) : vvM P C (.isi t a) ρ δ = (vv P C (.isi t a) (rd ρ) δ).bind fun d δ1 => .ok (d, ρ) δ1 := rfl
theorem vvM_lrng (as : X) : vvM P C (.lrng as) ρ δ = (vv P C (.lrng as) (rd ρ) δ).bind fun d δ1 => .ok (d, ρ) δ1 := rfl
theorem vvM_comp (e tg it cond : X) (own : List Nat) : vvM P C (.comp e tg it cond own) ρ δ = (vv P C (.comp e tg it cond own) (rd ρ) δ).bind fun d δ1 => .ok (d, ρ) δ1 := rfl
theorem vvM_scomp (j : Nat) (tg a : X) (own : List Nat) : vvM P C (.scomp j tg a own) ρ δ = (vv P C (.scomp j tg a own) (rd ρ) δ).bind fun d δ1 => .ok (d, ρ) δ1 := rfl
theorem vvR_scomp (j : Nat) (tg a : X) (own : List Nat) : vvR P C (.scomp j tg a own) ρ δ = vvM P C (.scomp j tg a own) ρ δ := rfl
theorem vvM_frz (a : X) : vvM P C (.frz a) ρ δ = (vv P C (.frz a) (rd ρ) δ).bind fun d δ1 => .ok (d, ρ) δ1 := rfl
theorem vvR_frz (a : X) : vvR P C (.frz a) ρ δ = vvM P C (.frz a) ρ δ := rfl
theorem vvM_thunk (i : Nat) (e : X) : vvM P C (.thunk i e) ρ δ = (vv P C (.thunk i e) (rd ρ) δ).bind fun d δ1 => .ok (d, ρ) δ1 := rfl
theorem vvR_var (j : Nat) : vvR P C (.var j) ρ δ = movR j ρ δ := rfl
theorem vvR_cint (i : Int) : vvR P C (.cint i) ρ δ = vvM P C (.cint i) ρ δ := rfl
theorem vvR_cstr (i : Str) : vvR P C (.cstr i) ρ δ = vvM P C (.cstr i) ρ δ := rfl
theorem vvR_cbl (i : Bool) : vvR P C (.cbl i) ρ δ = vvM P C (.cbl i) ρ δ := rfl
theorem vvR_cnon  : vvR P C (.cnon) ρ δ = vvM P C (.cnon) ρ δ := rfl
theorem vvR_glob (i : Nat) : vvR P C (.glob i) ρ δ = vvM P C (.glob i) ρ δ := rfl
theorem vvR_bin (op : BOp) (a c : X) : vvR P C (.bin op a c) ρ δ = vvM P C (.bin op a c) ρ δ := rfl
theorem vvR_neg (a : X) : vvR P C (.neg a) ρ δ = vvM P C (.neg a) ρ δ := rfl
theorem vvR_not (a : X) : vvR P C (.not a) ρ δ = vvM P C (.not a) ρ δ := rfl
theorem vvR_and (a c : X) : vvR P C (.and a c) ρ δ = vvM P C (.and a c) ρ δ := rfl
theorem vvR_or (a c : X) : vvR P C (.or a c) ρ δ = vvM P C (.or a c) ρ δ := rfl
theorem vvR_cmp (op : COp) (a c : X) : vvR P C (.cmp op a c) ρ δ = vvM P C (.cmp op a c) ρ δ := rfl
theorem vvR_chain (op op' : COp) (a c e : X) : vvR P C (.chain op op' a c e) ρ δ = vvM P C (.chain op op' a c e) ρ δ := rfl
theorem vvR_ite (t a c : X) : vvR P C (.ite t a c) ρ δ = vvM P C (.ite t a c) ρ δ := rfl
theorem vvR_tup (as : X) : vvR P C (.tup as) ρ δ = vvM P C (.tup as) ρ δ := rfl
theorem vvR_lst (as : X) : vvR P C (.lst as) ρ δ = vvM P C (.lst as) ρ δ := rfl
theorem vvR_idx (a c : X) : vvR P C (.idx a c) ρ δ = vvM P C (.idx a c) ρ δ := rfl
theorem vvR_slc (a c e : X) : vvR P C (.slc a c e) ρ δ = vvM P C (.slc a c e) ρ δ := rfl
theorem vvR_rev (a : X) : vvR P C (.rev a) ρ δ = vvM P C (.rev a) ρ δ := rfl
theorem vvR_call (j : Nat) (as : X) : vvR P C (.call j as) ρ δ = vvM P C (.call j as) ρ δ := rfl
theorem vvR_callk (j : Nat) (p : List Nat) (as : X) : vvR P C (.callk j p as) ρ δ = vvM P C (.callk j p as) ρ δ := rfl
theorem vvR_b1 (f : B1) (a : X) : vvR P C (.b1 f a) ρ δ = vvM P C (.b1 f a) ρ δ := rfl
theorem vvR_mx (a c : X) : vvR P C (.mx a c) ρ δ = vvM P C (.mx a c) ρ δ := rfl
theorem vvR_mn (a c : X) : vvR P C (.mn a c) ρ δ = vvM P C (.mn a c) ρ δ := rfl
theorem vvR_isi (t : Ty) (a : X) : vvR P C (.isi t a) ρ δ = vvM P C (.isi t a) ρ δ := rfl
theorem vvR_lrng (as : X) : vvR P C (.lrng as) ρ δ = vvM P C (.lrng as) ρ δ := rfl
theorem vvR_comp (e tg it cond : X) (own : List Nat) : vvR P C (.comp e tg it cond own) ρ δ = vvM P C (.comp e tg it cond own) ρ δ := rfl
theorem vvR_thunk (i : Nat) (e : X) : vvR P C (.thunk i e) ρ δ = vvM P C (.thunk i e) ρ δ := rfl
theorem vvR_m0 (f : M0) (o : X) : vvR P C (.m0 f o) ρ δ = vvM P C (.m0 f o) ρ δ := rfl
theorem vvR_m1 (f : M1) (o a : X) : vvR P C (.m1 f o a) ρ δ = vvM P C (.m1 f o a) ρ δ := rfl
theorem vvR_gen {x : X} (h : isV x = none) : vvR P C x ρ δ = vvM P C x ρ δ := by
  cases x <;> first | rfl | cases h
def movO (j : Nat) (ρ : Sg) (δ : GH) : Option (Option D) → R (D × Sg)
  | some (some (.tl xs)) => .ok (.tl xs, ρ.set j none) δ
  | some (some d) => .ok (d, ρ) δ
  | _ => .bad
@[simp] theorem movR_eq (j : Nat) : movR j ρ δ = movO j ρ δ ρ[j]? := by unfold movR movO; rfl
@[simp] theorem movO_tl (j : Nat) (xs : List D) : movO j ρ δ (some (some (.tl xs))) = .ok (.tl xs, ρ.set j none) δ := rfl
@[simp] theorem movO_bw (j : Nat) (xs : List D) : movO j ρ δ (some (some (.bw xs))) = .ok (.bw xs, ρ) δ := rfl
@[simp] theorem movO_ref (j n : Nat) : movO j ρ δ (some (some (.ref n))) = .ok (.ref n, ρ) δ := rfl
@[simp] theorem movO_fl (j : Nat) (xs : List D) : movO j ρ δ (some (some (.fl xs))) = .ok (.fl xs, ρ) δ := rfl
@[simp] theorem movO_sv (j : Nat) (xs : List D) : movO j ρ δ (some (some (.sv xs))) = .ok (.sv xs, ρ) δ := rfl
@[simp] theorem movO_nb {d : D} (j : Nat) (h : nb d = true) : movO j ρ δ (some (some d)) = .ok (d, ρ) δ := by cases d <;> first | rfl | cases h
@[simp] theorem store_bw (tg : X) (xs : List D) : store tg (.bw xs) ρ = none := rfl
@[simp] theorem store_of {tg : X} {d : D} (h : isBw d = false) : store tg d ρ = bindT tg d ρ := by unfold store; rw [h]; rfl
@[simp] theorem tlv_tl (xs : List D) : tlv (some (some (.tl xs))) = some xs := rfl
@[simp] theorem guO_some {α β : Type} (a : α) (r : R β) : guO (some a) r = r := rfl
def popO (j : Nat) (xs : List D) (ρ : Sg) (δ : GH) : Option D → R (D × Sg)
  | some v => .ok (v, ρ.set j (some (.tl xs.dropLast))) δ
  | none => .bad
@[simp] theorem popR_some (xs : List D) (j : Nat) : popR (some xs) j ρ δ = popO j xs ρ δ xs.getLast? := by
  show (match xs.getLast? with | some v => R.ok (v, ρ.set j (some (.tl xs.dropLast))) δ | none => .bad) = _
  cases xs.getLast? <;> rfl
@[simp] theorem popO_some (j : Nat) (xs : List D) (v : D) : popO j xs ρ δ (some v) = .ok (v, ρ.set j (some (.tl xs.dropLast))) δ := rfl
@[simp] theorem methR_some (p : D × List D) (j : Nat) : methR (some p) j ρ δ = .ok (p.1, ρ.set j (some (.tl p.2))) δ := rfl
@[simp] theorem lmeth_app {xs : List D} {a : D} (h : nb a = true) (hl : xs.length < 16777216) : lmeth .append xs a δ = some (.non, xs ++ [a]) := by
  unfold lmeth
  dsimp only
  rw [if_pos]
  rw [Bool.and_eq_true]
  exact ⟨decide_eq_true hl, h⟩
theorem lmeth_ext {xs ys : List D} {a : D} (h : lsw (lf a) δ = some ys) (hr : isRef a = false) (hc : ys.all cl = true) (hl : xs.length + ys.length ≤ 16777216) : lmeth .extend xs a δ = some (.non, xs ++ ys) := by
  unfold lmeth
  dsimp only
  rw [h]
  dsimp only [Option.bind_some]
  rw [if_pos]
  rw [hr, hc, decide_eq_true (show xs.length + ys.length ≤ lim from hl)]
  rfl
@[simp] theorem mk_nil (ρ : Sg) : mk [] ρ = [] := by unfold mk; rfl
@[simp] theorem mk_cons (a b : Option D) (l r : Sg) : mk (a :: l) (b :: r) = mk1 a b :: mk l r := rfl
@[simp] theorem mk1_none (o : Option D) : mk1 none o = none := rfl
@[simp] theorem mk1_some (d : D) (o : Option D) : mk1 (some d) o = o := rfl
@[simp] theorem okS_mapG (r : RS) (f : Sg → Sg) : okS (r.mapG f) k ↔ okS r { k with n := fun ρ δ => k.n (f ρ) δ, b := no2, c := no2 } := by cases r <;> exact Iff.rfl
@[simp] theorem turnV_eq (tg : X) (g : Sg → GH → RS) (d : D) : turnV P C tg g d ρ δ = bndS (bindT tg d ρ) fun ρ2 => g ρ2 δ := rfl
@[simp] theorem frz_nil (ρ : Sg) : frz [] ρ = ρ := rfl
@[simp] theorem frz_cons (j : Nat) (l : List Nat) (ρ : Sg) : frz (j :: l) ρ = frz l (frz1 j ρ) := rfl
@[simp] theorem thw_nil (ρ0 ρ : Sg) : thw ρ0 [] ρ = ρ := rfl
@[simp] theorem thw_cons (ρ0 : Sg) (j : Nat) (l : List Nat) (ρ : Sg) : thw ρ0 (j :: l) ρ = thw ρ0 l (thw1 ρ0 j ρ) := rfl
def frzO (j : Nat) (ρ : Sg) : Option (Option D) → Sg
  | some (some (.tl xs)) => ρ.set j (some (.bw xs))
  | _ => ρ
@[simp] theorem frz1_eq (j : Nat) (ρ : Sg) : frz1 j ρ = frzO j ρ ρ[j]? := by unfold frz1 frzO; rfl
@[simp] theorem frzO_tl (j : Nat) (xs : List D) : frzO j ρ (some (some (.tl xs))) = ρ.set j (some (.bw xs)) := rfl
@[simp] theorem frzO_bw (j : Nat) (xs : List D) : frzO j ρ (some (some (.bw xs))) = ρ := rfl
@[simp] theorem frzO_fl (j : Nat) (xs : List D) : frzO j ρ (some (some (.fl xs))) = ρ := rfl
@[simp] theorem frzO_sv (j : Nat) (xs : List D) : frzO j ρ (some (some (.sv xs))) = ρ := rfl
@[simp] theorem frzO_nb {d : D} (j : Nat) (h : nb d = true) : frzO j ρ (some (some d)) = ρ := by cases d <;> first | rfl | cases h
def thwO (j : Nat) (ρ : Sg) : Option (Option D) → Option (Option D) → Sg
  | some (some (.tl _)), some (some (.bw xs)) => ρ.set j (some (.tl xs))
  | _, _ => ρ
@[simp] theorem thw1_eq (ρ0 : Sg) (j : Nat) (ρ : Sg) : thw1 ρ0 j ρ = thwO j ρ ρ0[j]? ρ[j]? := by unfold thw1 thwO; rfl
@[simp] theorem thwO_tl (j : Nat) (xs ys : List D) : thwO j ρ (some (some (.tl ys))) (some (some (.bw xs))) = ρ.set j (some (.tl xs)) := rfl
@[simp] theorem thwO_bw (j : Nat) (ys : List D) (o : Option (Option D)) : thwO j ρ (some (some (.bw ys))) o = ρ := rfl
@[simp] theorem thwO_fl (j : Nat) (ys : List D) (o : Option (Option D)) : thwO j ρ (some (some (.fl ys))) o = ρ := rfl
@[simp] theorem thwO_sv (j : Nat) (ys : List D) (o : Option (Option D)) : thwO j ρ (some (some (.sv ys))) o = ρ := rfl
@[simp] theorem thwO_nb {d : D} (j : Nat) (o : Option (Option D)) (h : nb d = true) : thwO j ρ (some (some d)) o = ρ := by cases d <;> first | rfl | cases h
@[simp] theorem thwO_tltl (j : Nat) (xs ys : List D) : thwO j ρ (some (some (.tl ys))) (some (some (.tl xs))) = ρ := rfl
@[simp] theorem lkI_iseq (e : X) : lkI (.iseq e) = lkX e := rfl
@[simp] theorem lkI_ienum (e : X) : lkI (.ienum e) = lkX e := rfl
@[simp] theorem lkI_izip (a c : X) : lkI (.izip a c) = lkX a ++ lkX c := rfl
@[simp] theorem lkI_irng (e : X) : lkI (.irng e) = [] := rfl
@[simp] theorem lkX_var (i : Nat) : lkX (.var i) = [i] := rfl
theorem lkX_no {x : X} (h : isV x = none) : lkX x = [] := by cases x <;> first | rfl | cases h
/-! ### lists set -/
def setO (j : Nat) (v : D) (n : Int) (ρ : Sg) (δ : GH) : Option (Option D) → RS
  | some (some (.tl xs)) => if nb v then (match L2.ixN xs.length n with
    | some i => .nxt (ρ.set j (some (.tl (xs.set i v)))) δ
    | none => .bad) else .bad
  | some (some (.ref r)) => if nb v && cl v then (match δ[r]? with
    | some (.lst xs) => (match L2.ixN xs.length n with
      | some i => .nxt ρ (δ.set r (.lst (xs.set i v)))
      | none => .bad)
    | _ => .bad) else .bad
  | _ => .bad
theorem setV_eq (j : Nat) (n : Int) (v : D) : setV j (.int n) v ρ δ = setO j v n ρ δ ρ[j]? := by
  unfold setV setO
  cases ρ[j]? with
  | none => rfl
  | some o => cases o with
    | none => rfl
    | some d => cases d <;> rfl
/-- calls -/
theorem callV_succ {n j : Nat} {f : Fn} {ds : List D} (h : P.fns[j]? = some f) (hl : ds.length = f.ar) : callV P (n + 1) j ds δ = (vvS P (callV P n) f.body (ds.map some ++ List.replicate (f.sl - f.ar) none) δ).toR := by
  conv => lhs; unfold callV
  rw [h]
  dsimp only
  rw [if_pos hl]
end Ev
set_option Elab.async false
set_option linter.all false
set_option maxRecDepth 100000
set_option maxHeartbeats 4000000
/-! WvMk: the evaluator walked by need: what comes behind is kept as data. -/
namespace Ev
open PySem
abbrev QD := D → GH → Prop
abbrev QE := Nat → D → GH → Prop
abbrev QL := List D → GH → Prop
abbrev QP := D × Sg → GH → Prop
def brP (o : Option Bool) (x y : Prop) : Prop := match o with
  | some true => x
  | some false => y
  | none => False
@[simp] theorem brP_some (t : Bool) (x y : Prop) : brP (some t) x y ↔ (t = true → x) ∧ (t = false → y) := by cases t <;> simp [brP]
@[simp] theorem brP_t (x y : Prop) : brP (some true) x y = x := rfl
@[simp] theorem brP_f (x y : Prop) : brP (some false) x y = y := rfl
section
variable (P : Pr) (C : CV) (τ : Sg)
def qBin2 (op : BOp) (d : D) (Q : QD) (E : QE) : QD := fun e δ => okR (opBinV op d e δ) Q E
def qBin1 (op : BOp) (c : X) (Q : QD) (E : QE) : QD := fun d δ => okR (vv P C c τ δ) (qBin2 op d Q E) E
def qNeg (Q : QD) (E : QE) : QD := fun d δ => okR (negR d δ) Q E
def qNot (Q : QD) (E : QE) : QD := fun d δ => okR (notR d δ) Q E
def qAnd (c : X) (Q : QD) (E : QE) : QD := fun d δ => brP (blD d) (okR (vv P C c τ δ) Q E) (Q (.bl false) δ)
def qOr (c : X) (Q : QD) (E : QE) : QD := fun d δ => brP (blD d) (Q (.bl true) δ) (okR (vv P C c τ δ) Q E)
def qCmp2 (op : COp) (d : D) (Q : QD) (E : QE) : QD := fun e δ => okR (opCmpV op d e δ) Q E
def qCmp1 (op : COp) (c : X) (Q : QD) (E : QE) : QD := fun d δ => okR (vv P C c τ δ) (qCmp2 op d Q E) E
def qCh3 (op' : COp) (d' : D) (e : X) (Q : QD) (E : QE) : QD := fun k δ => brP (blD k) (okR (vv P C e τ δ) (qCmp2 op' d' Q E) E) (Q (.bl false) δ)
def qCh2 (op op' : COp) (d : D) (e : X) (Q : QD) (E : QE) : QD := fun d' δ => okR (opCmpV op d d' δ) (qCh3 P C τ op' d' e Q E) E
def qCh1 (op op' : COp) (c e : X) (Q : QD) (E : QE) : QD := fun d δ => okR (vv P C c τ δ) (qCh2 P C τ op op' d e Q E) E
def qIte (a c : X) (Q : QD) (E : QE) : QD := fun d δ => brP (truth (lf d) δ) (okR (vv P C a τ δ) Q E) (okR (vv P C c τ δ) Q E)
def qTup (Q : QD) (E : QE) : QL := fun ds δ => okR (nbT ds δ) Q E
def qLst (Q : QD) (E : QE) : QL := fun ds δ => okR (nbL ds δ) Q E
def qIdx2 (d : D) (Q : QD) (E : QE) : QD := fun e δ => okR (opIdx (lf d) e δ) Q E
def qIdx1 (c : X) (Q : QD) (E : QE) : QD := fun d δ => okR (vv P C c τ δ) (qIdx2 d Q E) E
def qSl3 (d : D) (i : Option (Option Int)) (hi : X) (Q : QD) (E : QE) : QD := fun h δ => match i, partX hi h with
  | some i, some j => okR (opSl (lf d) i j δ) Q E
  | _, _ => False
def qSl2 (d : D) (lo hi : X) (Q : QD) (E : QE) : QD := fun l δ => if (partX lo l).isSome then okR (vv P C hi τ δ) (qSl3 d (partX lo l) hi Q E) E else False
def qSl1 (lo hi : X) (Q : QD) (E : QE) : QD := fun d δ => okR (vv P C lo τ δ) (qSl2 P C τ d lo hi Q E) E
def qRev (Q : QD) (E : QE) : QD := fun d δ => okR (opRev (lf d) δ) Q E
def qSco (j : Nat) (tg : X) (τ0 : Sg) (Q : QD) (E : QE) : QD := fun d δ => okR (scolR j tg τ0 (seqv (lf d) δ) δ) Q E
def qFrz (Q : QD) (E : QE) : QD := fun d δ => okR (frzV d δ) Q E
def qDrop (Q : QD) : QD := fun d δ => cl d = true ∧ Q d δ
def eDrop (E : QE) : QE := fun c d δ => cl d = true ∧ E c d δ
def qCall (j : Nat) (Q : QD) (E : QE) : QL := fun ds δ => okR (C j ds δ) (qDrop Q) (eDrop E)
def qCallk (j : Nat) (p : List Nat) (Q : QD) (E : QE) : QL := fun ds δ => match permD p ds with
  | some ds' => okR (C j ds' δ) (qDrop Q) (eDrop E)
  | none => False
def qB1 (f : B1) (Q : QD) (E : QE) : QD := fun d δ => okR (opB1 f (lf d) δ) Q E
def qMx2 (d : D) (Q : QD) (E : QE) : QD := fun e δ => okR (mxR d e δ) Q E
def qMx1 (c : X) (Q : QD) (E : QE) : QD := fun d δ => okR (vv P C c τ δ) (qMx2 d Q E) E
def qMn2 (d : D) (Q : QD) (E : QE) : QD := fun e δ => okR (mnR d e δ) Q E
def qMn1 (c : X) (Q : QD) (E : QE) : QD := fun d δ => okR (vv P C c τ δ) (qMn2 d Q E) E
def qIsi (t : Ty) (Q : QD) (E : QE) : QD := fun d δ => okR (optR (isTy t (lr d)) δ) Q E
def qLrng (Q : QD) (E : QE) : QL := fun ds δ => match opRng ds with
  | some xs => Q (.tl xs) δ
  | none => False
def qPush (v : D) (Q : QL) : QL := fun ds δ => Q (v :: ds) δ
def qCons (as : X) (Q : QL) (E : QE) : QD := fun d δ => okR (vvA P C as τ δ) (qPush (bo d) Q) E
def qSeq (b : Bool) (Q : QL) : QD := fun d δ => match seqI b d δ with
  | some xs => Q xs δ
  | none => False
def qRng (Q : QL) : QL := fun ds δ => match opRng ds with
  | some xs => Q xs δ
  | none => False
def qEnum (b : Bool) (Q : QL) : QD := fun d δ => match seqI b d δ with
  | some xs => Q (enumD xs) δ
  | none => False
def qZip2 (b b' : Bool) (d : D) (Q : QL) : QD := fun e δ => match seqI b d δ, seqI b' e δ with
  | some xs, some ys => Q (zipD xs ys) δ
  | _, _ => False
def qZip1 (b : Bool) (c : X) (Q : QL) (E : QE) : QD := fun d δ => okR (vv P C c τ δ) (qZip2 b (isVr c) d Q) E
def qElt (Q : Option D → GH → Prop) : QD := fun v δ => nb v = true ∧ Q (some v) δ
def qCond (e : X) (Q : Option D → GH → Prop) (E : QE) : QD := fun k δ => brP (truth (lf k) δ) (okR (vv P C e τ δ) (qElt Q) E) (Q none δ)
def okC (e cond : X) (Q : Option D → GH → Prop) (E : QE) (δ : GH) (o : Option Sg) : Prop := match o with
  | some τ' => okR (vv P C cond τ' δ) (qCond P C τ' e Q E) E
  | none => False
def qKeep (o : Option D) (Q : QL) : QL := fun r δ => Q (o.toList ++ r) δ
def qLoop (f : D → GH → R (Option D)) (ds : List D) (Q : QL) (E : QE) : Option D → GH → Prop := fun o δ => okR (compLoop f ds δ) (qKeep o Q) E
def qTl (Q : QD) : QL := fun r δ => Q (.tl r) δ
def qComp (f : D → GH → R (Option D)) (Q : QD) (E : Nat → D → GH → Prop) : QL := fun items δ => items.length ≤ 16777216 ∧ okR (compLoop f items δ) (qTl Q) E
def qThk (Q : QD) : QD := fun _ δ => Q (.str Str.empty) δ
def eThk (c : Nat) (Q : QD) : QE := fun c' d δ => c' = c ∧ Q d δ
def qPair (ρ : Sg) (Q : QP) : QD := fun d δ => Q (d, ρ) δ
end
variable {P : Pr} {C : CV} {τ ρ ρ0 : Sg} {δ δ1 : GH} {Q : QD} {QL' : QL} {QP' : QP} {E : QE} {k : Kt}
@[simp ↓] theorem m_ok {α : Type} (a : α) {Q : α → GH → Prop} : okR (.ok a δ) Q E ↔ Q a δ := Iff.rfl
@[simp ↓] theorem m_exc {α : Type} (c : Nat) (d : D) {Q : α → GH → Prop} : okR (.exc c d δ) Q E ↔ E c d δ := Iff.rfl
@[simp ↓] theorem m_var (i : Nat) : okR (vv P C (.var i) τ δ) Q E ↔ okR (varR τ[i]? δ) Q E := by rw [vv_var]
@[simp ↓] theorem m_cint (i : Int) : okR (vv P C (.cint i) τ δ) Q E ↔ Q (.int i) δ := by rw [vv_cint]; exact Iff.rfl
@[simp ↓] theorem m_cstr (x : Str) : okR (vv P C (.cstr x) τ δ) Q E ↔ Q (.str x) δ := by rw [vv_cstr]; exact Iff.rfl
@[simp ↓] theorem m_cbl (t : Bool) : okR (vv P C (.cbl t) τ δ) Q E ↔ Q (.bl t) δ := by rw [vv_cbl]; exact Iff.rfl
@[simp ↓] theorem m_cnon : okR (vv P C .cnon τ δ) Q E ↔ Q .non δ := by rw [vv_cnon]; exact Iff.rfl
@[simp ↓] theorem m_glob (i : Nat) : okR (vv P C (.glob i) τ δ) Q E ↔ okR (globR P.cs[i]? δ) Q E := by rw [vv_glob]
@[simp ↓] theorem m_bin (op : BOp) (a c : X) : okR (vv P C (.bin op a c) τ δ) Q E ↔ okR (vv P C a τ δ) (qBin1 P C τ op c Q E) E := by rw [vv_bin, okR_bind]; simp only [okR_bind]; exact Iff.rfl
@[simp ↓] theorem f_bin1 (op : BOp) (c : X) (d : D) : qBin1 P C τ op c Q E d δ ↔ okR (vv P C c τ δ) (qBin2 op d Q E) E := Iff.rfl
@[simp ↓] theorem f_bin2 (op : BOp) (d e : D) : qBin2 op d Q E e δ ↔ okR (opBinV op d e δ) Q E := Iff.rfl
@[simp ↓] theorem m_neg (a : X) : okR (vv P C (.neg a) τ δ) Q E ↔ okR (vv P C a τ δ) (qNeg Q E) E := by rw [vv_neg, okR_bind]; exact Iff.rfl
@[simp ↓] theorem f_neg (d : D) : qNeg Q E d δ ↔ okR (negR d δ) Q E := Iff.rfl
@[simp ↓] theorem m_not (a : X) : okR (vv P C (.not a) τ δ) Q E ↔ okR (vv P C a τ δ) (qNot Q E) E := by rw [vv_not, okR_bind]; exact Iff.rfl
@[simp ↓] theorem f_not (d : D) : qNot Q E d δ ↔ okR (notR d δ) Q E := Iff.rfl
theorem brR_P {α : Type} {o : Option Bool} {x y : R α} {Q : α → GH → Prop} : okR (brR o x y) Q E ↔ brP o (okR x Q E) (okR y Q E) := by
  cases o with
  | none => exact Iff.rfl
  | some t => cases t <;> exact Iff.rfl
@[simp ↓] theorem m_and (a c : X) : okR (vv P C (.and a c) τ δ) Q E ↔ okR (vv P C a τ δ) (qAnd P C τ c Q E) E := by rw [vv_and, okR_bind]; simp only [brR_P]; exact Iff.rfl
@[simp ↓] theorem f_and (c : X) (d : D) : qAnd P C τ c Q E d δ ↔ brP (blD d) (okR (vv P C c τ δ) Q E) (Q (.bl false) δ) := Iff.rfl
@[simp ↓] theorem m_or (a c : X) : okR (vv P C (.or a c) τ δ) Q E ↔ okR (vv P C a τ δ) (qOr P C τ c Q E) E := by rw [vv_or, okR_bind]; simp only [brR_P]; exact Iff.rfl
@[simp ↓] theorem f_or (c : X) (d : D) : qOr P C τ c Q E d δ ↔ brP (blD d) (Q (.bl true) δ) (okR (vv P C c τ δ) Q E) := Iff.rfl
@[simp ↓] theorem m_cmp (op : COp) (a c : X) : okR (vv P C (.cmp op a c) τ δ) Q E ↔ okR (vv P C a τ δ) (qCmp1 P C τ op c Q E) E := by rw [vv_cmp, okR_bind]; simp only [okR_bind]; exact Iff.rfl
@[simp ↓] theorem f_cmp1 (op : COp) (c : X) (d : D) : qCmp1 P C τ op c Q E d δ ↔ okR (vv P C c τ δ) (qCmp2 op d Q E) E := Iff.rfl
@[simp ↓] theorem f_cmp2 (op : COp) (d e : D) : qCmp2 op d Q E e δ ↔ okR (opCmpV op d e δ) Q E := Iff.rfl
@[simp ↓] theorem m_chain (op op' : COp) (a c e : X) : okR (vv P C (.chain op op' a c e) τ δ) Q E ↔ okR (vv P C a τ δ) (qCh1 P C τ op op' c e Q E) E := by rw [vv_chain, okR_bind]; simp only [okR_bind, brR_P]; exact Iff.rfl
@[simp ↓] theorem f_ch1 (op op' : COp) (c e : X) (d : D) : qCh1 P C τ op op' c e Q E d δ ↔ okR (vv P C c τ δ) (qCh2 P C τ op op' d e Q E) E := Iff.rfl
@[simp ↓] theorem f_ch2 (op op' : COp) (e : X) (d d' : D) : qCh2 P C τ op op' d e Q E d' δ ↔ okR (opCmpV op d d' δ) (qCh3 P C τ op' d' e Q E) E := Iff.rfl
@[simp ↓] theorem f_ch3 (op' : COp) (e : X) (d' k : D) : qCh3 P C τ op' d' e Q E k δ ↔ brP (blD k) (okR (vv P C e τ δ) (qCmp2 op' d' Q E) E) (Q (.bl false) δ) := Iff.rfl
@[simp ↓] theorem m_ite (t a c : X) : okR (vv P C (.ite t a c) τ δ) Q E ↔ okR (vv P C t τ δ) (qIte P C τ a c Q E) E := by rw [vv_ite, okR_bind]; simp only [brR_P]; exact Iff.rfl
@[simp ↓] theorem f_ite (a c : X) (d : D) : qIte P C τ a c Q E d δ ↔ brP (truth (lf d) δ) (okR (vv P C a τ δ) Q E) (okR (vv P C c τ δ) Q E) := Iff.rfl
@[simp ↓] theorem m_tup (as : X) : okR (vv P C (.tup as) τ δ) Q E ↔ okR (vvA P C as τ δ) (qTup Q E) E := by rw [vv_tup, okR_bind]; exact Iff.rfl
@[simp ↓] theorem f_tup (ds : List D) : qTup Q E ds δ ↔ okR (nbT ds δ) Q E := Iff.rfl
@[simp ↓] theorem m_lst (as : X) : okR (vv P C (.lst as) τ δ) Q E ↔ okR (vvA P C as τ δ) (qLst Q E) E := by rw [vv_lst, okR_bind]; exact Iff.rfl
@[simp ↓] theorem f_lst (ds : List D) : qLst Q E ds δ ↔ okR (nbL ds δ) Q E := Iff.rfl
@[simp ↓] theorem m_idx (a c : X) : okR (vv P C (.idx a c) τ δ) Q E ↔ okR (vv P C a τ δ) (qIdx1 P C τ c Q E) E := by rw [vv_idx, okR_bind]; simp only [okR_bind]; exact Iff.rfl
@[simp ↓] theorem f_idx1 (c : X) (d : D) : qIdx1 P C τ c Q E d δ ↔ okR (vv P C c τ δ) (qIdx2 d Q E) E := Iff.rfl
@[simp ↓] theorem f_idx2 (d e : D) : qIdx2 d Q E e δ ↔ okR (opIdx (lf d) e δ) Q E := Iff.rfl
@[simp ↓] theorem m_slc (a lo hi : X) : okR (vv P C (.slc a lo hi) τ δ) Q E ↔ okR (vv P C a τ δ) (qSl1 P C τ lo hi Q E) E := by
  rw [vv_slc, okR_bind]
  simp only [okR_bind]
  unfold qSl1 qSl2
  have e : ∀ (d l : D) (δ2 : GH), okR (slcR d (partX lo l) fun i => (vv P C hi τ δ2).bind fun h δ3 => slcR d (partX hi h) fun j => opSl (lf d) i j δ3) Q E ↔ if (partX lo l).isSome then okR (vv P C hi τ δ2) (qSl3 d (partX lo l) hi Q E) E else False := fun d l δ2 => by
    cases partX lo l with
    | none => exact ⟨fun h => h.elim, fun h => by simp at h⟩
    | some i =>
      rw [slcR_some, okR_bind, Option.isSome_some, if_pos rfl]
      have e2 : (fun (h : D) δ3 => okR (slcR d (partX hi h) fun j => opSl (lf d) i j δ3) Q E) = qSl3 d (some i) hi Q E := by
        funext h δ3
        unfold qSl3
        cases partX hi h <;> rfl
      rw [e2]
  simp only [e]
@[simp ↓] theorem f_sl1 (lo hi : X) (d : D) : qSl1 P C τ lo hi Q E d δ ↔ okR (vv P C lo τ δ) (qSl2 P C τ d lo hi Q E) E := Iff.rfl
@[simp ↓] theorem f_sl2 (lo hi : X) (d l : D) : qSl2 P C τ d lo hi Q E l δ ↔ if (partX lo l).isSome then okR (vv P C hi τ δ) (qSl3 d (partX lo l) hi Q E) E else False := Iff.rfl
def slP (d : D) (δ : GH) (Q : QD) (E : QE) : Option (Option Int) → Option (Option Int) → Prop
  | some i, some j => okR (opSl (lf d) i j δ) Q E
  | _, _ => False
@[simp ↓] theorem f_sl3 (i : Option (Option Int)) (hi : X) (d h : D) : qSl3 d i hi Q E h δ ↔ slP d δ Q E i (partX hi h) := by
  unfold qSl3 slP
  cases i <;> cases partX hi h <;> exact Iff.rfl
@[simp] theorem slP_some (d : D) (i j : Option Int) : slP d δ Q E (some i) (some j) ↔ okR (opSl (lf d) i j δ) Q E := Iff.rfl
@[simp ↓] theorem m_rev (a : X) : okR (vv P C (.rev a) τ δ) Q E ↔ okR (vv P C a τ δ) (qRev Q E) E := by rw [vv_rev, okR_bind]; exact Iff.rfl
@[simp ↓] theorem f_rev (d : D) : qRev Q E d δ ↔ okR (opRev (lf d) δ) Q E := Iff.rfl
@[simp ↓] theorem m_drop (r : R D) : okR (dropV r) Q E ↔ okR r (qDrop Q) (eDrop E) := by
  cases r with
  | ok d δ => show okR (if cl d = true then R.ok d δ else .bad) Q E ↔ cl d = true ∧ Q d δ; split <;> simp_all
  | exc c d δ => show okR (if cl d = true then R.exc c d δ else .bad) Q E ↔ cl d = true ∧ E c d δ; split <;> simp_all
  | bad => exact Iff.rfl
@[simp ↓] theorem f_drop (d : D) : qDrop Q d δ ↔ cl d = true ∧ Q d δ := Iff.rfl
@[simp ↓] theorem f_edrop (c : Nat) (d : D) : eDrop E c d δ ↔ cl d = true ∧ E c d δ := Iff.rfl
@[simp ↓] theorem m_call (j : Nat) (as : X) (h : P.keepOf j = false) : okR (vv P C (.call j as) τ δ) Q E ↔ okR (vvA P C as τ δ) (qCall C j Q E) (eDrop E) := by
  rw [vv_call j as h, m_drop, okR_bind]; exact Iff.rfl
@[simp ↓] theorem f_call (j : Nat) (ds : List D) : qCall C j Q E ds δ ↔ okR (C j ds δ) (qDrop Q) (eDrop E) := Iff.rfl
@[simp ↓] theorem m_callk (j : Nat) (p : List Nat) (as : X) : okR (vv P C (.callk j p as) τ δ) Q E ↔ okR (vvA P C as τ δ) (qCallk C j p Q E) (eDrop E) := by
  rw [vv_callk, m_drop, okR_bind]
  have e : (fun (ds : List D) δ1 => okR (perR (permD p ds) fun ds' => C j ds' δ1) (qDrop Q) (eDrop E)) = qCallk C j p Q E := by
    funext ds δ1
    unfold qCallk
    cases permD p ds <;> rfl
  rw [e]
def perP (C : CV) (j : Nat) (δ : GH) (Q : QD) (E : QE) : Option (List D) → Prop
  | some ds => okR (C j ds δ) (qDrop Q) (eDrop E)
  | none => False
@[simp ↓] theorem f_callk (j : Nat) (p : List Nat) (ds : List D) : qCallk C j p Q E ds δ ↔ perP C j δ Q E (permD p ds) := by
  unfold qCallk perP
  cases permD p ds <;> exact Iff.rfl
@[simp] theorem perP_some (j : Nat) (ds : List D) : perP C j δ Q E (some ds) ↔ okR (C j ds δ) (qDrop Q) (eDrop E) := Iff.rfl
@[simp ↓] theorem m_b1 (f : B1) (a : X) : okR (vv P C (.b1 f a) τ δ) Q E ↔ okR (vv P C a τ δ) (qB1 f Q E) E := by rw [vv_b1, okR_bind]; exact Iff.rfl
@[simp ↓] theorem f_b1 (f : B1) (d : D) : qB1 f Q E d δ ↔ okR (opB1 f (lf d) δ) Q E := Iff.rfl
@[simp ↓] theorem m_scomp (j : Nat) (tg a : X) (own : List Nat) : okR (vv P C (.scomp j tg a own) τ δ) Q E ↔ okR (vv P C a τ δ) (qSco j tg (wipeS τ own) Q E) E := by rw [vv_scomp, okR_bind]; exact Iff.rfl
@[simp ↓] theorem f_scomp (j : Nat) (tg : X) (τ0 : Sg) (d : D) : qSco j tg τ0 Q E d δ ↔ okR (scolR j tg τ0 (seqv (lf d) δ) δ) Q E := Iff.rfl
@[simp ↓] theorem m_frz (a : X) : okR (vv P C (.frz a) τ δ) Q E ↔ okR (vv P C a τ δ) (qFrz Q E) E := by rw [vv_frz, okR_bind]; exact Iff.rfl
@[simp ↓] theorem f_frz (d : D) : qFrz Q E d δ ↔ okR (frzV d δ) Q E := Iff.rfl
@[simp ↓] theorem m_mx (a c : X) : okR (vv P C (.mx a c) τ δ) Q E ↔ okR (vv P C a τ δ) (qMx1 P C τ c Q E) E := by rw [vv_mx, okR_bind]; simp only [okR_bind]; exact Iff.rfl
@[simp ↓] theorem f_mx1 (c : X) (d : D) : qMx1 P C τ c Q E d δ ↔ okR (vv P C c τ δ) (qMx2 d Q E) E := Iff.rfl
@[simp ↓] theorem f_mx2 (d e : D) : qMx2 d Q E e δ ↔ okR (mxR d e δ) Q E := Iff.rfl
@[simp ↓] theorem m_mn (a c : X) : okR (vv P C (.mn a c) τ δ) Q E ↔ okR (vv P C a τ δ) (qMn1 P C τ c Q E) E := by rw [vv_mn, okR_bind]; simp only [okR_bind]; exact Iff.rfl
@[simp ↓] theorem f_mn1 (c : X) (d : D) : qMn1 P C τ c Q E d δ ↔ okR (vv P C c τ δ) (qMn2 d Q E) E := Iff.rfl
@[simp ↓] theorem f_mn2 (d e : D) : qMn2 d Q E e δ ↔ okR (mnR d e δ) Q E := Iff.rfl
@[simp ↓] theorem m_isi (t : Ty) (a : X) : okR (vv P C (.isi t a) τ δ) Q E ↔ okR (vv P C a τ δ) (qIsi t Q E) E := by rw [vv_isi, okR_bind]; exact Iff.rfl
@[simp ↓] theorem f_isi (t : Ty) (d : D) : qIsi t Q E d δ ↔ okR (optR (isTy t (lr d)) δ) Q E := Iff.rfl
@[simp ↓] theorem m_lrng (as : X) : okR (vv P C (.lrng as) τ δ) Q E ↔ okR (vvA P C as τ δ) (qLrng Q E) E := by
  rw [vv_lrng, okR_bind]
  have e : (fun (ds : List D) δ1 => okR ((optL (opRng ds) δ1).bind fun xs δ2 => R.ok (.tl xs) δ2) Q E) = qLrng Q E := by
    funext ds δ1
    unfold qLrng
    cases opRng ds <;> rfl
  rw [e]
def optP (o : Option (List D)) (Q : List D → Prop) : Prop := match o with
  | some xs => Q xs
  | none => False
@[simp] theorem optP_some (xs : List D) (Q : List D → Prop) : optP (some xs) Q ↔ Q xs := Iff.rfl
@[simp ↓] theorem f_lrng (ds : List D) : qLrng Q E ds δ ↔ optP (opRng ds) fun xs => Q (.tl xs) δ := by
  unfold qLrng optP
  cases opRng ds <;> exact Iff.rfl
@[simp ↓] theorem mA_nil : okR (vvA P C .nil τ δ) QL' E ↔ QL' [] δ := by rw [vvA_nil]; exact Iff.rfl
@[simp ↓] theorem mA_cons (a as : X) : okR (vvA P C (.cons a as) τ δ) QL' E ↔ okR (vv P C a τ δ) (qCons P C τ as QL' E) E := by rw [vvA_cons, okR_bind]; simp only [okR_bind]; exact Iff.rfl
@[simp ↓] theorem f_cons (as : X) (d : D) : qCons P C τ as QL' E d δ ↔ okR (vvA P C as τ δ) (qPush (bo d) QL') E := Iff.rfl
@[simp ↓] theorem f_push (v : D) (ds : List D) : qPush v QL' ds δ ↔ QL' (v :: ds) δ := Iff.rfl
@[simp ↓] theorem mI_seq (e : X) : okR (vvI P C (.iseq e) τ δ) QL' E ↔ okR (vv P C e τ δ) (qSeq (isVr e) QL') E := by
  rw [vvI_iseq, okR_bind]
  have z : (fun (d : D) δ1 => okR (optL (seqI (isVr e) d δ1) δ1) QL' E) = qSeq (isVr e) QL' := by
    funext d δ1
    unfold qSeq
    cases seqI (isVr e) d δ1 <;> rfl
  rw [z]
@[simp ↓] theorem f_seq (b : Bool) (d : D) : qSeq b QL' d δ ↔ optP (seqI b d δ) fun xs => QL' xs δ := by
  unfold qSeq optP
  cases seqI b d δ <;> exact Iff.rfl
@[simp ↓] theorem mI_rng (as : X) : okR (vvI P C (.irng as) τ δ) QL' E ↔ okR (vvA P C as τ δ) (qRng QL') E := by
  rw [vvI_irng, okR_bind]
  have z : (fun (ds : List D) δ1 => okR (optL (opRng ds) δ1) QL' E) = qRng QL' := by
    funext ds δ1
    unfold qRng
    cases opRng ds <;> rfl
  rw [z]
@[simp ↓] theorem f_rng (ds : List D) : qRng QL' ds δ ↔ optP (opRng ds) fun xs => QL' xs δ := by
  unfold qRng optP
  cases opRng ds <;> exact Iff.rfl
@[simp ↓] theorem mI_enum (e : X) : okR (vvI P C (.ienum e) τ δ) QL' E ↔ okR (vv P C e τ δ) (qEnum (isVr e) QL') E := by
  rw [vvI_ienum, okR_bind]
  have z : (fun (d : D) δ1 => okR ((optL (seqI (isVr e) d δ1) δ1).bind fun xs δ2 => R.ok (enumD xs) δ2) QL' E) = qEnum (isVr e) QL' := by
    funext d δ1
    unfold qEnum
    cases seqI (isVr e) d δ1 <;> rfl
  rw [z]
@[simp ↓] theorem f_enum (b : Bool) (d : D) : qEnum b QL' d δ ↔ optP (seqI b d δ) fun xs => QL' (enumD xs) δ := by
  unfold qEnum optP
  cases seqI b d δ <;> exact Iff.rfl
@[simp ↓] theorem mI_zip (a c : X) : okR (vvI P C (.izip a c) τ δ) QL' E ↔ okR (vv P C a τ δ) (qZip1 P C τ (isVr a) c QL' E) E := by
  rw [vvI_izip, okR_bind]
  simp only [okR_bind]
  have z : (fun (d : D) δ1 => okR (vv P C c τ δ1) (fun e δ2 => okR (zipO (seqI (isVr a) d δ2) (seqI (isVr c) e δ2) δ2) QL' E) E) = qZip1 P C τ (isVr a) c QL' E := by
    funext d δ1
    unfold qZip1
    have z2 : (fun (e : D) δ2 => okR (zipO (seqI (isVr a) d δ2) (seqI (isVr c) e δ2) δ2) QL' E) = qZip2 (isVr a) (isVr c) d QL' := by
      funext e δ2
      unfold qZip2 zipO
      cases seqI (isVr a) d δ2 <;> cases seqI (isVr c) e δ2 <;> rfl
    rw [z2]
  rw [z]
@[simp ↓] theorem f_zip1 (b : Bool) (c : X) (d : D) : qZip1 P C τ b c QL' E d δ ↔ okR (vv P C c τ δ) (qZip2 b (isVr c) d QL') E := Iff.rfl
@[simp ↓] theorem f_zip2 (b b' : Bool) (d e : D) : qZip2 b b' d QL' e δ ↔ optP (seqI b d δ) fun xs => optP (seqI b' e δ) fun ys => QL' (zipD xs ys) δ := by
  unfold qZip2 optP
  cases seqI b d δ <;> cases seqI b' e δ <;> exact Iff.rfl
/-! one element of a comprehension -/
section
variable {QO : Option D → GH → Prop}
@[simp ↓] theorem m_compV (e tg cond : X) (own : List Nat) (d : D) : okR (compV P C e tg cond own τ d δ) QO E ↔ okC P C e cond QO E δ (bindT tg d (wipeS τ own)) := by
  unfold compV okC
  cases bindT tg d (wipeS τ own) with
  | none => exact Iff.rfl
  | some τ' =>
    rw [bnd_some, okR_bind]
    simp only [brR_P, okR_bind]
    have z : (fun (a : D) S => okR (nbO a S) QO E) = qElt QO := by
      funext v δ
      unfold nbO qElt
      by_cases h : nb v = true <;> simp [h]
    rw [z]
    exact Iff.rfl
@[simp] theorem okC_some (e cond : X) (τ' : Sg) : okC P C e cond QO E δ (some τ') ↔ okR (vv P C cond τ' δ) (qCond P C τ' e QO E) E := Iff.rfl
@[simp ↓] theorem f_cond (e : X) (d : D) : qCond P C τ e QO E d δ ↔ brP (truth (lf d) δ) (okR (vv P C e τ δ) (qElt QO) E) (QO none δ) := Iff.rfl
@[simp ↓] theorem f_elt (v : D) : qElt QO v δ ↔ nb v = true ∧ QO (some v) δ := Iff.rfl
end
@[simp ↓] theorem f_tl (ds : List D) : qTl Q ds δ ↔ Q (.tl ds) δ := Iff.rfl
theorem m_comp (e tg it cond : X) (own : List Nat) : okR (vv P C (.comp e tg it cond own) τ δ) Q E ↔ okR (vvI P C it τ δ) (qComp (compV P C e tg cond own τ) Q E) E := by
  rw [vv_comp, okR_bind]
  have z : (fun (a : List D) S => okR (compE (compV P C e tg cond own τ) a S) Q E) = qComp (compV P C e tg cond own τ) Q E := by
    funext items δ
    rw [compE_eq]
    unfold qComp
    by_cases h : items.length > lim
    · rw [if_pos h]
      exact propext ⟨fun z => z.elim, fun z => absurd h (Nat.not_lt.mpr z.1)⟩
    · rw [if_neg h, okR_bind]
      exact propext ⟨fun z => ⟨Nat.le_of_not_lt h, z⟩, fun z => z.2⟩
  rw [z]
@[simp ↓] theorem f_comp (f : D → GH → R (Option D)) (items : List D) : qComp f Q E items δ ↔ items.length ≤ 16777216 ∧ okR (compLoop f items δ) (qTl Q) E := Iff.rfl
theorem m_loop_nil (f : D → GH → R (Option D)) : okR (compLoop f [] δ) QL' E ↔ QL' [] δ := Iff.rfl
theorem m_loop_cons (f : D → GH → R (Option D)) (d : D) (ds : List D) : okR (compLoop f (d :: ds) δ) QL' E ↔ okR (f d δ) (qLoop f ds QL' E) E := by
  rw [compLoop_cons, okR_bind]
  refine iff_of_eq (congrArg (fun q => okR (f d δ) q E) (funext fun o => funext fun S => ?_))
  unfold qLoop
  rw [okR_bind]
  refine congrArg (fun q => okR (compLoop f ds S) q E) (funext fun r => funext fun S2 => ?_)
  cases o <;> rfl
@[simp ↓] theorem f_loop (f : D → GH → R (Option D)) (ds : List D) (o : Option D) : qLoop f ds QL' E o δ ↔ okR (compLoop f ds δ) (qKeep o QL') E := Iff.rfl
@[simp ↓] theorem f_keep_some (v : D) (r : List D) : qKeep (some v) QL' r δ ↔ QL' (v :: r) δ := Iff.rfl
@[simp ↓] theorem f_keep_none (r : List D) : qKeep none QL' r δ ↔ QL' r δ := Iff.rfl
@[simp ↓] theorem m_thunk (i : Nat) (e : X) : okR (vv P C (.thunk i e) τ δ) Q E ↔ okR (thunkR (P.th[i]?) (dropV (vv P C e τ δ))) Q E := by rw [vv_thunk]
theorem m_thunk0 (c : Nat) (r : R D) : okR (thunkR (some (c, none)) (dropV r)) Q E ↔ okR r (qDrop (qThk Q)) (eDrop (eThk c Q)) := by
  rw [okR_thunk0, m_drop]; exact Iff.rfl
@[simp ↓] theorem f_thk (d : D) : qThk Q d δ ↔ Q (.str Str.empty) δ := Iff.rfl
@[simp ↓] theorem f_ethk (c c' : Nat) (d : D) : eThk c Q c' d δ ↔ c' = c ∧ Q d δ := Iff.rfl
/-! statements -/
section
variable (P : Pr) (C : CV)
def kSeq (c : X) (k : Kt) : Kt := { k with n := fun ρ δ => okS (vvS P C c ρ δ) k }
def qAsg (tg : X) (k : Kt) : QP := fun p δ => okS (optS (store tg p.1 p.2) δ) k
def qAug (i : Nat) (op : BOp) (ρ : Sg) (d : D) (k : Kt) : QD := fun v δ => okS (augR op i ρ d v δ) k
def qExpr (k : Kt) : QP := fun p δ => k.n p.2 δ
def qRet (k : Kt) : QP := fun p δ => k.t p.1 δ
def qIf (a c : X) (ρ : Sg) (k : Kt) : QD := fun d δ => brP (truth (lf d) δ) (okS (vvS P C a ρ δ) k) (okS (vvS P C c ρ δ) k)
def qRais (c : Nat) (k : Kt) : QD := fun d δ => okS (raiV c d δ) k
def qSet2 (j : Nat) (p : D × Sg) (k : Kt) : QP := fun q δ => okS (setV j q.1 p.1 q.2 δ) k
def qSet1 (j : Nat) (i : X) (k : Kt) : QP := fun p δ => okR (nbR p.1 (varR p.2[j]? δ)) (fun _ _ => okR (vvM P C i p.2 δ) (qSet2 j p k) k.x) k.x
def qM1 (f : M1) (j : Nat) (Q : QP) (E : QE) : QP := fun p δ => okR (methR ((tlv p.2[j]?).bind fun xs => lmeth f xs p.1 δ) j p.2 δ) Q E
end
@[simp ↓] theorem st_nxt : okS (.nxt ρ δ) k ↔ k.n ρ δ := Iff.rfl
@[simp ↓] theorem st_ret (d : D) : okS (.ret d δ) k ↔ k.t d δ := Iff.rfl
@[simp ↓] theorem st_skip : okS (vvS P C .skip ρ δ) k ↔ k.n ρ δ := by rw [vvS_skip]; exact Iff.rfl
@[simp ↓] theorem st_seq (a c : X) : okS (vvS P C (.seq a c) ρ δ) k ↔ okS (vvS P C a ρ δ) (kSeq P C c k) := by rw [vvS_seq, okS_seqR]; exact Iff.rfl
@[simp ↓] theorem k_seq_n (c : X) : (kSeq P C c k).n ρ δ ↔ okS (vvS P C c ρ δ) k := Iff.rfl
@[simp] theorem k_seq_t (c : X) : (kSeq P C c k).t = k.t := rfl
@[simp] theorem k_seq_b (c : X) : (kSeq P C c k).b = k.b := rfl
@[simp] theorem k_seq_c (c : X) : (kSeq P C c k).c = k.c := rfl
@[simp] theorem k_seq_x (c : X) : (kSeq P C c k).x = k.x := rfl
@[simp ↓] theorem st_asg (tg e : X) : okS (vvS P C (.asg tg e) ρ δ) k ↔ okR (vvR P C e ρ δ) (qAsg tg k) k.x := by rw [vvS_asg, okS_of]; exact Iff.rfl
@[simp ↓] theorem f_asg (tg : X) (p : D × Sg) : qAsg tg k p δ ↔ okS (optS (store tg p.1 p.2) δ) k := Iff.rfl
@[simp ↓] theorem st_aug (i : Nat) (op : BOp) (e : X) (d : D) (h : ρ[i]? = some (some d)) : okS (vvS P C (.aug i op e) ρ δ) k ↔ okR (vv P C e (rd ρ) δ) (qAug i op ρ d k) k.x := by rw [vvS_aug, h, varR_some, RS.of_ok, okS_of]; exact Iff.rfl
@[simp ↓] theorem f_aug (i : Nat) (op : BOp) (d v : D) : qAug i op ρ d k v δ ↔ okS (augR op i ρ d v δ) k := Iff.rfl
@[simp ↓] theorem st_expr (e : X) : okS (vvS P C (.expr e) ρ δ) k ↔ okR (vvM P C e ρ δ) (qExpr k) k.x := by rw [vvS_expr, okS_of]; exact Iff.rfl
@[simp ↓] theorem f_expr (p : D × Sg) : qExpr k p δ ↔ k.n p.2 δ := Iff.rfl
@[simp ↓] theorem st_retE (e : X) : okS (vvS P C (.ret e) ρ δ) k ↔ okR (vvR P C e ρ δ) (qRet k) k.x := by rw [vvS_ret, okS_of]; exact Iff.rfl
@[simp ↓] theorem f_ret (p : D × Sg) : qRet k p δ ↔ k.t p.1 δ := Iff.rfl
@[simp ↓] theorem st_retn : okS (vvS P C .retn ρ δ) k ↔ k.t .non δ := by rw [vvS_retn]; exact Iff.rfl
theorem brS_P {o : Option Bool} {x y : RS} : okS (brS o x y) k ↔ brP o (okS x k) (okS y k) := by
  cases o with
  | none => exact Iff.rfl
  | some t => cases t <;> exact Iff.rfl
@[simp ↓] theorem st_ifs (t a c : X) : okS (vvS P C (.ifs t a c) ρ δ) k ↔ okR (vv P C t (rd ρ) δ) (qIf P C a c ρ k) k.x := by rw [vvS_ifs, okS_of]; simp only [brS_P]; exact Iff.rfl
@[simp ↓] theorem f_if (a c : X) (d : D) : qIf P C a c ρ k d δ ↔ brP (truth (lf d) δ) (okS (vvS P C a ρ δ) k) (okS (vvS P C c ρ δ) k) := Iff.rfl
@[simp ↓] theorem st_brk : okS (vvS P C .brk ρ δ) k ↔ k.b ρ δ := by rw [vvS_brk]; exact Iff.rfl
@[simp ↓] theorem st_cnt : okS (vvS P C .cnt ρ δ) k ↔ k.c ρ δ := by rw [vvS_cnt]; exact Iff.rfl
@[simp ↓] theorem st_rais (c : Nat) (e : X) : okS (vvS P C (.rais c e) ρ δ) k ↔ okR (vv P C e (rd ρ) δ) (qRais c k) k.x := by rw [vvS_rais, okS_of]; exact Iff.rfl
@[simp ↓] theorem f_rais (c : Nat) (d : D) : qRais c k d δ ↔ okS (raiV c d δ) k := Iff.rfl
@[simp ↓] theorem st_sset (j : Nat) (i e : X) : okS (vvS P C (.sset (.var j) i e) ρ δ) k ↔ okR (vvM P C e ρ δ) (qSet1 P C j i k) k.x := by rw [vvS_sset, okS_of]; simp only [okS_of]; exact Iff.rfl
def setP (P : Pr) (C : CV) (j : Nat) (i : X) (p : D × Sg) (δ : GH) (k : Kt) (o : Option (Option D)) : Prop := nb p.1 = true ∧ (∃ d, o = some (some d)) ∧ okR (vvM P C i p.2 δ) (qSet2 j p k) k.x
@[simp ↓] theorem f_set1 (j : Nat) (i : X) (p : D × Sg) : qSet1 P C j i k p δ ↔ setP P C j i p δ k p.2[j]? := by
  unfold qSet1 setP nbR varR
  by_cases h : nb p.1 = true
  · rw [if_pos h]
    cases p.2[j]? with
    | none => simp
    | some o => cases o <;> simp [h]
  · rw [if_neg h]
    exact ⟨fun z => z.elim, fun z => absurd z.1 h⟩
@[simp] theorem setP_some (j : Nat) (i : X) (p : D × Sg) (d : D) : setP P C j i p δ k (some (some d)) ↔ nb p.1 = true ∧ okR (vvM P C i p.2 δ) (qSet2 j p k) k.x := by
  unfold setP; simp
@[simp ↓] theorem f_set2 (j : Nat) (p q : D × Sg) : qSet2 j p k q δ ↔ okS (setV j q.1 p.1 q.2 δ) k := Iff.rfl
@[simp ↓] theorem f_pair (d : D) : qPair ρ QP' d δ ↔ QP' (d, ρ) δ := Iff.rfl
theorem mM_gen {x : X} (h : noM x = true) : okR (vvM P C x ρ δ) QP' E ↔ okR (vv P C x (rd ρ) δ) (qPair ρ QP') E := by rw [vvM_gen h, okR_bind]; exact Iff.rfl
@[simp ↓] theorem mM_pop (j : Nat) : okR (vvM P C (.m0 .pop (.var j)) ρ δ) QP' E ↔ okR (popR (tlv ρ[j]?) j ρ δ) QP' E := Iff.rfl
theorem guP {α β : Type} {o : Option α} {r : R β} {Q : β → GH → Prop} : okR (guO o r) Q E ↔ o.isSome = true ∧ okR r Q E := by cases o <;> simp [guO]
@[simp ↓] theorem mM_m1 (f : M1) (j : Nat) (a : X) : okR (vvM P C (.m1 f (.var j) a) ρ δ) QP' E ↔ (tlv ρ[j]?).isSome = true ∧ okR (vvM P C a ρ δ) (qM1 f j QP' E) E := by rw [vvM_m1, guP, okR_bind]; exact Iff.rfl
@[simp ↓] theorem f_m1 (f : M1) (j : Nat) (p : D × Sg) : qM1 f j QP' E p δ ↔ okR (methR ((tlv p.2[j]?).bind fun xs => lmeth f xs p.1 δ) j p.2 δ) QP' E := Iff.rfl
@[simp ↓] theorem mR_var (j : Nat) : okR (vvR P C (.var j) ρ δ) QP' E ↔ okR (movO j ρ δ ρ[j]?) QP' E := by rw [vvR_var, movR_eq]
@[simp ↓] theorem mM_cint (i : Int) : okR (vvM P C (.cint i) ρ δ) QP' E ↔ okR (vv P C (.cint i) (rd ρ) δ) (qPair ρ QP') E := mM_gen rfl
@[simp ↓] theorem mR_cint (i : Int) : okR (vvR P C (.cint i) ρ δ) QP' E ↔ okR (vv P C (.cint i) (rd ρ) δ) (qPair ρ QP') E := mM_gen rfl
@[simp ↓] theorem mM_cstr (i : Str) : okR (vvM P C (.cstr i) ρ δ) QP' E ↔ okR (vv P C (.cstr i) (rd ρ) δ) (qPair ρ QP') E := mM_gen rfl
@[simp ↓] theorem mR_cstr (i : Str) : okR (vvR P C (.cstr i) ρ δ) QP' E ↔ okR (vv P C (.cstr i) (rd ρ) δ) (qPair ρ QP') E := mM_gen rfl
@[simp ↓] theorem mM_cbl (i : Bool) : okR (vvM P C (.cbl i) ρ δ) QP' E ↔ okR (vv P C (.cbl i) (rd ρ) δ) (qPair ρ QP') E := mM_gen rfl
@[simp ↓] theorem mR_cbl (i : Bool) : okR (vvR P C (.cbl i) ρ δ) QP' E ↔ okR (vv P C (.cbl i) (rd ρ) δ) (qPair ρ QP') E := mM_gen rfl
@[simp ↓] theorem mM_cnon  : okR (vvM P C (.cnon) ρ δ) QP' E ↔ okR (vv P C (.cnon) (rd ρ) δ) (qPair ρ QP') E := mM_gen rfl
@[simp ↓] theorem mR_cnon  : okR (vvR P C (.cnon) ρ δ) QP' E ↔ okR (vv P C (.cnon) (rd ρ) δ) (qPair ρ QP') E := mM_gen rfl
@[simp ↓] theorem mM_glob (i : Nat) : okR (vvM P C (.glob i) ρ δ) QP' E ↔ okR (vv P C (.glob i) (rd ρ) δ) (qPair ρ QP') E := mM_gen rfl
@[simp ↓] theorem mR_glob (i : Nat) : okR (vvR P C (.glob i) ρ δ) QP' E ↔ okR (vv P C (.glob i) (rd ρ) δ) (qPair ρ QP') E := mM_gen rfl
@[simp ↓] theorem mM_bin (op : BOp) (a c : X) : okR (vvM P C (.bin op a c) ρ δ) QP' E ↔ okR (vv P C (.bin op a c) (rd ρ) δ) (qPair ρ QP') E := mM_gen rfl
@[simp ↓] theorem mR_bin (op : BOp) (a c : X) : okR (vvR P C (.bin op a c) ρ δ) QP' E ↔ okR (vv P C (.bin op a c) (rd ρ) δ) (qPair ρ QP') E := mM_gen rfl
@[simp ↓] theorem mM_neg (a : X) : okR (vvM P C (.neg a) ρ δ) QP' E ↔ okR (vv P C (.neg a) (rd ρ) δ) (qPair ρ QP') E := mM_gen rfl
@[simp ↓] theorem mR_neg (a : X) : okR (vvR P C (.neg a) ρ δ) QP' E ↔ okR (vv P C (.neg a) (rd ρ) δ) (qPair ρ QP') E := mM_gen rfl
@[simp ↓] theorem mM_not (a : X) : okR (vvM P C (.not a) ρ δ) QP' E ↔ okR (vv P C (.not a) (rd ρ) δ) (qPair ρ QP') E := mM_gen rfl
@[simp ↓] theorem mR_not (a : X) : okR (vvR P C (.not a) ρ δ) QP' E ↔ okR (vv P C (.not a) (rd ρ) δ) (qPair ρ QP') E := mM_gen rfl
@[simp ↓] theorem mM_and (a c : X) : okR (vvM P C (.and a c) ρ δ) QP' E ↔ okR (vv P C (.and a c) (rd ρ) δ) (qPair ρ QP') E := mM_gen rfl
@[simp ↓] theorem mR_and (a c : X) : okR (vvR P C (.and a c) ρ δ) QP' E ↔ okR (vv P C (.and a c) (rd ρ) δ) (qPair ρ QP') E := mM_gen rfl
@[simp ↓] theorem mM_or (a c : X) : okR (vvM P C (.or a c) ρ δ) QP' E ↔ okR (vv P C (.or a c) (rd ρ) δ) (qPair ρ QP') E := mM_gen rfl
@[simp ↓] theorem mR_or (a c : X) : okR (vvR P C (.or a c) ρ δ) QP' E ↔ okR (vv P C (.or a c) (rd ρ) δ) (qPair ρ QP') E := mM_gen rfl
@[simp ↓] theorem mM_cmp (op : COp) (a c : X) : okR (vvM P C (.cmp op a c) ρ δ) QP' E ↔ okR (vv P C (.cmp op a c) (rd ρ) δ) (qPair ρ QP') E := mM_gen rfl
@[simp ↓] theorem mR_cmp (op : COp) (a c : X) : okR (vvR P C (.cmp op a c) ρ δ) QP' E ↔ okR (vv P C (.cmp op a c) (rd ρ) δ) (qPair ρ QP') E := mM_gen rfl
@[simp ↓] theorem mM_chain (op op' : COp) (a c e : X) : okR (vvM P C (.chain op op' a c e) ρ δ) QP' E ↔ okR (vv P C (.chain op op' a c e) (rd ρ) δ) (qPair ρ QP') E := mM_gen rfl
@[simp ↓] theorem mR_chain (op op' : COp) (a c e : X) : okR (vvR P C (.chain op op' a c e) ρ δ) QP' E ↔ okR (vv P C (.chain op op' a c e) (rd ρ) δ) (qPair ρ QP') E := mM_gen rfl
@[simp ↓] theorem mM_ite (t a c : X) : okR (vvM P C (.ite t a c) ρ δ) QP' E ↔ okR (vv P C (.ite t a c) (rd ρ) δ) (qPair ρ QP') E := mM_gen rfl
@[simp ↓] theorem mR_ite (t a c : X) : okR (vvR P C (.ite t a c) ρ δ) QP' E ↔ okR (vv P C (.ite t a c) (rd ρ) δ) (qPair ρ QP') E := mM_gen rfl
@[simp ↓] theorem mM_tup (as : X) : okR (vvM P C (.tup as) ρ δ) QP' E ↔ okR (vv P C (.tup as) (rd ρ) δ) (qPair ρ QP') E := mM_gen rfl
@[simp ↓] theorem mR_tup (as : X) : okR (vvR P C (.tup as) ρ δ) QP' E ↔ okR (vv P C (.tup as) (rd ρ) δ) (qPair ρ QP') E := mM_gen rfl
@[simp ↓] theorem mM_lst (as : X) : okR (vvM P C (.lst as) ρ δ) QP' E ↔ okR (vv P C (.lst as) (rd ρ) δ) (qPair ρ QP') E := mM_gen rfl
@[simp ↓] theorem mR_lst (as : X) : okR (vvR P C (.lst as) ρ δ) QP' E ↔ okR (vv P C (.lst as) (rd ρ) δ) (qPair ρ QP') E := mM_gen rfl
@[simp ↓] theorem mM_idx (a c : X) : okR (vvM P C (.idx a c) ρ δ) QP' E ↔ okR (vv P C (.idx a c) (rd ρ) δ) (qPair ρ QP') E := mM_gen rfl
@[simp ↓] theorem mR_idx (a c : X) : okR (vvR P C (.idx a c) ρ δ) QP' E ↔ okR (vv P C (.idx a c) (rd ρ) δ) (qPair ρ QP') E := mM_gen rfl
@[simp ↓] theorem mM_slc (a c e : X) : okR (vvM P C (.slc a c e) ρ δ) QP' E ↔ okR (vv P C (.slc a c e) (rd ρ) δ) (qPair ρ QP') E := mM_gen rfl
@[simp ↓] theorem mR_slc (a c e : X) : okR (vvR P C (.slc a c e) ρ δ) QP' E ↔ okR (vv P C (.slc a c e) (rd ρ) δ) (qPair ρ QP') E := mM_gen rfl
@[simp ↓] theorem mM_rev (a : X) : okR (vvM P C (.rev a) ρ δ) QP' E ↔ okR (vv P C (.rev a) (rd ρ) δ) (qPair ρ QP') E := mM_gen rfl
@[simp ↓] theorem mR_rev (a : X) : okR (vvR P C (.rev a) ρ δ) QP' E ↔ okR (vv P C (.rev a) (rd ρ) δ) (qPair ρ QP') E := mM_gen rfl
@[simp ↓] theorem mM_call (j : Nat) (as : X) : okR (vvM P C (.call j as) ρ δ) QP' E ↔ okR (vv P C (.call j as) (rd ρ) δ) (qPair ρ QP') E := mM_gen rfl
@[simp ↓] theorem mR_call (j : Nat) (as : X) : okR (vvR P C (.call j as) ρ δ) QP' E ↔ okR (vv P C (.call j as) (rd ρ) δ) (qPair ρ QP') E := mM_gen rfl
@[simp ↓] theorem mM_callk (j : Nat) (p : List Nat) (as : X) : okR (vvM P C (.callk j p as) ρ δ) QP' E ↔ okR (vv P C (.callk j p as) (rd ρ) δ) (qPair ρ QP') E := mM_gen rfl
@[simp ↓] theorem mR_callk (j : Nat) (p : List Nat) (as : X) : okR (vvR P C (.callk j p as) ρ δ) QP' E ↔ okR (vv P C (.callk j p as) (rd ρ) δ) (qPair ρ QP') E := mM_gen rfl
@[simp ↓] theorem mM_b1 (f : B1) (a : X) : okR (vvM P C (.b1 f a) ρ δ) QP' E ↔ okR (vv P C (.b1 f a) (rd ρ) δ) (qPair ρ QP') E := mM_gen rfl
@[simp ↓] theorem mR_b1 (f : B1) (a : X) : okR (vvR P C (.b1 f a) ρ δ) QP' E ↔ okR (vv P C (.b1 f a) (rd ρ) δ) (qPair ρ QP') E := mM_gen rfl
@[simp ↓] theorem mM_mx (a c : X) : okR (vvM P C (.mx a c) ρ δ) QP' E ↔ okR (vv P C (.mx a c) (rd ρ) δ) (qPair ρ QP') E := mM_gen rfl
@[simp ↓] theorem mR_mx (a c : X) : okR (vvR P C (.mx a c) ρ δ) QP' E ↔ okR (vv P C (.mx a c) (rd ρ) δ) (qPair ρ QP') E := mM_gen rfl
@[simp ↓] theorem mM_mn (a c : X) : okR (vvM P C (.mn a c) ρ δ) QP' E ↔ okR (vv P C (.mn a c) (rd ρ) δ) (qPair ρ QP') E := mM_gen rfl
@[simp ↓] theorem mR_mn (a c : X) : okR (vvR P C (.mn a c) ρ δ) QP' E ↔ okR (vv P C (.mn a c) (rd ρ) δ) (qPair ρ QP') E := mM_gen rfl
@[simp ↓] theorem mM_isi (t : Ty) (a : X) : okR (vvM P C (.isi t a) ρ δ) QP' E ↔ okR (vv P C (.isi t a) (rd ρ) δ) (qPair ρ QP') E := mM_gen rfl
@[simp ↓] theorem mR_isi (t : Ty) (a : X) : okR (vvR P C (.isi t a) ρ δ) QP' E ↔ okR (vv P C (.isi t a) (rd ρ) δ) (qPair ρ QP') E := mM_gen rfl
@[simp ↓] theorem mM_lrng (as : X) : okR (vvM P C (.lrng as) ρ δ) QP' E ↔ okR (vv P C (.lrng as) (rd ρ) δ) (qPair ρ QP') E := mM_gen rfl
@[simp ↓] theorem mR_lrng (as : X) : okR (vvR P C (.lrng as) ρ δ) QP' E ↔ okR (vv P C (.lrng as) (rd ρ) δ) (qPair ρ QP') E := mM_gen rfl
@[simp ↓] theorem mM_comp (e tg it cond : X) (own : List Nat) : okR (vvM P C (.comp e tg it cond own) ρ δ) QP' E ↔ okR (vv P C (.comp e tg it cond own) (rd ρ) δ) (qPair ρ QP') E := mM_gen rfl
@[simp ↓] theorem mR_comp (e tg it cond : X) (own : List Nat) : okR (vvR P C (.comp e tg it cond own) ρ δ) QP' E ↔ okR (vv P C (.comp e tg it cond own) (rd ρ) δ) (qPair ρ QP') E := mM_gen rfl
@[simp ↓] theorem mM_scomp (j : Nat) (tg a : X) (own : List Nat) : okR (vvM P C (.scomp j tg a own) ρ δ) QP' E ↔ okR (vv P C (.scomp j tg a own) (rd ρ) δ) (qPair ρ QP') E := mM_gen rfl
@[simp ↓] theorem mR_scomp (j : Nat) (tg a : X) (own : List Nat) : okR (vvR P C (.scomp j tg a own) ρ δ) QP' E ↔ okR (vv P C (.scomp j tg a own) (rd ρ) δ) (qPair ρ QP') E := mM_gen rfl
@[simp ↓] theorem mM_frz (a : X) : okR (vvM P C (.frz a) ρ δ) QP' E ↔ okR (vv P C (.frz a) (rd ρ) δ) (qPair ρ QP') E := mM_gen rfl
@[simp ↓] theorem mR_frz (a : X) : okR (vvR P C (.frz a) ρ δ) QP' E ↔ okR (vv P C (.frz a) (rd ρ) δ) (qPair ρ QP') E := mM_gen rfl
@[simp ↓] theorem mM_thunk (i : Nat) (e : X) : okR (vvM P C (.thunk i e) ρ δ) QP' E ↔ okR (vv P C (.thunk i e) (rd ρ) δ) (qPair ρ QP') E := mM_gen rfl
@[simp ↓] theorem mR_thunk (i : Nat) (e : X) : okR (vvR P C (.thunk i e) ρ δ) QP' E ↔ okR (vv P C (.thunk i e) (rd ρ) δ) (qPair ρ QP') E := mM_gen rfl
@[simp ↓] theorem mM_var (i : Nat) : okR (vvM P C (.var i) ρ δ) QP' E ↔ okR (vv P C (.var i) (rd ρ) δ) (qPair ρ QP') E := mM_gen rfl
@[simp ↓] theorem mR_m0 (f : M0) (o : X) : okR (vvR P C (.m0 f o) ρ δ) QP' E ↔ okR (vvM P C (.m0 f o) ρ δ) QP' E := Iff.rfl
@[simp ↓] theorem mR_m1 (f : M1) (o a : X) : okR (vvR P C (.m1 f o a) ρ δ) QP' E ↔ okR (vvM P C (.m1 f o a) ρ δ) QP' E := Iff.rfl
end Ev
set_option Elab.async false
set_option linter.all false
set_option maxRecDepth 100000
set_option maxHeartbeats 4000000
/-! WvN: loops, comprehensions, the dice. -/
namespace Ev
open PySem
variable {P : Pr} {C : CV} {τ ρ ρ0 ρ1 : Sg} {δ δ1 : GH} {Q : D → GH → Prop} {E : Nat → D → GH → Prop} {k : Kt}
theorem forV_inv {α : Type} {enc : α → D} {m : Sg → Sg} {f : D → Sg → GH → RS} {I : List α → Sg → GH → Prop} (hs : ∀ x xs ρ δ, I (x :: xs) ρ δ → okS (f (enc x) ρ δ) { k with n := fun ρ' δ' => I xs (m ρ') δ', c := fun ρ' δ' => I xs (m ρ') δ', b := fun ρ' δ' => k.n (m ρ') δ' }) (he : ∀ ρ δ, I [] ρ δ → k.n ρ δ) :
    ∀ (xs : List α) (ρ : Sg) (δ : GH), I xs ρ δ → okS (forV m f (xs.map enc) ρ δ) k
  | [], ρ, δ, h => he ρ δ h
  | x :: xs, ρ, δ, h => by
    have q := hs x xs ρ δ h
    show okS (forV m f (enc x :: xs.map enc) ρ δ) k
    unfold forV
    cases e : f (enc x) ρ δ with
    | nxt σ' S' => rw [e] at q; exact forV_inv hs he xs _ S' q
    | cnt σ' S' => rw [e] at q; exact forV_inv hs he xs _ S' q
    | brk σ' S' => rw [e] at q; exact q
    | ret d S' => rw [e] at q; exact q
    | exc c d S' => rw [e] at q; exact q
    | bad => rw [e] at q; exact q
/-- for, by an invariant over what is left; what is walked may draw -/
theorem for_i {α : Type} {enc : α → D} {tg it body : X} {I : List α → Sg → GH → Prop} (hit : okR (vvI P C it (rd ρ) δ) (fun ds δ1 => ∃ xs : List α, ds = xs.map enc ∧ I xs (frz (lkI it) ρ) δ1) k.x)
    (hs : ∀ x xs ρ' δ', I (x :: xs) ρ' δ' → okS (turnV P C tg (fun ρ δ => vvS P C body ρ δ) (enc x) ρ' δ') { n := fun ρ'' δ'' => I xs (mk (frz (lkI it) ρ) ρ'') δ'', t := k.t, b := fun ρ'' δ'' => k.n (thw ρ (lkI it) (mk (frz (lkI it) ρ) ρ'')) δ'', c := fun ρ'' δ'' => I xs (mk (frz (lkI it) ρ) ρ'') δ'', x := k.x })
    (he : ∀ ρ' δ', I [] ρ' δ' → k.n (thw ρ (lkI it) ρ') δ') : okS (vvS P C (.forr false tg it body) ρ δ) k := by
  rw [vvS_forr, okS_of]
  refine okR_mono hit (fun ds δ1 ⟨xs, e, h⟩ => ?_) fun _ _ _ h => h
  rw [e, okS_mapG]
  exact forV_inv (k := { k with n := fun ρ' δ => k.n (thw ρ (lkI it) ρ') δ, b := no2, c := no2 }) hs he xs _ _ h
/-- the same, nothing drawn -/
theorem for_v {α : Type} {enc : α → D} {tg it body : X} {I : List α → Sg → GH → Prop} (xs : List α) (hit : okR (vvI P C it (rd ρ) δ) (fun ds δ' => ds = xs.map enc ∧ δ' = δ) no3) (h0 : I xs (frz (lkI it) ρ) δ)
    (hs : ∀ x xs ρ' δ', I (x :: xs) ρ' δ' → okS (turnV P C tg (fun ρ δ => vvS P C body ρ δ) (enc x) ρ' δ') { n := fun ρ'' δ'' => I xs (mk (frz (lkI it) ρ) ρ'') δ'', t := k.t, b := fun ρ'' δ'' => k.n (thw ρ (lkI it) (mk (frz (lkI it) ρ) ρ'')) δ'', c := fun ρ'' δ'' => I xs (mk (frz (lkI it) ρ) ρ'') δ'', x := k.x })
    (he : ∀ ρ' δ', I [] ρ' δ' → k.n (thw ρ (lkI it) ρ') δ') : okS (vvS P C (.forr false tg it body) ρ δ) k :=
  for_i (enc := enc) (I := I) (by rw [eq_ok hit]; exact ⟨xs, rfl, h0⟩) hs he
/-- for, by a fold: nothing is returned, nothing broken off -/
theorem for_f {α β : Type} {enc : α → D} {tg it body : X} {st : β → Sg} {f : β → α → β} {J : List α → β → Prop} (xs : List α) (b0 : β) (hit : okR (vvI P C it (rd ρ) δ) (fun ds δ' => ds = xs.map enc ∧ δ' = δ) no3) (h0 : frz (lkI it) ρ = st b0) (hJ : J xs b0)
    (hs : ∀ x xs b, J (x :: xs) b → J xs (f b x) ∧ okS (turnV P C tg (fun ρ δ => vvS P C body ρ δ) (enc x) (st b) δ) { n := fun ρ'' δ'' => mk (st b0) ρ'' = st (f b x) ∧ δ'' = δ, t := no2, b := no2, c := fun ρ'' δ'' => mk (st b0) ρ'' = st (f b x) ∧ δ'' = δ, x := no3 })
    (he : J [] (xs.foldl f b0) → k.n (thw ρ (lkI it) (st (xs.foldl f b0))) δ) : okS (vvS P C (.forr false tg it body) ρ δ) k := by
  refine for_v (I := fun ys ρ' δ' => ∃ b, ρ' = st b ∧ δ' = δ ∧ J ys b ∧ ys.foldl f b = xs.foldl f b0) xs hit ⟨b0, h0, rfl, hJ, rfl⟩ ?_ ?_
  · rintro x ys ρ' δ' ⟨b, rfl, rfl, hj, e⟩
    obtain ⟨j, o⟩ := hs x ys b hj
    rw [h0]
    refine okS_mono o (fun σ S z => ?_) (fun _ _ z => z.elim) (fun _ _ z => z.elim) (fun σ S z => ?_) (fun _ _ _ z => z.elim)
    · exact ⟨_, z.1, z.2, j, e⟩
    · exact ⟨_, z.1, z.2, j, e⟩
  · rintro ρ' δ' ⟨b, rfl, rfl, hj, e⟩
    have e : b = xs.foldl f b0 := e
    subst e
    exact he hj
/-- unrolled -/
theorem okS_forr {tg it body : X} : okS (vvS P C (.forr false tg it body) ρ δ) k ↔ okR (vvI P C it (rd ρ) δ) (fun xs δ1 => okS (forV (mk (frz (lkI it) ρ)) (turnV P C tg fun ρ' δ' => vvS P C body ρ' δ') xs (frz (lkI it) ρ) δ1) { k with n := fun ρ' δ' => k.n (thw ρ (lkI it) ρ') δ', b := no2, c := no2 }) k.x := by
  rw [vvS_forr, okS_of]
  simp only [okS_mapG]
@[simp] theorem okS_forV_nil (m : Sg → Sg) (f : D → Sg → GH → RS) : okS (forV m f [] ρ δ) k ↔ k.n ρ δ := Iff.rfl
@[simp] theorem okS_forV_cons (m : Sg → Sg) (f : D → Sg → GH → RS) (d : D) (ds : List D) : okS (forV m f (d :: ds) ρ δ) k ↔ okS (f d ρ δ) { k with n := fun ρ' δ' => okS (forV m f ds (m ρ') δ') k, c := fun ρ' δ' => okS (forV m f ds (m ρ') δ') k, b := fun ρ' δ' => k.n (m ρ') δ' } := by
  conv => lhs; unfold forV
  cases f d ρ δ <;> exact Iff.rfl
theorem whV_inv {m : Sg → Sg} {t : Sg → GH → R D} {f : Sg → GH → RS} {I : Nat → Sg → GH → Prop} (hs : ∀ n ρ δ, I n ρ δ → okR (t ρ δ) (fun d δ1 => (truth (lf d) δ1 = some true ∧ ∃ n', n = n' + 1 ∧ okS (f ρ δ1) { k with n := fun ρ' δ' => I n' (m ρ') δ', c := fun ρ' δ' => I n' (m ρ') δ', b := fun ρ' δ' => k.n (m ρ') δ' }) ∨ (truth (lf d) δ1 = some false ∧ k.n ρ δ1)) k.x) :
    ∀ (F n : Nat) (ρ : Sg) (δ : GH), n < F → I n ρ δ → okS (whV m t f F ρ δ) k
  | 0, n, _, _, h, _ => absurd h (Nat.not_lt_zero n)
  | F + 1, n, ρ, δ, h, i => by
    have q := hs n ρ δ i
    unfold whV
    rw [okS_of]
    refine okR_mono q (fun d δ1 z => ?_) fun _ _ _ z => z
    rcases z with ⟨z1, n', rfl, z2⟩ | ⟨z1, z2⟩
    · rw [z1]
      dsimp only
      cases e : f ρ δ1 with
      | nxt σ' S' => rw [e] at z2; exact whV_inv hs F n' _ S' (by omega) z2
      | cnt σ' S' => rw [e] at z2; exact whV_inv hs F n' _ S' (by omega) z2
      | brk σ' S' => rw [e] at z2; exact z2
      | ret d S' => rw [e] at z2; exact z2
      | exc c d S' => rw [e] at z2; exact z2
      | bad => rw [e] at z2; exact z2
    · rw [z1]; exact z2
/-- while, by an invariant with what is left -/
theorem whl_v {t body : X} {I : Nat → Sg → GH → Prop} (N : Nat) (hN : N < P.w) (h0 : I N ρ δ) (hs : ∀ n ρ' δ', I n ρ' δ' → okR (vv P C t (rd ρ') δ') (fun d δ1 => (truth (lf d) δ1 = some true ∧ ∃ n', n = n' + 1 ∧ okS (vvS P C body ρ' δ1) { k with n := fun ρ'' δ'' => I n' (mk ρ ρ'') δ'', c := fun ρ'' δ'' => I n' (mk ρ ρ'') δ'', b := fun ρ'' δ'' => k.n (mk ρ ρ'') δ'' }) ∨ (truth (lf d) δ1 = some false ∧ k.n ρ' δ1)) k.x) : okS (vvS P C (.whl false t body) ρ δ) k := by
  rw [vvS_whl]
  exact whV_inv hs P.w N ρ δ hN h0
/-! ### comprehensions -/
theorem comp_map {α : Type} {enc : α → D} {e tg it cond : X} {own : List Nat} {g : α → Option D} (xs : List α) (hit : okR (vvI P C it τ δ) (fun ds δ' => ds = xs.map enc ∧ δ' = δ) no3) (hl : xs.length ≤ 16777216) (hf : ∀ x ∈ xs, okR (compV P C e tg cond own τ (enc x) δ) (fun o δ' => o = g x ∧ δ' = δ) no3) :
    vv P C (.comp e tg it cond own) τ δ = .ok (.tl (xs.filterMap g)) δ := by
  rw [vv_comp, eq_ok hit, R.bind_ok, compE_eq, List.length_map, if_neg (show ¬ lim < xs.length from Nat.not_lt.mpr hl), compLoop_map (S := δ) xs fun x hx => eq_ok (hf x hx)]
  rfl
theorem comp_all {α : Type} {enc : α → D} {e tg it cond : X} {own : List Nat} {g : α → D} (xs : List α) (hit : okR (vvI P C it τ δ) (fun ds δ' => ds = xs.map enc ∧ δ' = δ) no3) (hl : xs.length ≤ 16777216) (hf : ∀ x ∈ xs, okR (compV P C e tg cond own τ (enc x) δ) (fun o δ' => o = some (g x) ∧ δ' = δ) no3) :
    vv P C (.comp e tg it cond own) τ δ = .ok (.tl (xs.map g)) δ := by
  rw [comp_map (g := fun x => some (g x)) xs hit hl hf, List.filterMap_eq_map']
theorem filterMap_if {α β : Type} (p : α → Bool) (g : α → β) (xs : List α) : (xs.filterMap fun x => if p x then some (g x) else none) = (xs.filter p).map g := by
  induction xs with
  | nil => rfl
  | cons x xs ih =>
    rw [List.filterMap_cons, List.filter_cons]
    cases p x <;> simp [ih]
/-- some of them, each by its own value -/
theorem comp_some {α : Type} {enc : α → D} {e tg it cond : X} {own : List Nat} {p : α → Bool} {g : α → D} (xs : List α) (hit : okR (vvI P C it τ δ) (fun ds δ' => ds = xs.map enc ∧ δ' = δ) no3) (hl : xs.length ≤ 16777216) (hf : ∀ x ∈ xs, okR (compV P C e tg cond own τ (enc x) δ) (fun o δ' => o = (if p x then some (g x) else none) ∧ δ' = δ) no3) :
    vv P C (.comp e tg it cond own) τ δ = .ok (.tl ((xs.filter p).map g)) δ := by
  rw [comp_map xs hit hl hf, filterMap_if]
theorem comp_e {α : Type} {enc : α → D} {e tg it cond : X} {own : List Nat} {I : List α → List D → GH → Prop} (xs : List α) (hit : okR (vvI P C it τ δ) (fun ds δ' => ds = xs.map enc ∧ δ' = δ1) no3) (hl : xs.length ≤ 16777216) (h0 : I xs [] δ1)
    (hs : ∀ x xs acc δ', I (x :: xs) acc δ' → okR (compV P C e tg cond own τ (enc x) δ') (fun o δ'' => I xs (acc ++ o.toList) δ'') E) (he : ∀ r δ', I [] r δ' → Q (.tl r) δ') : okR (vv P C (.comp e tg it cond own) τ δ) Q E := by
  rw [vv_comp, eq_ok hit, R.bind_ok, compE_eq, List.length_map, if_neg (show ¬ lim < xs.length from Nat.not_lt.mpr hl), okR_bind]
  exact okR_mono (compLoop_inv hs xs [] _ h0) (fun r S' h => he r S' h) fun _ _ _ h => h
theorem comp_i {α : Type} {enc : α → D} {e tg it cond : X} {own : List Nat} {I : List α → List D → GH → Prop} (xs : List α) (hit : okR (vvI P C it τ δ) (fun ds δ' => ds = xs.map enc ∧ δ' = δ1) no3) (hl : xs.length ≤ 16777216) (h0 : I xs [] δ1)
    (hs : ∀ x xs acc δ', I (x :: xs) acc δ' → okR (compV P C e tg cond own τ (enc x) δ') (fun o δ'' => I xs (acc ++ o.toList) δ'') no3) (he : ∀ r δ', I [] r δ' → Q (.tl r) δ') : okR (vv P C (.comp e tg it cond own) τ δ) Q E := by
  exact comp_e xs hit hl h0 (fun x xs acc δ' h => okR_mono (hs x xs acc δ' h) (fun _ _ h => h) fun _ _ _ h => h.elim) he
/-! ### cuts -/
theorem cutQ {a c : X} (N : Sg → GH → Prop) (h1 : okS (vvS P C a ρ δ) { k with n := N }) (h2 : ∀ σ S, N σ S → okS (vvS P C c σ S) k) : okS (vvS P C (.seq a c) ρ δ) k := by
  rw [vvS_seq, okS_seqR]
  exact okS_mono h1 (fun σ S h => h2 σ S h) (fun _ _ h => h) (fun _ _ h => h) (fun _ _ h => h) (fun _ _ _ h => h)
/-! ### the dice: a list of three, of which the last counts -/
def Dc (n : Nat) (δ : GH) : Prop := ∃ g m c : Int, δ = [.lst [.int g, .int m, .int c]] ∧ 0 ≤ c ∧ c + n ≤ 1000000
theorem Dc.mono {n m : Nat} (h : Dc n δ) (k : m ≤ n) : Dc m δ := let ⟨g, a, c, e, h1, h2⟩ := h; ⟨g, a, c, e, h1, by omega⟩
/-! ### the law's own loop -/
theorem okS_unsh {n : Nat} {r : RS} (h : okS r { n := fun ρ δ => k.n (kl n ρ) (δ.take n), t := no2, b := fun ρ δ => k.b (kl n ρ) (δ.take n), c := fun ρ δ => k.c (kl n ρ) (δ.take n), x := fun c d δ => k.x c d (δ.take n) }) : okS (unsh n r) k := by
  cases r with
  | ret d δ => exact h.elim
  | _ => exact h
/-- what is wanted behind a turn of the law's loop: nothing is returned, the names are as before -/
def lawK (ρ : Sg) : Kt := { n := fun ρ' _ => mk ρ (kl 0 ρ') = ρ, t := no2, b := no2, c := fun ρ' _ => mk ρ (kl 0 ρ') = ρ, x := no3 }
@[simp] theorem lawK_n (ρ' : Sg) : (lawK ρ).n ρ' δ ↔ mk ρ (kl 0 ρ') = ρ := Iff.rfl
@[simp] theorem lawK_c (ρ' : Sg) : (lawK ρ).c ρ' δ ↔ mk ρ (kl 0 ρ') = ρ := Iff.rfl
@[simp] theorem lawK_t : (lawK ρ).t = no2 := rfl
@[simp] theorem lawK_b : (lawK ρ).b = no2 := rfl
@[simp] theorem lawK_x : (lawK ρ).x = no3 := rfl
def trueK : Kt := { n := no2, t := fun d _ => d = .bl true, b := no2, c := no2, x := no3 }
@[simp] theorem trueK_t (d : D) : trueK.t d δ ↔ d = .bl true := Iff.rfl
@[simp] theorem trueK_x : trueK.x = no3 := rfl
theorem law_all {N j sh : Nat} {f : Fn} {ns : List Int} {tg it e rest tail : X} {α : Type} {enc : α → D} (hf : P.fns[j]? = some f) (ha : f.ar = 1) (hb : f.body = .seq (.forr false tg it (.seq (.asg (.var sh) e) rest)) tail) (xs : List α) (hl : lkI it = [])
    (hit : okR (vvI P (callV P N) it (rd (some (.fl (ns.map D.int)) :: List.replicate (f.sl - 1) none)) []) (fun ds δ' => ds = xs.map enc ∧ δ' = []) no3)
    (ht : okS (vvS P (callV P N) tail (some (.fl (ns.map D.int)) :: List.replicate (f.sl - 1) none) []) trueK)
    (hs : ∀ x ∈ xs, ∃ ρ1, bindT tg (enc x) (some (.fl (ns.map D.int)) :: List.replicate (f.sl - 1) none) = some ρ1 ∧ okR (vvR P (callV P N) e ρ1 []) (fun p δ1 => δ1 = [] ∧ ∃ g m : Int, p.1 = .tl [.int g, .int m, .int 0] ∧
      ∀ δ, Dc 1000000 δ → okS (vvS P (callV P N) rest (p.2.set sh (some (.ref 0))) δ) (lawK (some (.fl (ns.map D.int)) :: List.replicate (f.sl - 1) none))) no3) : ∃ G, callO P (N + 1) j 0 [.fl (ns.map D.int)] [] = .ok (.bl true) G := by
  refine law_holds (sh := sh) hf ha hb ?_
  generalize (some (D.fl (ns.map D.int)) :: List.replicate (f.sl - 1) none) = ρ at hit ht hs
  unfold vvT
  rw [okS_seqR, eq_ok hit, RS.of_ok, hl, okS_mapG]
  refine forV_inv (enc := enc) (I := fun ys ρ' δ' => ρ' = ρ ∧ δ' = [] ∧ ∀ y ∈ ys, y ∈ xs) ?_ (fun ρ' δ' ⟨h1, h2, _⟩ => by rw [h1, h2]; exact ht) xs ρ [] ⟨rfl, rfl, fun _ h => h⟩
  rintro x ys ρ' δ' ⟨rfl, rfl, hm⟩
  obtain ⟨ρ1, h1, h2⟩ := hs x (hm x List.mem_cons_self)
  rw [turnV_eq, h1, bndS_some]
  unfold vvB
  dsimp only
  rw [if_pos rfl, okS_of]
  refine okR_mono h2 (fun p δ1 ⟨e1, g, m, e2, h3⟩ => ?_) fun _ _ _ z => z.elim
  subst e1
  unfold shB
  rw [e2]
  show okS (unsh 0 (vvS P (callV P N) rest (p.2.set sh (some (.ref 0))) [.lst [.int g, .int m, .int 0]])) _
  refine okS_unsh ?_
  refine okS_mono (h3 _ ⟨g, m, 0, rfl, by omega, by omega⟩) (fun σ S z => ?_) (fun _ _ z => z.elim) (fun _ _ z => z.elim) (fun σ S z => ?_) (fun _ _ _ z => z.elim)
  · exact ⟨z, by simp, fun y hy => hm y (List.mem_cons_of_mem _ hy)⟩
  · exact ⟨z, by simp, fun y hy => hm y (List.mem_cons_of_mem _ hy)⟩
@[simp] theorem kl_nil (n : Nat) : kl n [] = [] := rfl
@[simp] theorem kl_cons (n : Nat) (o : Option D) (ρ : Sg) : kl n (o :: ρ) = kl1 n o :: kl n ρ := rfl
@[simp] theorem kl1_fl (n : Nat) (xs : List D) : kl1 n (some (.fl xs)) = some (.fl xs) := rfl
theorem scol_map {α : Type} {enc : α → D} {g : α → Int} {j : Nat} {tg : X} {τ0 : Sg} : ∀ (xs : List α), (∀ x ∈ xs, ∃ τ', bindT tg (enc x) τ0 = some τ' ∧ τ'[j]? = some (some (.int (g x)))) → scol j tg τ0 (xs.map enc) = some (xs.map fun x => .int (g x))
  | [], _ => rfl
  | x :: xs, h => by
    obtain ⟨τ', h1, h2⟩ := h x List.mem_cons_self
    rw [List.map_cons]
    unfold scol
    rw [h1]
    dsimp only
    rw [h2]
    show (scol j tg τ0 (xs.map enc)).map (D.int (g x) :: ·) = _
    rw [scol_map xs fun y hy => h y (List.mem_cons_of_mem _ hy)]
    rfl
theorem scolR_map {α : Type} {enc : α → D} {g : α → Int} {j : Nat} {tg : X} {τ0 : Sg} (xs : List α) (hl : xs.length ≤ 1000) (h : ∀ x ∈ xs, ∃ τ', bindT tg (enc x) τ0 = some τ' ∧ τ'[j]? = some (some (.int (g x)))) : scolR j tg τ0 (some (xs.map enc)) δ = .ok (.sv (xs.map fun x => .int (g x))) δ := by
  unfold scolR
  dsimp only
  rw [if_neg (by rw [List.length_map]; omega), scol_map xs h]
@[simp] theorem cmp_ninSv (k : Int) (xs : List D) : opCmp .nin (.int k) (.sv xs) δ = .ok (.bl (!memD (.int k) xs)) δ := rfl
@[simp] theorem cmp_inSv (k : Int) (xs : List D) : opCmp .in_ (.int k) (.sv xs) δ = .ok (.bl (memD (.int k) xs)) δ := rfl
@[simp] theorem enum_map {α : Type} (enc : α → D) (xs : List α) : enumD (xs.map enc) = xs.zipIdx.map fun p => .tup [.int p.2, enc p.1] := by
  unfold enumD
  rw [List.zipIdx_map, List.map_map]
  rfl
@[simp] theorem zip_map2 {α β : Type} (e1 : α → D) (e2 : β → D) (xs : List α) (ys : List β) : zipD (xs.map e1) (ys.map e2) = (xs.zip ys).map fun p => .tup [e1 p.1, e2 p.2] := by
  unfold zipD
  rw [List.zip_map, List.map_map]
  rfl
@[simp] theorem opInt_bl (b : Bool) : opB1 .int (.bl b) δ = .ok (.int (if b then 1 else 0)) δ := rfl
@[simp] theorem intsD_mapf {α : Type} (g : α → Int) (xs : List α) : intsD (xs.map fun x => D.int (g x)) = some (xs.map g) := by
  have := intsD_map (xs.map g)
  rw [List.map_map] at this
  exact this
@[simp] theorem boolsD_mapf {α : Type} (g : α → Bool) (xs : List α) : boolsD (xs.map fun x => D.bl (g x)) = some (xs.map g) := by
  have := boolsD_map (xs.map g)
  rw [List.map_map] at this
  exact this
theorem mulOk_l {a b : Int} (h : -18446744073709551616 < a ∧ a < 18446744073709551616) : mulOk a b = true := by
  unfold mulOk
  rw [Bool.or_eq_true]
  left
  rw [Bool.and_eq_true]
  exact ⟨decide_eq_true (by omega), decide_eq_true (by omega)⟩
theorem mulOk_r {a b : Int} (h : -18446744073709551616 < b ∧ b < 18446744073709551616) : mulOk a b = true := by
  unfold mulOk
  rw [Bool.or_eq_true]
  right
  rw [Bool.and_eq_true]
  exact ⟨decide_eq_true (by omega), decide_eq_true (by omega)⟩
@[simp] theorem mulOk_2 (b : Int) : mulOk 2 b = true := mulOk_l (by omega)
def isTup : D → Bool
  | .tup _ => true
  | _ => false
def isStr : D → Bool
  | .str _ => true
  | _ => false
theorem in_closed {d : D} {xs : List D} {b : Bool} (h : (cl d && xs.all cl) = true) (hb : memD d xs = b) : opCmp .in_ d (.tup xs) δ = .ok (.bl b) δ := by
  show (if (cl d && xs.all cl) = true then R.ok (D.bl (memD d xs)) δ else .bad) = _
  rw [if_pos h, hb]
theorem eq_closed {d e : D} {b : Bool} (hn : isTup d = true ∨ isStr d = true) (h : (cl d && cl e) = true) (he : res e δ = e) (hb : deq d e = b) : opCmp .eq d e δ = .ok (.bl b) δ := by
  have hd : res d δ = d := by rcases hn with hn | hn <;> cases d <;> first | rfl | cases hn
  have : opCmp .eq d e δ = (if (cl (res d δ) && cl (res e δ)) = true then R.ok (D.bl (deq (res d δ) (res e δ))) δ else .bad) := by
    rcases hn with hn | hn <;> cases d <;> first | rfl | cases hn
  rw [this, hd, he, if_pos h, hb]
/-! ### the same compared with itself -/
@[simp] theorem cmp_neT {xs : List D} (h : cl (.tup xs) = true) : opCmp .ne (.tup xs) (.tup xs) δ = .ok (.bl false) δ := cmp_ne_self h
@[simp] theorem cmp_neL {xs : List D} (h : cl (.tl xs) = true) : opCmp .ne (.tl xs) (.tl xs) δ = .ok (.bl false) δ := cmp_ne_self h
@[simp] theorem cmp_eqT {xs : List D} (h : cl (.tup xs) = true) : opCmp .eq (.tup xs) (.tup xs) δ = .ok (.bl true) δ := cmp_eq_self h
@[simp] theorem cmp_eqL {xs : List D} (h : cl (.tl xs) = true) : opCmp .eq (.tl xs) (.tl xs) δ = .ok (.bl true) δ := cmp_eq_self h
@[simp] theorem cmp_neN : opCmp .ne .non .non δ = .ok (.bl false) δ := cmp_ne_self (by simp [res])
@[simp] theorem cmp_eqN : opCmp .eq .non .non δ = .ok (.bl true) δ := cmp_eq_self (by simp [res])
/-! ### ranges -/
def rng (n : Int) : List Int := (List.range n.toNat).map fun (i : Nat) => (i : Int)
def rng2 (a b : Int) : List Int := (List.range (b - a).toNat).map fun (i : Nat) => a + (i : Int)
theorem rngD_rng (j : Int) : rngD 0 j.toNat = (rng j).map D.int := by unfold rngD rng; rw [List.map_map]; exact List.map_congr_left fun x _ => by simp
theorem rngD_rng2 (a b : Int) : rngD a (b - a).toNat = (rng2 a b).map D.int := by unfold rngD rng2; rw [List.map_map]; rfl
theorem opRng_1 {j : Int} (h : -4611686018427387904 ≤ j ∧ j ≤ 16777216) : opRng [.int j] = some ((rng j).map D.int) := by rw [opRng1 h, rngD_rng]
theorem opRng_2 {i j : Int} (h : -4611686018427387904 ≤ i ∧ i < 4611686018427387904 ∧ -4611686018427387904 ≤ j ∧ j < 4611686018427387904 ∧ j - i ≤ 16777216) : opRng [.int i, .int j] = some ((rng2 i j).map D.int) := by rw [opRng2 h, rngD_rng2]
theorem mem_rng {n i : Int} : i ∈ rng n ↔ 0 ≤ i ∧ i < n := by
  unfold rng
  rw [List.mem_map]
  constructor
  · rintro ⟨k, hk, rfl⟩
    have := List.mem_range.mp hk
    omega
  · rintro ⟨h1, h2⟩
    exact ⟨i.toNat, List.mem_range.mpr (by omega), by omega⟩
theorem mem_rng2 {a b i : Int} : i ∈ rng2 a b ↔ a ≤ i ∧ i < b := by
  unfold rng2
  rw [List.mem_map]
  constructor
  · rintro ⟨k, hk, rfl⟩
    have := List.mem_range.mp hk
    omega
  · rintro ⟨h1, h2⟩
    exact ⟨(i - a).toNat, List.mem_range.mpr (by omega), by omega⟩
theorem rng_len (j : Int) : (rng j).length = j.toNat := by unfold rng; simp
theorem rng2_len (a b : Int) : (rng2 a b).length = (b - a).toNat := by unfold rng2; simp
end Ev
set_option Elab.async false
set_option linter.all false
set_option maxRecDepth 100000
set_option maxHeartbeats 4000000
/-! WvO: encodings that tell their things apart; ranges, least and greatest. -/
namespace Ev
open PySem
variable {δ : GH}
/-- equal as Python sees it means equal -/
def EqE {α : Type} [DecidableEq α] (enc : α → D) : Prop := ∀ a b, deq (enc a) (enc b) = decide (a = b)
@[simp] theorem deq_int (a b : Int) : deq (.int a) (.int b) = decide (a = b) := by
  show PyData.eqv (.int a) (.int b) = _
  unfold PyData.eqv
  by_cases h : a = b <;> simp [h]
@[simp] theorem deq_tnn : deq (.tup []) (.tup []) = true := rfl
@[simp] theorem deq_tcc (x y : D) (xs ys : List D) : deq (.tup (x :: xs)) (.tup (y :: ys)) = (deq x y && deq (.tup xs) (.tup ys)) := by
  show PyData.eqv (.tuple (x.py :: D.pyAll xs)) (.tuple (y.py :: D.pyAll ys)) = (PyData.eqv x.py y.py && PyData.eqv (.tuple (D.pyAll xs)) (.tuple (D.pyAll ys)))
  simp only [PyData.eqv, PyData.eqvAll]
@[simp] theorem deq_tnc (y : D) (ys : List D) : deq (.tup []) (.tup (y :: ys)) = false := rfl
@[simp] theorem deq_tcn (y : D) (ys : List D) : deq (.tup (y :: ys)) (.tup []) = false := rfl
theorem eqE_int : EqE D.int := deq_int
section
variable {α : Type} [DecidableEq α] {enc : α → D}
theorem EqE.tup (h : EqE enc) : EqE fun xs : List α => D.tup (xs.map enc) := by
  intro a
  induction a with
  | nil => intro b; cases b <;> simp
  | cons x xs ih =>
    intro b
    cases b with
    | nil => simp
    | cons y ys => simp [h x y, ih ys]
theorem memD_map (h : EqE enc) (a : α) (xs : List α) : memD (enc a) (xs.map enc) = decide (a ∈ xs) := by
  unfold memD
  induction xs with
  | nil => simp
  | cons x xs ih =>
    rw [List.map_cons, List.any_cons, ih, h x a]
    by_cases e : x = a
    · simp [e]
    · have e' : ¬ a = x := fun z => e z.symm
      simp [e, e']
theorem in_seq {d e : D} {ys : List D} (hs : seqv e δ = some ys) (hn : ∀ zs, e ≠ .sv zs) (hd : cl d = true) (hy : ys.all cl = true) : opCmp .in_ d e δ = .ok (.bl (memD d ys)) δ ∧ opCmp .nin d e δ = .ok (.bl (!memD d ys)) δ := by
  have e1 : opCmp .in_ d e δ = (match seqv e δ with | some xs => if cl d && xs.all cl then R.ok (D.bl (memD d xs)) δ else .bad | none => .bad) := by cases e <;> first | rfl | exact absurd rfl (hn _)
  have e2 : opCmp .nin d e δ = (match seqv e δ with | some xs => if cl d && xs.all cl then R.ok (D.bl (!memD d xs)) δ else .bad | none => .bad) := by cases e <;> first | rfl | exact absurd rfl (hn _)
  rw [e1, e2, hs]
  dsimp only
  rw [hd, hy]
  exact ⟨rfl, rfl⟩
theorem all_cl (hc : ∀ a, cl (enc a) = true) (xs : List α) : (xs.map enc).all cl = true := by
  rw [List.all_map]
  exact List.all_eq_true.mpr fun x _ => hc x
theorem in_fl (h : EqE enc) (hc : ∀ a, cl (enc a) = true) (a : α) (xs : List α) : opCmp .in_ (enc a) (.fl (xs.map enc)) δ = .ok (.bl (decide (a ∈ xs))) δ := by rw [(in_seq (δ := δ) (e := .fl (xs.map enc)) rfl (fun _ z => by cases z) (hc a) (all_cl hc xs)).1, memD_map h]
theorem in_tl (h : EqE enc) (hc : ∀ a, cl (enc a) = true) (a : α) (xs : List α) : opCmp .in_ (enc a) (.tl (xs.map enc)) δ = .ok (.bl (decide (a ∈ xs))) δ := by rw [(in_seq (δ := δ) (e := .tl (xs.map enc)) rfl (fun _ z => by cases z) (hc a) (all_cl hc xs)).1, memD_map h]
theorem in_tup (h : EqE enc) (hc : ∀ a, cl (enc a) = true) (a : α) (xs : List α) : opCmp .in_ (enc a) (.tup (xs.map enc)) δ = .ok (.bl (decide (a ∈ xs))) δ := by rw [(in_seq (δ := δ) (e := .tup (xs.map enc)) rfl (fun _ z => by cases z) (hc a) (all_cl hc xs)).1, memD_map h]
theorem nin_fl (h : EqE enc) (hc : ∀ a, cl (enc a) = true) (a : α) (xs : List α) : opCmp .nin (enc a) (.fl (xs.map enc)) δ = .ok (.bl (!decide (a ∈ xs))) δ := by rw [(in_seq (δ := δ) (e := .fl (xs.map enc)) rfl (fun _ z => by cases z) (hc a) (all_cl hc xs)).2, memD_map h]
theorem nin_tl (h : EqE enc) (hc : ∀ a, cl (enc a) = true) (a : α) (xs : List α) : opCmp .nin (enc a) (.tl (xs.map enc)) δ = .ok (.bl (!decide (a ∈ xs))) δ := by rw [(in_seq (δ := δ) (e := .tl (xs.map enc)) rfl (fun _ z => by cases z) (hc a) (all_cl hc xs)).2, memD_map h]
theorem nin_tup (h : EqE enc) (hc : ∀ a, cl (enc a) = true) (a : α) (xs : List α) : opCmp .nin (enc a) (.tup (xs.map enc)) δ = .ok (.bl (!decide (a ∈ xs))) δ := by rw [(in_seq (δ := δ) (e := .tup (xs.map enc)) rfl (fun _ z => by cases z) (hc a) (all_cl hc xs)).2, memD_map h]
theorem eq_enc (h : EqE enc) {a b : α} (ha : isTup (enc a) = true) (hb : isTup (enc b) = true) (ca : cl (enc a) = true) (cb : cl (enc b) = true) : opCmp .eq (enc a) (enc b) δ = .ok (.bl (decide (a = b))) δ := by
  refine eq_closed (.inl ha) (by rw [ca, cb]; rfl) ?_ (h a b)
  cases q : enc b <;> rw [q] at hb <;> first | rfl | cases hb
theorem ne_enc (h : EqE enc) {a b : α} (ha : isTup (enc a) = true) (hb : isTup (enc b) = true) (ca : cl (enc a) = true) (cb : cl (enc b) = true) : opCmp .ne (enc a) (enc b) δ = .ok (.bl (!decide (a = b))) δ := by
  have hx : ∀ d, isTup d = true → res d δ = d := fun d h => by cases d <;> first | rfl | cases h
  have : opCmp .ne (enc a) (enc b) δ = (if (cl (res (enc a) δ) && cl (res (enc b) δ)) = true then R.ok (D.bl (!deq (res (enc a) δ) (res (enc b) δ))) δ else .bad) := by
    cases q : enc a <;> rw [q] at ha <;> first | rfl | cases ha
  rw [this, hx _ ha, hx _ hb, ca, cb, h a b]
  rfl
end
/-! ### least and greatest -/
theorem minI_le : ∀ (ns : List Int) (n : Int), ∀ z ∈ n :: ns, minI n ns ≤ z
  | [], n, z, h => by simp at h; subst h; exact Int.le_refl _
  | m :: ns, n, z, h => by
    have e : minI n (m :: ns) = minI (min n m) ns := rfl
    rw [e]
    have h0 := minI_le ns (min n m) (min n m) List.mem_cons_self
    rcases List.mem_cons.mp h with rfl | h
    · omega
    · rcases List.mem_cons.mp h with rfl | h
      · omega
      · exact minI_le ns (min n m) z (List.mem_cons_of_mem _ h)
theorem minI_mem : ∀ (ns : List Int) (n : Int), minI n ns ∈ n :: ns
  | [], n => List.mem_cons_self
  | m :: ns, n => by
    have e : minI n (m :: ns) = minI (min n m) ns := rfl
    rw [e]
    rcases List.mem_cons.mp (minI_mem ns (min n m)) with h | h
    · rw [h]
      rcases Int.le_total n m with q | q
      · rw [Int.min_eq_left q]; exact List.mem_cons_self
      · rw [Int.min_eq_right q]; exact List.mem_cons_of_mem _ List.mem_cons_self
    · exact List.mem_cons_of_mem _ (List.mem_cons_of_mem _ h)
theorem minI_eq {n m : Int} {ns : List Int} (h : ∀ z ∈ n :: ns, m ≤ z) (hm : m ∈ n :: ns) : minI n ns = m := by
  have h1 := h _ (minI_mem ns n)
  have h2 := minI_le ns n m hm
  omega
theorem le_maxI : ∀ (ns : List Int) (n : Int), ∀ z ∈ n :: ns, z ≤ maxI n ns
  | [], n, z, h => by simp at h; subst h; exact Int.le_refl _
  | m :: ns, n, z, h => by
    have e : maxI n (m :: ns) = maxI (max n m) ns := rfl
    rw [e]
    have h0 := le_maxI ns (max n m) (max n m) List.mem_cons_self
    rcases List.mem_cons.mp h with rfl | h
    · omega
    · rcases List.mem_cons.mp h with rfl | h
      · omega
      · exact le_maxI ns (max n m) z (List.mem_cons_of_mem _ h)
theorem maxI_mem : ∀ (ns : List Int) (n : Int), maxI n ns ∈ n :: ns
  | [], n => List.mem_cons_self
  | m :: ns, n => by
    have e : maxI n (m :: ns) = maxI (max n m) ns := rfl
    rw [e]
    rcases List.mem_cons.mp (maxI_mem ns (max n m)) with h | h
    · rw [h]
      rcases Int.le_total n m with q | q
      · rw [Int.max_eq_right q]; exact List.mem_cons_of_mem _ List.mem_cons_self
      · rw [Int.max_eq_left q]; exact List.mem_cons_self
    · exact List.mem_cons_of_mem _ (List.mem_cons_of_mem _ h)
theorem maxI_eq {n m : Int} {ns : List Int} (h : ∀ z ∈ n :: ns, z ≤ m) (hm : m ∈ n :: ns) : maxI n ns = m := by
  have h1 := h _ (maxI_mem ns n)
  have h2 := le_maxI ns n m hm
  omega
/-! ### ranges -/
theorem rng2_nil {a b : Int} (h : b ≤ a) : rng2 a b = [] := by
  unfold rng2
  rw [show (b - a).toNat = 0 by omega]
  rfl
theorem rng2_cons {a b : Int} (h : a < b) : rng2 a b = a :: rng2 (a + 1) b := by
  unfold rng2
  obtain ⟨k, hk⟩ : ∃ k : Nat, (b - a).toNat = k + 1 := ⟨(b - a).toNat - 1, by omega⟩
  rw [hk, show (b - (a + 1)).toNat = k by omega, List.range_succ_eq_map, List.map_cons, List.map_map]
  congr 1
  · simp
  · refine List.map_congr_left fun x _ => ?_
    show a + ((x + 1 : Nat) : Int) = a + 1 + x
    omega
theorem rng_eq (b : Int) : rng b = rng2 0 b := by
  unfold rng rng2
  simp
theorem rng2_filter (c d : Int) : ∀ (k : Nat) (a b : Int), (b - a).toNat = k → (rng2 a b).filter (fun x => decide (c ≤ x ∧ x < d)) = rng2 (max a c) (min b d)
  | 0, a, b, h => by
    rw [rng2_nil (show b ≤ a by omega), rng2_nil (by omega)]
    rfl
  | k + 1, a, b, h => by
    rw [rng2_cons (show a < b by omega), List.filter_cons, rng2_filter c d k (a + 1) b (by omega)]
    by_cases h1 : c ≤ a ∧ a < d
    · rw [if_pos (decide_eq_true h1), show max a c = a by omega, show max (a + 1) c = a + 1 by omega, ← rng2_cons (by omega)]
    · rw [if_neg (by simpa using h1)]
      by_cases h2 : a < c
      · rw [show max a c = max (a + 1) c by omega]
      · rw [rng2_nil (by omega), rng2_nil (by omega)]
end Ev
set_option Elab.async false
set_option linter.all false
set_option maxRecDepth 100000
set_option maxHeartbeats 8000000
namespace K00
open PySem PySem.Spec PyProof.Rows L2 Ev
/-! ### the text of stackfirm_k00_whole_boxes_and_their_side, printed by gen.py -/
/-- demand -/
def k_demand : Fn := { ar := 2, sl := 2, keep := false, body := .seq (.ifs (.not (.var 0)) (.seq (.rais 0 (.var 1)) .skip) (.skip)) .skip }
/-- is_in -/
def k_is_in : Fn := { ar := 3, sl := 3, keep := false, body := .seq (.ret (.and (.isi .int (.var 0)) (.and (.not (.isi .bool (.var 0))) (.chain .le .le (.var 1) (.var 0) (.var 2))))) .skip }
/-- is_tuple -/
def k_is_tuple : Fn := { ar := 3, sl := 3, keep := false, body := .seq (.ret (.and (.isi .tuple (.var 0)) (.chain .le .le (.var 1) (.b1 .len (.var 0)) (.var 2)))) .skip }
/-- is_box -/
def k_is_box_c1 : X := .comp (.call 1 (.cons (.var 1) (.cons (.cint 1) (.cons (.glob 0) .nil)))) (.var 1) (.iseq (.slc (.var 0) (.cnon) (.cint 3))) (.cbl true) [1]
@[simp ↓] theorem k_is_box_c1_r {P : Pr} {C : CV} {ρ : Sg} {δ : GH} {Q : QP} {E : QE} : okR (vvR P C k_is_box_c1 ρ δ) Q E ↔ okR (vv P C k_is_box_c1 (rd ρ) δ) (qPair ρ Q) E := mM_gen rfl
@[simp ↓] theorem k_is_box_c1_m {P : Pr} {C : CV} {ρ : Sg} {δ : GH} {Q : QP} {E : QE} : okR (vvM P C k_is_box_c1 ρ δ) Q E ↔ okR (vv P C k_is_box_c1 (rd ρ) δ) (qPair ρ Q) E := mM_gen rfl
def k_is_box : Fn := { ar := 1, sl := 2, keep := false, body := .seq (.ifs (.or (.not (.call 2 (.cons (.var 0) (.cons (.cint 5) (.cons (.cint 5) .nil))))) (.not (.b1 .all (k_is_box_c1)))) (.seq (.ret (.cbl false)) .skip) (.skip)) (.seq (.ret (.and (.call 1 (.cons (.idx (.var 0) (.cint 3)) (.cons (.cint 1) (.cons (.glob 1) .nil)))) (.call 1 (.cons (.idx (.var 0) (.cint 4)) (.cons (.cint 0) (.cons (.glob 2) .nil)))))) .skip) }
/-- is_pallet -/
def k_is_pallet_c1 : X := .comp (.call 1 (.cons (.var 1) (.cons (.cint 1) (.cons (.glob 3) .nil)))) (.var 1) (.iseq (.slc (.var 0) (.cnon) (.cint 2))) (.cbl true) [1]
@[simp ↓] theorem k_is_pallet_c1_r {P : Pr} {C : CV} {ρ : Sg} {δ : GH} {Q : QP} {E : QE} : okR (vvR P C k_is_pallet_c1 ρ δ) Q E ↔ okR (vv P C k_is_pallet_c1 (rd ρ) δ) (qPair ρ Q) E := mM_gen rfl
@[simp ↓] theorem k_is_pallet_c1_m {P : Pr} {C : CV} {ρ : Sg} {δ : GH} {Q : QP} {E : QE} : okR (vvM P C k_is_pallet_c1 ρ δ) Q E ↔ okR (vv P C k_is_pallet_c1 (rd ρ) δ) (qPair ρ Q) E := mM_gen rfl
def k_is_pallet : Fn := { ar := 1, sl := 2, keep := false, body := .seq (.ifs (.or (.not (.call 2 (.cons (.var 0) (.cons (.cint 4) (.cons (.cint 4) .nil))))) (.not (.b1 .all (k_is_pallet_c1)))) (.seq (.ret (.cbl false)) .skip) (.skip)) (.seq (.ret (.and (.call 1 (.cons (.idx (.var 0) (.cint 2)) (.cons (.cint 1) (.cons (.glob 4) .nil)))) (.call 1 (.cons (.idx (.var 0) (.cint 3)) (.cons (.cint 1) (.cons (.glob 5) .nil)))))) .skip) }
/-- is_placed -/
def k_is_placed_c1 : X := .comp (.call 1 (.cons (.var 1) (.cons (.neg (.glob 7)) (.cons (.glob 7) .nil)))) (.var 1) (.iseq (.slc (.var 0) (.cint 1) (.cint 3))) (.cbl true) [1]
@[simp ↓] theorem k_is_placed_c1_r {P : Pr} {C : CV} {ρ : Sg} {δ : GH} {Q : QP} {E : QE} : okR (vvR P C k_is_placed_c1 ρ δ) Q E ↔ okR (vv P C k_is_placed_c1 (rd ρ) δ) (qPair ρ Q) E := mM_gen rfl
@[simp ↓] theorem k_is_placed_c1_m {P : Pr} {C : CV} {ρ : Sg} {δ : GH} {Q : QP} {E : QE} : okR (vvM P C k_is_placed_c1 ρ δ) Q E ↔ okR (vv P C k_is_placed_c1 (rd ρ) δ) (qPair ρ Q) E := mM_gen rfl
def k_is_placed : Fn := { ar := 1, sl := 2, keep := false, body := .seq (.ifs (.or (.not (.call 2 (.cons (.var 0) (.cons (.cint 4) (.cons (.cint 4) .nil))))) (.not (.call 3 (.cons (.idx (.var 0) (.cint 0)) .nil)))) (.seq (.ret (.cbl false)) .skip) (.skip)) (.seq (.ret (.and (.b1 .all (k_is_placed_c1)) (.call 1 (.cons (.idx (.var 0) (.cint 3)) (.cons (.cint 0) (.cons (.glob 7) .nil)))))) .skip) }
/-- is_load -/
def k_is_load_c1 : X := .comp (.call 5 (.cons (.var 1) .nil)) (.var 1) (.iseq (.idx (.var 0) (.cint 1))) (.cbl true) [1]
@[simp ↓] theorem k_is_load_c1_r {P : Pr} {C : CV} {ρ : Sg} {δ : GH} {Q : QP} {E : QE} : okR (vvR P C k_is_load_c1 ρ δ) Q E ↔ okR (vv P C k_is_load_c1 (rd ρ) δ) (qPair ρ Q) E := mM_gen rfl
@[simp ↓] theorem k_is_load_c1_m {P : Pr} {C : CV} {ρ : Sg} {δ : GH} {Q : QP} {E : QE} : okR (vvM P C k_is_load_c1 ρ δ) Q E ↔ okR (vv P C k_is_load_c1 (rd ρ) δ) (qPair ρ Q) E := mM_gen rfl
def k_is_load : Fn := { ar := 1, sl := 2, keep := false, body := .seq (.ifs (.or (.not (.call 2 (.cons (.var 0) (.cons (.cint 2) (.cons (.cint 2) .nil))))) (.or (.not (.call 4 (.cons (.idx (.var 0) (.cint 0)) .nil))) (.not (.call 2 (.cons (.idx (.var 0) (.cint 1)) (.cons (.cint 0) (.cons (.glob 6) .nil))))))) (.seq (.ret (.cbl false)) .skip) (.skip)) (.seq (.ret (.b1 .all (k_is_load_c1))) .skip) }
/-- demand_load -/
def k_demand_load : Fn := { ar := 1, sl := 1, keep := false, body := .seq (.expr (.call 0 (.cons (.call 6 (.cons (.var 0) .nil)) (.cons (.cstr "load") .nil)))) .skip }
/-- turned -/
def k_turned : Fn := { ar := 1, sl := 1, keep := false, body := .seq (.expr (.call 0 (.cons (.call 3 (.cons (.var 0) .nil)) (.cons (.cstr "box") .nil)))) (.seq (.ret (.bin .add (.tup (.cons (.idx (.var 0) (.cint 1)) (.cons (.idx (.var 0) (.cint 0)) .nil))) (.slc (.var 0) (.cint 2) (.cnon)))) .skip) }
/-- ways_to_lie -/
def k_ways_to_lie_c1 : X := .comp (.bin .add (.var 5) (.slc (.var 0) (.cint 3) (.cnon))) (.var 5) (.iseq (.var 1)) (.cbl true) [5]
@[simp ↓] theorem k_ways_to_lie_c1_r {P : Pr} {C : CV} {ρ : Sg} {δ : GH} {Q : QP} {E : QE} : okR (vvR P C k_ways_to_lie_c1 ρ δ) Q E ↔ okR (vv P C k_ways_to_lie_c1 (rd ρ) δ) (qPair ρ Q) E := mM_gen rfl
@[simp ↓] theorem k_ways_to_lie_c1_m {P : Pr} {C : CV} {ρ : Sg} {δ : GH} {Q : QP} {E : QE} : okR (vvM P C k_ways_to_lie_c1 ρ δ) Q E ↔ okR (vv P C k_ways_to_lie_c1 (rd ρ) δ) (qPair ρ Q) E := mM_gen rfl
def k_ways_to_lie : Fn := { ar := 1, sl := 6, keep := false, body := .seq (.expr (.call 0 (.cons (.call 3 (.cons (.var 0) .nil)) (.cons (.cstr "box") .nil)))) (.seq (.asg (.tup (.cons (.var 2) (.cons (.var 3) (.cons (.var 4) .nil)))) (.slc (.var 0) (.cnon) (.cint 3))) (.seq (.asg (.var 1) (.lst (.cons (.tup (.cons (.var 2) (.cons (.var 3) (.cons (.var 4) .nil)))) (.cons (.tup (.cons (.var 2) (.cons (.var 4) (.cons (.var 3) .nil)))) (.cons (.tup (.cons (.var 3) (.cons (.var 2) (.cons (.var 4) .nil)))) (.cons (.tup (.cons (.var 3) (.cons (.var 4) (.cons (.var 2) .nil)))) (.cons (.tup (.cons (.var 4) (.cons (.var 2) (.cons (.var 3) .nil)))) (.cons (.tup (.cons (.var 4) (.cons (.var 3) (.cons (.var 2) .nil)))) .nil)))))))) (.seq (.ret (.b1 .tuple (.b1 .sset (k_ways_to_lie_c1)))) .skip))) }
/-- volume -/
def k_volume : Fn := { ar := 1, sl := 1, keep := false, body := .seq (.expr (.call 0 (.cons (.call 3 (.cons (.var 0) .nil)) (.cons (.cstr "box") .nil)))) (.seq (.ret (.bin .mul (.bin .mul (.idx (.var 0) (.cint 0)) (.idx (.var 0) (.cint 1))) (.idx (.var 0) (.cint 2)))) .skip) }
/-- weight_of -/
def k_weight_of_c1 : X := .comp (.idx (.idx (.var 1) (.cint 0)) (.cint 3)) (.var 1) (.iseq (.idx (.var 0) (.cint 1))) (.cbl true) [1]
@[simp ↓] theorem k_weight_of_c1_r {P : Pr} {C : CV} {ρ : Sg} {δ : GH} {Q : QP} {E : QE} : okR (vvR P C k_weight_of_c1 ρ δ) Q E ↔ okR (vv P C k_weight_of_c1 (rd ρ) δ) (qPair ρ Q) E := mM_gen rfl
@[simp ↓] theorem k_weight_of_c1_m {P : Pr} {C : CV} {ρ : Sg} {δ : GH} {Q : QP} {E : QE} : okR (vvM P C k_weight_of_c1 ρ δ) Q E ↔ okR (vv P C k_weight_of_c1 (rd ρ) δ) (qPair ρ Q) E := mM_gen rfl
def k_weight_of : Fn := { ar := 1, sl := 2, keep := false, body := .seq (.expr (.call 7 (.cons (.var 0) .nil))) (.seq (.ret (.b1 .sum (k_weight_of_c1))) .skip) }
/-- _law_dice -/
def k__law_dice_b1 : X := .seq (.asg (.var 3) (.bin .mod (.b1 .int (.bin .add (.bin .mul (.var 3) (.cint 69621)) (.bin .mod (.b1 .int (.var 4)) (.cint 2147480009)))) (.cint 2147480009))) .skip
def k__law_dice_l1 : X := .forr false (.var 4) (.iseq (.bin .add (.slc (.var 0) (.cnon) (.cint 6)) (.lst (.cons (.var 2) .nil)))) (k__law_dice_b1)
def k__law_dice : Fn := { ar := 2, sl := 5, keep := false, body := .seq (.asg (.var 2) (.ite (.cmp .lt (.var 1) (.b1 .len (.var 0))) (.idx (.var 0) (.var 1)) (.bin .add (.bin .mul (.cint 811) (.var 1)) (.cint 37)))) (.seq (.asg (.var 3) (.bin .add (.cint 700001) (.bin .mul (.cint 6947) (.var 1)))) (.seq (k__law_dice_l1) (.seq (.ret (.lst (.cons (.ite (.or (.cmp .lt (.var 2) (.cint 0)) (.cmp .ge (.var 2) (.bin .pow (.cint 10) (.cint 16)))) (.b1 .abs (.var 2)) (.cint 0)) (.cons (.var 3) (.cons (.cint 0) .nil))))) .skip))) }
/-- _law_roll -/
def k__law_roll : Fn := { ar := 2, sl := 3, keep := false, body := .seq (.ifs (.cmp .gt (.idx (.var 0) (.cint 0)) (.cint 0)) (.seq (.asg (.var 2) (.bin .mod (.b1 .int (.idx (.var 0) (.cint 0))) (.var 1))) (.seq (.sset (.var 0) (.cint 0) (.bin .fdiv (.idx (.var 0) (.cint 0)) (.var 1))) (.seq (.ret (.var 2)) .skip))) (.skip)) (.seq (.sset (.var 0) (.cint 2) (.bin .add (.idx (.var 0) (.cint 2)) (.cint 1))) (.seq (.sset (.var 0) (.cint 1) (.bin .mod (.b1 .int (.bin .add (.bin .add (.bin .mul (.idx (.var 0) (.cint 1)) (.cint 48271)) (.bin .mul (.bin .mul (.idx (.var 0) (.cint 2)) (.idx (.var 0) (.cint 2))) (.cint 2003))) (.cint 91))) (.cint 2147480009))) (.seq (.ret (.bin .mod (.b1 .int (.bin .fdiv (.idx (.var 0) (.cint 1)) (.cint 197))) (.var 1))) .skip))) }
/-- _law_pick -/
def k__law_pick : Fn := { ar := 2, sl := 2, keep := false, body := .seq (.ret (.idx (.var 1) (.call 13 (.cons (.var 0) (.cons (.b1 .len (.var 1)) .nil))))) .skip }
/-- _law_side -/
def k__law_side : Fn := { ar := 1, sl := 1, keep := false, body := .seq (.ret (.call 14 (.cons (.var 0) (.cons (.lst (.cons (.cint 1) (.cons (.cint 2) (.cons (.cint 3) (.cons (.cint 5) (.cons (.cint 60) (.cons (.bin .add (.cint 1) (.call 13 (.cons (.var 0) (.cons (.cint 60) .nil)))) .nil))))))) .nil)))) .skip }
/-- _law_ways -/
def k__law_ways_b2 : X := .seq (.ifs (.cmp .ne (.var 2) (.var 3)) (.seq (.asg (.var 4) (.bin .add (.tup (.cons (.idx (.var 0) (.var 2)) (.cons (.idx (.var 0) (.var 3)) (.cons (.idx (.var 0) (.bin .sub (.bin .sub (.cint 3) (.var 2)) (.var 3))) .nil)))) (.slc (.var 0) (.cint 3) (.cnon)))) (.seq (.ifs (.cmp .nin (.var 4) (.var 1)) (.seq (.expr (.m1 .append (.var 1) (.var 4))) .skip) (.skip)) .skip)) (.skip)) .skip
def k__law_ways_l2 : X := .forr false (.var 3) (.irng (.cons (.cint 3) .nil)) (k__law_ways_b2)
def k__law_ways_b1 : X := .seq (k__law_ways_l2) .skip
def k__law_ways_l1 : X := .forr false (.var 2) (.irng (.cons (.cint 3) .nil)) (k__law_ways_b1)
def k__law_ways : Fn := { ar := 1, sl := 5, keep := false, body := .seq (.asg (.var 1) (.lst (.nil))) (.seq (k__law_ways_l1) (.seq (.ret (.b1 .tuple (.b1 .sorted (.var 1)))) .skip)) }
/-- law -/
def k_law_b2_s2 : X := .seq (.ifs (.cmp .ne (.thunk 0 (.call 11 (.cons (.tup (.cons (.idx (.var 5) (.cint 0)) (.cons (.tup (.cons (.tup (.cons (.var 10) (.cons (.cint 0) (.cons (.cint 0) (.cons (.cint 0) .nil))))) .nil)) .nil))) .nil))) (.cstr "load")) (.seq (.ret (.cbl false)) .skip) (.skip)) .skip
def k_law_b2_s1 : X := .seq (.ifs (.cmp .ne (.thunk 0 (.call 8 (.cons (.var 10) .nil))) (.cstr "box")) (.seq (.ret (.cbl false)) .skip) (.skip)) (k_law_b2_s2)
def k_law_b2 : X := .seq (.asg (.var 10) (.bin .add (.bin .add (.slc (.var 2) (.cnon) (.var 6)) (.tup (.cons (.var 9) .nil))) (.slc (.var 2) (.bin .add (.var 6) (.cint 1)) (.cnon)))) (k_law_b2_s1)
def k_law_l2 : X := .forr false (.var 9) (.iseq (.tup (.cons (.bin .sub (.var 7) (.cint 1)) (.cons (.bin .add (.var 8) (.cint 1)) (.cons (.cnon) (.cons (.cstr "1") (.cons (.cbl true) .nil))))))) (k_law_b2)
def k_law_b1_s9 : X := .seq (k_law_l2) .skip
def k_law_b1_s8 : X := .seq (.asg (.var 8) (.idx (.tup (.cons (.cint 60) (.cons (.cint 60) (.cons (.cint 60) (.cons (.cint 1000) (.cons (.cint 100000) .nil)))))) (.var 6))) (k_law_b1_s9)
def k_law_b1_s7 : X := .seq (.asg (.var 7) (.ite (.cmp .eq (.var 6) (.cint 4)) (.cint 0) (.cint 1))) (k_law_b1_s8)
def k_law_b1_s6 : X := .seq (.asg (.var 6) (.call 13 (.cons (.var 4) (.cons (.cint 5) .nil)))) (k_law_b1_s7)
def k_law_b1_s5 : X := .seq (.ifs (.cmp .ne (.callk 11 [0] (.cons (.var 5) .nil)) (.bin .mul (.idx (.var 2) (.cint 3)) (.b1 .len (.idx (.var 5) (.cint 1))))) (.seq (.ret (.cbl false)) .skip) (.skip)) (k_law_b1_s6)
def k_law_b1_s4 : X := .seq (.asg (.var 5) (.tup (.cons (.tup (.cons (.cint 120) (.cons (.cint 1) (.cons (.cint 1000000) (.cons (.cint 400) .nil))))) (.cons (.bin .mul (.tup (.cons (.tup (.cons (.var 2) (.cons (.neg (.cint 400)) (.cons (.cint 400) (.cons (.cint 0) .nil))))) .nil)) (.call 13 (.cons (.var 4) (.cons (.cint 9) .nil)))) .nil)))) (k_law_b1_s5)
def k_law_b1_s3 : X := .seq (.ifs (.or (.cmp .ne (.callk 9 [0] (.cons (.var 2) .nil)) (.call 16 (.cons (.var 2) .nil))) (.cmp .ne (.callk 10 [0] (.cons (.var 2) .nil)) (.bin .mul (.bin .mul (.idx (.var 2) (.cint 0)) (.idx (.var 2) (.cint 1))) (.idx (.var 2) (.cint 2))))) (.seq (.ret (.cbl false)) .skip) (.skip)) (k_law_b1_s4)
def k_law_b1_s2 : X := .seq (.ifs (.or (.cmp .ne (.callk 8 [0] (.cons (.var 2) .nil)) (.tup (.cons (.idx (.var 2) (.cint 1)) (.cons (.idx (.var 2) (.cint 0)) (.cons (.idx (.var 2) (.cint 2)) (.cons (.idx (.var 2) (.cint 3)) (.cons (.idx (.var 2) (.cint 4)) .nil))))))) (.cmp .ne (.call 8 (.cons (.call 8 (.cons (.var 2) .nil)) .nil)) (.var 2))) (.seq (.ret (.cbl false)) .skip) (.skip)) (k_law_b1_s3)
def k_law_b1_s1 : X := .seq (.asg (.var 2) (.tup (.cons (.call 15 (.cons (.var 4) .nil)) (.cons (.call 15 (.cons (.var 4) .nil)) (.cons (.call 15 (.cons (.var 4) .nil)) (.cons (.bin .add (.cint 1) (.call 13 (.cons (.var 4) (.cons (.cint 1000) .nil)))) (.cons (.call 13 (.cons (.var 4) (.cons (.cint 100001) .nil))) .nil))))))) (k_law_b1_s2)
def k_law_b1 : X := .seq (.asg (.var 4) (.call 12 (.cons (.var 0) (.cons (.var 1) .nil)))) (k_law_b1_s1)
def k_law_l1 : X := .forr false (.var 1) (.irng (.cons (.mx (.cint 1) (.mn (.cint 12) (.b1 .len (.var 0)))) .nil)) (k_law_b1)
def k_law_s3 : X := .seq (.ret (.and (.cmp .eq (.var 3) (.bin .add (.lst (.cons (.cstr "box") (.cons (.cstr "box") .nil))) (.bin .mul (.lst (.cons (.cstr "load") .nil)) (.cint 7)))) (.and (.cmp .eq (.b1 .len (.call 9 (.cons (.var 2) .nil))) (.cint 6)) (.cmp .eq (.call 11 (.cons (.tup (.cons (.tup (.cons (.cint 1) (.cons (.cint 1) (.cons (.cint 1) (.cons (.cint 1) .nil))))) (.cons (.tup (.nil)) .nil))) .nil)) (.cint 0))))) .skip
def k_law_s2 : X := .seq (.asg (.var 3) (.lst (.cons (.thunk 0 (.call 10 (.cons (.b1 .list (.var 2)) .nil))) (.cons (.thunk 0 (.call 9 (.cons (.slc (.var 2) (.cnon) (.cint 4)) .nil))) (.cons (.thunk 0 (.call 11 (.cons (.tup (.cons (.tup (.cons (.cint 1) (.cons (.cint 1) (.cons (.cint 1) (.cons (.cint 1) .nil))))) (.cons (.bin .mul (.tup (.cons (.tup (.cons (.var 2) (.cons (.cint 0) (.cons (.cint 0) (.cons (.cint 0) .nil))))) .nil)) (.cint 9)) .nil))) .nil))) (.cons (.thunk 0 (.call 11 (.cons (.tup (.cons (.tup (.cons (.cint 121) (.cons (.cint 1) (.cons (.cint 1) (.cons (.cint 1) .nil))))) (.cons (.tup (.nil)) .nil))) .nil))) (.cons (.thunk 0 (.call 11 (.cons (.tup (.cons (.tup (.cons (.cint 1) (.cons (.cint 1) (.cons (.cint 1000001) (.cons (.cint 1) .nil))))) (.cons (.tup (.nil)) .nil))) .nil))) (.cons (.thunk 0 (.call 11 (.cons (.tup (.cons (.tup (.cons (.cint 1) (.cons (.cint 1) (.cons (.cint 1) (.cons (.cint 401) .nil))))) (.cons (.tup (.nil)) .nil))) .nil))) (.cons (.thunk 0 (.call 11 (.cons (.tup (.cons (.tup (.cons (.cint 1) (.cons (.cint 1) (.cons (.cint 1) (.cons (.cint 1) .nil))))) (.cons (.tup (.cons (.tup (.cons (.var 2) (.cons (.cint 401) (.cons (.cint 0) (.cons (.cint 0) .nil))))) .nil)) .nil))) .nil))) (.cons (.thunk 0 (.call 11 (.cons (.tup (.cons (.tup (.cons (.cint 1) (.cons (.cint 1) (.cons (.cint 1) (.cons (.cint 1) .nil))))) (.cons (.tup (.cons (.tup (.cons (.var 2) (.cons (.cint 0) (.cons (.cint 0) (.cons (.neg (.cint 1)) .nil))))) .nil)) .nil))) .nil))) (.cons (.thunk 0 (.call 11 (.cons (.cnon) .nil))) .nil))))))))))) (k_law_s3)
def k_law_s1 : X := .seq (.asg (.var 2) (.tup (.cons (.cint 1) (.cons (.cint 2) (.cons (.cint 3) (.cons (.cint 4) (.cons (.cint 5) .nil))))))) (k_law_s2)
def k_law : Fn := { ar := 1, sl := 11, keep := false, body := .seq (k_law_l1) (k_law_s1) }
def P : Pr := { fns := [k_demand, k_is_in, k_is_tuple, k_is_box, k_is_pallet, k_is_placed, k_is_load, k_demand_load, k_turned, k_ways_to_lie, k_volume, k_weight_of, k__law_dice, k__law_roll, k__law_pick, k__law_side, k__law_ways, k_law], cs := [.int 60, .int 1000, .int 100000, .int 120, .int 1000000, .int 400, .int 8, .int 400], w := 4096, th := [(0, none)] }
@[simp] theorem cs_0 : P.cs[0]? = some (.int 60) := rfl
@[simp] theorem cs_1 : P.cs[1]? = some (.int 1000) := rfl
@[simp] theorem cs_2 : P.cs[2]? = some (.int 100000) := rfl
@[simp] theorem cs_3 : P.cs[3]? = some (.int 120) := rfl
@[simp] theorem cs_4 : P.cs[4]? = some (.int 1000000) := rfl
@[simp] theorem cs_5 : P.cs[5]? = some (.int 400) := rfl
@[simp] theorem cs_6 : P.cs[6]? = some (.int 8) := rfl
@[simp] theorem cs_7 : P.cs[7]? = some (.int 400) := rfl
@[simp] theorem th_0 : P.th[0]? = (some (0, none) : Option (Nat × Option Str)) := rfl
@[simp] theorem kp (j : Nat) : P.keepOf j = false := by
  unfold Pr.keepOf
  by_cases h : j < P.fns.length
  · have : ∀ j, j < P.fns.length → (match P.fns[j]? with | some f => f.keep | none => false) = false := by decide +kernel
    exact this j h
  · rw [List.getElem?_eq_none (Nat.le_of_not_lt h)]
end K00
set_option Elab.async false
set_option linter.all false
set_option maxRecDepth 100000
set_option maxHeartbeats 8000000
namespace K00
open PySem PySem.Spec PyProof.Rows L2 Ev
variable {n : Nat} {δ : GH}
/-! ### the checks of arguments -/
@[simp] theorem e_is_in (v lo hi : Int) : callV P (n + 1) 1 [.int v, .int lo, .int hi] δ = .ok (.bl (decide (lo ≤ v ∧ v ≤ hi))) δ := by
  rw [callV_succ (f := k_is_in) rfl rfl]
  apply eq_ok
  simp [k_is_in, isTy]
  grind
@[simp] theorem e_demand_t (x : Str) : callV P (n + 1) 0 [.bl true, .str x] δ = .ok .non δ := by
  rw [callV_succ (f := k_demand) rfl rfl]
  apply eq_ok
  simp [k_demand]
theorem e_demand_f (x : Str) (h : PyData.strOk x = true) : callV P (n + 1) 0 [.bl false, .str x] δ = .exc 0 (.str x) δ := by
  rw [callV_succ (f := k_demand) rfl rfl]
  apply eq_exc
  simp [k_demand, h]
@[simp] theorem e_is_tuple (x : List D) (lo hi : Int) : callV P (n + 1) 2 [.tup x, .int lo, .int hi] δ = .ok (.bl (decide (lo ≤ x.length ∧ (x.length : Int) ≤ hi))) δ := by
  rw [callV_succ (f := k_is_tuple) rfl rfl]
  apply eq_ok
  simp [k_is_tuple, isTy]
  grind
theorem e_is_tuple_no {d : D} (lo hi : Int) (hn : rd1 (some d) = some d) (h : isTy .tuple (lr d) = some false) : callV P (n + 1) 2 [d, .int lo, .int hi] δ = .ok (.bl false) δ := by
  rw [callV_succ (f := k_is_tuple) rfl rfl]
  apply eq_ok
  simp [k_is_tuple, h, hn]
structure Bx where
  a : Int
  b : Int
  c : Int
  w : Int
  s : Int
def encB (x : Bx) : D := .tup [.int x.a, .int x.b, .int x.c, .int x.w, .int x.s]
@[simp] theorem nb_encB (x : Bx) : nb (encB x) = true := nbI rfl
@[simp] theorem ck_encB (n : Nat) (x : Bx) : ck (n + 1) (encB x) = true := by simp [encB]
structure BxOk (x : Bx) : Prop where
  a : 1 ≤ x.a ∧ x.a ≤ 60
  b : 1 ≤ x.b ∧ x.b ≤ 60
  c : 1 ≤ x.c ∧ x.c ≤ 60
  w : 1 ≤ x.w ∧ x.w ≤ 1000
  s : 0 ≤ x.s ∧ x.s ≤ 100000
theorem e_is_box {x : Bx} (h : BxOk x) : callV P (n + 2) 3 [encB x] δ = .ok (.bl true) δ := by
  rw [callV_succ (f := k_is_box) rfl rfl]
  apply eq_ok
  obtain ⟨h1, h2, h3, h4, h5⟩ := h
  simp [k_is_box, encB, e_is_tuple, e_is_in, k_is_box_c1, m_comp, m_loop_cons, m_loop_nil, Ev.cutD, HT.sIx, h1, h2, h3, h4, h5]
theorem e_is_box_no {d : D} (hn : rd1 (some d) = some d) (hb : bo d = d) (h : isTy .tuple (lr d) = some false) : callV P (n + 2) 3 [d] δ = .ok (.bl false) δ := by
  rw [callV_succ (f := k_is_box) rfl rfl]
  apply eq_ok
  simp [k_is_box, e_is_tuple_no, h, hn, hb]
theorem e_is_box_len (x : List D) (h : x.length ≠ 5) : callV P (n + 2) 3 [.tup x] δ = .ok (.bl false) δ := by
  rw [callV_succ (f := k_is_box) rfl rfl]
  apply eq_ok
  have : ¬ (5 ≤ x.length ∧ x.length ≤ 5) := by omega
  simp [k_is_box, e_is_tuple]
  grind
structure Pl where
  bx : Bx
  x : Int
  y : Int
  z : Int
def encP (p : Pl) : D := .tup [encB p.bx, .int p.x, .int p.y, .int p.z]
@[simp] theorem nb_encP (x : Pl) : nb (encP x) = true := nbI rfl
@[simp] theorem ck_encP (n : Nat) (x : Pl) : ck (n + 2) (encP x) = true := by simp [encP]
structure PlOk (p : Pl) : Prop where
  bx : BxOk p.bx
  x : -400 ≤ p.x ∧ p.x ≤ 400
  y : -400 ≤ p.y ∧ p.y ≤ 400
  z : 0 ≤ p.z ∧ p.z ≤ 400
theorem e_is_placed {p : Pl} (h : PlOk p) : callV P (n + 3) 5 [encP p] δ = .ok (.bl true) δ := by
  rw [callV_succ (f := k_is_placed) rfl rfl]
  apply eq_ok
  obtain ⟨h1, h2, h3, h4⟩ := h
  simp [k_is_placed, encP, e_is_tuple, e_is_in, e_is_box, k_is_placed_c1, m_comp, m_loop_cons, m_loop_nil, Ev.cutD, HT.sIx, h1, h2, h3, h4]
structure Ld where
  w : Int
  l : Int
  m : Int
  h : Int
  ps : List Pl
def encS (d : Ld) : D := .tup [.int d.w, .int d.l, .int d.m, .int d.h]
def encL (d : Ld) : D := .tup [.tup [.int d.w, .int d.l, .int d.m, .int d.h], .tup (d.ps.map encP)]
@[simp] theorem nb_encL (x : Ld) : nb (encL x) = true := nbI rfl
@[simp] theorem ck_encL (n : Nat) (x : Ld) : ck (n + 4) (encL x) = true := by simp [encL]
structure LdOk (d : Ld) : Prop where
  w : 1 ≤ d.w ∧ d.w ≤ 120
  l : 1 ≤ d.l ∧ d.l ≤ 120
  m : 1 ≤ d.m ∧ d.m ≤ 1000000
  h : 1 ≤ d.h ∧ d.h ≤ 400
  len : d.ps.length ≤ 8
  ps : ∀ p ∈ d.ps, PlOk p
theorem e_is_pallet (w l m h : Int) (h1 : 1 ≤ w ∧ w ≤ 120) (h2 : 1 ≤ l ∧ l ≤ 120) (h3 : 1 ≤ m ∧ m ≤ 1000000) (h4 : 1 ≤ h ∧ h ≤ 400) : callV P (n + 2) 4 [.tup [.int w, .int l, .int m, .int h]] δ = .ok (.bl true) δ := by
  rw [callV_succ (f := k_is_pallet) rfl rfl]
  apply eq_ok
  simp [k_is_pallet, e_is_tuple, e_is_in, k_is_pallet_c1, m_comp, m_loop_cons, m_loop_nil, Ev.cutD, HT.sIx, h1, h2, h3, h4]
theorem c_is_load {d : Ld} (h : LdOk d) (v : Option D) : vv P (callV P (n + 3)) k_is_load_c1 [some (encL d), v] δ = .ok (.tl (d.ps.map fun _ => .bl true)) δ := by
  have hl := h.len
  unfold k_is_load_c1
  refine comp_all (enc := encP) d.ps (by simp [encL]) (by omega) fun p hp => ?_
  simp [e_is_placed (h.ps p hp)]
theorem all_true {α : Type} (l : List α) : boolsD (l.map fun _ => D.bl true) = some (l.map fun _ => true) := by
  have := boolsD_map (l.map fun _ => true)
  rw [List.map_map] at this
  exact this
theorem e_is_load {d : Ld} (h : LdOk d) : callV P (n + 4) 6 [encL d] δ = .ok (.bl true) δ := by
  rw [callV_succ (f := k_is_load) rfl rfl]
  apply eq_ok
  have hl : d.ps.length ≤ 8 := h.len
  have hl' : (d.ps.length : Int) ≤ 8 := by omega
  have c1 := fun (v : Option D) => c_is_load (n := n) (δ := δ) h v
  rw [show (encL d) = .tup [.tup [.int d.w, .int d.l, .int d.m, .int d.h], .tup (d.ps.map encP)] from rfl] at c1 ⊢
  simp [k_is_load, e_is_tuple, e_is_pallet _ _ _ _ h.w h.l h.m h.h, c1, all_true, hl']
theorem e_is_load_no {d : D} (hn : rd1 (some d) = some d) (hb : bo d = d) (h : isTy .tuple (lr d) = some false) : callV P (n + 4) 6 [d] δ = .ok (.bl false) δ := by
  rw [callV_succ (f := k_is_load) rfl rfl]
  apply eq_ok
  simp [k_is_load, e_is_tuple_no, h, hn, hb]
theorem e_demand_load {d : Ld} (h : LdOk d) : callV P (n + 5) 7 [encL d] δ = .ok .non δ := by
  rw [callV_succ (f := k_demand_load) rfl rfl]
  apply eq_ok
  simp [k_demand_load, e_is_load h, e_demand_t]
theorem s_load : PyData.strOk ("load" : Str) = true := by decide +kernel
theorem e_demand_load_no {d : D} (hn : rd1 (some d) = some d) (hb : bo d = d) (h : isTy .tuple (lr d) = some false) : callV P (n + 5) 7 [d] δ = .exc 0 (.str "load") δ := by
  rw [callV_succ (f := k_demand_load) rfl rfl]
  apply eq_exc
  simp [k_demand_load, hn, hb, e_is_load_no hn hb h, e_demand_f "load" s_load, s_load]
/-! ### bases, tops, shared rectangles -/
def topP (p : Pl) : Int := p.z + p.bx.c
structure Rc where
  x : Int
  y : Int
  u : Int
  v : Int
def encRc (r : Rc) : D := .tup [.int r.x, .int r.y, .int r.u, .int r.v]
@[simp] theorem nb_encRc (r : Rc) : nb (encRc r) = true := nbI rfl
@[simp] theorem pl_encRc (r : Rc) : pl (encRc r) = true := by simp [encRc]
@[simp] theorem ck_encRc (n : Nat) (r : Rc) : ck (n + 1) (encRc r) = true := by simp [encRc]
def encRo (o : Option Rc) : D := match o with
  | some r => encRc r
  | none => .non
@[simp] theorem encRo_some (r : Rc) : encRo (some r) = encRc r := rfl
@[simp] theorem encRo_none : encRo none = .non := rfl
def sharedB (a b c d a' b' c' d' : Int) : Bool := decide (max a a' < min c c') && decide (max b b' < min d d')
def sharedO (a b c d a' b' c' d' : Int) : Option Rc := if sharedB a b c d a' b' c' d' then some ⟨max a a', max b b', min c c', min d d'⟩ else none
@[simp] theorem sharedO_some (a b c d a' b' c' d' : Int) : (sharedO a b c d a' b' c' d').isSome = sharedB a b c d a' b' c' d' := by unfold sharedO; split <;> simp_all
@[simp] theorem nb_encRo (o : Option Rc) : nb (encRo o) = true := by cases o <;> rfl
@[simp] theorem ck_encRo (n : Nat) (o : Option Rc) : ck (n + 1) (encRo o) = true := by cases o <;> simp
@[simp] theorem isNon_encRc (r : Rc) : isNon (encRc r) = false := rfl
@[simp] theorem isNon_encRo (o : Option Rc) : isNon (encRo o) = o.isNone := by cases o <;> rfl
@[simp] theorem truth_encRo (o : Option Rc) : truth (encRo o) δ = some o.isSome := by cases o <;> rfl
end K00
set_option Elab.async false
set_option linter.all false
set_option maxRecDepth 100000
set_option maxHeartbeats 8000000
namespace K00
open PySem PySem.Spec PyProof.Rows L2 Ev
variable {n : Nat} {δ : GH}
theorem okR_roll {N : Nat} {t : Int} {Q : D → GH → Prop} {E : Nat → D → GH → Prop} (h : Dc N δ) (hN : 1 ≤ N) (ht : 0 < t ∧ t < 1073741824)
    (hQ : ∀ (v : Int) (δ' : GH), 0 ≤ v → v < t → Dc (N - 1) δ' → Q (.int v) δ') : okR (callV P (n + 1) 13 [.ref 0, .int t] δ) Q E := by
  obtain ⟨g, m, c, rfl, hc, hc2⟩ := h
  rw [callV_succ (f := k__law_roll) rfl rfl]
  have hm : mulOk m 48271 = true := by unfold mulOk; simp
  have hm2 : mulOk (c + 1) (c + 1) = true := by unfold mulOk; simp; omega
  have hm3 : mulOk ((c + 1) * (c + 1)) 2003 = true := by unfold mulOk; simp
  simp [k__law_roll, setV_eq, setO, hm, hm2, hm3, ht]
  refine ⟨fun hg => ?_, fun hg => ?_⟩
  · exact hQ _ _ (Int.emod_nonneg _ (by omega)) (Int.emod_lt_of_pos _ ht.1) ⟨_, _, _, rfl, by omega, by omega⟩
  · exact hQ _ _ (Int.emod_nonneg _ (by omega)) (Int.emod_lt_of_pos _ ht.1) ⟨_, _, _, rfl, by omega, by omega⟩
theorem okR_pick {N : Nat} {items : List D} {Q : D → GH → Prop} {E : Nat → D → GH → Prop} (h : Dc N δ) (hN : 1 ≤ N) (hi : 0 < items.length ∧ items.length < 1073741824) (hcl : ∀ d ∈ items, cl d = true)
    (hQ : ∀ v ∈ items, ∀ δ' : GH, Dc (N - 1) δ' → Q v δ') : okR (callV P (n + 2) 14 [.ref 0, .bw items] δ) Q E := by
  rw [callV_succ (f := k__law_pick) rfl rfl]
  simp [k__law_pick]
  refine okR_roll h hN (by omega) fun v δ' h1 h2 h3 => ?_
  obtain ⟨k, rfl⟩ := Int.eq_ofNat_of_zero_le h1
  have hk : k < items.length := by omega
  have hm := List.getElem_mem hk
  simp [Ev.atI_nat, List.getElem?_eq_getElem hk]
  exact hQ _ hm _ h3
theorem e_dice (ns : List Int) (i : Int) (hl : ns.length ≤ 63) (h0 : 0 ≤ i) (h1 : i ≤ 63) : ∃ g m : Int, callV P (n + 1) 12 [.fl (ns.map D.int), .int i] δ = .ok (.tl [.int g, .int m, .int 0]) δ := by
  have key : okR (callV P (n + 1) 12 [.fl (ns.map D.int), .int i] δ) (fun d δ' => δ' = δ ∧ ∃ g m : Int, d = .tl [.int g, .int m, .int 0]) no3 := by
    rw [callV_succ (f := k__law_dice) rfl rfl]
    have hm : ∀ m : Int, mulOk m 69621 = true := fun m => by unfold mulOk; simp
    have hm1 : ∀ m : Int, mulOk 811 m = true := fun m => by unfold mulOk; simp
    have hm2 : ∀ m : Int, mulOk 6947 m = true := fun m => by unfold mulOk; simp
    have pw : ∀ S : GH, opBin .pow (.int 10) (.int 16) S = .ok (.int 10000000000000000) S := fun S => rfl
    rw [okR_toR]
    show okS (vvS P (callV P n) (.seq _ (.seq _ (.seq _ _))) [some (.fl (ns.map D.int)), some (.int i), none, none, none] δ) _
    refine cutQ (N := fun σ S => ∃ own : Int, σ = [some (.fl (ns.map D.int)), some (.int i), some (.int own), none, none] ∧ δ = S) ?_ ?_
    · simp [hm1]
      intro hi
      obtain ⟨k, rfl⟩ := Int.eq_ofNat_of_zero_le h0
      have hk : k < ns.length := by omega
      rw [Ev.atI_nat, List.getElem?_map, List.getElem?_eq_getElem hk]
      simp
    rintro σ S ⟨own, rfl, rfl⟩
    refine cutQ (N := fun σ S => ∃ m : Int, σ = [some (.fl (ns.map D.int)), some (.int i), some (.int own), some (.int m), none] ∧ δ = S) ?_ ?_
    · simp [hm2]
    rintro σ S ⟨m, rfl, rfl⟩
    refine cutQ (N := fun σ S => ∃ m : Int, σ = [some (.fl (ns.map D.int)), some (.int i), some (.int own), some (.int m), none] ∧ δ = S) ?_ ?_
    · refine for_v (enc := D.int) (I := fun _ ρ' δ' => δ' = δ ∧ ∃ m : Int, ρ' = [some (.fl (ns.map D.int)), some (.int i), some (.int own), some (.int m), none]) (ns.take 6 ++ [own]) ?_ ⟨rfl, m, rfl⟩ ?_ ?_
      · simp [Ev.cutD, HT.sIx]
        omega
      · rintro x xs ρ' δ' ⟨rfl, m, rfl⟩
        simp [k__law_dice_b1, hm, lkX]
      · rintro ρ' δ' ⟨rfl, m, rfl⟩
        simp [lkX]
    rintro σ S ⟨m, rfl, rfl⟩
    simp [pw]
  cases e : callV P (n + 1) 12 [.fl (ns.map D.int), .int i] δ with
  | ok d δ' => rw [e] at key; obtain ⟨rfl, g, m, rfl⟩ := key; exact ⟨g, m, rfl⟩
  | exc c d δ' => rw [e] at key; exact key.elim
  | bad => rw [e] at key; exact key.elim
end K00
set_option Elab.async false
set_option linter.all false
set_option maxRecDepth 100000
set_option maxHeartbeats 8000000
namespace K00
open PySem PySem.Spec PyProof.Rows L2 Ev
variable {n : Nat} {δ : GH}
theorem s_box : PyData.strOk ("box" : Str) = true := by decide +kernel
@[simp] theorem encB_0 (p : Bx) : opIdx (encB p) (.int 0) δ = .ok (.int p.a) δ := rfl
@[simp] theorem encB_1 (p : Bx) : opIdx (encB p) (.int 1) δ = .ok (.int p.b) δ := rfl
@[simp] theorem encB_2 (p : Bx) : opIdx (encB p) (.int 2) δ = .ok (.int p.c) δ := rfl
@[simp] theorem encB_3 (p : Bx) : opIdx (encB p) (.int 3) δ = .ok (.int p.w) δ := rfl
@[simp] theorem encB_4 (p : Bx) : opIdx (encB p) (.int 4) δ = .ok (.int p.s) δ := rfl
/-! ### the program -/
def trn (x : Bx) : Bx := ⟨x.b, x.a, x.c, x.w, x.s⟩
theorem trn_ok {x : Bx} (h : BxOk x) : BxOk (trn x) := ⟨h.b, h.a, h.c, h.w, h.s⟩
theorem sl2 (x : Bx) : opSl (encB x) (some 2) none δ = .ok (.tup [.int x.c, .int x.w, .int x.s]) δ := rfl
theorem sl3 (x : Bx) : opSl (encB x) (some 3) none δ = .ok (.tup [.int x.w, .int x.s]) δ := rfl
theorem sl03 (x : Bx) : opSl (encB x) none (some 3) δ = .ok (.tup [.int x.a, .int x.b, .int x.c]) δ := rfl
theorem e_turned {x : Bx} (h : BxOk x) : callV P (n + 3) 8 [encB x] δ = .ok (encB (trn x)) δ := by
  rw [callV_succ (f := k_turned) rfl rfl]
  apply eq_ok
  have e1 := fun δ => e_is_box (n := n) (δ := δ) h
  have s2 := fun δ => sl2 (δ := δ) x
  simp [k_turned, e1, s2]
  simp [encB, trn]
theorem e_volume {x : Bx} (h : BxOk x) : callV P (n + 3) 10 [encB x] δ = .ok (.int (x.a * x.b * x.c)) δ := by
  rw [callV_succ (f := k_volume) rfl rfl]
  apply eq_ok
  have e1 := fun δ => e_is_box (n := n) (δ := δ) h
  have m1 : mulOk x.a x.b = true := mulOk_l (by have := h.a; omega)
  have m2 : mulOk (x.a * x.b) x.c = true := mulOk_r (by have := h.c; omega)
  simp [k_volume, e1, m1, m2]
/-- the six ways -/
def sixB (x : Bx) : List Bx := [⟨x.a, x.b, x.c, x.w, x.s⟩, ⟨x.a, x.c, x.b, x.w, x.s⟩, ⟨x.b, x.a, x.c, x.w, x.s⟩, ⟨x.b, x.c, x.a, x.w, x.s⟩, ⟨x.c, x.a, x.b, x.w, x.s⟩, ⟨x.c, x.b, x.a, x.w, x.s⟩]
def ways (x : Bx) : List D := isort dle (dedupD ((sixB x).map encB))
theorem ss_six {x : Bx} (h : BxOk x) : ssOk ((sixB x).map encB) = true := by
  obtain ⟨h1, h2, h3, h4, h5⟩ := h
  simp [ssOk, sixB, encB, tupI, intsD]
  omega
theorem e_ways {x : Bx} (h : BxOk x) : callV P (n + 3) 9 [encB x] δ = .ok (.tup (ways x)) δ := by
  rw [callV_succ (f := k_ways_to_lie) rfl rfl]
  apply eq_ok
  have e1 := fun δ => e_is_box (n := n) (δ := δ) h
  have s3 := fun δ => sl3 (δ := δ) x
  have s0 := fun δ => sl03 (δ := δ) x
  have c1 : ∀ (δ : GH) (o2 o3 o4 o5 : Option D), vv P (callV P (n + 2)) k_ways_to_lie_c1 [some (encB x), some (.bw [.tup [.int x.a, .int x.b, .int x.c], .tup [.int x.a, .int x.c, .int x.b], .tup [.int x.b, .int x.a, .int x.c], .tup [.int x.b, .int x.c, .int x.a], .tup [.int x.c, .int x.a, .int x.b], .tup [.int x.c, .int x.b, .int x.a]]), o2, o3, o4, o5] δ = .ok (.tl ((sixB x).map encB)) δ := fun δ o2 o3 o4 o5 => by
    apply eq_ok
    unfold k_ways_to_lie_c1
    simp [m_comp, m_loop_cons, m_loop_nil, s3, sixB, encB, Ev.cutD, HT.sIx]
  have es : ∀ δ, opB1 .sset (.tl ((sixB x).map encB)) δ = .ok (.tl (ways x)) δ := fun δ => by
    show (if ssOk ((sixB x).map encB) then R.ok (D.tl (isort dle (dedupD ((sixB x).map encB)))) δ else .bad) = _
    rw [if_pos (ss_six h)]
    rfl
  generalize hsx : (sixB x).map encB = sx at c1 es
  have hcl : ∀ y ∈ ways x, cl y = true := fun y hy => by
    have := dedup_mem (isort_mem hy)
    obtain ⟨b, _, rfl⟩ := List.mem_map.mp this
    simp
  simp [k_ways_to_lie, e1, s0, c1, es]
  try exact hcl
/-! ### the law's ways -/
def sd (x : Bx) (i : Int) : Int := if i = 0 then x.a else if i = 1 then x.b else x.c
theorem idx_sd {x : Bx} {i : Int} (h : i = 0 ∨ i = 1 ∨ i = 2) : opIdx (encB x) (.int i) δ = .ok (.int (sd x i)) δ := by
  rcases h with rfl | rfl | rfl <;> simp [sd]
def own (x : Bx) (i j : Int) : D := .tup [.int (sd x i), .int (sd x j), .int (sd x (3 - i - j)), .int x.w, .int x.s]
theorem cl_own (x : Bx) (i j : Int) : cl (own x i j) = true := by simp [own]
@[simp] theorem nb_own (x : Bx) (i j : Int) : nb (own x i j) = true := nbI rfl
def put (acc : List D) (y : D) : List D := if memD y acc then acc else acc ++ [y]
def stp (x : Bx) (i : Int) (acc : List D) (j : Int) : List D := if i = j then acc else put acc (own x i j)
theorem ways_fold (x : Bx) : [0, 1, 2].foldl (fun s i => [0, 1, 2].foldl (stp x i) s) [] = dedupD ((sixB x).map encB) := by
  have e : dedupD ((sixB x).map encB) = ((sixB x).map encB).foldl put [] := rfl
  rw [e]
  simp [stp, sixB, own, sd, encB]
theorem cl_put {acc : List D} {y : D} (h : ∀ z ∈ acc, cl z = true) (hy : cl y = true) : ∀ z ∈ put acc y, cl z = true := fun z hz => by
  unfold put at hz
  split at hz
  · exact h z hz
  · rcases List.mem_append.mp hz with hz | hz
    · exact h z hz
    · have : z = y := by simpa using hz
      rw [this]; exact hy
theorem put_len (acc : List D) (y : D) : (put acc y).length ≤ acc.length + 1 := by unfold put; split <;> simp
theorem lw_inner {x : Bx} {i : Int} (hi : i = 0 ∨ i = 1 ∨ i = 2) (o3 o4 : Option D) (s : List D) (hs : s.length ≤ 10) (hcl : ∀ z ∈ s, cl z = true) (k : Kt)
    (hk : ([0, 1, 2].foldl (stp x i) s).length ≤ s.length + 3 → (∀ z ∈ [0, 1, 2].foldl (stp x i) s, cl z = true) → k.n [some (encB x), some (.tl ([0, 1, 2].foldl (stp x i) s)), some (.int i), none, none] δ) :
    okS (vvS P (callV P (n + 2)) k__law_ways_l2 [some (encB x), some (.tl s), some (.int i), none, none] δ) k := by
  unfold k__law_ways_l2
  refine for_f (enc := D.int) (st := fun (s : List D) => [some (encB x), some (.tl s), some (.int i), none, none]) (f := stp x i) (J := fun js s' => s'.length + js.length ≤ s.length + 3 ∧ (∀ z ∈ s', cl z = true) ∧ ∀ j ∈ js, j = 0 ∨ j = 1 ∨ j = 2) [0, 1, 2] s ?_ (by simp [lkX]) ⟨by simp, hcl, fun j hj => by simpa using hj⟩ (fun j js s' hJ => ⟨⟨?_, ?_, fun z hz => hJ.2.2 z (List.mem_cons_of_mem _ hz)⟩, ?_⟩) ?_
  · have r3 : rng 3 = [0, 1, 2] := rfl
    simp [opRng_1, r3]
  · have h1 := hJ.1
    have h2 := put_len s' (own x i j)
    unfold stp
    simp at h1 ⊢
    split <;> omega
  · unfold stp
    split
    · exact hJ.2.1
    · exact cl_put hJ.2.1 (cl_own x i j)
  · obtain ⟨h1, h2, h3⟩ := hJ
    have hj := h3 j List.mem_cons_self
    simp at h1
    by_cases hij : i = j
    · simp [k__law_ways_b2, hij, stp]
    · have h3' : 3 - i - j = 0 ∨ 3 - i - j = 1 ∨ 3 - i - j = 2 := by omega
      have a1 := fun δ => idx_sd (δ := δ) (x := x) hi
      have a2 := fun δ => idx_sd (δ := δ) (x := x) hj
      have a3 := fun δ => idx_sd (δ := δ) (x := x) h3'
      have s3 := fun δ => sl3 (δ := δ) x
      have eo : D.tup [.int (sd x i), .int (sd x j), .int (sd x (3 - i - j)), .int x.w, .int x.s] = own x i j := rfl
      have hn : ∀ δ, opCmp .nin (own x i j) (.tl s') δ = .ok (.bl (!memD (own x i j) s')) δ := fun δ => (in_seq (δ := δ) (e := .tl s') rfl (fun _ z => by cases z) (cl_own x i j) (List.all_eq_true.mpr h2)).2
      have hl2 : s'.length < 16777216 := by omega
      simp [k__law_ways_b2, hij, stp, a1, a2, a3, s3, eo, hn, put]
      intro hm
      have la : lmeth .append s' (own x i j) δ = some (.non, s' ++ [own x i j]) := lmeth_app (nb_own x i j) hl2
      simp [la, hm]
  · intro hJ
    simpa [lkX] using hk (by have := hJ.1; simpa using this) hJ.2.1
theorem e_law_ways {x : Bx} (h : BxOk x) : callV P (n + 3) 16 [encB x] δ = .ok (.tup (ways x)) δ := by
  rw [callV_succ (f := k__law_ways) rfl rfl]
  apply eq_ok
  simp [k__law_ways]
  unfold k__law_ways_l1
  refine for_f (enc := D.int) (st := fun (s : List D) => [some (encB x), some (.tl s), none, none, none]) (f := fun s i => [0, 1, 2].foldl (stp x i) s) (J := fun is s => s.length + 3 * is.length ≤ 9 ∧ (∀ z ∈ s, cl z = true) ∧ ∀ i ∈ is, i = 0 ∨ i = 1 ∨ i = 2) [0, 1, 2] [] ?_ (by simp [lkX]) ⟨by simp, (fun z hz => by cases hz), fun i hi => by simpa using hi⟩ (fun i is s hJ => ?_) ?_
  · have r3 : rng 3 = [0, 1, 2] := rfl
    simp [opRng_1, r3]
  · obtain ⟨h1, h2, h3⟩ := hJ
    have hi := h3 i List.mem_cons_self
    rw [List.length_cons] at h1
    have key : okS (vvS P (callV P (n + 2)) k__law_ways_l2 [some (encB x), some (.tl s), some (.int i), none, none] δ) { n := fun ρ δ' => ([0, 1, 2].foldl (stp x i) s).length ≤ s.length + 3 ∧ (∀ z ∈ [0, 1, 2].foldl (stp x i) s, cl z = true) ∧ ρ = [some (encB x), some (.tl ([0, 1, 2].foldl (stp x i) s)), some (.int i), none, none] ∧ δ' = δ, t := no2, b := no2, c := no2, x := no3 } := lw_inner hi none none s (by omega) h2 _ fun a b => ⟨a, b, rfl, rfl⟩
    cases q : vvS P (callV P (n + 2)) k__law_ways_l2 [some (encB x), some (.tl s), some (.int i), none, none] δ with
    | nxt σ S =>
      rw [q] at key
      obtain ⟨k1, k2, rfl, rfl⟩ := key
      refine ⟨⟨by omega, k2, fun z hz => h3 z (List.mem_cons_of_mem _ hz)⟩, ?_⟩
      simp [k__law_ways_b1]
      rw [q]
      simp
    | cnt σ S => rw [q] at key; exact key.elim
    | brk σ S => rw [q] at key; exact key.elim
    | ret d S => rw [q] at key; exact key.elim
    | exc c d S => rw [q] at key; exact key.elim
    | bad => rw [q] at key; exact key.elim
  · intro hJ
    rw [ways_fold]
    have hso : sortOk (dedupD ((sixB x).map encB)) = true := by
      have hm : ∀ y ∈ dedupD ((sixB x).map encB), ∃ b : Bx, y = encB b := fun y hy => by
        obtain ⟨b, _, rfl⟩ := List.mem_map.mp (dedup_mem hy)
        exact ⟨b, rfl⟩
      unfold sortOk
      simp only [Bool.and_eq_true, Bool.or_eq_true, List.all_eq_true]
      refine ⟨⟨fun y hy => ?_, fun y hy z hz => ?_⟩, .inl fun y hy => ?_⟩
      · obtain ⟨b, rfl⟩ := hm y hy; simp
      · obtain ⟨b, rfl⟩ := hm y hy
        obtain ⟨b', rfl⟩ := hm z hz
        exact alk_ints [b.a, b.b, b.c, b.w, b.s] [b'.a, b'.b, b'.c, b'.w, b'.s]
      · obtain ⟨b, rfl⟩ := hm y hy; rfl
    have es : ∀ δ, opB1 .sorted (.tl (dedupD ((sixB x).map encB))) δ = .ok (.tl (ways x)) δ := fun δ => by
      show (if sortOk (dedupD ((sixB x).map encB)) then R.ok (D.tl (isort dle (dedupD ((sixB x).map encB)))) δ else .bad) = _
      rw [if_pos hso]
      rfl
    generalize dedupD ((sixB x).map encB) = dx at es
    have hcl : ∀ y ∈ ways x, cl y = true := fun y hy => by
      have := dedup_mem (isort_mem hy)
      obtain ⟨b, _, rfl⟩ := List.mem_map.mp this
      simp
    simp [lkX, es]
    try exact hcl
theorem okR_side {N : Nat} {Q : D → GH → Prop} {E : Nat → D → GH → Prop} (h : Dc N δ) (hN : 2 ≤ N) (hQ : ∀ (v : Int) (δ' : GH), 1 ≤ v ∧ v ≤ 60 → Dc (N - 2) δ' → Q (.int v) δ') : okR (callV P (n + 3) 15 [.ref 0] δ) Q E := by
  rw [callV_succ (f := k__law_side) rfl rfl]
  simp [k__law_side]
  refine okR_roll (n := n + 1) h (by omega) (by omega) fun v1 δ1 h1 h2 d1 => ?_
  simp
  refine okR_pick (n := n) d1 (by omega) (by simp) (by simp) fun v hv δ2 d2 => ?_
  simp at hv
  have hv : ∃ m : Int, v = .int m ∧ 1 ≤ m ∧ m ≤ 60 := by rcases hv with rfl | rfl | rfl | rfl | rfl | rfl <;> exact ⟨_, rfl, by omega, by omega⟩
  obtain ⟨m, rfl, hm⟩ := hv
  simp
  exact hQ m δ2 hm (d2.mono (by omega))
/-! ### loads -/
def wsm (d : Ld) : Int := (d.ps.map fun p => p.bx.w).sum
theorem e_weight_of {d : Ld} (h : LdOk d) : callV P (n + 6) 11 [encL d] δ = .ok (.int (wsm d)) δ := by
  rw [callV_succ (f := k_weight_of) rfl rfl]
  apply eq_ok
  have hl := h.len
  have e1 := fun δ => e_demand_load (n := n) (δ := δ) h
  have i1 : ∀ δ, opIdx (encL d) (.int 1) δ = .ok (.tup (d.ps.map encP)) δ := fun δ => rfl
  have c1 : ∀ (δ : GH) (o1 : Option D), vv P (callV P (n + 5)) k_weight_of_c1 [some (encL d), o1] δ = .ok (.tl (d.ps.map fun p => .int p.bx.w)) δ := fun δ o1 => by
    unfold k_weight_of_c1
    refine comp_all (enc := encP) d.ps (by simp [i1]) (by omega) fun p hp => ?_
    simp [encP, encB]
  have es : (d.ps.map fun p => p.bx.w).sum = wsm d := rfl
  simp [k_weight_of, e1, c1, es]
def repL (x : Bx) (k : Nat) : Ld := ⟨120, 1, 1000000, 400, List.replicate k ⟨x, -400, 400, 0⟩⟩
theorem repL_ok {x : Bx} (h : BxOk x) {k : Nat} (hk : k ≤ 8) : LdOk (repL x k) := ⟨by simp [repL], by simp [repL], by simp [repL], by simp [repL], by simpa [repL] using hk, fun p hp => by
  have : p = ⟨x, -400, 400, 0⟩ := (List.mem_replicate.mp hp).2
  subst this
  exact ⟨h, by simp, by simp, by simp⟩⟩
theorem repL_w (x : Bx) (k : Nat) : wsm (repL x k) = x.w * k := by
  unfold wsm repL
  rw [List.map_replicate]
  induction k with
  | zero => simp
  | succ k ih => rw [List.replicate_succ, List.sum_cons, ih]; push_cast; rw [Int.mul_add, Int.mul_one, Int.add_comm]
/-! ### what is no box, no load -/
/-- no number from lo to hi -/
structure Wr (lo hi : Int) (w : D) : Prop where
  nb : nb w = true
  cl : cl w = true
  no : ∀ n δ, callV P (n + 1) 1 [w, .int lo, .int hi] δ = .ok (.bl false) δ
theorem wr_int {lo hi v : Int} (h : v < lo ∨ hi < v) : Wr lo hi (.int v) := ⟨rfl, rfl, fun n δ => by
  rw [e_is_in]
  rw [decide_eq_false (by omega)]⟩
theorem wr_non {lo hi : Int} : Wr lo hi .non := ⟨rfl, rfl, fun n δ => by
  rw [callV_succ (f := k_is_in) rfl rfl]
  apply eq_ok
  simp [k_is_in, isTy]⟩
theorem wr_str {lo hi : Int} {s : Str} (hs : PyData.strOk s = true) : Wr lo hi (.str s) := ⟨rfl, hs, fun n δ => by
  rw [callV_succ (f := k_is_in) rfl rfl]
  apply eq_ok
  simp [k_is_in, isTy]⟩
theorem wr_bl {lo hi : Int} {b : Bool} : Wr lo hi (.bl b) := ⟨rfl, rfl, fun n δ => by
  rw [callV_succ (f := k_is_in) rfl rfl]
  apply eq_ok
  simp [k_is_in, isTy]⟩
end K00
set_option Elab.async false
set_option linter.all false
set_option maxRecDepth 100000
set_option maxHeartbeats 8000000
namespace K00
open PySem PySem.Spec PyProof.Rows L2 Ev
variable {n : Nat} {δ : GH}
/-- a box with w in the place p -/
def bad (x : Bx) (p : Nat) (w : D) : D := match p with
  | 0 => .tup [w, .int x.b, .int x.c, .int x.w, .int x.s]
  | 1 => .tup [.int x.a, w, .int x.c, .int x.w, .int x.s]
  | 2 => .tup [.int x.a, .int x.b, w, .int x.w, .int x.s]
  | 3 => .tup [.int x.a, .int x.b, .int x.c, w, .int x.s]
  | _ => .tup [.int x.a, .int x.b, .int x.c, .int x.w, w]
@[simp] theorem nb_bad (x : Bx) (p : Nat) (w : D) : nb (bad x p w) = true := by
  unfold bad
  split <;> rfl
def loP (p : Nat) : Int := if p = 4 then 0 else 1
def hiP (p : Nat) : Int := match p with
  | 0 => 60
  | 1 => 60
  | 2 => 60
  | 3 => 1000
  | _ => 100000
theorem x_is_box {x : Bx} (h : BxOk x) {p : Nat} (hp : p ≤ 4) {w : D} (hw : Wr (loP p) (hiP p) w) : callV P (n + 2) 3 [bad x p w] δ = .ok (.bl false) δ := by
  rw [callV_succ (f := k_is_box) rfl rfl]
  apply eq_ok
  obtain ⟨h1, h2, h3, h4, h5⟩ := h
  obtain ⟨w1, w2, w3⟩ := hw
  have hp : p = 0 ∨ p = 1 ∨ p = 2 ∨ p = 3 ∨ p = 4 := by omega
  rcases hp with rfl | rfl | rfl | rfl | rfl <;> simp [loP, hiP] at w3 <;>
    simp [k_is_box, bad, e_is_tuple, e_is_in, w1, w2, w3, k_is_box_c1, m_comp, m_loop_cons, m_loop_nil, Ev.cutD, HT.sIx, h1, h2, h3, h4, h5]
theorem x_turned {x : Bx} (h : BxOk x) {p : Nat} (hp : p ≤ 4) {w : D} (hw : Wr (loP p) (hiP p) w) : callV P (n + 3) 8 [bad x p w] δ = .exc 0 (.str "box") δ := by
  rw [callV_succ (f := k_turned) rfl rfl]
  apply eq_exc
  have e1 := fun δ => x_is_box (n := n) (δ := δ) h hp hw
  have e2 := fun δ => e_demand_f (n := n + 1) (δ := δ) "box" s_box
  simp [k_turned, e1, e2, s_box]
theorem x_placed {x : Bx} (h : BxOk x) {p : Nat} (hp : p ≤ 4) {w : D} (hw : Wr (loP p) (hiP p) w) : callV P (n + 3) 5 [.tup [bad x p w, .int 0, .int 0, .int 0]] δ = .ok (.bl false) δ := by
  rw [callV_succ (f := k_is_placed) rfl rfl]
  apply eq_ok
  have e1 := fun δ => x_is_box (n := n) (δ := δ) h hp hw
  have nbb := nb_bad x p w
  generalize bad x p w = b at e1 nbb
  simp [k_is_placed, e_is_tuple, nbb, e1]
/-- refused as a load -/
theorem x_weight_of {d : D} (hn : nb d = true) (h : ∀ δ, callV P (n + 4) 6 [d] δ = .ok (.bl false) δ) : callV P (n + 6) 11 [d] δ = .exc 0 (.str "load") δ := by
  rw [callV_succ (f := k_weight_of) rfl rfl]
  apply eq_exc
  have e3 := fun δ => e_demand_f (n := n + 3) (δ := δ) "load" s_load
  have e4 : ∀ δ, callV P (n + 5) 7 [d] δ = .exc 0 (.str "load") δ := fun δ => by
    rw [callV_succ (f := k_demand_load) rfl rfl]
    apply eq_exc
    simp [k_demand_load, hn, h, e3, s_load]
  simp [k_weight_of, hn, e4, s_load]
theorem e_pallet_b (w l m h : Int) : callV P (n + 2) 4 [.tup [.int w, .int l, .int m, .int h]] δ = .ok (.bl (decide ((1 ≤ w ∧ w ≤ 120) ∧ (1 ≤ l ∧ l ≤ 120) ∧ (1 ≤ m ∧ m ≤ 1000000) ∧ (1 ≤ h ∧ h ≤ 400)))) δ := by
  rw [callV_succ (f := k_is_pallet) rfl rfl]
  apply eq_ok
  by_cases h1 : 1 ≤ w ∧ w ≤ 120
  · by_cases h2 : 1 ≤ l ∧ l ≤ 120
    · by_cases h3 : 1 ≤ m ∧ m ≤ 1000000
      · by_cases h4 : 1 ≤ h ∧ h ≤ 400
        · simp [k_is_pallet, e_is_tuple, e_is_in, k_is_pallet_c1, m_comp, m_loop_cons, m_loop_nil, Ev.cutD, HT.sIx, h1, h2, h3, h4]
        · simp [k_is_pallet, e_is_tuple, e_is_in, k_is_pallet_c1, m_comp, m_loop_cons, m_loop_nil, Ev.cutD, HT.sIx, h1, h2, h3, h4]
      · simp [k_is_pallet, e_is_tuple, e_is_in, k_is_pallet_c1, m_comp, m_loop_cons, m_loop_nil, Ev.cutD, HT.sIx, h1, h2, h3]
    · simp [k_is_pallet, e_is_tuple, e_is_in, k_is_pallet_c1, m_comp, m_loop_cons, m_loop_nil, Ev.cutD, HT.sIx, h1, h2]
  · simp [k_is_pallet, e_is_tuple, e_is_in, k_is_pallet_c1, m_comp, m_loop_cons, m_loop_nil, Ev.cutD, HT.sIx, h1]
/-- one thing placed that is none -/
theorem x_load1 {w l m h : Int} (hp : (1 ≤ w ∧ w ≤ 120) ∧ (1 ≤ l ∧ l ≤ 120) ∧ (1 ≤ m ∧ m ≤ 1000000) ∧ (1 ≤ h ∧ h ≤ 400)) {p : D} (hn : nb p = true) (hx : ∀ δ, callV P (n + 3) 5 [p] δ = .ok (.bl false) δ) :
    callV P (n + 4) 6 [.tup [.tup [.int w, .int l, .int m, .int h], .tup [p]]] δ = .ok (.bl false) δ := by
  rw [callV_succ (f := k_is_load) rfl rfl]
  apply eq_ok
  have e0 := fun δ => e_pallet_b (n := n + 1) (δ := δ) w l m h
  simp [k_is_load, e_is_tuple, e0, hp, hn, k_is_load_c1, m_comp, m_loop_cons, m_loop_nil, hx]
theorem x_loadP {w l m h : Int} (hp : ¬ ((1 ≤ w ∧ w ≤ 120) ∧ (1 ≤ l ∧ l ≤ 120) ∧ (1 ≤ m ∧ m ≤ 1000000) ∧ (1 ≤ h ∧ h ≤ 400))) {p : D} (hn : nb p = true) : callV P (n + 4) 6 [.tup [.tup [.int w, .int l, .int m, .int h], p]] δ = .ok (.bl false) δ := by
  rw [callV_succ (f := k_is_load) rfl rfl]
  apply eq_ok
  have e0 : ∀ δ, callV P (n + 3) 4 [.tup [.int w, .int l, .int m, .int h]] δ = .ok (.bl false) δ := fun δ => by
    rw [e_pallet_b (n := n + 1), decide_eq_false hp]
  simp [k_is_load, e_is_tuple, e0, hn]
theorem x_load9 {w l m h : Int} {ps : List D} (hl : 8 < ps.length) : callV P (n + 4) 6 [.tup [.tup [.int w, .int l, .int m, .int h], .tup ps]] δ = .ok (.bl false) δ := by
  rw [callV_succ (f := k_is_load) rfl rfl]
  apply eq_ok
  have e0 := fun δ => e_pallet_b (n := n + 1) (δ := δ) w l m h
  have e1 : ∀ δ, callV P (n + 3) 2 [.tup ps, .int 0, .int 8] δ = .ok (.bl false) δ := fun δ => by
    rw [e_is_tuple, decide_eq_false (by omega)]
  by_cases hp : (1 ≤ w ∧ w ≤ 120) ∧ (1 ≤ l ∧ l ≤ 120) ∧ (1 ≤ m ∧ m ≤ 1000000) ∧ (1 ≤ h ∧ h ≤ 400) <;> simp [k_is_load, e_is_tuple, e0, hp, e1]
end K00
set_option Elab.async false
set_option linter.all false
set_option maxRecDepth 100000
set_option maxHeartbeats 8000000
namespace K00
open PySem PySem.Spec PyProof.Rows L2 Ev
variable {n : Nat} {δ : GH}
theorem s_one : PyData.strOk ("1" : Str) = true := by decide +kernel
theorem neI (i : Int) : opCmp .ne (.int i) (.int i) δ = .ok (.bl false) δ := by
  show R.ok (D.bl (!decide (i = i))) δ = _
  simp
theorem neBox : opCmp .ne (.str "box") (.str "box") δ = .ok (.bl false) δ := cmp_ne_self s_box
theorem neLoad : opCmp .ne (.str "load") (.str "load") δ = .ok (.bl false) δ := cmp_ne_self s_load
abbrev ρ0 (sc : List D) : Sg := [some (.fl sc), none, none, none, none, none, none, none, none, none, none]
def palD : D := .tup [.int 120, .int 1, .int 1000000, .int 400]
@[simp] theorem nb_palD : nb palD = true := nbI rfl
/-- a wrong part is refused -/
theorem bad_turn {sc : List D} {i w : D} {x : Bx} {ps : D} {p : Nat} (hi : nb i = true) (h : BxOk x) (hp : p ≤ 4) (hw : Wr (loP p) (hiP p) w) (k : Kt) (hk : k.n [some (.fl sc), some i, some (encB x), none, some (.ref 0), some (.tup [palD, ps]), some (.int p), some (.int (loP p)), some (.int (hiP p)), some w, some (bad x p w)] δ) (hps : nb ps = true) :
    okS (vvS P (callV P (n + 10)) k_law_b2 [some (.fl sc), some i, some (encB x), none, some (.ref 0), some (.tup [palD, ps]), some (.int p), some (.int (loP p)), some (.int (hiP p)), some w, none] δ) k := by
  have hnb := hw.nb
  have hcl := hw.cl
  have e1 := fun δ => x_turned (n := n + 7) (δ := δ) h hp hw
  have e2 : ∀ δ, callV P (n + 10) 11 [.tup [palD, .tup [.tup [bad x p w, .int 0, .int 0, .int 0]]]] δ = _ := fun δ => x_weight_of (n := n + 4) (δ := δ) (d := .tup [palD, .tup [.tup [bad x p w, .int 0, .int 0, .int 0]]]) rfl fun δ => x_load1 (n := n + 4) (δ := δ) (by decide) rfl fun δ => x_placed (n := n + 4) (δ := δ) h hp hw
  have hp : p = 0 ∨ p = 1 ∨ p = 2 ∨ p = 3 ∨ p = 4 := by omega
  rcases hp with rfl | rfl | rfl | rfl | rfl <;>
    (simp [bad, loP, hiP, encB] at e1 e2 hk
     simp [k_law_b2, k_law_b2_s1, k_law_b2_s2, loP, hiP, encB, Ev.cutD, HT.sIx, e1, e2, m_thunk0, s_box, s_load, neBox, neLoad, hi, hps, hnb]
     exact hk)
theorem bad_all {sc : List D} {i ps : D} {x : Bx} {p : Nat} (hi : nb i = true) (h : BxOk x) (hp : p ≤ 4) (hps : nb ps = true) :
    okS (vvS P (callV P (n + 10)) k_law_b1_s9 [some (.fl sc), some i, some (encB x), none, some (.ref 0), some (.tup [palD, ps]), some (.int p), some (.int (loP p)), some (.int (hiP p)), none, none] δ) (lawK (ρ0 sc)) := by
  rw [k_law_b1_s9, st_seq]
  unfold k_law_l2
  refine for_v (enc := fun w : D => w) (I := fun ws ρ' δ' => (∀ w ∈ ws, Wr (loP p) (hiP p) w) ∧ δ = δ' ∧ ρ' = [some (.fl sc), some i, some (encB x), none, some (.ref 0), some (.tup [palD, ps]), some (.int p), some (.int (loP p)), some (.int (hiP p)), none, none]) [.int (loP p - 1), .int (hiP p + 1), .non, .str "1", .bl true] ?_ ⟨fun w hw => ?_, rfl, by simp [lkX]⟩ ?_ ?_
  · simp [hi, hps]
  · simp at hw
    rcases hw with rfl | rfl | rfl | rfl | rfl
    · exact wr_int (.inl (by omega))
    · exact wr_int (.inr (by omega))
    · exact wr_non
    · exact wr_str s_one
    · exact wr_bl
  · rintro w ws ρ' δ' ⟨hw, rfl, rfl⟩
    have hw0 := hw w List.mem_cons_self
    simp [hw0.nb]
    refine bad_turn (n := n) hi h hp hw0 _ ?_ hps
    simp [lkX]
    exact fun a ha => hw a (List.mem_cons_of_mem _ ha)
  · rintro ρ' δ' ⟨_, rfl, rfl⟩
    simp [lkX, hi, hps]
theorem turn2 {sc : List D} {i : D} {x : Bx} {N : Nat} (hi : nb i = true) (h : BxOk x) (hd : Dc N δ) (hN : 2 ≤ N) :
    okS (vvS P (callV P (n + 10)) k_law_b1_s2 [some (.fl sc), some i, some (encB x), none, some (.ref 0), none, none, none, none, none, none] δ) (lawK (ρ0 sc)) := by
  have e1 := fun δ => e_turned (n := n + 7) (δ := δ) h
  have e1' := fun δ => e_turned (n := n + 7) (δ := δ) (trn_ok h)
  have et : trn (trn x) = x := rfl
  rw [et] at e1'
  have e2 := fun δ => e_ways (n := n + 7) (δ := δ) h
  have e3 := fun δ => e_law_ways (n := n + 7) (δ := δ) h
  have e4 := fun δ => e_volume (n := n + 7) (δ := δ) h
  have m1 : mulOk x.a x.b = true := mulOk_l (by have := h.a; omega)
  have m2 : mulOk (x.a * x.b) x.c = true := mulOk_r (by have := h.c; omega)
  have hcl : cl (.tup (ways x)) = true := by
    show (ways x).all (ck 19) = true
    refine List.all_eq_true.mpr fun y hy => ?_
    obtain ⟨b, _, rfl⟩ := List.mem_map.mp (dedup_mem (isort_mem hy))
    simp
  have n1 : ∀ δ, opCmp .ne (encB (trn x)) (.tup [.int x.b, .int x.a, .int x.c, .int x.w, .int x.s]) δ = .ok (.bl false) δ := fun δ => cmp_ne_self (d := encB (trn x)) (by simp [res, encB])
  have n2 : ∀ δ, opCmp .ne (encB x) (encB x) δ = .ok (.bl false) δ := fun δ => cmp_ne_self (by simp [res, encB])
  have n3 : ∀ δ, opCmp .ne (.tup (ways x)) (.tup (ways x)) δ = .ok (.bl false) δ := fun δ => cmp_ne_self hcl
  simp [k_law_b1_s2, k_law_b1_s3, hi, e1, e1', e2, e3, e4, m1, m2, n1, n2, n3, neI]
  simp [k_law_b1_s4, hi]
  refine ⟨fun y hy => List.all_eq_true.mp (show (ways x).all (ck 19) = true from hcl) y hy, ?_⟩
  refine okR_roll (n := n + 9) hd (by omega) (by omega) fun v δ1 h1 h2 d1 => ?_
  obtain ⟨k, rfl⟩ := Int.eq_ofNat_of_zero_le h1
  have hk : k ≤ 8 := by omega
  have ew : ∀ δ, callV P (n + 10) 11 [.tup [palD, .tup (List.replicate k (.tup [encB x, .int (-400), .int 400, .int 0]))]] δ = .ok (.int (x.w * k)) δ := fun δ => by
    have := e_weight_of (n := n + 4) (δ := δ) (repL_ok h hk)
    rw [repL_w] at this
    have e : encL (repL x k) = .tup [palD, .tup (List.replicate k (.tup [encB x, .int (-400), .int 400, .int 0]))] := by
      simp [encL, repL, palD, encP]
    rw [e] at this
    exact this
  have m3 : mulOk x.w (k : Int) = true := mulOk_l (by have := h.w; omega)
  have ep : D.tup [.int 120, .int 1, .int 1000000, .int 400] = palD := rfl
  have k1 : (k : Int) ≤ 1000 := by omega
  have k2 : -1000 ≤ (k : Int) := by omega
  simp [ep, k1, k2, k_law_b1_s5, hi, ew, m3, neI]
  generalize hps : D.tup (List.replicate k (.tup [encB x, .int (-400), .int 400, .int 0])) = ps
  have hpn : nb ps = true := by rw [← hps]; rfl
  simp [k_law_b1_s6, hi, hpn]
  refine okR_roll (n := n + 9) d1 (by omega) (by omega) fun v δ2 h3 h4 d2 => ?_
  obtain ⟨p, rfl⟩ := Int.eq_ofNat_of_zero_le h3
  have hp : p ≤ 4 := by omega
  have all := bad_all (n := n) (δ := δ2) (sc := sc) (ps := ps) hi h hp hpn
  have hp' : p = 0 ∨ p = 1 ∨ p = 2 ∨ p = 3 ∨ p = 4 := by omega
  rcases hp' with rfl | rfl | rfl | rfl | rfl <;> simp [loP, hiP] at all <;> simp [k_law_b1_s7, k_law_b1_s8, hi, hpn] <;> exact all
theorem turn {sc : List D} {i : D} (hi : nb i = true) (hd : Dc 1000000 δ) : okS (vvS P (callV P (n + 10)) k_law_b1_s1 [some (.fl sc), some i, none, none, some (.ref 0), none, none, none, none, none, none] δ) (lawK (ρ0 sc)) := by
  simp [k_law_b1_s1, hi]
  refine okR_side (n := n + 7) hd (by omega) fun v1 δ1 h1 d1 => ?_
  simp
  refine okR_side (n := n + 7) d1 (by omega) fun v2 δ2 h2 d2 => ?_
  simp
  refine okR_side (n := n + 7) d2 (by omega) fun v3 δ3 h3 d3 => ?_
  simp
  refine okR_roll (n := n + 9) d3 (by omega) (by omega) fun v4 δ4 h4 h4' d4 => ?_
  simp
  refine okR_roll (n := n + 9) d4 (by omega) (by omega) fun v5 δ5 h5 h5' d5 => ?_
  simp
  exact turn2 (n := n) (x := ⟨v1, v2, v3, 1 + v4, v5⟩) hi ⟨h1, h2, h3, by simp; omega, by simp; omega⟩ d5 (by omega)
end K00
set_option Elab.async false
set_option linter.all false
set_option maxRecDepth 100000
set_option maxHeartbeats 8000000
namespace K00
open PySem PySem.Spec PyProof.Rows L2 Ev
variable {n : Nat} {δ : GH}
abbrev b5 : Bx := ⟨1, 2, 3, 4, 5⟩
theorem b5ok : BxOk b5 := ⟨by decide, by decide, by decide, by decide, by decide⟩
theorem x_volume {d : D} (hn : rd1 (some d) = some d) (hb : bo d = d) (h : isTy .tuple (lr d) = some false) : callV P (n + 3) 10 [d] δ = .exc 0 (.str "box") δ := by
  rw [callV_succ (f := k_volume) rfl rfl]
  apply eq_exc
  have e1 := fun δ => e_is_box_no (n := n) (δ := δ) hn hb h
  have e2 := fun δ => e_demand_f (n := n + 1) (δ := δ) "box" s_box
  simp [k_volume, hn, hb, e1, e2, s_box]
theorem x_ways {ds : List D} (h : ds.length ≠ 5) : callV P (n + 3) 9 [.tup ds] δ = .exc 0 (.str "box") δ := by
  rw [callV_succ (f := k_ways_to_lie) rfl rfl]
  apply eq_exc
  have e1 := fun δ => e_is_box_len (n := n) (δ := δ) ds h
  have e2 := fun δ => e_demand_f (n := n + 1) (δ := δ) "box" s_box
  simp [k_ways_to_lie, e1, e2, s_box]
theorem x_placed_x {y : Int} (hy : ¬ y ≤ 400) : callV P (n + 3) 5 [.tup [encB b5, .int y, .int 0, .int 0]] δ = .ok (.bl false) δ := by
  rw [callV_succ (f := k_is_placed) rfl rfl]
  apply eq_ok
  have e1 := fun δ => e_is_box (n := n) (δ := δ) b5ok
  have nbb := nb_encB b5
  generalize encB b5 = b at e1 nbb
  simp [k_is_placed, e_is_tuple, e_is_in, nbb, e1, k_is_placed_c1, m_comp, m_loop_cons, m_loop_nil, Ev.cutD, HT.sIx, hy]
theorem x_placed_z {z : Int} (hz : ¬ 0 ≤ z) : callV P (n + 3) 5 [.tup [encB b5, .int 0, .int 0, .int z]] δ = .ok (.bl false) δ := by
  rw [callV_succ (f := k_is_placed) rfl rfl]
  apply eq_ok
  have e1 := fun δ => e_is_box (n := n) (δ := δ) b5ok
  have nbb := nb_encB b5
  generalize encB b5 = b at e1 nbb
  simp [k_is_placed, e_is_tuple, e_is_in, nbb, e1, k_is_placed_c1, m_comp, m_loop_cons, m_loop_nil, Ev.cutD, HT.sIx, hz]
theorem holds (ns : List Int) (hl : ns.length ≤ 63) (_ : ∀ z ∈ ns, Builtin.Int.intBits z ≤ 1048576) : ∃ G, callO P (10 + 1) 17 0 [.fl (ns.map D.int)] [] = .ok (.bl true) G := by
  refine law_all (sh := 4) (f := k_law) (enc := D.int) rfl rfl rfl (rng (max 1 (min 12 ns.length))) rfl ?_ ?_ fun i hi => ?_
  · simp [k_law]
    rw [opRng_1 (by omega)]
    simp
  · have lw := fun {d : D} (hn : nb d = true) h δ => x_weight_of (n := 4) (δ := δ) (d := d) hn h
    have r1 : ∀ δ, callV P 10 10 [.bw [.int 1, .int 2, .int 3, .int 4, .int 5]] δ = .exc 0 (.str "box") δ := fun δ => x_volume (n := 7) rfl rfl rfl
    have r2 : ∀ δ, callV P 10 9 [.tup [.int 1, .int 2, .int 3, .int 4]] δ = .exc 0 (.str "box") δ := fun δ => x_ways (n := 7) (by decide)
    have r3 : ∀ (ps : List D) δ, 8 < ps.length → callV P 10 11 [.tup [.tup [.int 1, .int 1, .int 1, .int 1], .tup ps]] δ = .exc 0 (.str "load") δ := fun ps δ h => lw rfl (fun δ => x_load9 (n := 4) h) δ
    have r4 : ∀ δ, callV P 10 11 [.tup [.tup [.int 121, .int 1, .int 1, .int 1], .tup []]] δ = .exc 0 (.str "load") δ := fun δ => lw rfl (fun δ => x_loadP (n := 4) (by decide) rfl) δ
    have r5 : ∀ δ, callV P 10 11 [.tup [.tup [.int 1, .int 1, .int 1000001, .int 1], .tup []]] δ = .exc 0 (.str "load") δ := fun δ => lw rfl (fun δ => x_loadP (n := 4) (by decide) rfl) δ
    have r6 : ∀ δ, callV P 10 11 [.tup [.tup [.int 1, .int 1, .int 1, .int 401], .tup []]] δ = .exc 0 (.str "load") δ := fun δ => lw rfl (fun δ => x_loadP (n := 4) (by decide) rfl) δ
    have r7 : ∀ δ, callV P 10 11 [.tup [.tup [.int 1, .int 1, .int 1, .int 1], .tup [.tup [encB b5, .int 401, .int 0, .int 0]]]] δ = .exc 0 (.str "load") δ := fun δ => lw rfl (fun δ => x_load1 (n := 4) (by decide) rfl fun δ => x_placed_x (n := 4) (by decide)) δ
    have r8 : ∀ δ, callV P 10 11 [.tup [.tup [.int 1, .int 1, .int 1, .int 1], .tup [.tup [encB b5, .int 0, .int 0, .int (-1)]]]] δ = .exc 0 (.str "load") δ := fun δ => lw rfl (fun δ => x_load1 (n := 4) (by decide) rfl fun δ => x_placed_z (n := 4) (by decide)) δ
    have r9 : ∀ δ, callV P 10 11 [.non] δ = .exc 0 (.str "load") δ := fun δ => lw rfl (fun δ => e_is_load_no (n := 4) rfl rfl rfl) δ
    have r10 : ∀ δ, callV P 10 9 [encB b5] δ = .ok (.tup (ways b5)) δ := fun δ => e_ways (n := 7) b5ok
    have r11 : ∀ δ, callV P 10 11 [.tup [.tup [.int 1, .int 1, .int 1, .int 1], .tup []]] δ = .ok (.int 0) δ := fun δ => e_weight_of (n := 4) (d := ⟨1, 1, 1, 1, []⟩) ⟨by decide, by decide, by decide, by decide, by decide, fun p hp => by cases hp⟩
    have lw6 : (ways b5).length = 6 := by decide +kernel
    have clw : cl (.tup (ways b5)) = true := by decide +kernel
    have b1 : ∀ δ, opB1 .list (encB b5) δ = .ok (.tl [.int 1, .int 2, .int 3, .int 4, .int 5]) δ := fun δ => rfl
    have b2 : ∀ δ, opSl (encB b5) none (some 4) δ = .ok (.tup [.int 1, .int 2, .int 3, .int 4]) δ := fun δ => rfl
    have eb : D.tup [.int 1, .int 2, .int 3, .int 4, .int 5] = encB b5 := rfl
    have nbb := nb_encB b5
    have clb : cl (encB b5) = true := by simp
    generalize ways b5 = wb at r10 lw6 clw
    simp [k_law, k_law_s1]
    rw [eb]
    generalize encB b5 = bb at r7 r8 r10 b1 b2 nbb clb
    have clw2 : ∀ y ∈ wb, ck 19 y = true := fun y hy => List.all_eq_true.mp (show wb.all (ck 19) = true from clw) y hy
    have b3 : ∀ δ, opBin .mul (.tup [.tup [bb, .int 0, .int 0, .int 0]]) (.int 9) δ = .ok (.tup (List.replicate 9 (.tup [bb, .int 0, .int 0, .int 0]))) δ := fun δ => rfl
    have l9 : 8 < (List.replicate 9 (D.tup [bb, .int 0, .int 0, .int 0])).length := by rw [List.length_replicate]; omega
    generalize List.replicate 9 (D.tup [bb, .int 0, .int 0, .int 0]) = p9 at b3 l9
    have r3' := fun δ => r3 p9 δ l9
    simp (config := { maxSteps := 3000000 }) [k_law_s2, m_thunk0, nbb, b1, b2, b3, r1, r2, r3', r4, r5, r6, r7, r8, r9, s_box, s_load]
    have eqT : ∀ δ, opCmp .eq (.tl [.str "box", .str "box", .str "load", .str "load", .str "load", .str "load", .str "load", .str "load", .str "load"]) (.tl [.str "box", .str "box", .str "load", .str "load", .str "load", .str "load", .str "load", .str "load", .str "load"]) δ = .ok (.bl true) δ := fun δ => cmp_eq_self (show cl (.tl [.str "box", .str "box", .str "load", .str "load", .str "load", .str "load", .str "load", .str "load", .str "load"]) = true from by decide +kernel)
    simp [k_law_s3, nbb, r10, r11, lw6, eqT]
    try exact clw2
  · have hi := mem_rng.mp hi
    obtain ⟨g, m, e⟩ := e_dice (n := 9) (δ := []) ns i hl (by omega) (by omega)
    refine ⟨_, by simp [k_law]; rfl, ?_⟩
    simp [e]
    exact fun δ hd => turn (n := 0) rfl hd
end K00
set_option Elab.async false
set_option linter.all false
set_option maxRecDepth 100000
set_option maxHeartbeats 8000000
namespace K00
open PySem PySem.Spec PyProof.Rows L2 Ev
abbrev prg : Program := PySem.Challenge.pw_stackfirm_k00_whole_boxes_and_their_side
def top (i : Nat) : Stmt := prg.main.body.getD i (.Pass ⟨0, 0, 0, 0⟩)
def s_demand : FnS := { nm := "demand", st := top 4, N := ["is_good", "name"], np := 2, lam := false }
def s_is_in : FnS := { nm := "is_in", st := top 5, N := ["value", "low", "high"], np := 3, lam := false }
def s_is_tuple : FnS := { nm := "is_tuple", st := top 6, N := ["value", "least", "most"], np := 3, lam := false }
def s_is_box : FnS := { nm := "is_box", st := top 16, N := ["value", "side"], np := 1, lam := false }
def s_is_pallet : FnS := { nm := "is_pallet", st := top 17, N := ["value", "side"], np := 1, lam := false }
def s_is_placed : FnS := { nm := "is_placed", st := top 18, N := ["value", "one"], np := 1, lam := false }
def s_is_load : FnS := { nm := "is_load", st := top 19, N := ["value", "one"], np := 1, lam := false }
def s_demand_load : FnS := { nm := "demand_load", st := top 20, N := ["load"], np := 1, lam := false }
def s_turned : FnS := { nm := "turned", st := top 21, N := ["box"], np := 1, lam := false }
def s_ways_to_lie : FnS := { nm := "ways_to_lie", st := top 22, N := ["box", "orders", "one", "two", "three", "sides"], np := 1, lam := false }
def s_volume : FnS := { nm := "volume", st := top 23, N := ["box"], np := 1, lam := false }
def s_weight_of : FnS := { nm := "weight_of", st := top 24, N := ["load", "placed"], np := 1, lam := false }
def s__law_dice : FnS := { nm := "_law_dice", st := top 26, N := ["script", "spot", "own", "mixed", "cell"], np := 2, lam := false }
def s__law_roll : FnS := { nm := "_law_roll", st := top 27, N := ["dice", "total", "found"], np := 2, lam := false }
def s__law_pick : FnS := { nm := "_law_pick", st := top 28, N := ["dice", "things"], np := 2, lam := false }
def s__law_side : FnS := { nm := "_law_side", st := top 30, N := ["dice"], np := 1, lam := false }
def s__law_ways : FnS := { nm := "_law_ways", st := top 31, N := ["box", "found", "one", "two", "own"], np := 1, lam := false }
def s_law : FnS := { nm := "law", st := top 32, N := ["script", "spot", "box", "told", "dice", "load", "place", "low", "high", "wrong", "bad"], np := 1, lam := true }
def T : Tbl := { fs := [s_demand, s_is_in, s_is_tuple, s_is_box, s_is_pallet, s_is_placed, s_is_load, s_demand_load, s_turned, s_ways_to_lie, s_volume, s_weight_of, s__law_dice, s__law_roll, s__law_pick, s__law_side, s__law_ways, s_law], cs := ["MOST_SIDE", "MOST_WEIGHT", "MOST_BORNE", "MOST_PALLET", "MOST_ALL", "MOST_HIGH", "MOST_BOXES", "MOST_PLACE"], kws := [(8, ["box"], [0]), (9, ["box"], [0]), (10, ["box"], [0]), (11, ["load"], [0])], ex := ["BadArgument"], th := ["_law_refused"] }
def I : LawIn := { T := T, P := P, flds := ["name"], xst := [top 2], tks := [⟨"_law_refused", top 29, "call", "e"⟩] }
theorem okB : I.okB prg = true := by decide +kernel
theorem b_demand : BindOk s_demand.nm s_demand.st s_demand.ps := fun _ _ _ _ _ _ us hl => match us, hl with | [_, _], _ => rfl
theorem b_is_in : BindOk s_is_in.nm s_is_in.st s_is_in.ps := fun _ _ _ _ _ _ us hl => match us, hl with | [_, _, _], _ => rfl
theorem b_is_tuple : BindOk s_is_tuple.nm s_is_tuple.st s_is_tuple.ps := fun _ _ _ _ _ _ us hl => match us, hl with | [_, _, _], _ => rfl
theorem b_is_box : BindOk s_is_box.nm s_is_box.st s_is_box.ps := fun _ _ _ _ _ _ us hl => match us, hl with | [_], _ => rfl
theorem b_is_pallet : BindOk s_is_pallet.nm s_is_pallet.st s_is_pallet.ps := fun _ _ _ _ _ _ us hl => match us, hl with | [_], _ => rfl
theorem b_is_placed : BindOk s_is_placed.nm s_is_placed.st s_is_placed.ps := fun _ _ _ _ _ _ us hl => match us, hl with | [_], _ => rfl
theorem b_is_load : BindOk s_is_load.nm s_is_load.st s_is_load.ps := fun _ _ _ _ _ _ us hl => match us, hl with | [_], _ => rfl
theorem b_demand_load : BindOk s_demand_load.nm s_demand_load.st s_demand_load.ps := fun _ _ _ _ _ _ us hl => match us, hl with | [_], _ => rfl
theorem b_turned : BindOk s_turned.nm s_turned.st s_turned.ps := fun _ _ _ _ _ _ us hl => match us, hl with | [_], _ => rfl
theorem b_ways_to_lie : BindOk s_ways_to_lie.nm s_ways_to_lie.st s_ways_to_lie.ps := fun _ _ _ _ _ _ us hl => match us, hl with | [_], _ => rfl
theorem b_volume : BindOk s_volume.nm s_volume.st s_volume.ps := fun _ _ _ _ _ _ us hl => match us, hl with | [_], _ => rfl
theorem b_weight_of : BindOk s_weight_of.nm s_weight_of.st s_weight_of.ps := fun _ _ _ _ _ _ us hl => match us, hl with | [_], _ => rfl
theorem b__law_dice : BindOk s__law_dice.nm s__law_dice.st s__law_dice.ps := fun _ _ _ _ _ _ us hl => match us, hl with | [_, _], _ => rfl
theorem b__law_roll : BindOk s__law_roll.nm s__law_roll.st s__law_roll.ps := fun _ _ _ _ _ _ us hl => match us, hl with | [_, _], _ => rfl
theorem b__law_pick : BindOk s__law_pick.nm s__law_pick.st s__law_pick.ps := fun _ _ _ _ _ _ us hl => match us, hl with | [_, _], _ => rfl
theorem b__law_side : BindOk s__law_side.nm s__law_side.st s__law_side.ps := fun _ _ _ _ _ _ us hl => match us, hl with | [_], _ => rfl
theorem b__law_ways : BindOk s__law_ways.nm s__law_ways.st s__law_ways.ps := fun _ _ _ _ _ _ us hl => match us, hl with | [_], _ => rfl
theorem b_law : BindOk s_law.nm s_law.st s_law.ps := fun _ _ _ _ _ _ us hl => match us, hl with | [_], _ => rfl
theorem kw_0 : KwB s_turned ["box"] [0] := fun _ _ _ _ _ _ _ ws ws' hl hp => match ws, hl with | [_], _ => by cases hp; exact .of_eq rfl
theorem kw_1 : KwB s_ways_to_lie ["box"] [0] := fun _ _ _ _ _ _ _ ws ws' hl hp => match ws, hl with | [_], _ => by cases hp; exact .of_eq rfl
theorem kw_2 : KwB s_volume ["box"] [0] := fun _ _ _ _ _ _ _ ws ws' hl hp => match ws, hl with | [_], _ => by cases hp; exact .of_eq rfl
theorem kw_3 : KwB s_weight_of ["load"] [0] := fun _ _ _ _ _ _ _ ws ws' hl hp => match ws, hl with | [_], _ => by cases hp; exact .of_eq rfl
theorem in_BadArgument : InitOk "name" (top 2) := ⟨⟨6, 17, 6, 21⟩, ⟨6, 23, 6, 27⟩, fun n => (match n with | 0 => ⟨7, 8, 7, 13⟩ | 1 => ⟨7, 8, 7, 15⟩ | 2 => ⟨7, 8, 7, 24⟩ | 3 => ⟨7, 25, 7, 29⟩ | 4 => ⟨7, 8, 7, 30⟩ | 5 => ⟨7, 8, 7, 30⟩ | 6 => ⟨8, 8, 8, 12⟩ | 7 => ⟨8, 8, 8, 17⟩ | 8 => ⟨8, 20, 8, 24⟩ | 9 => ⟨8, 8, 8, 24⟩ | _ => ⟨0, 0, 0, 0⟩), rfl, rfl, rfl, rfl⟩
theorem tb__law_refused : BindOk "_law_refused" (top 29) ["call"] := fun _ _ _ _ _ _ us hl => match us, hl with | [_], _ => rfl
theorem tk__law_refused : TkB ⟨"_law_refused", top 29, "call", "e"⟩ "BadArgument" "name" none := ⟨_, _, _, _, _, _, _, _, _, _, _, _, rfl⟩
theorem ok : I.Ok prg where
  b := okB
  bd := by
    intro f hf
    exact all_mem (p := fun f => BindOk f.nm f.st f.ps) (AllM.cons (b_demand) (AllM.cons (b_is_in) (AllM.cons (b_is_tuple) (AllM.cons (b_is_box) (AllM.cons (b_is_pallet) (AllM.cons (b_is_placed) (AllM.cons (b_is_load) (AllM.cons (b_demand_load) (AllM.cons (b_turned) (AllM.cons (b_ways_to_lie) (AllM.cons (b_volume) (AllM.cons (b_weight_of) (AllM.cons (b__law_dice) (AllM.cons (b__law_roll) (AllM.cons (b__law_pick) (AllM.cons (b__law_side) (AllM.cons (b__law_ways) (AllM.cons (b_law) (AllM.nil))))))))))))))))))) f hf
  kw := by
    intro j ks p hm f hf
    exact all_mem (p := fun (e : Nat × List Str × List Nat) => ∀ f, I.T.fs[e.1]? = some f → KwB f e.2.1 e.2.2) (AllM.cons (fun _ h => by cases h; exact kw_0) (AllM.cons (fun _ h => by cases h; exact kw_1) (AllM.cons (fun _ h => by cases h; exact kw_2) (AllM.cons (fun _ h => by cases h; exact kw_3) (AllM.nil))))) (j, ks, p) hm f hf
  fl := by
    intro f hf
    exact all_mem (p := fun f => OwnX.FldOk f) (AllM.cons (⟨rfl, rfl, rfl, rfl, fun _ _ _ _ _ _ _ _ _ _ _ _ => rfl⟩) (AllM.nil)) f hf
  ini := by
    intro q hq
    exact all_mem (p := fun (q : Stmt × Str) => InitOk q.2 q.1) (AllM.cons (in_BadArgument) (AllM.nil)) q hq
  tb := by
    intro k hk
    exact all_mem (p := fun (k : TkS) => BindOk k.nm k.st [k.a]) (AllM.cons (tb__law_refused) (AllM.nil)) k hk
  tk := by
    intro i k t h1 h2
    exact all_mem (p := fun (q : TkS × (Nat × Option Str)) => TkB q.1 (I.T.ex.getD q.2.1 Str.empty) (I.flds.getD q.2.1 Str.empty) q.2.2) (AllM.cons (tk__law_refused) (AllM.nil)) (k, t) (zip_at h1 h2)
def names : List PySem.Str := (["StackError", "BadArgument", "demand", "is_in", "is_tuple", "MOST_SIDE", "MOST_WEIGHT", "MOST_BORNE", "MOST_PALLET", "MOST_ALL", "MOST_HIGH", "MOST_BOXES", "MOST_PLACE", "is_box", "is_pallet", "is_placed", "is_load", "demand_load", "turned", "ways_to_lie"] : List PySem.Str) ++ (["volume", "weight_of", "_law_dice", "_law_roll", "_law_pick", "_law_refused", "_law_side", "_law_ways"] : List PySem.Str)
abbrev R : PySem.W.OpenRow := PySem.W.OpenLaw.row PySem.Challenge.rw_stackfirm_k00_whole_boxes_and_their_side
def fa : List He.Fa := I.fa
def fn : List He.DefD := I.fn
abbrev hk : PySem.W.Hook := hookY 5 I.fa I.fn I.tf (I.ex prg) I.xl
def ob (s : PySem.W.SharedT) : AlY := obsY 5 I.fa I.fn I.tf (I.ex prg) I.xl (HandSHeadRun.getT s)
theorem ob_eq (s : PySem.W.SharedT) : ob s = hk.obs s.abs := obsY_eq (HandSHeadRun.getT_eq s)
abbrev qv : Program := PySem.W.view R.prog [32]
theorem run (w : World) : HandSHeadRun.RunEq R qv hk ob 4000 names w := by
  intro os
  kernel_rfl
end K00
set_option Elab.async false
set_option linter.all false
set_option maxRecDepth 100000
set_option maxHeartbeats 8000000
open PySem PySem.W PySem.Calls PyProof.Rows
set_option maxRecDepth 100000 in
set_option maxHeartbeats 8000000 in
theorem PySem.Challenge.cw_stackfirm_k00_whole_boxes_and_their_side_holds : PySem.Challenge.rw_stackfirm_k00_whole_boxes_and_their_side.Holds := by
  w_on; o_law
  refine HandSHeadRun.head_any (r := OpenLaw.row PySem.Challenge.rw_stackfirm_k00_whole_boxes_and_their_side) (q := view (OpenLaw.row PySem.Challenge.rw_stackfirm_k00_whole_boxes_and_their_side).prog [32]) (H := K00.hk) (ob := K00.ob) (M := 4000) (loose := K00.names) (d := HandSHeadRun.topDef (OpenLaw.row PySem.Challenge.rw_stackfirm_k00_whole_boxes_and_their_side).prog 32) (kwd := []) K00.ob_eq
    (by kernel_rfl) (fun s => by kernel_rfl) K00.run (by kernel_rfl) (by kernel_rfl) (by kernel_rfl) (by rfl) (by first | assumption | decide +kernel) (by decide +kernel) ⟨rfl, rfl, rfl, rfl, rfl, by decide +kernel⟩ ?hw ?hc
  case hw => w_witness2
  case hc =>
    refine LamX.walk_ofTsE (l := PySem.Challenge.rw_stackfirm_k00_whole_boxes_and_their_side) (n := 63) (k := 35) (x := "script") (CX := fun w => L2.CX K00.prg w) rfl (by decide) (by kernel_rfl) ⟨rfl, by decide, by decide⟩ ?F ?C
    case C =>
      intro w H s e s' h
      obtain ⟨_, _, _, _, _, _, _, _, _, _, _, _, z⟩ := h
      exact z
    case F =>
      intro w mg fa h Y G hmg0
      obtain ⟨K, KX, c⟩ := Y
      have hmg : mg (Ev.FnS.nm K00.s_law) = some (.ref fa) := by
        have e : (HandSHeadRun.topDef (OpenLaw.row PySem.Challenge.rw_stackfirm_k00_whole_boxes_and_their_side).prog 32).name = Ev.FnS.nm K00.s_law := by kernel_rfl
        rw [← e]
        exact hmg0
      exact ⟨K, KX, Ev.LawIn.law_at K00.ok KX G c rfl (N := 10) (j := 17) (f := K00.s_law) rfl rfl hmg K00.holds⟩
