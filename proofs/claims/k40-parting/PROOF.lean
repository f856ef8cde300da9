import PyProof.Rows.All
import PyProof.ReprLen
import PyProof.Rows.NestShow
import Wide.All
import OpenK.AllK
import Wide.FinOn
import HandS.ForMost
import HandS.Deep
import HandS.TupMul
import HandS.Flt
import HandS.SetKeys
import HandS.Zip
import HandS.Style
import HandS.TupAny
import HandS.IsInst
import HandS.Exc
import HandS.ExcOwn
import HandS.CallSlots
import HandS.Flow
import HandS.Small
import HandS.Comp
import HandS.WordsExc
import HandS.EndBits
import KE.GoesEnum
import KE.KDictKeyed
import KE.KDictDisplayH
import KE.KDictZip
import HandS.SetFor
import HandS.Strs
import PySem.Challenge.RW_surewatch_k40_rows_that_part
set_option Elab.async false
set_option linter.all false
set_option maxRecDepth 100000
set_option maxHeartbeats 0
namespace Mp

/-- data: trees without identity -/
inductive D where
  | non
  | bl (b : Bool)
  | int (i : Int)
  | str (s : List Nat)
  | tup (xs : List D)
  | lst (xs : List D)
  /-- a list that came from outside -/
  | kl (xs : List D)
deriving Inhabited

mutual
def D.eqv : D → D → Bool
  | .non, .non => true
  | .bl a, .bl b => a == b
  | .bl a, .int j => (if a then 1 else 0) == j
  | .int i, .bl b => i == (if b then 1 else 0)
  | .int i, .int j => i == j
  | .str x, .str y => x == y
  | .lst xs, .lst ys => D.eqvs xs ys
  | .lst xs, .kl ys => D.eqvs xs ys
  | .kl xs, .lst ys => D.eqvs xs ys
  | .kl xs, .kl ys => D.eqvs xs ys
  | .tup xs, .tup ys => D.eqvs xs ys
  | _, _ => false
def D.eqvs : List D → List D → Bool
  | [], [] => true
  | x :: xs, y :: ys => D.eqv x y && D.eqvs xs ys
  | _, _ => false
end
mutual
def D.dep : D → Nat
  | .lst xs => D.deps xs + 1
  | .kl xs => D.deps xs + 1
  | .tup xs => D.deps xs + 1
  | _ => 0
def D.deps : List D → Nat
  | [] => 0
  | x :: xs => max (D.dep x) (D.deps xs)
end
def LIM : Nat := 16777216
/-- keys by value; keys that are tuples -/
def D.leaf : D → Bool
  | .non => true
  | .int _ => true
  | .str _ => true
  | _ => false
mutual
def D.hsh : D → Bool
  | .non => true
  | .bl _ => true
  | .int _ => true
  | .str _ => true
  | .tup xs => D.hshs xs
  | _ => false
def D.hshs : List D → Bool
  | [] => true
  | x :: xs => D.hsh x && D.hshs xs
end
def D.tupk : D → Bool
  | .tup xs => D.hshs xs && decide (D.deps xs < 8)
  | _ => false
def keyOk (kvs : List (D × D)) (k : D) : Bool := (k.leaf && kvs.all fun p => p.1.leaf) || (k.tupk && kvs.all fun p => p.1.tupk)
def lookD (k : D) : List (D × D) → Option D
  | [] => none
  | (x, v) :: r => if D.eqv x k then some v else lookD k r
def putD (k v : D) (kvs : List (D × D)) : List (D × D) :=
  if (kvs.any fun p => D.eqv p.1 k) = true then kvs.map (fun p => if D.eqv p.1 k then (p.1, v) else p) else kvs ++ [(k, v)]

/-- what stands in a slot: nothing, shared data, an owned list, a locked one, an owned dict, an owned instance, a reference to what stands in another slot -/
inductive Sl where
  | un
  | sh (d : D)
  | ol (xs : List D)
  | lk (xs : List D)
  | od (kvs : List (List Nat × D))
  /-- an owned dict: keys numbers, texts, None, or tuples -/
  | dn (kvs : List (D × D))
  /-- a tuple of an owned dict and data -/
  | td (kvs : List (D × D)) (d : D)
  | oi (c : Nat) (fs : List (Nat × Sl))
  | pk (i : Nat)
deriving Inhabited
abbrev Env := List Sl

inductive Z (α : Type) where
  | ok (a : α)
  | exc (c : Nat) (ds : List D) (ρ : Env)
  | stuck
@[inline] def Z.bind {α β : Type} (r : Z α) (f : α → Z β) : Z β :=
  match r with
  | .ok a => f a
  | .exc c ds ρ => .exc c ds ρ
  | .stuck => .stuck
def Z.of {α : Type} : Option α → Z α
  | some a => .ok a
  | none => .stuck

/-- where nothing may be raised -/
def Z.hard {α : Type} : Z α → Z α
  | .ok a => .ok a
  | _ => .stuck

inductive Bo where | add | sub | mul | fdiv | mod | pow
inductive Co where | eq | ne | lt | le | gt | ge | is_ | isnot | in_ | notin
inductive Ty where | int | bool | str | tuple | list | dict
/-- built-in functions of values -/
inductive Bi where | len | all | any | sum | max | min | list | tuple | str | int | repr | sorted | set
/-- methods of built-in types that change nothing -/
inductive Bm where | join | split | index | count | get | partition | upper | replace
/-- methods that change the receiver -/
inductive Mu where | append | extend | insert | pop | clear | reverse | setdefault | update

mutual
inductive Ex where
  | k (c : D)
  | v (i : Nat)
  | g (i : Nat)
  | fr (a : Ex)
  | tup (es : Exs)
  | lst (es : Exs)
  | dct (ks : List (List Nat)) (vs : Exs)
  | bin (o : Bo) (a b : Ex)
  | neg (a : Ex)
  | not (a : Ex)
  | and (a b : Ex)
  | or (a b : Ex)
  | cmp (o : Co) (a b : Ex)
  | chain (o o' : Co) (a b c : Ex)
  | ite (c : Te) (a b : Ex)
  | idx (a i : Ex)
  | slc (a : Ex) (lo hi : Exs)
  | call (f : Nat) (es : Exs)
  | bi (b : Bi) (es : Exs)
  | bm (m : Bm) (a : Ex) (es : Exs)
  | mu (m : Mu) (i : Nat) (es : Exs)
  | isi (a : Ex) (ts : List Ty)
  | rpr (a : Ex)
  | lset (a : Ex)
  /-- {}, {k: v}, d.get(k, x), d.setdefault(k, x), (d, e), xs[::-1], dict(a), sorted(a), sorted(a, key=len), str(a) -/
  | dcn
  | dc1 (k v : Ex)
  | dget (a k x : Ex)
  | dsd (i : Nat) (k x : Ex)
  | pr2 (i : Nat) (e : Ex)
  | rev (a : Ex)
  | dic (a : Ex)
  | srt (a : Ex)
  | srl (a : Ex)
  | st (a : Ex)
  /-- list(zip(a, b)), sorted(set(a)) -/
  | lz (es : Exs)
  | sst (a : Ex)
  | lc (elt : Ex) (tg : List Nat) (tup : Bool) (it : It) (cond : Te)
inductive Exs where
  | nil
  | cons (e : Ex) (es : Exs)
/-- a test -/
inductive Te where
  | tt
  | e (a : Ex)
  | not (t : Te)
  | and (t u : Te)
  | or (t u : Te)
/-- what is walked -/
inductive It where
  | e (a : Ex)
  | range (es : Exs)
  | zip (es : Exs)
  | zip3 (es : Exs)
  | enum (es : Exs)
end
mutual
inductive Sm where
  | ret (e : Ex)
  | retN
  | asg (i : Nat) (e : Ex)
  | asgT (is : List Nat) (e : Ex)
  | setI (i : Nat) (j e : Ex)
  | ex (e : Ex)
  | ifs (c : Te) (a b : Sms)
  | for_ (tg : List Nat) (tup : Bool) (it : It) (body : Sms)
  | whl (c : Te) (body : Sms)
  | pass
  | brk
  | cont
  /-- what is not read: nothing is shown of a run that comes here -/
  | stk
inductive Sms where
  | nil
  | cons (s : Sm) (ss : Sms)
end

/-! ### the slots -/
def Env.get (ρ : Env) (i : Nat) : Sl := ρ.getD i .un
def res (ρ : Env) : Sl → Sl
  | .pk i => ρ.get i
  | s => s
/-- what is seen -/
def see : Sl → Option D
  | .sh d => some d
  | .ol xs => some (.lst xs)
  | .lk xs => some (.lst xs)
  | _ => none
def vw (ρ : Env) (s : Sl) : Option D := see (res ρ s)
def vws (ρ : Env) : List Sl → Option (List D)
  | [] => some []
  | s :: ss => match vw ρ s with
    | some d => match vws ρ ss with
      | some ds => some (d :: ds)
      | none => none
    | none => none
/-- given away: from here on shared -/
def fz (s : Sl) (ρ : Env) : Option (D × Env) :=
  match s with
  | .sh d => some (d, ρ)
  | .ol xs => some (.lst xs, ρ)
  | .pk i => match ρ.get i with
    | .ol xs => some (.lst xs, ρ.set i (.sh (.lst xs)))
    | _ => none
  | _ => none

/-! ### values -/
def D.truth : D → Option Bool
  | .non => some false
  | .bl b => some b
  | .int i => some (i != 0)
  | .str s => if s.length ≤ LIM then some (!s.isEmpty) else none
  | .tup xs => some (!xs.isEmpty)
  | .lst xs => some (!xs.isEmpty)
  | .kl xs => some (!xs.isEmpty)
def tru (r : Sl × Env) : Z (Bool × Env) :=
  match vw r.2 r.1 with
  | some d => match d.truth with
    | some b => .ok (b, r.2)
    | none => .stuck
  | none => .stuck
def small (i : Int) : Bool := decide (-(2 ^ 64) < i) && decide (i < 2 ^ 64)
def rep {α : Type} (k : Nat) (xs : List α) : List α := (List.replicate k xs).flatten
def binF : Bo → D → D → Option Sl
  | .add, .int i, .int j => some (.sh (.int (i + j)))
  | .add, .str x, .str y => if x.length + y.length ≤ LIM then some (.sh (.str (x ++ y))) else none
  | .add, .tup x, .tup y => if x.length + y.length ≤ LIM then some (.sh (.tup (x ++ y))) else none
  | .add, .lst x, .lst y => if x.length + y.length ≤ LIM then some (.ol (x ++ y)) else none
  | .sub, .int i, .int j => some (.sh (.int (i - j)))
  | .mul, .int i, .int j => if small i || small j then some (.sh (.int (i * j))) else none
  | .mul, .lst x, .int j => if -(2 ^ 63) ≤ j ∧ j < 2 ^ 63 ∧ x.length * j.toNat ≤ LIM then some (.ol (rep j.toNat x)) else none
  | .mul, .tup x, .int j => if 1 ≤ x.length ∧ x.length ≤ 1000 ∧ 0 ≤ j ∧ j ≤ 1000 then some (.sh (.tup (rep j.toNat x))) else none
  | .fdiv, .int i, .int j => if j ≠ 0 ∧ j.natAbs < 1073741824 then some (.sh (.int (i.fdiv j))) else none
  | .mod, .int i, .int j => if j ≠ 0 then some (.sh (.int (i.fmod j))) else none
  | .pow, .int i, .int j => if 0 ≤ j ∧ j ≤ 1000000 ∧ i.natAbs < 2 ^ 64 then some (.sh (.int (i ^ j.toNat))) else none
  | _, _, _ => none
/-- does x stand in y -/
def sub : List Nat → List Nat → Bool
  | x, [] => x.isEmpty
  | x, c :: y => x.isPrefixOf (c :: y) || sub x y
def inF (d : D) : D → Option Bool
  | .lst ys => if min (D.dep d) (D.deps ys) ≤ 64 then some (ys.any fun z => D.eqv z d) else none
  | .tup ys => if min (D.dep d) (D.deps ys) ≤ 64 then some (ys.any fun z => D.eqv z d) else none
  | .str y => match d with
    | .str x => some (sub x y)
    | _ => none
  | _ => none
def cmpF : Co → D → D → Option Bool
  | .eq, a, b => if min (D.dep a) (D.dep b) ≤ 64 then some (D.eqv a b) else none
  | .ne, a, b => if min (D.dep a) (D.dep b) ≤ 64 then some (!D.eqv a b) else none
  | .lt, .int i, .int j => some (decide (i < j))
  | .le, .int i, .int j => some (decide (i ≤ j))
  | .gt, .int i, .int j => some (decide (j < i))
  | .ge, .int i, .int j => some (decide (j ≤ i))
  | .is_, a, .non => some (match a with | .non => true | _ => false)
  | .isnot, a, .non => some (match a with | .non => false | _ => true)
  | .is_, a, .bl c => some (match a with | .bl b => b == c | _ => false)
  | .isnot, a, .bl c => some (match a with | .bl b => b != c | _ => true)
  | .in_, a, b => inF a b
  | .notin, a, b => (inF a b).map (!·)
  | _, _, _ => none
def ixN (n : Nat) (i : Int) : Option Nat :=
  if 0 ≤ i then (if i < n then some i.toNat else none) else if -(n : Int) ≤ i then some (i + n).toNat else none
def atI {α : Type} (xs : List α) (i : Int) : Option α := (ixN xs.length i).bind fun j => xs[j]?
def sIx (n d : Nat) : Option Int → Nat
  | none => d
  | some v => if v < 0 then (v + (n : Int)).toNat else min v.toNat n
def cut {α : Type} (xs : List α) (lo hi : Option Int) : List α := (xs.drop (sIx xs.length 0 lo)).take (sIx xs.length xs.length hi - sIx xs.length 0 lo)
def lookS {β : Type} (k : List Nat) : List (List Nat × β) → Option β
  | [] => none
  | (x, v) :: r => if x = k then some v else lookS k r
def putS {β : Type} (k : List Nat) (v : β) (kvs : List (List Nat × β)) : List (List Nat × β) :=
  if (kvs.any fun p => decide (p.1 = k)) = true then kvs.map (fun p => if p.1 = k then (p.1, v) else p) else kvs ++ [(k, v)]
def idxF : Sl → D → Option D
  | .sh (.tup xs), .int i => atI xs i
  | .sh (.lst xs), .int i => atI xs i
  | .sh (.kl xs), .int i => atI xs i
  | .ol xs, .int i => atI xs i
  | .lk xs, .int i => atI xs i
  | .sh (.str s), .int i => if s.length ≤ LIM then (atI s i).map fun c => .str [c] else none
  | .od kvs, .str k => lookS k kvs
  | .dn kvs, k => if keyOk kvs k then lookD k kvs else none
  | _, _ => none
def slcF (d : D) (lo hi : Option Int) : Option Sl :=
  match d with
  | .tup xs => some (.sh (.tup (cut xs lo hi)))
  | .lst xs => some (.ol (cut xs lo hi))
  | .kl xs => some (.ol (cut xs lo hi))
  | .str s => if s.length ≤ LIM then some (.sh (.str (cut s lo hi))) else none
  | _ => none
def allB : List D → Option (List Bool)
  | [] => some []
  | .bl b :: r => (allB r).map (b :: ·)
  | _ :: _ => none
def allI : List D → Option (List Int)
  | [] => some []
  | .int b :: r => (allI r).map (b :: ·)
  | _ :: _ => none
def allS : List D → Option (List (List Nat))
  | [] => some []
  | .str b :: r => (allS r).map (b :: ·)
  | _ :: _ => none
/-- the texts that were met, each once -/
def metS (acc : List (List Nat)) : List (List Nat) → List (List Nat)
  | [] => acc
  | x :: r => metS (if acc.contains x then acc else acc ++ [x]) r
/-- the numbers that were met, each once -/
def metI (acc : List Int) : List Int → List Int
  | [] => acc
  | x :: r => metI (if acc.contains x then acc else acc ++ [x]) r
/-- how many unlike texts, unlike numbers -/
def lsetF : D → Option Int
  | .lst ds => if ds.length ≤ 1000 then (match allS ds with
    | some xs => some ((metS [] xs).length : Int)
    | none => (allI ds).map fun ns => ((metI [] ns).length : Int)) else none
  | _ => none
def maxI : Int → List Int → Int
  | a, [] => a
  | a, b :: r => maxI (if b > a then b else a) r
def minI : Int → List Int → Int
  | a, [] => a
  | a, b :: r => minI (if b < a then b else a) r
/-- the figures of a number below 10 ^ n -/
def figs : Nat → Nat → List Nat
  | 0, _ => []
  | n + 1, k => if k < 10 then [48 + k] else figs n (k / 10) ++ [48 + k % 10]
/-- the texts' order -/
def sLt : List Nat → List Nat → Bool
  | _, [] => false
  | [], _ :: _ => true
  | x :: xs, y :: ys => decide (x < y) || (x == y && sLt xs ys)
mutual
def D.lt : D → D → Bool
  | .int i, .int j => decide (i < j)
  | .str x, .str y => sLt x y
  | .tup xs, .tup ys => D.lts xs ys
  | .lst xs, .lst ys => D.lts xs ys
  | _, _ => false
def D.lts : List D → List D → Bool
  | [], [] => false
  | [], _ :: _ => true
  | _ :: _, [] => false
  | x :: xs, y :: ys => if D.eqv x y then D.lts xs ys else D.lt x y
end
/-- things whose order the texts alone tell: texts, lists of texts, tuples of texts -/
def D.isS : D → Bool
  | .str _ => true
  | _ => false
def D.isSs : D → Bool
  | .lst xs => xs.all D.isS
  | _ => false
def D.isSt : D → Bool
  | .tup xs => xs.all D.isS
  | _ => false
def D.isI : D → Bool
  | .int _ => true
  | _ => false
def srtOk (xs : List D) : Bool := decide (xs.length ≤ LIM) && (xs.all D.isS || xs.all D.isI || xs.all D.isSs || (xs.all D.isSt && (decide (xs.length ≤ 1) || xs.all fun d => match d with | .tup (_ :: _) => true | _ => false)))
def srtF : D → Option (List D)
  | .lst xs => if srtOk xs then some (xs.mergeSort fun a b => !(D.lt b a)) else none
  | _ => none
def lenD : D → Nat
  | .tup xs => xs.length
  | .lst xs => xs.length
  | _ => 0
def srlF : D → Option (List D)
  | .lst xs => if xs.length ≤ LIM ∧ (xs.all fun d => match d with | .tup _ => true | .lst _ => true | _ => false) = true then some (xs.mergeSort fun a b => decide (lenD a ≤ lenD b)) else none
  | _ => none
/-- dict(..) of pairs whose firsts are texts -/
def dicF : List D → Option (List (D × D))
  | [] => some []
  | .tup [.str x, v] :: r => (dicF r).map ((D.str x, v) :: ·)
  | _ => none
def min3 (i j k : Int) : Int := if k < (if j < i then j else i) then k else if j < i then j else i
def biF : Bi → List D → Option Sl
  | .len, [.tup xs] => some (.sh (.int xs.length))
  | .len, [.lst xs] => some (.sh (.int xs.length))
  | .len, [.kl xs] => some (.sh (.int xs.length))
  | .len, [.str s] => if s.length ≤ LIM then some (.sh (.int s.length)) else none
  | .all, [.lst xs] => (allB xs).map fun bs => .sh (.bl (bs.all id))
  | .any, [.lst xs] => (allB xs).map fun bs => .sh (.bl (bs.any id))
  | .sum, [.lst xs] => (allI xs).map fun ns => .sh (.int ns.sum)
  | .max, [.lst xs] => match allI xs with
    | some (n :: ns) => some (.sh (.int (maxI n ns)))
    | _ => none
  | .min, [.lst xs] => match allI xs with
    | some (n :: ns) => some (.sh (.int (minI n ns)))
    | _ => none
  | .max, [.int i, .int j] => some (.sh (.int (if j > i then j else i)))
  | .min, [.int i, .int j] => some (.sh (.int (if j < i then j else i)))
  | .min, [.int i, .int j, .int k] => some (.sh (.int (min3 i j k)))
  | .list, [.tup xs] => some (.ol xs)
  | .list, [.lst xs] => some (.ol xs)
  | .tuple, [.tup xs] => some (.sh (.tup xs))
  | .tuple, [.lst xs] => some (.sh (.tup xs))
  | .int, [.int i] => some (.sh (.int i))
  | .int, [.bl b] => some (.sh (.int (if b then 1 else 0)))
  | _, _ => none
def isTy (d : D) : Ty → Bool
  | .int => match d with | .int _ => true | .bl _ => true | _ => false
  | .bool => match d with | .bl _ => true | _ => false
  | .str => match d with | .str _ => true | _ => false
  | .tuple => match d with | .tup _ => true | _ => false
  | .list => match d with | .lst _ => true | .kl _ => true | _ => false
  | .dict => false
def D.noK : D → Option D
  | .kl _ => none
  | d => some d
def bmF : Bm → D → List D → Option Sl
  | .index, .lst ys, [d] => if D.dep d ≤ 64 ∧ D.deps ys + 1 ≤ 64 ∧ ys.length ≤ LIM then (ys.findIdx? fun z => D.eqv z d).map fun j => .sh (.int j) else none
  | _, _, _ => none
/-- may the method be asked of it -/
def bmT : Bm → Option D → Bool
  | .index, some (.lst _) => true
  | _, _ => false
/-- a method that changes: what it gives, what stands behind -/
def muF : Mu → Sl → List D → Option (D × Sl)
  | .append, .ol xs, [d] => if xs.length < LIM then some (.non, .ol (xs ++ [d])) else none
  | .pop, .ol xs, [] => match xs[xs.length - 1]? with
    | some d => some (d, .ol xs.dropLast)
    | none => none
  | .pop, .ol xs, [.int i] => if 0 ≤ i ∧ i < 2 ^ 63 then (match xs[i.toNat]? with
    | some d => some (d, .ol (xs.eraseIdx i.toNat))
    | none => none) else none
  | .clear, .ol _, [] => some (.non, .ol [])
  | .reverse, .ol xs, [] => some (.non, .ol xs.reverse)
  | .extend, .ol xs, [.lst ys] => if xs.length + ys.length ≤ LIM then some (.non, .ol (xs ++ ys)) else none
  | _, _, _ => none
/-- a target -/
def setT : List Nat → List D → Env → Option Env
  | [], [], ρ => some ρ
  | i :: is, d :: ds, ρ => setT is ds (ρ.set i (.sh d))
  | _, _, _ => none
def bindT (tg : List Nat) (tup : Bool) (d : D) (ρ : Env) : Option Env :=
  if tup then (match d with
    | .tup ds => setT tg ds ρ
    | _ => none)
  else setT tg [d] ρ
def bindW (wr : Nat → Bool) (tg : List Nat) (tup : Bool) (d : D) (ρ : Env) : Option Env := if tg.all wr then bindT tg tup d ρ else none
/-- what a loop walks: the items, the locked slots -/
def lock (s : Sl) (ρ : Env) : Option ((List D × List Nat) × Env) :=
  match s with
  | .sh (.tup xs) => some ((xs, []), ρ)
  | .sh (.lst xs) => some ((xs, []), ρ)
  | .sh (.kl xs) => some ((xs, []), ρ)
  | .sh (.str s) => if s.length ≤ LIM then some ((s.map fun c => .str [c], []), ρ) else none
  | .ol xs => some ((xs, []), ρ)
  | .pk i => match ρ.get i with
    | .ol xs => some ((xs, [i]), ρ.set i (.lk xs))
    | .lk xs => some ((xs, []), ρ)
    | _ => none
  | _ => none
def ulS : Sl → Sl
  | .lk xs => .ol xs
  | s => s
def unlock : List Nat → Env → Env
  | [], ρ => ρ
  | i :: is, ρ => unlock is (ρ.set i (ulS (ρ.get i)))
def rangeL (lo hi : Int) : List D := (List.range (hi - lo).toNat).map fun (k : Nat) => .int (lo + (k : Int))
def rangeF : List D → Option (List D)
  | [.int n] => if n < 2 ^ 62 ∧ -(2 ^ 62) ≤ n then some (rangeL 0 n) else none
  | [.int m, .int n] => if n < 2 ^ 62 ∧ -(2 ^ 62) ≤ n ∧ m < 2 ^ 62 ∧ -(2 ^ 62) ≤ m then some (rangeL m n) else none
  | _ => none
def pairF (d e : D) : D := .tup [d, e]
def zip3L : List D → List D → List D → List D
  | a :: as, b :: bs, c :: cs => .tup [a, b, c] :: zip3L as bs cs
  | _, _, _ => []
/-- what zip and enumerate walk -/
def itemsZ : D → Option (List D)
  | .lst x => some x
  | .tup x => some x
  | _ => none
/-- zip of a list or a tuple and a list or a tuple -/
def zipF : List D → Option (List D)
  | [a, b] => (match itemsZ a, itemsZ b with
    | some x, some y => some (List.zipWith pairF x y)
    | _, _ => none)
  | _ => none
/-- zip of three -/
def zip3F : List D → Option (List D)
  | [a, b, c] => (match itemsZ a, itemsZ b, itemsZ c with
    | some x, some y, some z => some (zip3L x y z)
    | _, _, _ => none)
  | _ => none
def enumL (k : Nat) : List D → List D
  | [] => []
  | d :: r => .tup [.int k, d] :: enumL (k + 1) r
/-- enumerate of a list or a tuple -/
def enumF : List D → Option (List D)
  | [d] => (itemsZ d).map (enumL 0)
  | _ => none
def wipeE (ρ : Env) : List Nat → Env
  | [] => ρ
  | i :: is => (wipeE ρ is).set i .un
def isOwn : Sl → Bool
  | .un => false
  | .sh _ => false
  | _ => true
def noOwn (ρ : Env) : List Nat → Bool
  | [] => true
  | i :: is => !isOwn (ρ.get i) && noOwn ρ is
def giveBack (ρ₀ ρ : Env) : List Nat → Env
  | [] => ρ
  | i :: is => (giveBack ρ₀ ρ is).set i (ρ₀.get i)

/-! ### by slots -/
def intOf : Sl → Option Int
  | .sh (.int i) => some i
  | _ => none
def blOf : Sl → Option Bool
  | .sh (.bl i) => some i
  | _ => none
def binS (o : Bo) (ρ : Env) (a b : Sl) : Option Sl :=
  match vw ρ a, vw ρ b with
  | some x, some y => binF o x y
  | _, _ => none
def cmpV (o : Co) (ρ : Env) (a b : Sl) : Option Bool :=
  match vw ρ a, vw ρ b with
  | some x, some y => cmpF o x y
  | _, _ => none
def hasD (o : Co) (k : Option D) (kvs : List (D × D)) : Option Bool :=
  match o, k with
  | .in_, some x => if keyOk kvs x then some (lookD x kvs).isSome else none
  | .notin, some x => if keyOk kvs x then some (!(lookD x kvs).isSome) else none
  | _, _ => none
def hasF (o : Co) (k : Option D) (kvs : List (List Nat × D)) : Option Bool :=
  match o, k with
  | .in_, some (.str x) => some (lookS x kvs).isSome
  | .notin, some (.str x) => some (!(lookS x kvs).isSome)
  | _, _ => none
def cmpS (o : Co) (ρ : Env) (a b : Sl) : Option Bool :=
  match res ρ b with
  | .od kvs => hasF o (vw ρ a) kvs
  | .dn kvs => hasD o (vw ρ a) kvs
  | _ => cmpV o ρ a b
def idxS (ρ : Env) (a i : Sl) : Option D :=
  match vw ρ i with
  | some y => idxF (res ρ a) y
  | none => none
def slcS (ρ : Env) (a : Sl) (lo hi : Option Int) : Option Sl := (vw ρ a).bind fun x => slcF x lo hi
/-- len(d), tuple(d), list(d) of a dict -/
def biD (b : Bi) (kvs : List (D × D)) : Option Sl :=
  match b with
  | .len => some (.sh (.int kvs.length))
  | _ => none
def biS (b : Bi) (ρ : Env) (rs : List Sl) : Option Sl :=
  match rs with
  | [r] => (match res ρ r with
    | .dn kvs => biD b kvs
    | _ => (vws ρ [r]).bind (biF b))
  | rs => (vws ρ rs).bind (biF b)
def bmS (m : Bm) (ρ : Env) (a : Sl) (rs : List Sl) : Option Sl :=
  match vw ρ a, vws ρ rs with
  | some x, some ds => bmF m x ds
  | _, _ => none

def isDn : Sl → Bool
  | .dn _ => true
  | _ => false
def isOd : Sl → Bool
  | .od _ => true
  | _ => false
/-- d.get(k, x) -/
def dgetN (ρ : Env) (a k : Sl) (x : D) : Option D :=
  match res ρ a, vw ρ k with
  | .dn kvs, some y => if keyOk kvs y then some ((lookD y kvs).getD x) else none
  | _, _ => none
def dgetO (ρ : Env) (a k : Sl) (x : D) : Option D :=
  match res ρ a, vw ρ k with
  | .od kvs, some (.str y) => some ((lookS y kvs).getD x)
  | _, _ => none
/-- d.setdefault(k, x) -/
def dsdS (s : Sl) (k x : D) : Option (D × Sl) :=
  match s with
  | .dn kvs => if keyOk kvs k = true ∧ kvs.length < LIM then
      (match lookD k kvs with
      | some v => some (v, .dn kvs)
      | none => some (x, .dn (putD k x kvs)))
    else none
  | _ => none
def revF : D → Option Sl
  | .lst xs => some (.ol xs.reverse)
  | _ => none
/-- the numbers, each once, in order -/
def insU (k : Int) : List Int → List Int
  | [] => [k]
  | x :: xs => if k < x then k :: x :: xs else if k = x then x :: xs else x :: insU k xs
def sortU : List Int → List Int
  | [] => []
  | k :: ks => insU k (sortU ks)
def sstF : D → Option (List D)
  | .tup xs => (allI xs).bind fun ns => if ns.length < 64 then some ((sortU ns).map .int) else none
  | _ => none
def stF : D → Option (List Nat)
  | .int i => if 0 ≤ i ∧ i < 1000000000000 then some (figs 12 i.toNat) else none
  | .str s => some s
  | _ => none
/-- dict(a) of a tuple or a list of pairs -/
def dicP : D → Option (List (D × D))
  | .tup xs => dicF xs
  | .lst xs => dicF xs
  | _ => none
def putAll (kvs ps : List (D × D)) : List (D × D) := ps.foldl (fun acc p => putD p.1 p.2 acc) kvs
def dicA (d : D) : Option (List (D × D)) := (dicP d).map (putAll [])
/-- what stands around a def's body -/
structure Ctx where
  cl : Nat → List Sl → Z (Sl × List Sl)
  gl : Nat → Option D
  /-- which slots may be bound -/
  wr : Nat → Bool
  wf : Nat
  /-- how a thing is shown -/
  rp : D → Option (List Nat)

/-- a comprehension's loop -/
def lcL (wp : Env → Env) (bd : D → Env → Option Env) (cd : Env → Z (Bool × Env)) (el : Env → Z (D × Env)) : List D → Env → List D → Z (List D × Env)
  | [], ρ, acc => .ok (acc, ρ)
  | d :: ds, ρ, acc => (Z.of (bd d (wp ρ))).bind fun ρ1 => (cd ρ1).bind fun c =>
    if c.1 then (el c.2).bind fun r => if acc.length < LIM then lcL wp bd cd el ds r.2 (acc ++ [r.1]) else .stuck
    else lcL wp bd cd el ds c.2 acc

/-- the arguments as a callee gets them -/
def argS (ρ : Env) : Sl → Sl
  | .pk i => match ρ.get i with
    | .lk _ => .un
    | s => s
  | s => s
/-- .. as the caller has them behind -/
def argsBack : List Sl → List Sl → Env → Env
  | .pk i :: rs, s :: ss, ρ => argsBack rs ss (ρ.set i s)
  | _ :: rs, _ :: ss, ρ => argsBack rs ss ρ
  | _, _, ρ => ρ
def pks : List Sl → List Nat
  | [] => []
  | .pk i :: r => i :: pks r
  | _ :: r => pks r
def nodup : List Nat → Bool
  | [] => true
  | i :: is => !is.contains i && nodup is

mutual
def evE (C : Ctx) : Ex → Env → Z (Sl × Env)
  | .k c, ρ => .ok (.sh c, ρ)
  | .v i, ρ => match ρ.get i with
    | .un => .stuck
    | .pk _ => .stuck
    | .sh d => .ok (.sh d, ρ)
    | _ => .ok (.pk i, ρ)
  | .g i, ρ => match C.gl i with
    | some d => .ok (.sh d, ρ)
    | none => .stuck
  | .fr a, ρ => (evE C a ρ).bind fun r => (Z.of (fz r.1 r.2)).bind fun q => .ok (.sh q.1, q.2)
  | .tup es, ρ => (evF C es ρ).bind fun r => if r.1.length ≤ LIM then .ok (.sh (.tup r.1), r.2) else .stuck
  | .lst es, ρ => (evF C es ρ).bind fun r => if r.1.length ≤ LIM then .ok (.ol r.1, r.2) else .stuck
  | .dct ks vs, ρ => (evF C vs ρ).bind fun r => if ks.length = r.1.length ∧ ks.length ≤ 15 ∧ ks.Nodup then .ok (.od (ks.zip r.1), r.2) else .stuck
  | .bin o a b, ρ => (evE C a ρ).bind fun r => (evE C b r.2).bind fun q => (Z.of (binS o q.2 r.1 q.1)).bind fun z => .ok (z, q.2)
  | .neg a, ρ => (evE C a ρ).bind fun r => (Z.of (intOf r.1)).bind fun i => .ok (.sh (.int (-i)), r.2)
  | .not a, ρ => (evE C a ρ).bind fun r => (tru r).bind fun q => .ok (.sh (.bl (!q.1)), q.2)
  | .and a b, ρ => (evE C a ρ).bind fun r => (Z.of (blOf r.1)).bind fun c => if c then evE C b r.2 else .ok (.sh (.bl false), r.2)
  | .or a b, ρ => (evE C a ρ).bind fun r => (Z.of (blOf r.1)).bind fun c => if c then .ok (.sh (.bl true), r.2) else evE C b r.2
  | .cmp o a b, ρ => (evE C a ρ).bind fun r => (evE C b r.2).bind fun q => (Z.of (cmpS o q.2 r.1 q.1)).bind fun z => .ok (.sh (.bl z), q.2)
  | .chain o o' a b c, ρ => (evE C a ρ).bind fun r => (evE C b r.2).bind fun q => (Z.of (cmpV o q.2 r.1 q.1)).bind fun z =>
    if z then (evE C c q.2).bind fun p => (Z.of (cmpV o' p.2 q.1 p.1)).bind fun z => .ok (.sh (.bl z), p.2) else .ok (.sh (.bl false), q.2)
  | .ite c a b, ρ => (evT C c ρ).bind fun r => if r.1 then evE C a r.2 else evE C b r.2
  | .idx a i, ρ => (evE C a ρ).bind fun r => (evE C i r.2).bind fun q => (Z.of (idxS q.2 r.1 q.1)).bind fun d => .ok (.sh d, q.2)
  | .slc a lo hi, ρ => (evE C a ρ).bind fun r => (evO C lo r.2).bind fun l => (evO C hi l.2).bind fun h => (Z.of (slcS h.2 r.1 l.1 h.1)).bind fun z => .ok (z, h.2)
  | .call f es, ρ => (evA C es ρ).bind fun r => if nodup (pks r.1) then
      (match C.cl f (r.1.map (argS r.2)) with
      | .ok q => .ok (q.1, argsBack r.1 q.2 r.2)
      | .exc c ds ss => .exc c ds (argsBack r.1 ss r.2)
      | .stuck => .stuck)
    else .stuck
  | .bi b es, ρ => (evA C es ρ).bind fun r => (Z.of (biS b r.2 r.1)).bind fun z => .ok (z, r.2)
  | .bm m a es, ρ => (evE C a ρ).bind fun r => if bmT m (vw r.2 r.1) = true then (evA C es r.2).bind fun q => (Z.of (bmS m q.2 r.1 q.1)).bind fun z => .ok (z, q.2) else .stuck
  | .mu m i es, ρ => if (match ρ.get i with | .ol _ => true | _ => false) then
      (evF C es ρ).bind fun r => (Z.of (muF m (r.2.get i) r.1)).bind fun z => .ok (.sh z.1, r.2.set i z.2)
    else .stuck
  | .isi a ts, ρ => (evE C a ρ).bind fun r => (Z.of ((vw r.2 r.1).bind D.noK)).bind fun d => .ok (.sh (.bl (ts.any (isTy d))), r.2)
  | .rpr a, ρ => (evE C a ρ).bind fun r => (Z.of ((vw r.2 r.1).bind C.rp)).bind fun s => .ok (.sh (.str s), r.2)
  | .dcn, ρ => .ok (.dn [], ρ)
  | .dc1 k v, ρ => (evE C k ρ).bind fun r => (Z.of (fz r.1 r.2)).bind fun q => if keyOk [] q.1 = true then (evE C v q.2).bind fun s => (Z.of (fz s.1 s.2)).bind fun p => .ok (.dn [(q.1, p.1)], p.2) else .stuck
  | .dget a k x, ρ => (evE C a ρ).bind fun r => if isDn (res r.2 r.1) = true then
      (evE C k r.2).bind fun q => (evE C x q.2).bind fun p => (Z.of (fz p.1 p.2)).bind fun z => (Z.of (dgetN z.2 r.1 q.1 z.1)).bind fun d => .ok (.sh d, z.2)
    else if isOd (res r.2 r.1) = true then
      (evE C k r.2).bind fun q => (evE C x q.2).bind fun p => (Z.of (fz p.1 p.2)).bind fun z => (Z.of (dgetO z.2 r.1 q.1 z.1)).bind fun d => .ok (.sh d, z.2)
    else .stuck
  | .dsd i k x, ρ => if isDn (ρ.get i) = true then
      (evE C k ρ).bind fun q => (Z.of (fz q.1 q.2)).bind fun q => (evE C x q.2).bind fun p => (Z.of (fz p.1 p.2)).bind fun z => (Z.of (dsdS (z.2.get i) q.1 z.1)).bind fun w => .ok (.sh w.1, z.2.set i w.2)
    else .stuck
  | .pr2 i e, ρ => if isDn (ρ.get i) = true ∧ C.wr i = true then
      (evE C e ρ).bind fun r => (Z.of (fz r.1 r.2)).bind fun q => (match q.2.get i with
      | .dn kvs => .ok (.td kvs q.1, q.2.set i .un)
      | _ => .stuck)
    else .stuck
  | .rev a, ρ => (evE C a ρ).bind fun r => (Z.of ((vw r.2 r.1).bind revF)).bind fun z => .ok (z, r.2)
  | .lz es, ρ => (evF C es ρ).bind fun r => (Z.of (zipF r.1)).bind fun z => if z.length ≤ LIM then .ok (.ol z, r.2) else .stuck
  | .sst a, ρ => (evE C a ρ).bind fun r => (Z.of ((vw r.2 r.1).bind sstF)).bind fun z => .ok (.ol z, r.2)
  | .dic a, ρ => (evE C a ρ).bind fun r => (Z.of ((vw r.2 r.1).bind dicA)).bind fun z => .ok (.dn z, r.2)
  | .srt a, ρ => (evE C a ρ).bind fun r => (Z.of ((vw r.2 r.1).bind srtF)).bind fun z => .ok (.ol z, r.2)
  | .srl a, ρ => (evE C a ρ).bind fun r => (Z.of ((vw r.2 r.1).bind srlF)).bind fun z => .ok (.ol z, r.2)
  | .st a, ρ => (evE C a ρ).bind fun r => (Z.of ((vw r.2 r.1).bind stF)).bind fun z => .ok (.sh (.str z), r.2)
  | .lset a, ρ => (evE C a ρ).bind fun r => (Z.of ((vw r.2 r.1).bind lsetF)).bind fun k => .ok (.sh (.int k), r.2)
  | .lc elt tg tup it cond, ρ => (evI C it ρ).bind fun r => if noOwn r.2 tg then
      (lcL (fun ρ => wipeE ρ tg) (bindT tg tup) (fun ρ => (evT C cond ρ).hard) (fun ρ => ((evE C elt ρ).bind fun q => Z.of (fz q.1 q.2)).hard) r.1.1 r.2 []).bind fun q =>
        .ok (.ol q.1, unlock r.1.2 (giveBack r.2 q.2 tg))
    else .stuck
/-- an optional bound -/
def evO (C : Ctx) : Exs → Env → Z (Option Int × Env)
  | .nil, ρ => .ok (none, ρ)
  | .cons e .nil, ρ => (evE C e ρ).bind fun r => (Z.of (intOf r.1)).bind fun i => .ok (some i, r.2)
  | .cons _ (.cons _ _), _ => .stuck
/-- a test -/
def evT (C : Ctx) : Te → Env → Z (Bool × Env)
  | .tt, ρ => .ok (true, ρ)
  | .e a, ρ => (evE C a ρ).bind tru
  | .not t, ρ => (evT C t ρ).bind fun r => .ok (!r.1, r.2)
  | .and t u, ρ => (evT C t ρ).bind fun r => if r.1 then evT C u r.2 else .ok (false, r.2)
  | .or t u, ρ => (evT C t ρ).bind fun r => if r.1 then .ok (true, r.2) else evT C u r.2
/-- arguments -/
def evA (C : Ctx) : Exs → Env → Z (List Sl × Env)
  | .nil, ρ => .ok ([], ρ)
  | .cons e es, ρ => (evE C e ρ).bind fun r => (evA C es r.2).bind fun q => .ok (r.1 :: q.1, q.2)
/-- items that are given away -/
def evF (C : Ctx) : Exs → Env → Z (List D × Env)
  | .nil, ρ => .ok ([], ρ)
  | .cons e es, ρ => (evE C e ρ).bind fun r => (Z.of (fz r.1 r.2)).bind fun q => (evF C es q.2).bind fun p => .ok (q.1 :: p.1, p.2)
/-- what is walked -/
def evI (C : Ctx) : It → Env → Z ((List D × List Nat) × Env)
  | .e a, ρ => (evE C a ρ).bind fun r => Z.of (lock r.1 r.2)
  | .range es, ρ => (evA C es ρ).bind fun r => (Z.of ((vws r.2 r.1).bind rangeF)).bind fun z => .ok ((z, []), r.2)
  | .zip es, ρ => (evF C es ρ).bind fun r => (Z.of (zipF r.1)).bind fun z => .ok ((z, []), r.2)
  | .zip3 es, ρ => (evF C es ρ).bind fun r => (Z.of (zip3F r.1)).bind fun z => .ok ((z, []), r.2)
  | .enum es, ρ => (evF C es ρ).bind fun r => (Z.of (enumF r.1)).bind fun z => .ok ((z, []), r.2)
end

/-- unlocked, however it ended -/
def Z.unl {α : Type} (lk : List Nat) : Z (α × Env) → Z (α × Env)
  | .ok (a, ρ) => .ok (a, unlock lk ρ)
  | .exc c ds ρ => .exc c ds (unlock lk ρ)
  | .stuck => .stuck
/-- how a block ends -/
inductive Fl where
  | nx | bk | ct
  | rt (s : Sl)
/-- a for's loop -/
def forL (bd : D → Env → Option Env) (body : Env → Z (Fl × Env)) : List D → Env → Z (Fl × Env)
  | [], ρ => .ok (.nx, ρ)
  | d :: ds, ρ => (Z.of (bd d ρ)).bind fun ρ1 => (body ρ1).bind fun r => match r.1 with
    | .nx => forL bd body ds r.2
    | .ct => forL bd body ds r.2
    | .bk => .ok (.nx, r.2)
    | .rt s => .ok (.rt s, r.2)
/-- a while's loop -/
def whlL (cd : Env → Z (Bool × Env)) (body : Env → Z (Fl × Env)) : Nat → Env → Z (Fl × Env)
  | 0, _ => .stuck
  | n + 1, ρ => (cd ρ).bind fun c => if c.1 then (body c.2).bind fun r => match r.1 with
      | .nx => whlL cd body n r.2
      | .ct => whlL cd body n r.2
      | .bk => .ok (.nx, r.2)
      | .rt s => .ok (.rt s, r.2)
    else .ok (.nx, c.2)
/-- what is handed back: an owned thing of a slot of one's own is moved -/
def retS (wr : Nat → Bool) (s : Sl) (ρ : Env) : Option (Sl × Env) :=
  match s with
  | .pk i => if wr i then
      match ρ.get i with
      | .ol xs => some (.ol xs, ρ.set i .un)
      | .od kvs => some (.od kvs, ρ.set i .un)
      | .dn kvs => some (.dn kvs, ρ.set i .un)
      | _ => none
    else (fz (.pk i) ρ).map fun q => (.sh q.1, q.2)
  | s => some (s, ρ)
/-- a name is bound -/
def asgS (wr : Nat → Bool) (i : Nat) (s : Sl) (ρ : Env) : Option Env :=
  if wr i = true ∧ i < ρ.length then match s with
    | .pk j => (fz (.pk j) ρ).map fun q => q.2.set i (.sh q.1)
    | .un => none
    | .lk _ => none
    | .td _ _ => none
    | s => some (ρ.set i s)
  else none
/-- targets that take a tuple -/
def asgTS (wr : Nat → Bool) (is : List Nat) (s : Sl) (ρ : Env) : Option Env :=
  match s with
  | .td kvs d => (match is with
    | [i, j] => if wr i = true ∧ wr j = true ∧ i < ρ.length ∧ j < ρ.length ∧ i ≠ j then some ((ρ.set i (.dn kvs)).set j (.sh d)) else none
    | _ => none)
  | s => (vw ρ s).bind fun d => bindW wr is true d ρ
def isOD : Sl → Bool
  | .ol _ => true
  | .od _ => true
  | .dn _ => true
  | _ => false
def setIF : Sl → D → D → Option Sl
  | .ol xs, .int j, d => (ixN xs.length j).map fun n => .ol (xs.set n d)
  | .od kvs, .str k, d => if kvs.length < LIM then some (.od (putS k d kvs)) else none
  | .dn kvs, k, d => if keyOk kvs k = true ∧ kvs.length < LIM then some (.dn (putD k d kvs)) else none
  | _, _, _ => none
mutual
def exS (C : Ctx) : Sm → Env → Z (Fl × Env)
  | .ret e, ρ => (evE C e ρ).bind fun r => (Z.of (retS C.wr r.1 r.2)).bind fun q => .ok (.rt q.1, q.2)
  | .retN, ρ => .ok (.rt (.sh .non), ρ)
  | .asg i e, ρ => (evE C e ρ).bind fun r => (Z.of (asgS C.wr i r.1 r.2)).bind fun ρ' => .ok (.nx, ρ')
  | .asgT is e, ρ => (evE C e ρ).bind fun r => (Z.of (asgTS C.wr is r.1 r.2)).bind fun ρ' => .ok (.nx, ρ')
  | .setI i j e, ρ => (evE C e ρ).bind fun r => (Z.of (fz r.1 r.2)).bind fun q => if isOD (q.2.get i) = true then (evE C j q.2).bind fun p =>
    (Z.of ((vw p.2 p.1).bind fun d => setIF (p.2.get i) d q.1)).bind fun z => .ok (.nx, p.2.set i z) else .stuck
  | .ex e, ρ => (evE C e ρ).bind fun r => .ok (.nx, r.2)
  | .ifs c a b, ρ => (evT C c ρ).bind fun r => if r.1 then exSs C a r.2 else exSs C b r.2
  | .for_ tg tup it body, ρ => (evI C it ρ).bind fun r => (forL (bindW C.wr tg tup) (exSs C body) r.1.1 r.2).unl r.1.2
  | .whl c body, ρ => whlL (evT C c) (exSs C body) C.wf ρ
  | .pass, ρ => .ok (.nx, ρ)
  | .brk, ρ => .ok (.bk, ρ)
  | .cont, ρ => .ok (.ct, ρ)
  | .stk, _ => .stuck
def exSs (C : Ctx) : Sms → Env → Z (Fl × Env)
  | .nil, ρ => .ok (.nx, ρ)
  | .cons s ss, ρ => (exS C s ρ).bind fun r => match r.1 with
    | .nx => exSs C ss r.2
    | f => .ok (f, r.2)
end

/-- a def: its parameters, its slots, its body -/
structure Fd where
  np : Nat
  ns : Nat
  body : Sms
/-- a program: its defs, its constants -/
structure Pg where
  fn : Nat → Option Fd
  gl : Nat → Option D
  rp : D → Option (List Nat)
def isPk : Sl → Bool
  | .pk _ => true
  | .un => true
  | _ => false
/-- an argument that was handed in as data is what it was -/
def keepSh : List Sl → List Sl → List Sl
  | .sh d :: as, _ :: bs => .sh d :: keepSh as bs
  | _ :: as, b :: bs => b :: keepSh as bs
  | _, _ => []
def isSh : Sl → Bool
  | .sh _ => true
  | _ => false
/-- a def's own slots, and the parameters that are data, may be bound -/
def wrOf (args : List Sl) (i : Nat) : Bool :=
  match args[i]? with
  | some s => isSh s
  | none => true
def callM (P : Pg) (wf : Nat) : Nat → Nat → List Sl → Z (Sl × List Sl)
  | 0, _, _ => .stuck
  | n + 1, f, args => match P.fn f with
    | none => .stuck
    | some d => if args.length = d.np ∧ args.any isPk = false ∧ d.np ≤ d.ns then
        match exSs ⟨callM P wf n, P.gl, wrOf args, wf, P.rp⟩ d.body (args ++ List.replicate (d.ns - d.np) .un) with
        | .ok (.rt s, ρ) => if isPk s then .stuck else .ok (s, keepSh args ρ)
        | .ok (.nx, ρ) => .ok (.sh .non, keepSh args ρ)
        | .exc c ds ρ => .exc c ds (keepSh args ρ)
        | _ => .stuck
      else .stuck
end Mp
namespace Mp
theorem enumL_at : ∀ {ds : List D} {k i : Nat}, (enumL k ds)[i]? = ds[i]?.map fun d => .tup [.int ((k + i : Nat) : Int), d]
  | [], k, i => by simp [enumL]
  | d :: ds, k, 0 => by simp [enumL]
  | d :: ds, k, i + 1 => by
    have := enumL_at (ds := ds) (k := k + 1) (i := i)
    simp only [enumL, List.getElem?_cons_succ, this]
    rw [show k + 1 + i = k + (i + 1) from by omega]
theorem enumL_len : ∀ {ds : List D} {k : Nat}, (enumL k ds).length = ds.length
  | [], _ => rfl
  | d :: ds, k => by simp [enumL, enumL_len]
end Mp
namespace Mp
open PySem PySem.Spec PyProof.Rows L2
/-- what stands written, the program, the world -/
structure KW where
  fr : PySem.W.Frag
  pr : Program
  wd : World
instance : Coe KW PySem.W.Frag := ⟨KW.fr⟩
abbrev _root_.L2.Cx.KK (X : L2.Cx) : KW := ⟨X.K, X.prog, X.w⟩

/-! ### data that stand in a heap -/
/-- a text that may stand -/
def sok (x : List Nat) : Bool := decide (x.length ≤ LIM) && x.all fun c => decide (c < 1114112)
abbrev sOf (s : List Nat) : Str := ⟨s.toArray⟩
mutual
def py : D → PyData
  | .non => .none
  | .bl b => .bool b
  | .int i => .int i
  | .str s => .str (sOf s)
  | .tup xs => .tuple (pys xs)
  | .lst xs => .list (pys xs)
  | .kl xs => .list (pys xs)
def pys : List D → List PyData
  | [] => []
  | x :: xs => py x :: pys xs
end
mutual
inductive Rp (K : KW) (H : Hp) : V → D → Prop
  | non : Rp K H .non .non
  | bl (b : Bool) : Rp K H (.bl b) (.bl b)
  | int (i : Int) : Rp K H (.int i) (.int i)
  | str (x : List Nat) : sok x = true → Rp K H (.str (sOf x)) (.str x)
  | lst {a : Addr} {xs : List V} {ds : List D} : H a = some (.lst xs) → Rps K H xs ds → Rp K H (.ref a) (.lst ds)
  | kl {a : Addr} {xs : List V} {ds : List D} : SqL K H a xs → Rps K H xs ds → Rp K H (.ref a) (.kl ds)
  | tup {a : Addr} {xs : List V} {ds : List D} : SqT K H a xs → Rps K H xs ds → Rp K H (.ref a) (.tup ds)
inductive Rps (K : KW) (H : Hp) : List V → List D → Prop
  | nil : Rps K H [] []
  | cons {v : V} {vs : List V} {d : D} {ds : List D} : Rp K H v d → Rps K H vs ds → Rps K H (v :: vs) (d :: ds)
end
theorem Rd.mono {H H' : Hp} {a : Addr} {o : HO} (k : ∀ b o, H b = some o → H' b = some o) (h : Rd H a o) : Rd H' a o := by
  rcases h with h | ⟨u, h⟩
  · exact .inl (k _ _ h)
  · exact .inr ⟨u, k _ _ h⟩
theorem SqL.mono {K : KW} {H H' : Hp} {a : Addr} {xs : List V} (k : ∀ b o, H b = some o → H' b = some o) (h : SqL K H a xs) : SqL K H' a xs := by
  rcases h with (h | ⟨o, h⟩) | h
  · exact .inl (.inl (k _ _ h))
  · exact .inl (.inr ⟨o, k _ _ h⟩)
  · exact .inr h
theorem SqT.mono {K : KW} {H H' : Hp} {a : Addr} {xs : List V} (k : ∀ b o, H b = some o → H' b = some o) (h : SqT K H a xs) : SqT K H' a xs := by
  rcases h with (h | ⟨o, h⟩) | h
  · exact .inl (.inl (k _ _ h))
  · exact .inl (.inr ⟨o, k _ _ h⟩)
  · exact .inr h
section
variable {K : KW} {H H' : Hp}
mutual
theorem Rp.mono (k : ∀ b o, H b = some o → H' b = some o) : ∀ (d : D) (v : V), Rp K H v d → Rp K H' v d
  | .non, _, h => by cases h; exact .non
  | .bl _, _, h => by cases h; exact .bl _
  | .int _, _, h => by cases h; exact .int _
  | .str _, _, h => by cases h with | str _ e => exact .str _ e
  | .tup ds, _, h => by cases h with | tup s r => exact .tup (SqT.mono k s) (Rps.mono k ds _ r)
  | .lst ds, _, h => by cases h with | lst s r => exact .lst (k _ _ s) (Rps.mono k ds _ r)
  | .kl ds, _, h => by cases h with | kl s r => exact .kl (SqL.mono k s) (Rps.mono k ds _ r)
theorem Rps.mono (k : ∀ b o, H b = some o → H' b = some o) : ∀ (ds : List D) (vs : List V), Rps K H vs ds → Rps K H' vs ds
  | [], _, h => by cases h; exact .nil
  | d :: ds, _, h => by cases h with | cons a b => exact .cons (Rp.mono k d _ a) (Rps.mono k ds _ b)
end
mutual
theorem Rp.dp : ∀ (d : D) (v : V), Rp K H v d → Dp K H v (py d)
  | .non, _, h => by cases h; exact .non
  | .bl _, _, h => by cases h; exact .bl _
  | .int _, _, h => by cases h; exact .int _
  | .str _, _, h => by cases h with | str _ e => exact .str _
  | .tup ds, _, h => by cases h with | tup s r => exact .tup s (Rps.dp ds _ r)
  | .lst ds, _, h => by cases h with | lst s r => exact .lst (.inl (.inl s)) (Rps.dp ds _ r)
  | .kl ds, _, h => by cases h with | kl s r => exact .lst s (Rps.dp ds _ r)
theorem Rps.dp : ∀ (ds : List D) (vs : List V), Rps K H vs ds → DpAll K H vs (pys ds)
  | [], _, h => by cases h; exact .nil
  | d :: ds, _, h => by cases h with | cons a b => exact .cons (Rp.dp d _ a) (Rps.dp ds _ b)
end
theorem Rps.length : ∀ {ds : List D} {vs : List V}, Rps K H vs ds → vs.length = ds.length
  | [], _, h => by cases h; rfl
  | d :: ds, _, h => by cases h with | cons a b => simp [Rps.length b]
theorem Rps.get : ∀ {ds : List D} {vs : List V} {i : Nat} {d : D}, Rps K H vs ds → ds[i]? = some d → ∃ v, vs[i]? = some v ∧ Rp K H v d
  | [], _, _, _, h, e => by simp at e
  | d :: ds, _, 0, _, h, e => by cases h with | cons a b => simp at e; subst e; exact ⟨_, rfl, a⟩
  | d :: ds, _, i + 1, _, h, e => by cases h with | cons a b => exact Rps.get (i := i) b (by simpa using e)
theorem Rps.append : ∀ {ds es : List D} {vs us : List V}, Rps K H vs ds → Rps K H us es → Rps K H (vs ++ us) (ds ++ es)
  | [], _, _, _, h, g => by cases h; exact g
  | d :: ds, _, _, _, h, g => by cases h with | cons a b => exact .cons a (Rps.append b g)
theorem Rps.take : ∀ {ds : List D} {vs : List V} (n : Nat), Rps K H vs ds → Rps K H (vs.take n) (ds.take n)
  | _, _, 0, _ => by simp; exact .nil
  | [], _, n + 1, h => by cases h; exact .nil
  | d :: ds, _, n + 1, h => by cases h with | cons a b => exact .cons a (Rps.take n b)
theorem Rps.drop : ∀ {ds : List D} {vs : List V} (n : Nat), Rps K H vs ds → Rps K H (vs.drop n) (ds.drop n)
  | _, _, 0, h => by simpa using h
  | [], _, n + 1, h => by cases h; exact .nil
  | d :: ds, _, n + 1, h => by cases h with | cons a b => exact Rps.drop n b
theorem Rps.set : ∀ {ds : List D} {vs : List V} {d : D} {v : V} (i : Nat), Rps K H vs ds → Rp K H v d → Rps K H (vs.set i v) (ds.set i d)
  | [], _, _, _, _, h, _ => by cases h; exact .nil
  | _ :: _, _, _, _, 0, h, g => by cases h with | cons a b => exact .cons g b
  | _ :: _, _, _, _, i + 1, h, g => by cases h with | cons a b => exact .cons a (Rps.set i b g)
theorem Rps.reverse : ∀ {ds : List D} {vs : List V}, Rps K H vs ds → Rps K H vs.reverse ds.reverse
  | [], _, h => by cases h; exact .nil
  | d :: ds, _, h => by cases h with | cons a b => simp only [List.reverse_cons]; exact Rps.append (Rps.reverse b) (.cons a .nil)
theorem Rps.dropLast {ds : List D} {vs : List V} (h : Rps K H vs ds) : Rps K H vs.dropLast ds.dropLast := by
  rw [List.dropLast_eq_take, List.dropLast_eq_take, h.length]; exact h.take _
end

/-! ### what == asks -/
mutual
theorem py_depth : ∀ d : D, (py d).depth = D.dep d
  | .non => rfl
  | .bl _ => rfl
  | .int _ => rfl
  | .str _ => rfl
  | .tup xs => by simp only [py, PyData.depth, D.dep, pys_depth xs]
  | .lst xs => by simp only [py, PyData.depth, D.dep, pys_depth xs]
  | .kl xs => by simp only [py, PyData.depth, D.dep, pys_depth xs]
theorem pys_depth : ∀ ds : List D, PyData.depthAll (pys ds) = D.deps ds
  | [] => rfl
  | d :: ds => by simp only [pys, PyData.depthAll, D.deps, py_depth d, pys_depth ds]
end
mutual
theorem py_lay {K : KW} {H : Hp} : ∀ (d : D) (v : V), Rp K H v d → (py d).canLay0 = true
  | .non, _, _ => rfl
  | .bl _, _, _ => rfl
  | .int _, _, _ => rfl
  | .str x, _, h => by
    cases h with
    | str _ e =>
      unfold sok at e
      rw [Bool.and_eq_true] at e
      show PyData.strOk (sOf x) = true
      unfold PyData.strOk
      simpa using e.2
  | .tup xs, _, h => by cases h with | tup _ r => simp only [py, PyData.canLay0]; exact pys_lay xs _ r
  | .lst xs, _, h => by cases h with | lst _ r => simp only [py, PyData.canLay0]; exact pys_lay xs _ r
  | .kl xs, _, h => by cases h with | kl _ r => simp only [py, PyData.canLay0]; exact pys_lay xs _ r
theorem pys_lay {K : KW} {H : Hp} : ∀ (ds : List D) (vs : List V), Rps K H vs ds → PyData.canLayAll0 (pys ds) = true
  | [], _, _ => rfl
  | d :: ds, _, h => by cases h with | cons a b => simp only [pys, PyData.canLayAll0, py_lay d _ a, pys_lay ds _ b, Bool.and_self]
end
theorem sOf_beq (x y : List Nat) : (sOf x == sOf y) = (x == y) := by
  by_cases e : x = y
  · subst e; simp
  · have h : ¬ sOf x = sOf y := fun q => e (by simpa using congrArg (fun s : Str => s.cps.toList) q)
    rw [beq_eq_false_iff_ne.mpr h, beq_eq_false_iff_ne.mpr e]
mutual
theorem py_eqv : ∀ a b : D, PyData.eqv (py a) (py b) = D.eqv a b
  | .non, b => by cases b <;> simp only [py, PyData.eqv, D.eqv]
  | .bl _, b => by cases b <;> simp only [py, PyData.eqv, D.eqv]
  | .int _, b => by cases b <;> simp only [py, PyData.eqv, D.eqv]
  | .str x, b => by
    cases b with
    | str y => simp only [py, PyData.eqv, D.eqv]; exact sOf_beq x y
    | _ => simp only [py, PyData.eqv, D.eqv]
  | .tup xs, b => by
    cases b with
    | tup ys => simp only [py, PyData.eqv, D.eqv]; exact pys_eqv xs ys
    | _ => simp only [py, PyData.eqv, D.eqv]
  | .lst xs, b => by
    cases b with
    | lst ys => simp only [py, PyData.eqv, D.eqv]; exact pys_eqv xs ys
    | kl ys => simp only [py, PyData.eqv, D.eqv]; exact pys_eqv xs ys
    | _ => simp only [py, PyData.eqv, D.eqv]
  | .kl xs, b => by
    cases b with
    | lst ys => simp only [py, PyData.eqv, D.eqv]; exact pys_eqv xs ys
    | kl ys => simp only [py, PyData.eqv, D.eqv]; exact pys_eqv xs ys
    | _ => simp only [py, PyData.eqv, D.eqv]
theorem pys_eqv : ∀ a b : List D, PyData.eqvAll (pys a) (pys b) = D.eqvs a b
  | [], [] => by simp only [pys, PyData.eqvAll, D.eqvs]
  | [], _ :: _ => by simp only [pys, PyData.eqvAll, D.eqvs]
  | _ :: _, [] => by simp only [pys, PyData.eqvAll, D.eqvs]
  | a :: as, b :: bs => by simp only [pys, PyData.eqvAll, D.eqvs, py_eqv a b, pys_eqv as bs]
end
theorem pys_any (d : D) : ∀ ds : List D, ((pys ds).any fun z => PyData.eqv z (py d)) = ds.any fun z => D.eqv z d
  | [] => rfl
  | e :: es => by simp only [pys, List.any_cons, py_eqv, pys_any d es]

/-! ### footprints -/
abbrev FP := Addr → Prop
abbrev U (F : Nat → FP) : FP := fun a => ∃ i, F i a
open Classical in
/-- the heap without the owned -/
noncomputable def hid (S : FP) (H : Hp) : Hp := fun a => if S a then none else H a
theorem hid_some {S : FP} {H : Hp} {a : Addr} {o : HO} : hid S H a = some o ↔ ¬ S a ∧ H a = some o := by
  unfold hid
  by_cases h : S a <;> simp [h]
/-- what a step keeps -/
structure Stp (S : FP) (H : Hp) (S' : FP) (H' : Hp) : Prop where
  keep : ∀ b o, ¬ S b → H b = some o → H' b = some o
  dom : ∀ b, H b ≠ none → H' b ≠ none
  sub : ∀ a, S' a → S a ∨ H a = none
theorem Stp.refl {S : FP} {H : Hp} : Stp S H S H := ⟨fun _ _ _ e => e, fun _ e => e, fun _ e => .inl e⟩
theorem Stp.trans {S S1 S2 : FP} {H H1 H2 : Hp} (a : Stp S H S1 H1) (b : Stp S1 H1 S2 H2) : Stp S H S2 H2 where
  keep := fun c o n e => b.keep c o (fun z => (a.sub c z).elim n fun q => by rw [q] at e; cases e) (a.keep c o n e)
  dom := fun c e => b.dom c (a.dom c e)
  sub := fun c h => (b.sub c h).elim (a.sub c) fun q => .inr (Classical.byContradiction fun n => a.dom c n q)
theorem Stp.hid {S S' : FP} {H H' : Hp} (a : Stp S H S' H') : ∀ b o, hid S H b = some o → hid S' H' b = some o := fun b o h => by
  rw [hid_some] at h ⊢
  obtain ⟨h1, h2⟩ := h
  exact ⟨fun z => (a.sub b z).elim h1 (fun q => by rw [q] at h2; cases h2), a.keep b o h1 h2⟩
theorem hid_anti {S S' : FP} {H : Hp} (h : ∀ a, S' a → S a) : ∀ b o, hid S H b = some o → hid S' H b = some o := fun b o e => by
  rw [hid_some] at e ⊢
  exact ⟨fun z => e.1 (h b z), e.2⟩
theorem hid_sub {S : FP} {H : Hp} : ∀ b o, hid S H b = some o → H b = some o := fun b o e => (hid_some.mp e).2
/-- an address that is new, laid -/
theorem Stp.laid {S : FP} {H : Hp} {p : Addr} {o : HO} (n : H p = none) : Stp S H S (upd H p o) where
  keep := fun b u _ e => by rw [upd_ne (ne_of_none e n)]; exact e
  dom := fun b e => by
    by_cases hb : b = p
    · subst hb; rw [upd_same]; exact fun z => nomatch z
    · rw [upd_ne hb]; exact e
  sub := fun a h => .inl h

/-- the keys and values of a dict with text keys -/
def KVs (K : KW) (H : Hp) : List (Key × V) → List (List Nat × D) → Prop := Paired fun p q => p.1 = Sum.inr (sOf q.1) ∧ Rp K H p.2 q.2
theorem KVs.mono {K : KW} {H H' : Hp} (k : ∀ b o, H b = some o → H' b = some o) {ps : List (Key × V)} {qs : List (List Nat × D)} (h : KVs K H ps qs) : KVs K H' ps qs := Paired.mapP h fun _ _ z => ⟨z.1, Rp.mono k _ _ z.2⟩
/-! ### dicts whose keys are numbers, texts, None; whose keys are tuples -/
def lfOf : D → Option Leaf
  | .non => some .none
  | .int i => some (.num i)
  | .str x => some (.text (sOf x))
  | _ => none
mutual
def nkOf : D → NestedKey
  | .non => .none
  | .bl b => .num (if b then 1 else 0)
  | .int i => .num i
  | .str x => .text (sOf x)
  | .tup xs => .tup (nksOf xs)
  | _ => .none
def nksOf : List D → List NestedKey
  | [] => []
  | x :: xs => nkOf x :: nksOf xs
end
/-- a dict, its keys carried by value -/
def DkL (P : Program) (w : World) (a : Addr) (ls : List (Leaf × V)) : HO := .ext fun h => (a == sysModules) = false ∧ ls.length ≤ sizeLine ∧ ∃ vs, KV ls vs ∧ h.DictOf (leafKind P w) a vs
/-- a dict, its keys tuples -/
def DkN (P : Program) (w : World) (a : Addr) (ls : List (NestedKey × Addr × V)) : HO := .ext fun h => (a == sysModules) = false ∧ ls.length ≤ sizeLine ∧ ∃ xs : List (NestedKey × Addr × Value),
  Paired (fun (p : NestedKey × Addr × V) (q : NestedKey × Addr × Value) => p.1 = q.1 ∧ p.2.1 = q.2.1 ∧ RelV p.2.2 q.2.2) ls xs ∧
    ∃ o es ep, h.get? a = some o ∧ o.ExactDict ∧ o.data = .dict es ep ∧ es.toList = xs.map (entryOfKey (nestedKind P w)) ∧ (xs.map (·.1)).Nodup
def LVs (K : KW) (H : Hp) : List (Leaf × V) → List (D × D) → Prop := Paired fun p q => lfOf q.1 = some p.1 ∧ (∃ v, Rp K H v q.1) ∧ Rp K H p.2 q.2
def NVs (K : KW) (H : Hp) : List (NestedKey × Addr × V) → List (D × D) → Prop := Paired fun p q => nkOf q.1 = p.1 ∧ q.1.tupk = true ∧ Rp K H (.ref p.2.1) q.1 ∧ Rp K H p.2.2 q.2
theorem LVs.mono {K : KW} {H H' : Hp} (k : ∀ b o, H b = some o → H' b = some o) {ps : List (Leaf × V)} {qs : List (D × D)} (h : LVs K H ps qs) : LVs K H' ps qs := Paired.mapP h fun _ _ z => ⟨z.1, z.2.1.imp fun _ y => Rp.mono k _ _ y, Rp.mono k _ _ z.2.2⟩
theorem NVs.mono {K : KW} {H H' : Hp} (k : ∀ b o, H b = some o → H' b = some o) {ps : List (NestedKey × Addr × V)} {qs : List (D × D)} (h : NVs K H ps qs) : NVs K H' ps qs := Paired.mapP h fun _ _ z => ⟨z.1, z.2.1, Rp.mono k _ _ z.2.2.1, Rp.mono k _ _ z.2.2.2⟩
/-- what stands at a is the dict -/
def DnAt (K : KW) (Hs H : Hp) (a : Addr) (qs : List (D × D)) : Prop := (∃ ls, H a = some (DkL K.pr K.wd a ls) ∧ LVs K Hs ls qs) ∨ ∃ ls, H a = some (DkN K.pr K.wd a ls) ∧ NVs K Hs ls qs
theorem DnAt.mono {K : KW} {Hs Hs' H H' : Hp} {a : Addr} {qs : List (D × D)} (h : DnAt K Hs H a qs) (k : ∀ b o, Hs b = some o → Hs' b = some o) (k2 : ∀ o, H a = some o → H' a = some o) : DnAt K Hs' H' a qs := by
  rcases h with ⟨ls, h1, h2⟩ | ⟨ls, h1, h2⟩
  · exact .inl ⟨ls, k2 _ h1, h2.mono k⟩
  · exact .inr ⟨ls, k2 _ h1, h2.mono k⟩
theorem DnAt.live {K : KW} {Hs H : Hp} {a : Addr} {qs : List (D × D)} (h : DnAt K Hs H a qs) : H a ≠ none := by
  rcases h with ⟨ls, h1, h2⟩ | ⟨ls, h1, h2⟩ <;> rw [h1] <;> exact fun z => nomatch z
/-- a locked list: where it stands, what it holds -/
abbrev Lk := Option (Addr × List V)
/-- a value that stands for what a slot holds -/
inductive So (K : KW) (l : Lk) (Hs H : Hp) : V → Sl → FP → Prop
  | sh {v : V} {d : D} : Rp K Hs v d → So K l Hs H v (.sh d) fun _ => False
  | ol {a : Addr} {xs : List V} {ds : List D} : H a = some (.lst xs) → Rps K Hs xs ds → So K l Hs H (.ref a) (.ol ds) fun b => b = a
  | lk {a : Addr} {xs : List V} {ds : List D} : l = some (a, xs) → Rps K Hs xs ds → So K l Hs H (.ref a) (.lk ds) fun _ => False
  | od {a : Addr} {kvs : List (Key × V)} {qs : List (List Nat × D)} : H a = some (.dK kvs) → KVs K Hs kvs qs → So K l Hs H (.ref a) (.od qs) fun b => b = a
  | dn {a : Addr} {qs : List (D × D)} : DnAt K Hs H a qs → So K l Hs H (.ref a) (.dn qs) fun b => b = a
  | td {a p : Addr} {qs : List (D × D)} {v : V} {d : D} : DnAt K Hs H a qs → Hs p = some (.tup [.ref a, v]) → Rp K Hs v d → So K l Hs H (.ref p) (.td qs d) fun b => b = a
section
variable {K : KW} {l : Lk} {Hs Hs' H H' : Hp} {v : V} {s : Sl} {R : FP}
theorem So.live (h : So K l Hs H v s R) : ∀ a, R a → H a ≠ none := fun a r => by
  cases h with
  | sh _ => exact r.elim
  | ol e _ => subst r; rw [e]; exact fun z => nomatch z
  | lk e _ => exact r.elim
  | od e _ => subst r; rw [e]; exact fun z => nomatch z
  | dn e => subst r; exact e.live
  | td e _ _ => subst r; exact e.live
theorem So.mono (h : So K l Hs H v s R) (k : ∀ b o, Hs b = some o → Hs' b = some o) (k2 : ∀ b o, R b → H b = some o → H' b = some o) : So K l Hs' H' v s R := by
  cases h with
  | sh r => exact .sh (Rp.mono k _ _ r)
  | ol e r => exact .ol (k2 _ _ rfl e) (Rps.mono k _ _ r)
  | lk e r => exact .lk e (Rps.mono k _ _ r)
  | od e r => exact .od (k2 _ _ rfl e) (r.mono k)
  | dn e => exact .dn (e.mono k fun o => k2 _ o rfl)
  | td e p r => exact .td (e.mono k fun o => k2 _ o rfl) (k _ _ p) (Rp.mono k _ _ r)
/-- locks are asked of locked lists alone -/
theorem So.relock {l' : Lk} (h : So K l Hs H v s R) (n : ∀ xs, s ≠ .lk xs) : So K l' Hs H v s R := by
  cases h with
  | sh r => exact .sh r
  | ol e r => exact .ol e r
  | lk e r => exact absurd rfl (n _)
  | od e r => exact .od e r
  | dn e => exact .dn e
  | td e p r => exact .td e p r
end
/-- what is owned and what is held -/
abbrev hS (F : Nat → FP) (T : FP) : FP := fun a => U F a ∨ T a
/-- the slots of a frame and what they hold, each with its footprint; beside them what is held -/
structure En (K : KW) (L : Nat → Lk) (σ : L2.St) (ρ : Env) (H : Hp) (F : Nat → FP) (T : FP) : Prop where
  len : σ.length = ρ.length
  at_ : ∀ i s, ρ[i]? = some s → (s = .un ∧ ∀ a, ¬ F i a) ∨ ∃ v, σ[i]? = some (some v) ∧ So K (L i) (hid (hS F T) H) H v s (F i)
  out : ∀ i a, ρ.length ≤ i → ¬ F i a
  dis : ∀ i j a, F i a → F j a → i = j
  tdis : ∀ a, T a → ¬ U F a
  tl : ∀ a, T a → H a ≠ none
  lks : ∀ i a xs, L i = some (a, xs) → T a ∧ H a = some (.lst xs)
section
variable {K : KW} {L : Nat → Lk} {σ : L2.St} {ρ : Env} {H H' : Hp} {F F' : Nat → FP} {T T' : FP}
theorem En.live (h : En K L σ ρ H F T) : ∀ i a, F i a → H a ≠ none := fun i a f => by
  by_cases hi : i < ρ.length
  · rcases h.at_ i ρ[i] (List.getElem?_eq_getElem hi) with ⟨_, n⟩ | ⟨v, _, s⟩
    · exact absurd f (n a)
    · exact s.live a f
  · exact absurd f (h.out i a (by omega))
theorem En.liveS (h : En K L σ ρ H F T) : ∀ a, hS F T a → H a ≠ none := fun a z => by
  rcases z with ⟨i, z⟩ | z
  · exact h.live i a z
  · exact h.tl a z
theorem get_of {ρ : Env} {i : Nat} {s : Sl} (e : ρ.get i = s) (h : s ≠ .un) : ρ[i]? = some s := by
  unfold Env.get at e
  rw [List.getD_eq_getElem?_getD] at e
  cases q : ρ[i]? with
  | none => rw [q] at e; exact absurd e.symm h
  | some t => rw [q] at e; simp at e; rw [e]
theorem En.get (h : En K L σ ρ H F T) {i : Nat} {s : Sl} (e : ρ.get i = s) (n : s ≠ .un) : ∃ v, σ[i]? = some (some v) ∧ So K (L i) (hid (hS F T) H) H v s (F i) := by
  rcases h.at_ i s (get_of e n) with ⟨z, _⟩ | z
  · exact absurd z n
  · exact z
theorem En.drop {R : FP} (h : En K L σ ρ H F (fun a => T a ∨ R a)) (hl : ∀ i a xs, L i = some (a, xs) → T a) : En K L σ ρ H F T where
  len := h.len
  at_ := fun i s e => (h.at_ i s e).imp id fun ⟨v, h1, h2⟩ => ⟨v, h1, h2.mono (hid_anti fun a z => z.elim .inl fun z => .inr (.inl z)) fun _ _ _ z => z⟩
  out := h.out
  dis := h.dis
  tdis := fun a z => h.tdis a (.inl z)
  tl := fun a z => h.tl a (.inl z)
  lks := fun i a xs e => ⟨hl i a xs e, (h.lks i a xs e).2⟩
theorem En.lkT (h : En K L σ ρ H F T) : ∀ i a xs, L i = some (a, xs) → T a := fun i a xs e => (h.lks i a xs e).1
theorem En.imp (h : En K L σ ρ H F T) (k : ∀ a, T' a ↔ T a) : En K L σ ρ H F T' := by
  have e : T' = T := funext fun a => propext (k a)
  rw [e]; exact h
theorem En.none (h : En K L σ ρ H F T) : En K L σ ρ H F (fun a => T a ∨ False) := h.imp fun a => ⟨fun z => z.elim id False.elim, .inl⟩
/-- the heap grows, something new is held -/
theorem En.grow {R : FP} (h : En K L σ ρ H F T) (ext : ∀ b o, H b = some o → H' b = some o) (new : ∀ a, R a → H a = .none) (lv : ∀ a, R a → H' a ≠ .none) : En K L σ ρ H' F (fun a => T a ∨ R a) where
  len := h.len
  at_ := fun i s e => (h.at_ i s e).imp id fun ⟨v, h1, h2⟩ => ⟨v, h1, h2.mono (fun b o z => by
    rw [hid_some] at z ⊢
    refine ⟨fun w => ?_, ext b o z.2⟩
    rcases w with w | w | w
    · exact z.1 (.inl w)
    · exact z.1 (.inr w)
    · rw [new b w] at z; exact nomatch z.2) fun b o _ z => ext b o z⟩
  out := h.out
  dis := h.dis
  tdis := fun a z ⟨i, w⟩ => by
    rcases z with z | z
    · exact h.tdis a z ⟨i, w⟩
    · exact h.live i a w (new a z)
  tl := fun a z => by
    rcases z with z | z
    · cases q : H a with
      | none => exact absurd q (h.tl a z)
      | some o => rw [ext a o q]; exact fun z => nomatch z
    · exact lv a z
  lks := fun i a xs e => ⟨.inl (h.lks i a xs e).1, ext a _ (h.lks i a xs e).2⟩
theorem En.ext (h : En K L σ ρ H F T) (ext : ∀ b o, H b = some o → H' b = some o) : En K L σ ρ H' F T := (h.grow (R := fun _ => False) ext (fun _ z => z.elim) fun _ z => z.elim).drop h.lkT
end
theorem Stp.ext {S : FP} {H H' : Hp} (k : ∀ b o, H b = some o → H' b = some o) : Stp S H S H' where
  keep := fun b o _ e => k b o e
  dom := fun b e => by
    cases q : H b with
    | none => exact absurd q e
    | some o => rw [k b o q]; exact fun z => nomatch z
  sub := fun a h => .inl h
/-- a result: a value, what it is, its footprint, beside what the slots own -/
def Re (K : KW) (σ : L2.St) (S : FP) (H : Hp) (v : V) (r : Sl) (R : FP) : Prop :=
  match r with
  | .pk i => σ[i]? = some (some v) ∧ ∀ a, ¬ R a
  | .un => False
  | r => So K none (hid (fun a => S a ∨ R a) H) H v r R ∧ ∀ a, R a → ¬ S a
section
variable {K : KW} {σ : L2.St} {S S' : FP} {H H' : Hp} {v : V} {r : Sl} {R : FP}
theorem Re.own (h : Re K σ S H v r R) (n : ∀ i, r ≠ .pk i) : So K none (hid (fun a => S a ∨ R a) H) H v r R ∧ ∀ a, R a → ¬ S a := by
  cases r with
  | pk i => exact absurd rfl (n i)
  | un => exact h.elim
  | sh d => exact h
  | ol d => exact h
  | lk d => exact h
  | od d => exact h
  | oi c d => exact h
  | dn d => exact h
  | td d e => exact h
theorem Re.of (h : So K none (hid (fun a => S a ∨ R a) H) H v r R) (d : ∀ a, R a → ¬ S a) : Re K σ S H v r R := by
  cases h with
  | sh g => exact ⟨.sh g, d⟩
  | ol e g => exact ⟨.ol e g, d⟩
  | lk e g => exact ⟨.lk e g, d⟩
  | od e g => exact ⟨.od e g, d⟩
  | dn e => exact ⟨.dn e, d⟩
  | td e p g => exact ⟨.td e p g, d⟩
theorem Re.live (h : Re K σ S H v r R) : ∀ a, R a → H a ≠ none := by
  by_cases n : ∀ i, r ≠ .pk i
  · exact (h.own n).1.live
  · have ⟨i, e⟩ : ∃ i, r = .pk i := Classical.byContradiction fun z => n fun i e => z ⟨i, e⟩
    subst e
    exact fun a z => absurd z (h.2 a)
theorem Re.step (h : Re K σ S H v r R) (t : Stp S H S' H') : Re K σ S' H' v r R := by
  by_cases n : ∀ i, r ≠ .pk i
  · obtain ⟨h1, h2⟩ := h.own n
    refine Re.of (h1.mono (fun b o e => ?_) fun b o rb e => t.keep b o (h2 b rb) e) fun a ra sa => ?_
    · rw [hid_some] at e ⊢
      refine ⟨fun z => ?_, t.keep b o (fun z => e.1 (.inl z)) e.2⟩
      rcases z with z | z
      · rcases t.sub b z with z | z
        · exact e.1 (.inl z)
        · rw [z] at e; exact nomatch e.2
      · exact e.1 (.inr z)
    · rcases t.sub a sa with z | z
      · exact h2 a ra z
      · exact h1.live a ra z
  · have ⟨i, e⟩ : ∃ i, r = .pk i := Classical.byContradiction fun z => n fun i e => z ⟨i, e⟩
    subst e
    exact h
end
/-- what stands in a heap without the owned, behind a step -/
theorem Rp.step {K : KW} {S S' : FP} {H H' : Hp} {v : V} {d : D} (h : Rp K (hid S H) v d) (t : Stp S H S' H') : Rp K (hid S' H') v d := Rp.mono t.hid _ _ h
/-- a step, with what is held, and what is new -/
theorem Stp.bk {S S' : FP} {H H' : Hp} (t : Stp S H S' H') {a : Addr} (z : S' a ∨ H' a = none) : S a ∨ H a = none := z.elim (t.sub a) fun q => .inr (Classical.byContradiction fun w => t.dom a w q)
theorem Stp.held {F F' : Nat → FP} {T R : FP} {H H' : Hp} (t : Stp (U F) H (U F') H') (new : ∀ a, R a → U F a ∨ H a = none) : Stp (hS F T) H (hS F' fun a => T a ∨ R a) H' where
  keep := fun b o n e => t.keep b o (fun z => n (.inl z)) e
  dom := t.dom
  sub := fun a z => by
    rcases z with z | z | z
    · exact (t.sub a z).imp .inl id
    · exact .inl (.inr z)
    · exact (new a z).imp .inl id
theorem Stp.held0 {F F' : Nat → FP} {T : FP} {H H' : Hp} (t : Stp (U F) H (U F') H') : Stp (hS F T) H (hS F' T) H' where
  keep := fun b o n e => t.keep b o (fun z => n (.inl z)) e
  dom := t.dom
  sub := fun a z => by
    rcases z with z | z
    · exact (t.sub a z).imp .inl id
    · exact .inl (.inr z)
end Mp
namespace Mp
open PySem PySem.Spec PyProof.Rows L2
/-! # dicts whose keys are data -/
theorem Paired.imp2 {α β : Type} {F G : α → β → Prop} {l₁ : List α} {l₂ : List β} (h : Paired F l₁ l₂) (f : ∀ a b, F a b → G a b) : Paired G l₁ l₂ := Paired.mapP h f
theorem sOf_inj0 {x y : List Nat} (h : sOf x = sOf y) : x = y := by simpa using congrArg (fun s : Str => s.cps.toList) h
theorem lf_eq : ∀ {d e : D} {a b : Leaf}, lfOf d = some a → lfOf e = some b → (a = b ↔ D.eqv d e = true) := by
  intro d e a b h1 h2
  cases d <;> simp only [lfOf, Option.some.injEq, reduceCtorEq] at h1 <;> subst h1 <;> cases e <;> simp only [lfOf, Option.some.injEq, reduceCtorEq] at h2 <;> subst h2 <;> simp [D.eqv]
theorem lf_leaf {d : D} (h : d.leaf = true) : ∃ a, lfOf d = some a := by
  cases d <;> first | exact ⟨_, rfl⟩ | simp [D.leaf] at h
theorem lf_is {P : Program} {w : World} {K : KW} {H : Hp} {v : V} {u : Value} {d : D} {a : Leaf} (r : Rp K H v d) (e : lfOf d = some a) (ru : RelV v u) : (leafKind P w).is a u = true := by
  cases d <;> simp only [lfOf, Option.some.injEq, reduceCtorEq] at e <;> subst e
  · cases r
    cases (show u = Value.none from ru)
    rfl
  · cases r
    obtain ⟨t, rfl⟩ := (show ∃ t, u = Value.int _ t from ru)
    exact decide_eq_true rfl
  · cases r
    obtain ⟨t, rfl⟩ := (show ∃ t, u = Value.str _ t from ru)
    show Value.isStrOf (sOf _) (.str (sOf _) t) = true
    simp [Value.isStrOf]
theorem int_bool (i : Int) (b : Bool) : decide (i = if b = true then 1 else 0) = (i == if b = true then 1 else 0) := by cases b <;> rfl
mutual
theorem nk_eq : ∀ (d e : D), d.hsh = true → e.hsh = true → NestedKey.beq (nkOf d) (nkOf e) = D.eqv d e
  | .non, .non, _, _ => rfl
  | .non, .bl _, _, _ => rfl
  | .non, .int _, _, _ => rfl
  | .non, .str _, _, _ => rfl
  | .non, .tup _, _, _ => rfl
  | .bl _, .non, _, _ => rfl
  | .bl a, .bl b, _, _ => by simp only [nkOf, NestedKey.beq, D.eqv]; cases a <;> cases b <;> rfl
  | .bl a, .int j, _, _ => by simp only [nkOf, NestedKey.beq, D.eqv]; rfl
  | .bl _, .str _, _, _ => rfl
  | .bl _, .tup _, _, _ => rfl
  | .int _, .non, _, _ => rfl
  | .int i, .bl b, _, _ => by simp only [nkOf, NestedKey.beq, D.eqv]; rfl
  | .int i, .int j, _, _ => by simp only [nkOf, NestedKey.beq, D.eqv]; rfl
  | .int _, .str _, _, _ => rfl
  | .int _, .tup _, _, _ => rfl
  | .str _, .non, _, _ => rfl
  | .str _, .bl _, _, _ => rfl
  | .str _, .int _, _, _ => rfl
  | .str x, .str y, _, _ => by
    simp only [nkOf, NestedKey.beq, D.eqv]
    by_cases q : x = y
    · subst q; simp
    · rw [decide_eq_false fun z => q (sOf_inj0 z)]; exact (beq_eq_false_iff_ne.mpr q).symm
  | .str _, .tup _, _, _ => rfl
  | .tup _, .non, _, _ => rfl
  | .tup _, .bl _, _, _ => rfl
  | .tup _, .int _, _, _ => rfl
  | .tup _, .str _, _, _ => rfl
  | .tup xs, .tup ys, h1, h2 => by
    simp only [nkOf, NestedKey.beq, D.eqv]
    exact nks_eq xs ys (by simpa only [D.hsh] using h1) (by simpa only [D.hsh] using h2)
  | .lst _, _, h1, _ => by simp [D.hsh] at h1
  | .kl _, _, h1, _ => by simp [D.hsh] at h1
  | _, .lst _, _, h1 => by simp [D.hsh] at h1
  | _, .kl _, _, h1 => by simp [D.hsh] at h1
theorem nks_eq : ∀ (ds es : List D), D.hshs ds = true → D.hshs es = true → NestedKey.beqAll (nksOf ds) (nksOf es) = D.eqvs ds es
  | [], [], _, _ => by simp only [nksOf, NestedKey.beqAll, D.eqvs]
  | [], _ :: _, _, _ => by simp only [nksOf, NestedKey.beqAll, D.eqvs]
  | _ :: _, [], _, _ => by simp only [nksOf, NestedKey.beqAll, D.eqvs]
  | d :: ds, e :: es, h1, h2 => by
    simp only [D.hshs, Bool.and_eq_true] at h1 h2
    simp only [nksOf, NestedKey.beqAll, D.eqvs, nk_eq d e h1.1 h2.1, nks_eq ds es h1.2 h2.2]
end
theorem nk_iff {d e : D} (h1 : d.hsh = true) (h2 : e.hsh = true) : nkOf d = nkOf e ↔ D.eqv d e = true := by
  rw [← nk_eq d e h1 h2]
  exact ⟨fun z => by rw [z]; exact NestedKey.beq_self _, NestedKey.eq_of_beq _ _⟩
mutual
theorem nk_depth : ∀ d : D, (nkOf d).depth ≤ D.dep d
  | .non => Nat.zero_le _
  | .bl _ => Nat.zero_le _
  | .int _ => Nat.zero_le _
  | .str _ => Nat.zero_le _
  | .tup xs => by simp only [nkOf, NestedKey.depth, D.dep]; exact Nat.succ_le_succ (nks_depth xs)
  | .lst _ => Nat.zero_le _
  | .kl _ => Nat.zero_le _
theorem nks_depth : ∀ ds : List D, NestedKey.depthAll (nksOf ds) ≤ D.deps ds
  | [] => Nat.le_refl _
  | d :: ds => by
    have h1 := nk_depth d
    have h2 := nks_depth ds
    simp only [nksOf, NestedKey.depthAll, D.deps]
    omega
end
theorem tupk_hsh {d : D} (h : d.tupk = true) : d.hsh = true ∧ D.dep d ≤ 8 := by
  cases d with
  | tup xs =>
    simp only [D.tupk, Bool.and_eq_true, decide_eq_true_eq] at h
    exact ⟨by simpa only [D.hsh] using h.1, by simp only [D.dep]; omega⟩
  | _ => simp [D.tupk] at h
theorem tupk_not_leaf {d : D} (h : d.tupk = true) : d.leaf = false := by cases d <;> first | rfl | simp [D.tupk] at h
section
variable {X : Cx} {pins : List (Addr × Obj)} {σ : L2.St} {H : Hp} {s : Shared}
mutual
theorem nk_is (I : L2.Inv X pins σ H s) : ∀ (d : D) (v : V) (u : Value), d.hsh = true → Rp X.KK H v d → RelV v u → NestedIs s.heap (nkOf d) u
  | .non, _, u, _, r, ru => by cases r; cases (show u = Value.none from ru); exact .none
  | .bl b, _, u, _, r, ru => by cases r; cases (show u = Value.bool _ from ru); exact .bool rfl
  | .int i, _, u, _, r, ru => by cases r; obtain ⟨t, rfl⟩ := (show ∃ t, u = Value.int _ t from ru); exact .int _ t
  | .str x, _, u, _, r, ru => by cases r; obtain ⟨t, rfl⟩ := (show ∃ t, u = Value.str _ t from ru); exact .text _ t
  | .tup xs, _, u, h, r, ru => by
    cases r with | tup st rs =>
    cases (show u = Value.ref _ from ru)
    obtain ⟨its, rel, ⟨o, h1, h2, n, h3⟩, _⟩ := I.tuple st
    exact .tup h1 h2 h3 (by simpa using nks_is I xs _ its (by simpa only [D.hsh] using h) rs rel)
  | .lst _, _, _, h, _, _ => by simp [D.hsh] at h
  | .kl _, _, _, h, _, _ => by simp [D.hsh] at h
theorem nks_is (I : L2.Inv X pins σ H s) : ∀ (ds : List D) (vs : List V) (us : List Value), D.hshs ds = true → Rps X.KK H vs ds → Vals vs us → NestedAll s.heap (nksOf ds) us
  | [], _, _, _, r, ru => by cases r; cases ru; exact .nil
  | d :: ds, _, _, h, r, ru => by
    simp only [D.hshs, Bool.and_eq_true] at h
    cases r with | cons a b =>
    cases ru with | cons c e =>
    exact .cons (nk_is I d _ _ h.1 a c) (nks_is I ds _ _ h.2 b e)
end
theorem key_n (I : L2.Inv X pins σ H s) {d : D} {a : Addr} (h : d.tupk = true) (r : Rp X.KK H (.ref a) d) : (nestedKind X.prog X.w).is s.heap (nkOf d) a := by
  obtain ⟨h1, h2⟩ := tupk_hsh h
  exact ⟨nk_is I d _ _ h1 r rfl, Nat.le_trans (nk_depth d) h2⟩
theorem room_n {A : Around} (hu : A.units + 66 < cLine) : (nestedKind X.prog X.w).room A.in1 := by
  show A.in1.units + 8 < cLine
  rw [Around.in1_units]
  omega
end
/-! ### what is held, by value -/
section
variable {K : KW} {H : Hp} {k : D} {lf : Leaf}
theorem LVs.look (hk : lfOf k = some lf) : ∀ {ls : List (Leaf × V)} {qs : List (D × D)}, LVs K H ls qs → (∀ d, lookD k qs = some d → ∃ v, valV ls lf = some v ∧ Rp K H v d) ∧ (lookD k qs = none → valV ls lf = none)
  | _, _, .nil => ⟨fun d e => (by cases e), fun _ => rfl⟩
  | p :: ls, q :: qs, .cons h t => by
    obtain ⟨h1, _, h2⟩ := h
    obtain ⟨g1, g2⟩ := LVs.look hk t
    obtain ⟨y, d⟩ := q
    unfold lookD
    have ie := lf_eq h1 hk
    by_cases e : D.eqv y k = true
    · have e1 : p.1 = lf := ie.mpr e
      rw [if_pos e, valV_pos e1]
      exact ⟨fun d' z => ⟨_, rfl, (by cases z; exact h2)⟩, fun z => (by cases z)⟩
    · have e1 : ¬ p.1 = lf := fun z => e (ie.mp z)
      rw [if_neg e, valV_neg e1]
      exact ⟨g1, g2⟩
theorem LVs.any (hk : lfOf k = some lf) : ∀ {ls : List (Leaf × V)} {qs : List (D × D)}, LVs K H ls qs → (ls.any fun kv => decide (kv.1 = lf)) = qs.any fun p => D.eqv p.1 k
  | _, _, .nil => rfl
  | p :: ls, q :: qs, .cons h t => by
    rw [List.any_cons, List.any_cons, LVs.any hk t]
    have ie := lf_eq h.1 hk
    have : decide (p.1 = lf) = D.eqv q.1 k := by
      by_cases e : D.eqv q.1 k = true
      · rw [decide_eq_true (ie.mpr e), e]
      · rw [decide_eq_false fun z => e (ie.mp z), Bool.eq_false_iff.mpr e]
    rw [this]
theorem LVs.append : ∀ {l1 l2 : List (Leaf × V)} {q1 q2 : List (D × D)}, LVs K H l1 q1 → LVs K H l2 q2 → LVs K H (l1 ++ l2) (q1 ++ q2)
  | _, _, _, _, .nil, g => g
  | _, _, _, _, .cons h t, g => .cons h (LVs.append t g)
theorem LVs.repl (hk : lfOf k = some lf) {v : V} {d : D} (r : Rp K H v d) : ∀ {ls : List (Leaf × V)} {qs : List (D × D)}, LVs K H ls qs → LVs K H (ls.map fun kv => if kv.1 = lf then (kv.1, v) else kv) (qs.map fun p => if D.eqv p.1 k then (p.1, d) else p)
  | _, _, .nil => .nil
  | p :: ls, q :: qs, .cons h t => by
    rw [List.map_cons, List.map_cons]
    refine .cons ?_ (LVs.repl hk r t)
    have ie := lf_eq h.1 hk
    by_cases e : D.eqv q.1 k = true
    · rw [if_pos e, if_pos (ie.mpr e)]
      exact ⟨h.1, h.2.1, r⟩
    · rw [if_neg e, if_neg fun z => e (ie.mp z)]
      exact h
theorem LVs.put (hk : lfOf k = some lf) {v vk : V} {d : D} (rk : Rp K H vk k) (r : Rp K H v d) {ls : List (Leaf × V)} {qs : List (D × D)} (h : LVs K H ls qs) : LVs K H (putK ls lf v) (putD k d qs) := by
  unfold putK putD
  rw [h.any hk]
  split
  · exact h.repl hk r
  · exact h.append (.cons ⟨hk, ⟨_, rk⟩, r⟩ .nil)
theorem LVs.length {ls : List (Leaf × V)} {qs : List (D × D)} (h : LVs K H ls qs) : ls.length = qs.length := Paired.length h
/-! ### .. by tuples -/
theorem NVs.look (hk : k.hsh = true) : ∀ {ls : List (NestedKey × Addr × V)} {qs : List (D × D)}, NVs K H ls qs → (∀ d, lookD k qs = some d → ∃ p, ls.find? (fun x => decide (x.1 = nkOf k)) = some p ∧ Rp K H p.2.2 d) ∧ (lookD k qs = none → ls.find? (fun x => decide (x.1 = nkOf k)) = none)
  | _, _, .nil => ⟨fun d e => (by cases e), fun _ => rfl⟩
  | p :: ls, q :: qs, .cons h t => by
    obtain ⟨h1, h3, _, h2⟩ := h
    obtain ⟨g1, g2⟩ := NVs.look hk t
    obtain ⟨y, d⟩ := q
    unfold lookD
    have ie := nk_iff (tupk_hsh h3).1 hk
    by_cases e : D.eqv y k = true
    · have e1 : p.1 = nkOf k := h1.symm.trans (ie.mpr e)
      rw [if_pos e, List.find?_cons_of_pos (by simpa using e1)]
      exact ⟨fun d' z => ⟨_, rfl, (by cases z; exact h2)⟩, fun z => (by cases z)⟩
    · have e1 : ¬ p.1 = nkOf k := fun z => e (ie.mp (h1.trans z))
      rw [if_neg e, List.find?_cons_of_neg (by simpa using e1)]
      exact ⟨g1, g2⟩
theorem NVs.append : ∀ {l1 l2 : List (NestedKey × Addr × V)} {q1 q2 : List (D × D)}, NVs K H l1 q1 → NVs K H l2 q2 → NVs K H (l1 ++ l2) (q1 ++ q2)
  | _, _, _, _, .nil, g => g
  | _, _, _, _, .cons h t, g => .cons h (NVs.append t g)
theorem NVs.length {ls : List (NestedKey × Addr × V)} {qs : List (D × D)} (h : NVs K H ls qs) : ls.length = qs.length := Paired.length h
end
abbrev NX : List (NestedKey × Addr × V) → List (NestedKey × Addr × Value) → Prop := Paired fun p q => p.1 = q.1 ∧ p.2.1 = q.2.1 ∧ RelV p.2.2 q.2.2
theorem NX.find {k : NestedKey} : ∀ {ls : List (NestedKey × Addr × V)} {xs : List (NestedKey × Addr × Value)}, NX ls xs → (∀ p, ls.find? (fun x => decide (x.1 = k)) = some p → ∃ q, atKey xs k = some q ∧ RelV p.2.2 q.2) ∧ (ls.find? (fun x => decide (x.1 = k)) = none → atKey xs k = none)
  | _, _, .nil => ⟨fun d e => (by cases e), fun _ => rfl⟩
  | p :: ls, q :: xs, .cons h t => by
    obtain ⟨h1, h3, h2⟩ := h
    obtain ⟨g1, g2⟩ := NX.find t
    by_cases e : p.1 = k
    · have e2 : q.1 = k := h1.symm.trans e
      have z : atKey (q :: xs) k = some q.2 := by simp [atKey, List.find?_cons, e2]
      rw [z, List.find?_cons_of_pos (by simpa using e)]
      exact ⟨fun p' w => by cases w; exact ⟨_, rfl, h2⟩, fun w => by cases w⟩
    · have e2 : ¬ q.1 = k := fun z => e (h1.trans z)
      have z : atKey (q :: xs) k = atKey xs k := by simp [atKey, List.find?_cons, e2]
      rw [z, List.find?_cons_of_neg (by simpa using e)]
      exact ⟨g1, g2⟩
/-- a[k] = v, what stands behind -/
def putN (ls : List (NestedKey × Addr × V)) (k : NestedKey) (a : Addr) (v : V) : List (NestedKey × Addr × V) :=
  if (ls.find? fun x => decide (x.1 = k)).isSome = true then ls.map (fun x => if x.1 = k then (x.1, x.2.1, v) else x) else ls ++ [(k, a, v)]
theorem NX.append : ∀ {l1 l2 : List (NestedKey × Addr × V)} {q1 q2 : List (NestedKey × Addr × Value)}, NX l1 q1 → NX l2 q2 → NX (l1 ++ l2) (q1 ++ q2)
  | _, _, _, _, .nil, g => g
  | _, _, _, _, .cons h t, g => .cons h (NX.append t g)
theorem NX.repl {k : NestedKey} {v : V} {u : Value} (r : RelV v u) : ∀ {ls : List (NestedKey × Addr × V)} {xs : List (NestedKey × Addr × Value)}, NX ls xs → NX (ls.map fun x => if x.1 = k then (x.1, x.2.1, v) else x) (xs.map (putAt k u))
  | _, _, .nil => .nil
  | p :: ls, q :: xs, .cons h t => by
    rw [List.map_cons, List.map_cons]
    refine .cons ?_ (NX.repl r t)
    obtain ⟨h1, h3, h2⟩ := h
    unfold putAt
    by_cases e : p.1 = k
    · rw [if_pos e, if_pos (h1.symm.trans e)]; exact ⟨h1, h3, r⟩
    · rw [if_neg e, if_neg fun z => e (h1.trans z)]; exact ⟨h1, h3, h2⟩
theorem NX.put {ls : List (NestedKey × Addr × V)} {xs : List (NestedKey × Addr × Value)} (h : NX ls xs) (k : NestedKey) (a : Addr) {v : V} {u : Value} (r : RelV v u) : NX (putN ls k a v) (storedH xs k a u) := by
  obtain ⟨g1, g2⟩ := NX.find (k := k) h
  unfold putN storedH
  cases e : ls.find? fun x => decide (x.1 = k) with
  | none =>
    rw [g2 e]
    simp only [Option.isSome_none, Bool.false_eq_true, if_false]
    exact h.append (.cons ⟨rfl, rfl, r⟩ .nil)
  | some p =>
    obtain ⟨q, e2, _⟩ := g1 p e
    rw [e2]
    simp only [Option.isSome_some, if_true]
    exact h.repl r
theorem putN_len (ls : List (NestedKey × Addr × V)) (k : NestedKey) (a : Addr) (v : V) : (putN ls k a v).length ≤ ls.length + 1 := by
  unfold putN
  split
  · rw [List.length_map]; omega
  · simp
theorem NVs.repl {K : KW} {H : Hp} {k d : D} {v : V} (hk : k.hsh = true) (r : Rp K H v d) : ∀ {ls : List (NestedKey × Addr × V)} {qs : List (D × D)}, NVs K H ls qs → NVs K H (ls.map fun x => if x.1 = nkOf k then (x.1, x.2.1, v) else x) (qs.map fun p => if D.eqv p.1 k then (p.1, d) else p)
  | _, _, .nil => .nil
  | p :: ls, q :: qs, .cons h t => by
    rw [List.map_cons, List.map_cons]
    refine .cons ?_ (NVs.repl hk r t)
    obtain ⟨h1, h3, h4, h2⟩ := h
    have ie := nk_iff (tupk_hsh h3).1 hk
    by_cases e : D.eqv q.1 k = true
    · rw [if_pos e, if_pos (h1.symm.trans (ie.mpr e))]; exact ⟨h1, h3, h4, r⟩
    · rw [if_neg e, if_neg fun z => e (ie.mp (h1.trans z))]; exact ⟨h1, h3, h4, h2⟩
theorem look_any {k : D} : ∀ qs : List (D × D), (qs.any fun p => D.eqv p.1 k) = (lookD k qs).isSome
  | [] => rfl
  | (x, v) :: r => by
    rw [List.any_cons]
    unfold lookD
    by_cases e : D.eqv x k = true
    · rw [if_pos e]; simp [e]
    · rw [if_neg e, Bool.eq_false_iff.mpr e, Bool.false_or]; exact look_any r
theorem NVs.put {K : KW} {H : Hp} {k d : D} {v : V} {b : Addr} (hk : k.tupk = true) (rk : Rp K H (.ref b) k) (r : Rp K H v d) {ls : List (NestedKey × Addr × V)} {qs : List (D × D)} (h : NVs K H ls qs) : NVs K H (putN ls (nkOf k) b v) (putD k d qs) := by
  obtain ⟨g1, g2⟩ := h.look (tupk_hsh hk).1
  unfold putN putD
  rw [look_any]
  cases e : lookD k qs with
  | none =>
    rw [g2 e]
    simp only [Option.isSome_none, Bool.false_eq_true, if_false]
    exact h.append (.cons ⟨rfl, hk, rk, r⟩ .nil)
  | some d' =>
    obtain ⟨p, e2, _⟩ := g1 d' e
    rw [e2]
    simp only [Option.isSome_some, if_true]
    exact h.repl (tupk_hsh hk).1 r
/-! ### the dict in the heap -/
section
variable {X : Cx} {pins : List (Addr × Obj)} {σ : L2.St} {H Hs : Hp} {s : Shared} {a : Addr} {qs : List (D × D)} {k d : D} {y v : V} {u r : Value} {A : Around} {E : Value → Shared → Prop}
theorem ext_at {φ : Heap → Prop} (I : L2.Inv X pins σ H s) (h : H a = some (.ext φ)) : φ s.heap := (show ObjOk X.prog X.w H s.heap a (.ext φ) from I.hok a _ h).1
/-- as a dict of keys by value -/
theorem dn_leaf (I : L2.Inv X pins σ H s) (h : DnAt X.KK Hs H a qs) (hl : (qs.all fun p => p.1.leaf) = true) : (a == sysModules) = false ∧ qs.length ≤ sizeLine ∧ Mut (H a) ∧ ∃ ls vs, LVs X.KK Hs ls qs ∧ KV ls vs ∧ s.heap.DictOf (leafKind X.prog X.w) a vs := by
  rcases h with ⟨ls, h1, h2⟩ | ⟨ls, h1, h2⟩
  · obtain ⟨z1, z2, vs, z3, z4⟩ := ext_at I h1
    exact ⟨z1, by rw [← h2.length]; exact z2, by rw [h1]; exact True.intro, ls, vs, h2, z3, z4⟩
  · obtain ⟨z1, z2, xs, z3, o, es, ep, e1, e2, e3, e4, e5⟩ := ext_at I h1
    have hq : qs = [] := by
      cases h2 with
      | nil => rfl
      | @cons p q ps qs' b t =>
        rw [List.all_cons, Bool.and_eq_true] at hl
        rw [tupk_not_leaf b.2.1] at hl
        exact absurd hl.1 Bool.false_ne_true
    subst hq
    cases h2
    cases z3
    have ee : es = #[] := by
      have : es.toList = [] := e4
      exact Array.toList_eq_nil_iff.mp this
    subst ee
    refine ⟨z1, Nat.zero_le _, by rw [h1]; exact True.intro, [], [], .nil, .nil, o, #[], ep, e1, e2, e3, ?_, ?_, List.nodup_nil⟩
    · exact (Heap.DictOf.new (knd := leafKind X.prog X.w) s.heap).elim fun o' h => h.elim fun es' h => h.elim fun ep' ⟨_, _, h3, h4, h5, _⟩ => by
        intro e he; simp at he
    · exact Pairs.nil
/-- as a dict of tuples -/
theorem dn_nest (I : L2.Inv X pins σ H s) (h : DnAt X.KK Hs H a qs) (hs : ∀ b o, Hs b = some o → H b = some o) (hl : (qs.all fun p => p.1.tupk) = true) : (a == sysModules) = false ∧ qs.length ≤ sizeLine ∧ Mut (H a) ∧ ∃ ls xs, NVs X.KK Hs ls qs ∧ NX ls xs ∧ s.heap.DictOfH (nestedKind X.prog X.w) a xs := by
  rcases h with ⟨ls, h1, h2⟩ | ⟨ls, h1, h2⟩
  · obtain ⟨z1, z2, vs, z3, z4⟩ := ext_at I h1
    have hq : qs = [] := by
      cases h2 with
      | nil => rfl
      | @cons p q ps qs' b t =>
        rw [List.all_cons, Bool.and_eq_true] at hl
        obtain ⟨b1, _⟩ := b
        obtain ⟨hl, _⟩ := hl
        cases e : q.1 <;> rw [e] at hl b1 <;> first | (simp [D.tupk] at hl; done) | (simp [lfOf] at b1; done)
    subst hq
    cases h2
    cases z3
    obtain ⟨o, es, ep, e1, e2, e3, e4, e5, e6⟩ := z4
    have ee : es = #[] := by
      rcases es with ⟨l⟩
      cases l with
      | nil => rfl
      | cons _ _ => cases e5
    subst ee
    exact ⟨z1, Nat.zero_le _, by rw [h1]; exact True.intro, [], [], .nil, .nil, o, #[], ep, e1, e2, e3, rfl, fun x hx => by simp at hx, List.nodup_nil⟩
  · obtain ⟨z1, z2, xs, z3, o, es, ep, e1, e2, e3, e4, e5⟩ := ext_at I h1
    refine ⟨z1, by rw [← h2.length]; exact z2, by rw [h1]; exact True.intro, ls, xs, h2, z3, o, es, ep, e1, e2, e3, e4, ?_, e5⟩
    have all : ∀ {l : List (NestedKey × Addr × V)} {m : List (NestedKey × Addr × Value)} {q : List (D × D)}, NVs X.KK Hs l q → NX l m → ∀ x ∈ m, (nestedKind X.prog X.w).is s.heap x.1 x.2.1 := by
      intro l m q h
      induction h generalizing m with
      | nil => intro z x hx; cases z; cases hx
      | @cons p q ps qs b t ih =>
        intro z x hx
        cases z with | cons c e =>
        rcases List.mem_cons.mp hx with rfl | hx
        · obtain ⟨b1, b2, b3, _⟩ := b
          obtain ⟨c1, c2, _⟩ := c
          rw [← c1, ← c2, ← b1]
          exact key_n I b2 (Rp.mono hs _ _ b3)
        · exact ih e x hx
    exact all h2 z3
/-! ### operations -/
theorem keyOk_or (ok : keyOk qs k = true) : (k.leaf = true ∧ (qs.all fun p => p.1.leaf) = true) ∨ (k.tupk = true ∧ (qs.all fun p => p.1.tupk) = true) := by
  unfold keyOk at ok
  simpa only [Bool.or_eq_true, Bool.and_eq_true] using ok
theorem tupk_ref {K : KW} {H : Hp} {y : V} {k : D} (h : k.tupk = true) (r : Rp K H y k) : ∃ b, y = .ref b := by
  cases k with
  | tup xs => cases r with | tup _ _ => exact ⟨_, rfl⟩
  | _ => simp [D.tupk] at h
/-- the relation of what is seen -/
abbrev SubH (Hs H : Hp) : Prop := ∀ b o, Hs b = some o → H b = some o
theorem dn_getItem {Q : Value → Shared → Prop} (hu : A.units + 66 < cLine) (I : L2.Inv X pins σ H s) (h : DnAt X.KK Hs H a qs) (hs : SubH Hs H) (hy : Rp X.KK H y k) (ok : keyOk qs k = true) (l : lookD k qs = some d) (ry : RelV y u)
    (q : ∀ w' v s', L2.Inv X pins σ H s' → RelV v w' → Rp X.KK Hs v d → Q w' s') : wpAny (model X.prog X.w) A (getItem (.ref a) u) Q E s := by
  rcases keyOk_or ok with ⟨o1, o2⟩ | ⟨o1, o2⟩
  · obtain ⟨hd, hz, mu, ls, vs, g, rel, dd⟩ := dn_leaf I h o2
    obtain ⟨lf, e⟩ := lf_leaf o1
    obtain ⟨v, hv, rv⟩ := (g.look e).1 d l
    obtain ⟨w', hw, rw'⟩ := RelO.some_of (v := v) (o := valueAt vs lf) (by rw [← hv]; exact rel.val lf)
    exact wpAny_getItem_of (lf_is hy e ry) dd.mapOf hw (q w' v _ (I.tok _) rw' rv)
  · obtain ⟨hd, hz, mu, ls, xs, g, rel, dd⟩ := dn_nest I h hs o2
    obtain ⟨b, rfl⟩ := tupk_ref o1 hy
    cases (show u = Value.ref b from ry)
    obtain ⟨p, hp, rp⟩ := (g.look (tupk_hsh o1).1).1 d l
    obtain ⟨p', hp', rel'⟩ := (rel.find).1 p hp
    exact wpAny_getItem_heap (room_n hu) (key_n I o1 hy) dd hp' (q _ _ _ (I.tok _) rel' rp)
theorem dn_in {Q : Value → Shared → Prop} (hu : A.units + 66 < cLine) (I : L2.Inv X pins σ H s) (h : DnAt X.KK Hs H a qs) (hs : SubH Hs H) (hy : Rp X.KK H y k) (ok : keyOk qs k = true) (ry : RelV y u)
    (q : ∀ s', L2.Inv X pins σ H s' → Q (.bool (lookD k qs).isSome) s') : wpAny (model X.prog X.w) A (compareOp .In u (.ref a)) Q E s := by
  rcases keyOk_or ok with ⟨o1, o2⟩ | ⟨o1, o2⟩
  · obtain ⟨hd, hz, mu, ls, vs, g, rel, dd⟩ := dn_leaf I h o2
    obtain ⟨lf, e⟩ := lf_leaf o1
    refine wpAny_in_of (lf_is hy e ry) hd dd.mapOf ?_
    have : (valueAt vs lf).isSome = (lookD k qs).isSome := by
      rw [← (rel.val lf).isSome_eq]
      cases z : lookD k qs with
      | none => rw [(g.look e).2 z]; rfl
      | some d => obtain ⟨v, hv, _⟩ := (g.look e).1 d z; rw [hv]; rfl
    rw [this]
    exact q _ (I.tok _)
  · obtain ⟨hd, hz, mu, ls, xs, g, rel, dd⟩ := dn_nest I h hs o2
    obtain ⟨b, rfl⟩ := tupk_ref o1 hy
    cases (show u = Value.ref b from ry)
    refine wpAny_in_heap (room_n hu) (key_n I o1 hy) hd dd ?_
    have : (atKey xs (nkOf k)).isSome = (lookD k qs).isSome := by
      cases z : lookD k qs with
      | none => rw [rel.find.2 ((g.look (tupk_hsh o1).1).2 z)]; rfl
      | some d => obtain ⟨p, hp, _⟩ := (g.look (tupk_hsh o1).1).1 d z; obtain ⟨p', hp', _⟩ := (rel.find).1 p hp; rw [hp']; rfl
    rw [this]
    exact q _ (I.tok _)
theorem dn_notIn {Q : Value → Shared → Prop} (hu : A.units + 66 < cLine) (I : L2.Inv X pins σ H s) (h : DnAt X.KK Hs H a qs) (hs : SubH Hs H) (hy : Rp X.KK H y k) (ok : keyOk qs k = true) (ry : RelV y u)
    (q : ∀ s', L2.Inv X pins σ H s' → Q (.bool (!(lookD k qs).isSome)) s') : wpAny (model X.prog X.w) A (compareOp .NotIn u (.ref a)) Q E s := by
  rcases keyOk_or ok with ⟨o1, o2⟩ | ⟨o1, o2⟩
  · obtain ⟨hd, hz, mu, ls, vs, g, rel, dd⟩ := dn_leaf I h o2
    obtain ⟨lf, e⟩ := lf_leaf o1
    refine wpAny_notIn_of (lf_is hy e ry) hd dd.mapOf ?_
    have : (valueAt vs lf).isSome = (lookD k qs).isSome := by
      rw [← (rel.val lf).isSome_eq]
      cases z : lookD k qs with
      | none => rw [(g.look e).2 z]; rfl
      | some d => obtain ⟨v, hv, _⟩ := (g.look e).1 d z; rw [hv]; rfl
    rw [this]
    exact q _ (I.tok _)
  · obtain ⟨hd, hz, mu, ls, xs, g, rel, dd⟩ := dn_nest I h hs o2
    obtain ⟨b, rfl⟩ := tupk_ref o1 hy
    cases (show u = Value.ref b from ry)
    refine wpAny_notIn_heap (room_n hu) (key_n I o1 hy) hd dd ?_
    have : (atKey xs (nkOf k)).isSome = (lookD k qs).isSome := by
      cases z : lookD k qs with
      | none => rw [rel.find.2 ((g.look (tupk_hsh o1).1).2 z)]; rfl
      | some d => obtain ⟨p, hp, _⟩ := (g.look (tupk_hsh o1).1).1 d z; obtain ⟨p', hp', _⟩ := (rel.find).1 p hp; rw [hp']; rfl
    rw [this]
    exact q _ (I.tok _)
/-- d.get(k, x) -/
theorem dn_get {Q : Value → Shared → Prop} {x : V} {dx : D} (hu : A.units + 66 < cLine) (I : L2.Inv X pins σ H s) (h : DnAt X.KK Hs H a qs) (hs : SubH Hs H) (hy : Rp X.KK H y k) (ok : keyOk qs k = true) (ry : RelV y u) (rx : RelV x r) (hx : Rp X.KK Hs x dx)
    (q : ∀ w' v s', L2.Inv X pins σ H s' → RelV v w' → Rp X.KK Hs v ((lookD k qs).getD dx) → Q w' s') : wpAny (model X.prog X.w) A (call (.builtin "dict.get") [.ref a, u, r]) Q E s := by
  rcases keyOk_or ok with ⟨o1, o2⟩ | ⟨o1, o2⟩
  · obtain ⟨hd, hz, mu, ls, vs, g, rel, dd⟩ := dn_leaf I h o2
    obtain ⟨lf, e⟩ := lf_leaf o1
    refine call_meetsIn PySem.F.slot_dict_get dd.typeIs PySem.F.entry_dict_get (PySem.F.args_dict_get_3 _ _ _) (meets_dict_get_default (leafKind X.prog X.w) a (lf_is hy e ry) hd r) ⟨_, dd.mapOf, ?_⟩
    cases z : lookD k qs with
    | none =>
      have hn : valueAt vs lf = none := RelO.none_of (by rw [← (g.look e).2 z]; exact rel.val lf)
      rw [hn]
      exact q _ x _ (I.tok _) rx (by rw [z]; exact hx)
    | some d =>
      obtain ⟨v, hv, rv⟩ := (g.look e).1 d z
      obtain ⟨w', hw, rw'⟩ := RelO.some_of (v := v) (o := valueAt vs lf) (by rw [← hv]; exact rel.val lf)
      rw [hw]
      exact q _ v _ (I.tok _) rw' (by rw [z]; exact rv)
  · obtain ⟨hd, hz, mu, ls, xs, g, rel, dd⟩ := dn_nest I h hs o2
    obtain ⟨b, rfl⟩ := tupk_ref o1 hy
    cases (show u = Value.ref b from ry)
    refine call_meetsIn PySem.F.slot_dict_get dd.typeIs PySem.F.entry_dict_get (PySem.F.args_dict_get_3 _ _ _) (meetsH_dict_get_default (nestedKind X.prog X.w) a b hd r) ⟨room_n hu, nkOf k, xs, key_n I o1 hy, dd, ?_⟩
    cases z : lookD k qs with
    | none =>
      rw [rel.find.2 ((g.look (tupk_hsh o1).1).2 z)]
      exact q _ x _ (I.tok _) rx (by rw [z]; exact hx)
    | some d =>
      obtain ⟨p, hp, rp⟩ := (g.look (tupk_hsh o1).1).1 d z
      obtain ⟨p', hp', rel'⟩ := (rel.find).1 p hp
      rw [hp']
      exact q _ _ _ (I.tok _) rel' (by rw [z]; exact rp)
theorem lf_obj {H' : Hp} {h' : Heap} {ls : List (Leaf × V)} {vs : List (Leaf × Value)} (hd : (a == sysModules) = false) (hz : ls.length ≤ sizeLine) (rel : KV ls vs) (dd : h'.DictOf (leafKind X.prog X.w) a vs) : ObjOk X.prog X.w H' h' a (DkL X.prog X.w a ls) := by
  obtain ⟨o, es, ep, e1, e2, e3, e4, e5, e6⟩ := id dd
  refine ⟨⟨hd, hz, vs, rel, dd⟩, ⟨o, e1⟩, fun h1 h2 ⟨z1, z2, vs', z3, o', es', ep', c1, c⟩ k => ⟨z1, z2, vs', z3, o', es', ep', k _ c1, c⟩⟩
theorem nk_obj {H' : Hp} {h' : Heap} {ls : List (NestedKey × Addr × V)} {xs : List (NestedKey × Addr × Value)} (hd : (a == sysModules) = false) (hz : ls.length ≤ sizeLine) (rel : NX ls xs) (dd : h'.DictOfH (nestedKind X.prog X.w) a xs) : ObjOk X.prog X.w H' h' a (DkN X.prog X.w a ls) := by
  obtain ⟨o, es, ep, e1, e2, e3, e4, _, e5⟩ := id dd
  refine ⟨⟨hd, hz, xs, rel, o, es, ep, e1, e2, e3, e4, e5⟩, ⟨o, e1⟩, fun h1 h2 ⟨z1, z2, vs', z3, o', es', ep', c1, c⟩ k => ⟨z1, z2, vs', z3, o', es', ep', k _ c1, c⟩⟩
/-- what may be laid at a: the dict qs -/
def DnO (K : KW) (Hs : Hp) (a : Addr) (qs : List (D × D)) (o : HO) : Prop := (∃ ls, o = DkL K.pr K.wd a ls ∧ LVs K Hs ls qs) ∨ ∃ ls, o = DkN K.pr K.wd a ls ∧ NVs K Hs ls qs
theorem DnO.at_ {K : KW} {Hs H : Hp} {a : Addr} {qs : List (D × D)} {o : HO} (h : DnO K Hs a qs o) (e : H a = some o) : DnAt K Hs H a qs := by
  rcases h with ⟨ls, rfl, g⟩ | ⟨ls, rfl, g⟩
  · exact .inl ⟨ls, e, g⟩
  · exact .inr ⟨ls, e, g⟩
/-- d[k] = v -/
theorem dn_setItem {Q : Unit → Shared → Prop} (hu : A.units + 66 < cLine) (I : L2.Inv X pins σ H s) (h : DnAt X.KK Hs H a qs) (hs : SubH Hs H) (hy : Rp X.KK Hs y k) (ok : keyOk qs k = true) (hl : qs.length < sizeLine) (ry : RelV y u) (rv : RelV v r) (hv : Rp X.KK Hs v d)
    (q : ∀ o s', DnO X.KK Hs a (putD k d qs) o → L2.Inv X pins σ (upd H a o) s' → Q () s') : wpAny (model X.prog X.w) A (setItem (.ref a) u r) Q E s := by
  rcases keyOk_or ok with ⟨o1, o2⟩ | ⟨o1, o2⟩
  · obtain ⟨hd, hz, mu, ls, vs, g, rel, dd⟩ := dn_leaf I h o2
    obtain ⟨lf, e⟩ := lf_leaf o1
    have hz2 : vs.length ≤ sizeLine := by rw [← rel.length, g.length]; exact hz
    have hl2 : (putK ls lf v).length ≤ sizeLine := by
      have := length_putK ls lf v
      rw [g.length] at this
      omega
    refine wpAny_setItem_pairs (hsz := hz2) (lf_is hy e ry) dd fun h' dd' hs' => q _ _ (.inl ⟨_, rfl, g.put e hy hv⟩) ?_
    have he : ∃ q, h'.get? a = some q := let ⟨q, _, _, hq, _⟩ := dd'; ⟨q, hq⟩
    exact d_write I mu hs' he (lf_obj hd hl2 (rel.put lf rv) dd')
  · obtain ⟨hd, hz, mu, ls, xs, g, rel, dd⟩ := dn_nest I h hs o2
    obtain ⟨b, rfl⟩ := tupk_ref o1 hy
    cases (show u = Value.ref b from ry)
    have hz2 : xs.length ≤ sizeLine := by rw [← Paired.length rel, g.length]; exact hz
    have hl2 : (putN ls (nkOf k) b v).length ≤ sizeLine := by
      have := putN_len ls (nkOf k) b v
      rw [g.length] at this
      omega
    refine wpAny_setItem_heap (hsz := hz2) (room_n hu) (key_n I o1 (Rp.mono hs _ _ hy)) dd fun h' dd' hs' => q _ _ (.inr ⟨_, rfl, g.put o1 hy hv⟩) ?_
    have he : ∃ q, h'.get? a = some q := let ⟨q, _, _, hq, _⟩ := dd'; ⟨q, hq⟩
    exact d_write I mu hs' he (nk_obj hd hl2 (rel.put (nkOf k) b rv) dd')
/-- d.setdefault(k, x) -/
theorem dn_setd {Q : Value → Shared → Prop} (hu : A.units + 66 < cLine) (I : L2.Inv X pins σ H s) (h : DnAt X.KK Hs H a qs) (hs : SubH Hs H) (hy : Rp X.KK Hs y k) (ok : keyOk qs k = true) (hl : qs.length < sizeLine) (ry : RelV y u) (rv : RelV v r) (hv : Rp X.KK Hs v d)
    (q1 : ∀ d' w' v' s', lookD k qs = some d' → L2.Inv X pins σ H s' → RelV v' w' → Rp X.KK Hs v' d' → Q w' s')
    (q2 : ∀ o s', lookD k qs = none → DnO X.KK Hs a (putD k d qs) o → L2.Inv X pins σ (upd H a o) s' → Q r s') : wpAny (model X.prog X.w) A (call (.builtin "dict.setdefault") [.ref a, u, r]) Q E s := by
  rcases keyOk_or ok with ⟨o1, o2⟩ | ⟨o1, o2⟩
  · obtain ⟨hd, hz, mu, ls, vs, g, rel, dd⟩ := dn_leaf I h o2
    obtain ⟨lf, e⟩ := lf_leaf o1
    have hz2 : vs.length ≤ sizeLine := by rw [← rel.length, g.length]; exact hz
    have hl2 : (putK ls lf v).length ≤ sizeLine := by
      have := length_putK ls lf v
      rw [g.length] at this
      omega
    refine call_meetsIn PySem.F.slot_dict_setdefault dd.typeIs PySem.F.entry_dict_setdefault (PySem.F.args_dict_setdefault_3 _ _ _) (kt_meets_setdefault (leafKind X.prog X.w) a (lf_is hy e ry) hd r) ⟨vs, dd, hz2, fun w' hw => ?_, fun hn h' dd' hs' => ?_⟩
    · cases z : lookD k qs with
      | none =>
        have hn : valueAt vs lf = none := RelO.none_of (by rw [← (g.look e).2 z]; exact rel.val lf)
        rw [hn] at hw; cases hw
      | some d' =>
        obtain ⟨v', hv', rv'⟩ := (g.look e).1 d' z
        obtain ⟨w2, hw2, rw2⟩ := RelO.some_of (v := v') (o := valueAt vs lf) (by rw [← hv']; exact rel.val lf)
        rw [hw] at hw2
        cases hw2
        exact q1 d' _ v' _ z (I.tok _) rw2 rv'
    · have z : lookD k qs = none := by
        cases z : lookD k qs with
        | none => rfl
        | some d' =>
          obtain ⟨v', hv', rv'⟩ := (g.look e).1 d' z
          obtain ⟨w2, hw2, rw2⟩ := RelO.some_of (v := v') (o := valueAt vs lf) (by rw [← hv']; exact rel.val lf)
          rw [hn] at hw2; cases hw2
      have he : ∃ q, h'.get? a = some q := let ⟨q, _, _, hq, _⟩ := dd'; ⟨q, hq⟩
      exact q2 _ _ z (.inl ⟨_, rfl, g.put e hy hv⟩) (d_write I mu hs' he (lf_obj hd hl2 (rel.put lf rv) dd'))
  · obtain ⟨hd, hz, mu, ls, xs, g, rel, dd⟩ := dn_nest I h hs o2
    obtain ⟨b, rfl⟩ := tupk_ref o1 hy
    cases (show u = Value.ref b from ry)
    have hz2 : xs.length ≤ sizeLine := by rw [← Paired.length rel, g.length]; exact hz
    have hl2 : (putN ls (nkOf k) b v).length ≤ sizeLine := by
      have := putN_len ls (nkOf k) b v
      rw [g.length] at this
      omega
    refine call_setdefault_heap (hsz := hz2) (room_n hu) (key_n I o1 (Rp.mono hs _ _ hy)) hd dd (fun p hp => ?_) fun hn h' dd' hs' => ?_
    · cases z : lookD k qs with
      | none => rw [rel.find.2 ((g.look (tupk_hsh o1).1).2 z)] at hp; cases hp
      | some d' =>
        obtain ⟨p', hp', rp⟩ := (g.look (tupk_hsh o1).1).1 d' z
        obtain ⟨p2, hp2, rel'⟩ := (rel.find).1 p' hp'
        rw [hp] at hp2
        cases hp2
        exact q1 d' _ _ _ z (I.tok _) rel' rp
    · have z : lookD k qs = none := by
        cases z : lookD k qs with
        | none => rfl
        | some d' =>
          obtain ⟨p', hp', rp⟩ := (g.look (tupk_hsh o1).1).1 d' z
          obtain ⟨p2, hp2, rel'⟩ := (rel.find).1 p' hp'
          rw [hn] at hp2; cases hp2
      have he : ∃ q, h'.get? a = some q := let ⟨q, _, _, hq, _⟩ := dd'; ⟨q, hq⟩
      exact q2 _ _ z (.inr ⟨_, rfl, g.put o1 hy hv⟩) (d_write I mu hs' he (nk_obj hd hl2 (rel.put (nkOf k) b rv) dd'))
theorem dn_raw (I : L2.Inv X pins σ H s) (h : DnAt X.KK Hs H a qs) : ∃ es ep, s.heap.DictRaw a es ep ∧ es.size = qs.length ∧ (a == sysModules) = false ∧ qs.length ≤ sizeLine := by
  rcases h with ⟨ls, h1, h2⟩ | ⟨ls, h1, h2⟩
  · obtain ⟨z1, z2, vs, z3, z4⟩ := ext_at I h1
    obtain ⟨es, ep, r1, r2, _⟩ := z4.raw
    exact ⟨es, ep, r1, by rw [r2, ← z3.length, h2.length], z1, by rw [← h2.length]; exact z2⟩
  · obtain ⟨z1, z2, xs, z3, o, es, ep, e1, e2, e3, e4, e5⟩ := ext_at I h1
    refine ⟨es, ep, ⟨o, e1, e2, e3⟩, ?_, z1, by rw [← h2.length]; exact z2⟩
    rw [← Array.length_toList, e4, List.length_map, ← Paired.length z3, h2.length]
theorem dn_type (I : L2.Inv X pins σ H s) (h : DnAt X.KK Hs H a qs) : s.TypeIs (.ref a) "dict" ∧ (∀ b, Value.ref a = .ref b → ∃ ob, s.heap.get? b = some ob ∧ ob.dict = none) := by
  obtain ⟨es, ep, r, _⟩ := dn_raw I h
  refine ⟨r.typeIs, fun b e => ?_⟩
  cases e
  obtain ⟨o, h1, h2, _⟩ := r
  exact ⟨o, h1, h2.2.1⟩
end

/-! ### readings, rules -/
/-- d[y], y in d, y not in d, d.get(y, x), d.setdefault(y, x), d[y] = v -/
def tNGet (K : KW) (td ty : TE) : TE := fun σ H Q => td σ H fun x H1 => ty σ H1 fun y H2 => ∃ a Hs qs k d, x = .ref a ∧ DnAt K Hs H2 a qs ∧ SubH Hs H2 ∧ Rp K H2 y k ∧ keyOk qs k = true ∧ lookD k qs = some d ∧ ∀ v, Rp K Hs v d → Q v H2
def tNIn (K : KW) (g : Bool → Bool) (ty td : TE) : TE := fun σ H Q => ty σ H fun y H1 => td σ H1 fun x H2 => ∃ a Hs qs k, x = .ref a ∧ DnAt K Hs H2 a qs ∧ SubH Hs H2 ∧ Rp K H2 y k ∧ keyOk qs k = true ∧ Q (.bl (g (lookD k qs).isSome)) H2
def tNGet2 (K : KW) (td ty tx : TE) : TE := fun σ H Q => td σ H fun x H1 => ∃ a Hs0 qs0, x = .ref a ∧ DnAt K Hs0 H1 a qs0 ∧ ty σ H1 fun y H2 => tx σ H2 fun z H3 => ∃ Hs qs k dx, DnAt K Hs H3 a qs ∧ SubH Hs H3 ∧ Rp K H3 y k ∧ Rp K Hs z dx ∧ keyOk qs k = true ∧ ∀ v, Rp K Hs v ((lookD k qs).getD dx) → Q v H3
def tNSetd (K : KW) (td ty tx : TE) : TE := fun σ H Q => td σ H fun x H1 => ∃ a Hs0 qs0, x = .ref a ∧ DnAt K Hs0 H1 a qs0 ∧ ty σ H1 fun y H2 => tx σ H2 fun z H3 => ∃ Hs qs k dx, DnAt K Hs H3 a qs ∧ SubH Hs H3 ∧ Rp K Hs y k ∧ Rp K Hs z dx ∧ keyOk qs k = true ∧ qs.length < sizeLine ∧
  (∀ v d, lookD k qs = some d → Rp K Hs v d → Q v H3) ∧ ∀ o, lookD k qs = none → DnO K Hs a (putD k dx qs) o → Q z (upd H3 a o)
def sNPut (K : KW) (td ty tv : TE) : TS := fun D σ H => tv σ H fun v H1 => td σ H1 fun x H2 => ty σ H2 fun y H3 => ∃ a Hs qs k d, x = .ref a ∧ DnAt K Hs H3 a qs ∧ SubH Hs H3 ∧ Rp K Hs y k ∧ Rp K Hs v d ∧ keyOk qs k = true ∧ qs.length < sizeLine ∧ ∀ o, DnO K Hs a (putD k d qs) o → D.nx σ (upd H3 a o)
section
variable {X : Cx} {o i e f value : Expr} {pos pos' tpos apos cpos : Pos} {td ty tv tx : TE}
theorem pe_nget (hu : X.A.units + 66 < cLine) (ho : PE X o td) (hi : PE X i ty) (hs : NoSl i) : PE X (.Subscript o i pos) (tNGet X.KK td ty) := by
  refine ⟨fun pins s σ H Q I h => ?_⟩
  refine subD_of PySem.F.slot_dict_getitem.lookup hs (thn (ho.run pins s σ H _ I h) fun u s1 ⟨x, H1, I1, rx, q1⟩ => thn (hi.run pins s1 σ H1 _ I1 q1) fun iv s2 ⟨y, H2, I2, ry, a, Hs, qs, k, d, ex, g, hs', hy, ok, l, q2⟩ => ?_)
  subst ex
  obtain rfl : u = Value.ref a := rx
  exact ⟨(dn_type I2 g).1, dn_getItem hu I2 g hs' hy ok l ry fun w' v s3 I3 rw' rv => ⟨v, H2, I3, rw', q2 v rv⟩⟩
theorem pc_nin (hu : X.A.units + 66 < cLine) (hi : PE X i ty) (ho : PE X o td) : PC X .In i o (tNIn X.KK id ty td) := by
  refine ⟨fun pins s σ H Q I h => ?_⟩
  refine thn (hi.run pins s σ H _ I h) fun iv s1 ⟨y, H1, I1, ry, q1⟩ => thn (ho.run pins s1 σ H1 _ I1 q1) fun u s2 ⟨x, H2, I2, rx, a, Hs, qs, k, ex, g, hs', hy, ok, q2⟩ => ?_
  subst ex
  obtain rfl : u = Value.ref a := rx
  exact dn_in hu I2 g hs' hy ok ry fun s3 I3 => ⟨.bl _, H2, I3, rfl, q2⟩
theorem pc_nnotin (hu : X.A.units + 66 < cLine) (hi : PE X i ty) (ho : PE X o td) : PC X .NotIn i o (tNIn X.KK not ty td) := by
  refine ⟨fun pins s σ H Q I h => ?_⟩
  refine thn (hi.run pins s σ H _ I h) fun iv s1 ⟨y, H1, I1, ry, q1⟩ => thn (ho.run pins s1 σ H1 _ I1 q1) fun u s2 ⟨x, H2, I2, rx, a, Hs, qs, k, ex, g, hs', hy, ok, q2⟩ => ?_
  subst ex
  obtain rfl : u = Value.ref a := rx
  exact dn_notIn hu I2 g hs' hy ok ry fun s3 I3 => ⟨.bl _, H2, I3, rfl, q2⟩
theorem ps_nput (hu : X.A.units + 66 < cLine) (ho : PE X o td) (hi : PE X i ty) (hv : PE X value tv) (hs : swapsWith value (some (.Subscript o i pos')) pos.line X.env = pure false) :
    PS X (.Assign [.Subscript o i pos'] value pos) (sNPut X.KK td ty tv) := by
  refine ⟨fun pins s σ H D I h => ?_⟩
  refine wpAny_Assign_Subscript (thn (hv.run pins s σ H _ I h) fun r s1 ⟨v, H1, I1, rv, q1⟩ => thn (ho.run pins s1 σ H1 _ I1 q1) fun u s2 ⟨x, H2, I2, rx, q2⟩ => thn (hi.run pins s2 σ H2 _ I2 q2) fun iv s3 ⟨y, H3, I3, ry, a, Hs, qs, k, d, ex, g, hs', hy, hd, ok, hl, q3⟩ => ?_) hs
  subst ex
  obtain rfl : u = Value.ref a := rx
  exact dn_setItem hu I3 g hs' hy ok hl ry rv hd fun o s4 ho I4 => ⟨σ, _, I4, q3 o ho⟩
theorem pe_nget2 (hu : X.A.units + 66 < cLine) (ho : PE X o td) (he : PE X e ty) (hf : PE X f tx) (m : M2 X o "get" apos e f cpos) : PE X (.Call (.Attribute o "get" apos) [e, f] [] cpos) (tNGet2 X.KK td ty tx) := by
  refine ⟨fun pins s σ H Q I h => ?_⟩
  refine wpAny_Call_method m.base m.few m.line PySem.F.plainAttrs_dict PySem.F.slot_dict_get PySem.F.type_dict_get (thn (ho.run pins s σ H _ I h) fun u s1 ⟨x, H1, I1, rx, a, Hs0, qs0, ex, d, q1⟩ => ?_)
  subst ex
  obtain rfl : u = Value.ref a := rx
  obtain ⟨t1, t2⟩ := dn_type I1 d
  refine ⟨t1, t2, ?_⟩
  rw [m.trees]
  refine Calls.callWith_builtin rfl (Calls.evalArgs_plain (Calls.spliced_cons (thn (he.run pins s1 σ H1 _ I1 q1) fun iv s2 ⟨y, H2, I2, ry, q2⟩ =>
    Calls.spliced_cons (thn (hf.run pins s2 σ H2 _ I2 q2) fun fv s3 ⟨z, H3, I3, rz, Hs, qs, k, dx, g, hs', hy, hx, ok, q3⟩ => Calls.spliced_nil ?_))))
  exact dn_get hu I3 g hs' hy ok ry rz hx fun w' v s4 I4 rw' rv => ⟨v, H3, I4, rw', q3 v rv⟩
theorem pe_nsetd (hu : X.A.units + 66 < cLine) (ho : PE X o td) (he : PE X e ty) (hf : PE X f tx) (m : M2 X o "setdefault" apos e f cpos) : PE X (.Call (.Attribute o "setdefault" apos) [e, f] [] cpos) (tNSetd X.KK td ty tx) := by
  refine ⟨fun pins s σ H Q I h => ?_⟩
  refine wpAny_Call_method m.base m.few m.line PySem.F.plainAttrs_dict PySem.F.slot_dict_setdefault PySem.F.type_dict_setdefault (thn (ho.run pins s σ H _ I h) fun u s1 ⟨x, H1, I1, rx, a, Hs0, qs0, ex, d, q1⟩ => ?_)
  subst ex
  obtain rfl : u = Value.ref a := rx
  obtain ⟨t1, t2⟩ := dn_type I1 d
  refine ⟨t1, t2, ?_⟩
  rw [m.trees]
  refine Calls.callWith_builtin rfl (Calls.evalArgs_plain (Calls.spliced_cons (thn (he.run pins s1 σ H1 _ I1 q1) fun iv s2 ⟨y, H2, I2, ry, q2⟩ =>
    Calls.spliced_cons (thn (hf.run pins s2 σ H2 _ I2 q2) fun fv s3 ⟨z, H3, I3, rz, Hs, qs, k, dx, g, hs', hy, hx, ok, hl, q3, q4⟩ => Calls.spliced_nil ?_))))
  exact dn_setd hu I3 g hs' hy ok hl ry rz hx (fun d' w' v' s4 l I4 rw' rv => ⟨v', _, I4, rw', q3 v' d' l rv⟩) fun o s4 l ho I4 => ⟨z, _, I4, rz, q4 o l ho⟩
/-- {} -/
def tNNew (K : KW) : TE := fun _ H Q => ∀ p, H p = none → Q (.ref p) (upd H p (DkL K.pr K.wd p []))
theorem dn_empty {P : Program} {w : World} {H : Hp} (h : Heap) (hb : sysModules < h.objs.size) : ObjOk P w H (h.push { cls := .type "dict", data := .dict #[] }) h.objs.size (DkL P w h.objs.size []) := by
  have dd : (h.push { cls := .type "dict", data := .dict #[] }).DictOf (leafKind P w) h.objs.size [] := Heap.DictOf.new h
  obtain ⟨o, es, ep, e1, e2, e3, e4, e5, e6⟩ := id dd
  exact ⟨⟨beq_eq_false_iff_ne.mpr (Ne.symm (Nat.ne_of_lt hb)), Nat.zero_le _, [], .nil, dd⟩, ⟨o, e1⟩, fun h1 h2 ⟨z1, z2, vs', z3, o', es', ep', c1, c⟩ k => ⟨z1, z2, vs', z3, o', es', ep', k _ c1, c⟩⟩
theorem pe_nnew : PE X (.Dict [] [] pos) (tNNew X.KK) := ⟨fun pins s σ H Q I h =>
  wpAny_Dict_empty ⟨.ref s.heap.objs.size, _, I.laid (a := s.heap.objs.size) (o := DkL X.prog X.w s.heap.objs.size []) (t' := s.toks) (fun _ _ q => Heap.get?_push_of_some _ q) (Nat.le_refl _) (dn_empty s.heap I.big), rfl, h _ (I.hok.fresh (Nat.le_refl _))⟩⟩
/-- {k: v} -/
def tNDisp (K : KW) (g : D → Bool) (tk tv : TE) : TE := fun σ H Q => ∀ p, H p = none → tk σ (upd H p (DkL K.pr K.wd p [])) fun x H1 => tv σ H1 fun y H2 => H2 p = some (DkL K.pr K.wd p []) ∧ ∃ Hs k d, SubH Hs H2 ∧ Rp K Hs x k ∧ Rp K Hs y d ∧ g k = true ∧ ∀ o, DnO K Hs p [(k, d)] o → Q (.ref p) (upd H2 p o)
theorem pe_ndispL (hk : PE X e ty) (hv : PE X f tv) : PE X (.Dict [some e] [f] pos) (tNDisp X.KK D.leaf ty tv) := by
  refine ⟨fun pins s σ H Q I q => ?_⟩
  have hn := I.hok.fresh (Nat.le_refl s.heap.objs.size)
  have I1 := I.laid (a := s.heap.objs.size) (o := DkL X.prog X.w s.heap.objs.size []) (h' := s.heap.push { cls := .type "dict", data := .dict #[] }) (t' := s.toks) (fun _ _ q => Heap.get?_push_of_some _ q) (Nat.le_refl _) (dn_empty s.heap I.big)
  refine wpAny_Dict_walk (knd := leafKind X.prog X.w) rfl rfl (by simp) (by show 1 ≤ 15; decide) (pairTrees_cons_walk (thn (hk.run pins _ σ _ _ I1 (q _ hn)) fun u s1 ⟨x, H1, I2, rx, q1⟩ => thn (hv.run pins s1 σ H1 _ I2 q1) fun r s2 ⟨y, H2, I3, ry, e, Hs, k, d, hs, hx, hy, ok, q2⟩ => pairTrees_nil_walk ?_))
  obtain ⟨lf, el⟩ := lf_leaf ok
  obtain ⟨hd, hz, vs, rel, dd⟩ := ext_at I3 e
  cases rel
  refine ⟨[(lf, r)], ⟨lf_is hx el rx, rfl, trivial⟩, dd, fun h' dd' hs' => ⟨.ref s.heap.objs.size, _, ?_, rfl, q2 _ (.inl ⟨[(lf, y)], rfl, .cons ⟨el, ⟨_, hx⟩, hy⟩ .nil⟩)⟩⟩
  have he : ∃ q, h'.get? s.heap.objs.size = some q := let ⟨q, _, _, hq, _⟩ := dd'; ⟨q, hq⟩
  exact d_write I3 (by rw [e]; exact True.intro) hs' he (lf_obj hd (by rw [sizeLine_eq]; show 1 ≤ 16777216; decide) (.cons ⟨rfl, ry⟩ .nil) dd')
theorem dict_pairsN {prog : Program} {w : World} {K : Type} [DecidableEq K] {knd : HeapKind prog w K} {A : Around} {E : Value → Shared → Prop} {s : Shared} {env : PySem.Env} {keys : List (Option Expr)} {values : List Expr} {pos : Pos} {pairs : List (Sem Value × Sem Value)} {Q : Value → Shared → Prop} (hu : knd.room A)
    (hshape : (evalEachOpt keys env).zip ((evalEach values env).map fun v => do let x ← v; standAt pos; pure x) = pairs.map fun p => (some p.1, p.2)) (h0 : pairs ≠ []) (hlen : pairs.length ≤ 15)
    (h : wpAny (model prog w) A (evalPairs pairs) (fun vs s₁ => ∃ ps, CarriesH knd s₁.heap vs ps ∧ s₁.heap.DictOfH knd s.heap.objs.size [] ∧
      ∀ h' tk, h'.DictOfH knd s.heap.objs.size (storedAllH [] ps) → Heap.SameBut s.heap.objs.size s₁.heap h' → Q (.ref s.heap.objs.size) { s₁ with heap := h', toks := tk }) E
      { s with heap := s.heap.push { cls := .type "dict", data := .dict #[] } }) :
    wpAny (model prog w) A (eval (.Dict keys values pos) env) Q E s := by
  rw [arm_eval_Dict, hshape, dictDisplay_pairs pairs h0 (by omega)]
  exact wpAny_bind (wpAny_standAt (wpAny_bind (wpAny_subDictH (knd := knd) (Q := fun d s' => wpAny (model prog w) A (pure (Value.ref d)) Q E s') hu hlen
    (wpAny_mono h (fun vs s₁ h₁ => by obtain ⟨ps, hc, hm, hq⟩ := h₁; exact ⟨ps, hc, hm, fun h' tk a b => wpAny_pure (hq h' tk a b)⟩) fun _ _ e => e))))
theorem room_n0 {A : Around} (hu : A.units + 66 < cLine) : (nestedKind X.prog X.w).room A := by
  show A.units + 8 < cLine
  omega
theorem pe_ndispN (hu : X.A.units + 66 < cLine) (hk : PE X e ty) (hv : PE X f tv) : PE X (.Dict [some e] [f] pos) (tNDisp X.KK D.tupk ty tv) := by
  refine ⟨fun pins s σ H Q I q => ?_⟩
  have hn := I.hok.fresh (Nat.le_refl s.heap.objs.size)
  have I1 := I.laid (a := s.heap.objs.size) (o := DkL X.prog X.w s.heap.objs.size []) (h' := s.heap.push { cls := .type "dict", data := .dict #[] }) (t' := s.toks) (fun _ _ q => Heap.get?_push_of_some _ q) (Nat.le_refl _) (dn_empty s.heap I.big)
  refine dict_pairsN (knd := nestedKind X.prog X.w) (room_n0 hu) (zip_pairTrees [some e] [f] X.env pos rfl rfl) (by intro z; cases z) (by show 1 ≤ 15; decide) (pairTrees_cons_walk (thn (hk.run pins _ σ _ _ I1 (q _ hn)) fun u s1 ⟨x, H1, I2, rx, q1⟩ => thn (hv.run pins s1 σ H1 _ I2 q1) fun r s2 ⟨y, H2, I3, ry, e, Hs, k, d, hs, hx, hy, ok, q2⟩ => pairTrees_nil_walk ?_))
  obtain ⟨b, rfl⟩ := tupk_ref ok hx
  cases (show u = Value.ref b from rx)
  obtain ⟨hd, hz, mu, ls, xs, g, rel, dd⟩ := dn_nest (qs := []) (Hs := Hs) I3 (.inl ⟨[], e, .nil⟩) hs rfl
  cases g
  cases rel
  refine ⟨[(nkOf k, b, r)], ⟨rfl, rfl, key_n I3 ok (Rp.mono hs _ _ hx), trivial⟩, dd, fun h' tk dd' hs' => ⟨.ref s.heap.objs.size, _, ?_, rfl, q2 _ (.inr ⟨[(nkOf k, b, y)], rfl, .cons ⟨rfl, ok, hx, hy⟩ .nil⟩)⟩⟩
  have he : ∃ q, h'.get? s.heap.objs.size = some q := let ⟨q, _, _, hq, _⟩ := dd'; ⟨q, hq⟩
  exact d_write I3 (by rw [e]; exact True.intro) hs' he (nk_obj hd (by rw [sizeLine_eq]; show 1 ≤ 16777216; decide) (.cons ⟨rfl, rfl, ry⟩ .nil) dd')
end
/-- a[i] = v of a dict -/
def rSetN (K : KW) : TSet := fun o i v H Q => ∃ a Hs qs k d, o = .ref a ∧ DnAt K Hs H a qs ∧ SubH Hs H ∧ Rp K Hs i k ∧ Rp K Hs v d ∧ keyOk qs k = true ∧ qs.length < sizeLine ∧ ∀ o', DnO K Hs a (putD k d qs) o' → Q (upd H a o')
theorem set_dn {X : Cx} (hu : X.A.units + 66 < cLine) : PSet X (rSetN X.KK) := by
  intro pins s σ H o i v ov iv u Q I ro ri rv h
  obtain ⟨a, Hs, qs, k, d, eo, g, hs, hi, hv, ok, hl, q⟩ := h
  subst eo
  cases (show ov = Value.ref a from ro)
  exact dn_setItem hu I g hs hi ok hl ri rv hv fun o' s' ho I' => ⟨_, I', q o' ho⟩
/-- len(d) -/
theorem call_len_dn {X : Cx} (hc : X.calm = true) : CallR X (.builtin "len") (fun xs H Q => ∃ a Hs qs, xs = [.ref a] ∧ DnAt X.KK Hs H a qs ∧ Q (.int qs.length) H) := by
  intro pins s σ H xs us Q I rx h
  obtain ⟨a, Hs, qs, rfl, g, q⟩ := h
  cases rx with | cons r t =>
  cases t
  cases (show _ = Value.ref a from r)
  obtain ⟨es, ep, r1, r2, hd, hz⟩ := dn_raw I g
  refine PyProof.Rows.call_len_slot (n := qs.length) r1.typeIs PySem.F.slot_dict_len (fun Q' hq => call_len_raw hd r1 ?_) (by omega) (by rw [sizeLine_eq] at hz; omega) ?_
  · rw [r2]; exact hq
  · exact ⟨.int qs.length, H, I.tok _, ⟨_, rfl⟩, q⟩
end Mp
namespace Mp
open PySem PySem.Spec PyProof.Rows L2
/-! # (x, ..) * n, n nought or one too -/
theorem tup_mul1 (l : Addr) (its : Array Value) (n : Nat) (dd : Option Addr) (sl : Array (Option Value)) (x : Int) (t : Tok) (h1 : x = 1) :
    Meets (Builtin.«tuple.__mul__» ⟨[.ref l, .int x t], []⟩) (fun _ R s => s.heap.get? l = some { cls := .type "tuple", dict := dd, data := .seq its n, slots := sl } ∧ R (.ok (.ret (Value.ref l))) s) :=
  .of_wp fun prog w A R s h => by
    obtain ⟨hp, g, d, tk, os⟩ := s
    obtain ⟨hl, h⟩ := h
    subst h1
    have f1 := AutoSeq1.idx_int
    wp_walk using wpAny_loadPart' hl
    exact ⟨_, rfl, h⟩
theorem tup_mul0 (l : Addr) (its : Array Value) (n : Nat) (dd : Option Addr) (sl : Array (Option Value)) (x : Int) (t : Tok) (h0 : x = 0) (ne : its.isEmpty = false) :
    Meets (Builtin.«tuple.__mul__» ⟨[.ref l, .int x t], []⟩) (fun _ R s => s.heap.get? l = some { cls := .type "tuple", dict := dd, data := .seq its n, slots := sl } ∧ R (.ok (.ret (Value.ref s.heap.objs.size))) { s with heap := s.heap.push { cls := .type "tuple", data := .seq #[] } }) :=
  .of_wp fun prog w A R s h => by
    obtain ⟨hp, g, d, tk, os⟩ := s
    obtain ⟨hl, h⟩ := h
    subst h0
    have f1 := AutoSeq1.idx_int
    have c1 : (its.isEmpty || (0 : Int) == 1) = false := by rw [ne]; rfl
    wp_walk using wpAny_loadPart' hl
    repeat (first
      | (refine wpAny_ite_false (decide_eq_false (by rw [c1]; exact Bool.false_ne_true)) ?_; wp_walk using wpAny_loadPart' hl))
    exact ⟨_, rfl, h⟩
def rRepS (K : PySem.W.Frag) : R2 := fun x y H Q => ∃ l k xs, x = .ref l ∧ y = .int k ∧ SqT K H l xs ∧ xs ≠ [] ∧ 0 ≤ k ∧ k ≤ 1000 ∧ xs.length ≤ 1000 ∧ (k = 1 → Q (.ref l) H) ∧ (k ≠ 1 → ∀ p, H p = none → Q (.ref p) (upd H p (.tup (List.replicate k.toNat xs).flatten)))
theorem op_repS {X : Cx} : OpR X (binaryOp .Mult) (rRepS X.K) := by
  intro pins s σ H x y v u Q I rx ry h
  obtain ⟨l, k, xs, rfl, rfl, hT, hne, h1, h2, hz, q1, q2⟩ := h
  by_cases k2 : 2 ≤ k
  · exact op_repT pins s σ H _ _ v u Q I rx ry ⟨l, k, xs, rfl, rfl, hT, hne, k2, h2, hz, q2 (by omega)⟩
  · cases rx
    obtain ⟨t, rfl⟩ := ry
    obtain ⟨its, r, ⟨⟨cls, dd, data, sl⟩, ho, hc, n, hd⟩, hs⟩ := I.tuple hT
    simp only at hc hd
    subst hc hd
    by_cases k1 : k = 1
    · exact wpAny_binaryOp_repeat_ref (T := "tuple") (U := "int") (by decide) ⟨_, ho, rfl⟩ (fun s' => typeIs_int s' k t) noFill_tuple_mul F.fills_int_mul F.slot_int_rmul repeat_tuple F.slot_int_index.lookup
        (call_meets F.slot_int_rmul (typeIs_int s k t) F.entry_int_rmul (F.args_int_rmul_2 _ _) (int_rmul_tuple k t l its.toArray n dd sl)
          ⟨ho, rfl, ⟨_, ho, rfl⟩, call_meets F.slot_tuple_mul ⟨_, ho, rfl⟩ F.entry_tuple_mul (F.args_tuple_mul_2 _ _) (tup_mul1 l its.toArray n dd sl k t k1) ⟨ho, ⟨.ref l, H, I, rfl, q1 k1⟩⟩⟩)
    · have k0 : k = 0 := by omega
      have hn : its.toArray.isEmpty = false := by
        cases its with
        | nil => exact absurd (List.eq_nil_of_length_eq_zero r.length) hne
        | cons a b => rfl
      refine wpAny_binaryOp_repeat_ref (T := "tuple") (U := "int") (by decide) ⟨_, ho, rfl⟩ (fun s' => typeIs_int s' k t) noFill_tuple_mul F.fills_int_mul F.slot_int_rmul repeat_tuple F.slot_int_index.lookup
        (call_meets F.slot_int_rmul (typeIs_int s k t) F.entry_int_rmul (F.args_int_rmul_2 _ _) (int_rmul_tuple k t l its.toArray n dd sl)
          ⟨ho, rfl, ⟨_, ho, rfl⟩, call_meets F.slot_tuple_mul ⟨_, ho, rfl⟩ F.entry_tuple_mul (F.args_tuple_mul_2 _ _) (tup_mul0 l its.toArray n dd sl k t k0 hn) ⟨ho, ?_⟩⟩)
      have q2 := q2 k1
      rw [k0] at q2
      refine ⟨.ref s.heap.objs.size, _, I.laid (t' := s.toks) (o := .tup []) (fun b ob z => Heap.get?_push_of_some _ z) (Nat.le_refl _) ?_, rfl, q2 _ (I.hok.fresh (Nat.le_refl _))⟩
      exact ⟨Nat.zero_le _, [], .nil, IsTup.new _ _⟩
end Mp
namespace Mp
open PySem PySem.Spec PyProof.Rows L2

/-! ### values seen, values made -/
/-- what is seen of a value beside what is owned -/
def Vw (K : KW) (S : FP) (H : Hp) (v : V) (d : D) : Prop :=
  Rp K (hid S H) v d ∨ ∃ a xs ds, v = .ref a ∧ d = .lst ds ∧ H a = some (.lst xs) ∧ Rps K (hid S H) xs ds
theorem Vw.rp {K : KW} {S : FP} {H : Hp} {v : V} {d : D} (h : Vw K S H v d) : Rp K H v d := by
  rcases h with h | ⟨a, xs, ds, rfl, rfl, e, r⟩
  · exact Rp.mono hid_sub _ _ h
  · exact .lst e (Rps.mono hid_sub _ _ r)
theorem Vw.lst {K : KW} {S : FP} {H : Hp} {v : V} {ds : List D} (h : Vw K S H v (.lst ds)) : ∃ a xs, v = .ref a ∧ H a = some (.lst xs) ∧ Rps K (hid S H) xs ds := by
  rcases h with h | ⟨a, xs, ds', rfl, e, h, r⟩
  · cases h with | lst s r => exact ⟨_, _, rfl, hid_sub _ _ s, r⟩
  · cases e; exact ⟨a, xs, rfl, h, r⟩
theorem Vw.kl {K : KW} {S : FP} {H : Hp} {v : V} {ds : List D} (h : Vw K S H v (.kl ds)) : ∃ a xs, v = .ref a ∧ SqL K H a xs ∧ Rps K (hid S H) xs ds := by
  rcases h with h | ⟨a, xs, ds', rfl, e, h, r⟩
  · cases h with | kl s r => exact ⟨_, _, rfl, SqL.mono hid_sub s, r⟩
  · cases e
theorem Vw.tup {K : KW} {S : FP} {H : Hp} {v : V} {ds : List D} (h : Vw K S H v (.tup ds)) : ∃ a xs, v = .ref a ∧ SqT K H a xs ∧ Rps K (hid S H) xs ds ∧ Rp K (hid S H) v (.tup ds) := by
  rcases h with h | ⟨a, xs, ds', rfl, e, h, r⟩
  · have g := h
    cases h with | tup s r => exact ⟨_, _, rfl, SqT.mono hid_sub s, r, g⟩
  · cases e
theorem Vw.int {K : KW} {S : FP} {H : Hp} {v : V} {i : Int} (h : Vw K S H v (.int i)) : v = .int i := by
  have g := h.rp
  cases g; rfl
theorem Vw.bl {K : KW} {S : FP} {H : Hp} {v : V} {i : Bool} (h : Vw K S H v (.bl i)) : v = .bl i := by
  have g := h.rp
  cases g; rfl
theorem Vw.str {K : KW} {S : FP} {H : Hp} {v : V} {x : List Nat} (h : Vw K S H v (.str x)) : v = .str (sOf x) ∧ sok x = true := by
  have g := h.rp
  cases g with | str _ e => exact ⟨rfl, e⟩
/-- a value made: the heap grew, what the value is, its footprint -/
structure Nw (K : KW) (S : FP) (H H' : Hp) (v : V) (r : Sl) (R : FP) : Prop where
  ext : ∀ b o, H b = some o → H' b = some o
  new : ∀ a, R a → H a = none
  so : So K none (hid (fun a => S a ∨ R a) H') H' v r R
theorem hid_or {S : FP} {H : Hp} : (hid (fun a => S a ∨ False) H) = hid S H := by
  have e : (fun a => S a ∨ False) = S := by funext a; simp
  rw [e]
theorem Nw.sh {K : KW} {S : FP} {H : Hp} {v : V} {d : D} (h : Rp K (hid S H) v d) : Nw K S H H v (.sh d) fun _ => False :=
  ⟨fun _ _ e => e, fun _ z => z.elim, .sh (by rw [hid_or]; exact h)⟩
/-- a wish about what an operation makes -/
def rV (K : KW) (S : FP) (H : Hp) (z : Option Sl) (Q : VK) : Prop := ∃ r, z = some r ∧ ∀ v H' R, Nw K S H H' v r R → Q v H'
theorem ne_live {S : FP} {H : Hp} {p : Addr} (lv : ∀ a, S a → H a ≠ none) (n : H p = none) : ¬ S p := fun z => lv p z n
theorem hid_upd {S : FP} {H : Hp} {p : Addr} {o : HO} (n : H p = none) : ∀ b u, hid S H b = some u → hid S (upd H p o) b = some u := fun b u e => by
  rw [hid_some] at e ⊢
  exact ⟨e.1, by rw [upd_ne (ne_of_none e.2 n)]; exact e.2⟩
theorem hid_upd2 {S : FP} {H : Hp} {p : Addr} {o : HO} (n : H p = none) : ∀ b u, hid S H b = some u → hid (fun a => S a ∨ a = p) (upd H p o) b = some u := fun b u e => by
  rw [hid_some] at e ⊢
  exact ⟨fun z => z.elim e.1 fun z => ne_of_none e.2 n z, by rw [upd_ne (ne_of_none e.2 n)]; exact e.2⟩
theorem ext_upd {H : Hp} {p : Addr} {o : HO} (n : H p = none) : ∀ b u, H b = some u → upd H p o b = some u := fun b u e => by rw [upd_ne (ne_of_none e n)]; exact e
/-- a new list -/
theorem Nw.ol {K : KW} {S : FP} {H : Hp} {p : Addr} {xs : List V} {ds : List D} (n : H p = none) (r : Rps K (hid S H) xs ds) : Nw K S H (upd H p (.lst xs)) (.ref p) (.ol ds) fun b => b = p :=
  ⟨ext_upd n, fun a e => by rw [e]; exact n, .ol upd_same (Rps.mono (hid_upd2 n) _ _ r)⟩
/-- a new tuple -/
theorem Nw.tup {K : KW} {S : FP} {H : Hp} {p : Addr} {xs : List V} {ds : List D} (lv : ∀ a, S a → H a ≠ none) (n : H p = none) (r : Rps K (hid S H) xs ds) : Nw K S H (upd H p (.tup xs)) (.ref p) (.sh (.tup ds)) fun _ => False :=
  ⟨ext_upd n, fun a e => e.elim, .sh (by
    rw [hid_or]
    exact .tup (.inl (.inl (hid_some.mpr ⟨ne_live lv n, upd_same⟩))) (Rps.mono (hid_upd n) _ _ r))⟩
section
variable {X : Cx}
/-- a tracked or locked list as its object -/
theorem rd_lst {P : Program} {w : World} {H : Hp} {h : Heap} {a : Addr} {xs : List V} (r : Rd H a (.lst xs)) (k : HOk P w H h) : xs.length ≤ sizeLine ∧ ∃ (its : List Value) (n : Nat), Vals xs its ∧ xs.length = its.length ∧ h.get? a = some { cls := .type "list", data := .seq its.toArray n } := by
  obtain ⟨z, its, n, r, e⟩ := r.ok k
  exact ⟨z, its, n, r, r.length, e⟩
theorem lim_line : LIM = sizeLine := by rw [sizeLine_eq]; rfl

theorem cat_rd {pins : List (Addr × Obj)} {s : Shared} {σ : L2.St} {H : Hp} {l b : Addr} {xs zs : List V} {Q : VK} (I : Inv X pins σ H s) (hH : Rd H l (.lst xs)) (hB : Rd H b (.lst zs)) (hz : xs.length + zs.length ≤ sizeLine)
    (q : ∀ p, H p = none → Q (.ref p) (upd H p (.lst (xs ++ zs)))) : wpAny (model X.prog X.w) X.A (binaryOp .Add (.ref l) (.ref b)) (EP X pins σ Q) X.xe s := by
  obtain ⟨z, its, n, r, hl, e⟩ := rd_lst hH I.hok
  obtain ⟨z2, its2, n2, r2, hl2, e2⟩ := rd_lst hB I.hok
  refine PySem.P.add_list e e2 ?_ (by rw [List.size_toArray, List.size_toArray]; omega)
  have ea : its.toArray ++ its2.toArray = (its ++ its2).toArray := by simp
  rw [ea]
  exact ⟨.ref _, _, I.lnew (t' := s.toks) (r.append r2) (by rw [List.length_append]; omega), rfl, q _ I.fresh⟩
theorem rep_rd {pins : List (Addr × Obj)} {s : Shared} {σ : L2.St} {H : Hp} {l : Addr} {k : Int} {t : Tok} {xs : List V} {Q : VK} (I : Inv X pins σ H s) (hH : Rd H l (.lst xs)) (h1 : -(2 ^ 63) ≤ k) (h2 : k < 2 ^ 63) (hz : xs.length * k.toNat ≤ sizeLine)
    (q : ∀ p, H p = none → Q (.ref p) (upd H p (.lst (List.replicate k.toNat xs).flatten))) : wpAny (model X.prog X.w) X.A (binaryOp .Mult (.ref l) (.int k t)) (EP X pins σ Q) X.xe s := by
  obtain ⟨z, its, n, r, hl, e⟩ := rd_lst hH I.hok
  have hlen : its.toArray.size * k.toNat ≤ sizeLine := by rw [List.size_toArray, ← hl]; exact hz
  have hcap : ¬ its.toArray.size * k.toNat > (2 ^ 63 - 1) / 8 := by
    have : (sizeLine : Nat) ≤ (2 ^ 63 - 1) / 8 := by decide
    omega
  have hfit : ¬ (!Builtin.List.listFitsIndex k) = true := by
    rw [fitsIndex_both h1 h2]
    exact Bool.false_ne_true
  have hlong : ¬ Builtin.List.listTooLong (its.toArray.size * k.toNat) = true := by
    rw [notLongL hlen]
    exact Bool.false_ne_true
  have hnew : List.foldl (fun x1 x2 => x1 ++ x2) #[] (List.replicate (if its.toArray.isEmpty = true then 0 else k.toNat) its.toArray) = (List.replicate k.toNat its).flatten.toArray := by
    have f0 : ∀ m : Nat, List.foldl (fun x1 x2 => x1 ++ x2) #[] (List.replicate m its.toArray) = (List.replicate m its).flatten.toArray := fun m => by
      have := foldl_rep its m []
      rw [List.nil_append] at this
      exact this
    rw [f0]
    cases its with
    | nil => simp
    | cons a r' => rw [if_neg (by simp)]
  refine wpAny_binaryOp_repeat_ref (T := "list") (U := "int") (by decide) ⟨_, e, rfl⟩ (fun s' => typeIs_int s' k t) noFill_list_mul F.fills_int_mul F.slot_int_rmul repeat_list F.slot_int_index.lookup
    (call_meets F.slot_int_rmul (typeIs_int s k t) F.entry_int_rmul (F.args_int_rmul_2 _ _) (int___rmul___int_list k t l its.toArray n)
      ⟨e, rfl, ⟨_, e, rfl⟩, call_meets F.slot_list_mul ⟨_, e, rfl⟩ F.entry_list_mul (F.args_list_mul_2 _ _) (AutoListH.list___mul___list_int_3 l its.toArray n k t hfit hcap hlong) ⟨e, ?_⟩⟩)
  rw [hnew]
  exact ⟨.ref _, _, I.lnew (t' := s.toks) (r.rep k.toNat) (by rw [PyProof.Rows.lm_len_rep_flat, Nat.mul_comm]; exact hz), rfl, q _ I.fresh⟩

def Bo.op : Bo → Operator
  | .add => .Add
  | .sub => .Sub
  | .mul => .Mult
  | .fdiv => .FloorDiv
  | .mod => .Mod
  | .pow => .Pow
theorem sok_append {x y : List Nat} (hx : sok x = true) (hy : sok y = true) (h : x.length + y.length ≤ LIM) : sok (x ++ y) = true := by
  unfold sok at *
  rw [Bool.and_eq_true] at *
  exact ⟨decide_eq_true (by rw [List.length_append]; exact h), by rw [List.all_append, hx.2, hy.2]; rfl⟩
theorem Rps.rep {K : KW} {H : Hp} {vs : List V} {ds : List D} (h : Rps K H vs ds) : ∀ k : Nat, Rps K H (List.replicate k vs).flatten (rep k ds)
  | 0 => .nil
  | k + 1 => by
    unfold Mp.rep
    rw [List.replicate_succ, List.replicate_succ, List.flatten_cons, List.flatten_cons]
    exact Rps.append h (Rps.rep h k)
/-- a binary operator by its data -/
def rBin (K : KW) (o : Bo) : R2 := fun x y H Q => ∃ S d e, (∀ a, S a → H a ≠ none) ∧ Vw K S H x d ∧ Vw K S H y e ∧ rV K S H (binF o d e) Q
theorem bin_ok (o : Bo) : OpR X (binaryOp o.op) (rBin X.KK o) := by
  intro pins s σ H x y v u Q I rx ry h
  obtain ⟨S, d, e, lv, hx, hy, r, he, q⟩ := h
  have qi : ∀ i : Int, r = .sh (.int i) → Q (.int i) H := fun i z => q _ _ _ (z ▸ Nw.sh (.int i))
  unfold binF at he
  split at he
  · rename_i i j
    cases hx.int; cases hy.int
    cases he
    exact op_add pins s σ H _ _ v u Q I rx ry ⟨i, j, rfl, rfl, qi _ rfl⟩
  · rename_i a b
    obtain ⟨rfl, sx⟩ := hx.str
    obtain ⟨rfl, sy⟩ := hy.str
    split at he
    · rename_i hl
      cases he
      refine op_add_str pins s σ H _ _ v u Q I rx ry ⟨_, _, rfl, rfl, ?_, ?_⟩
      · show a.toArray.size + b.toArray.size ≤ sizeLine
        rw [List.size_toArray, List.size_toArray, ← lim_line]; exact hl
      · have e1 : sOf a ++ sOf b = sOf (a ++ b) := by
          show (⟨a.toArray ++ b.toArray⟩ : Str) = ⟨(a ++ b).toArray⟩
          simp
        rw [e1]
        exact q _ _ _ (Nw.sh (.str _ (sok_append sx sy hl)))
    · cases he
  · rename_i a b
    obtain ⟨p, xs, rfl, sx, rx', gx⟩ := hx.tup
    obtain ⟨p2, ys, rfl, sy, ry', gy⟩ := hy.tup
    split at he
    · rename_i hl
      cases he
      refine op_catA pins s σ H _ _ v u Q I rx ry ⟨p, p2, xs, ys, rfl, rfl, sx, sy, by rw [rx'.length, ry'.length, ← lim_line]; exact hl, fun e => ?_, fun _ e => ?_, fun _ _ p n => ?_⟩
      · subst e
        cases rx'
        exact q _ _ _ (Nw.sh gy)
      · subst e
        cases ry'
        rw [List.append_nil] at q
        exact q _ _ _ (Nw.sh gx)
      · exact q _ _ _ (Nw.tup lv n (rx'.append ry'))
    · cases he
  · rename_i a b
    obtain ⟨p, xs, rfl, sx, rx'⟩ := hx.lst
    obtain ⟨p2, ys, rfl, sy, ry'⟩ := hy.lst
    cases rx; cases ry
    split at he
    · rename_i hl
      cases he
      refine cat_rd I (.inl sx) (.inl sy) (by rw [rx'.length, ry'.length, ← lim_line]; exact hl) fun p n => q _ _ _ (Nw.ol n (rx'.append ry'))
    · cases he
  · rename_i i j
    cases hx.int; cases hy.int
    cases he
    exact op_sub pins s σ H _ _ v u Q I rx ry ⟨i, j, rfl, rfl, qi _ rfl⟩
  · rename_i i j
    cases hx.int; cases hy.int
    split at he
    · rename_i hs
      cases he
      refine op_mul pins s σ H _ _ v u Q I rx ry ⟨i, j, rfl, rfl, ?_, qi _ rfl⟩
      simp only [small, Bool.or_eq_true, Bool.and_eq_true, decide_eq_true_eq] at hs
      exact hs
    · cases he
  · rename_i a j
    obtain ⟨p, xs, rfl, sx, rx'⟩ := hx.lst
    cases hy.int
    cases rx
    obtain ⟨t, rfl⟩ := ry
    split at he
    · rename_i hs
      cases he
      exact rep_rd I (.inl sx) hs.1 hs.2.1 (by rw [rx'.length, ← lim_line]; exact hs.2.2) fun p n => q _ _ _ (Nw.ol n (rx'.rep _))
    · cases he
  · rename_i a j
    obtain ⟨p, xs, rfl, sx, rx', gx⟩ := hx.tup
    cases hy.int
    split at he
    · rename_i hs
      cases he
      refine op_repS pins s σ H _ _ v u Q I rx ry ⟨p, j, xs, rfl, rfl, sx, fun e => ?_, hs.2.2.1, hs.2.2.2, by rw [rx'.length]; exact hs.2.1, fun e => ?_, fun _ p n => q _ _ _ (Nw.tup lv n (rx'.rep _))⟩
      · subst e
        have := rx'.length
        have h1 := hs.1
        simp only [List.length_nil] at this
        omega
      · subst e
        have e1 : Mp.rep (1 : Int).toNat a = a := by simp [Mp.rep]
        rw [e1] at q
        exact q _ _ _ (Nw.sh gx)
    · cases he
  · rename_i i j
    cases hx.int; cases hy.int
    split at he
    · rename_i hs
      cases he
      exact op_fdivN pins s σ H _ _ v u Q I rx ry ⟨i, j, rfl, rfl, hs, qi _ rfl⟩
    · cases he
  · rename_i i j
    cases hx.int; cases hy.int
    split at he
    · rename_i hs
      cases he
      exact op_modN pins s σ H _ _ v u Q I rx ry ⟨i, j, rfl, rfl, hs, qi _ rfl⟩
    · cases he
  · rename_i i j
    cases hx.int; cases hy.int
    split at he
    · rename_i hs
      cases he
      exact op_pow pins s σ H _ _ v u Q I rx ry ⟨i, j, rfl, rfl, hs, qi _ rfl⟩
    · cases he
  · cases he

/-! ### comparisons -/
def Co.op : Co → CmpOp
  | .eq => .Eq
  | .ne => .NotEq
  | .lt => .Lt
  | .le => .LtE
  | .gt => .Gt
  | .ge => .GtE
  | .is_ => .Is
  | .isnot => .IsNot
  | .in_ => .In
  | .notin => .NotIn
theorem isPrefixOf_take (x : List Nat) : ∀ y : List Nat, x.isPrefixOf y = decide (y.take x.length = x) := by
  induction x with
  | nil => intro y; simp
  | cons a x ih =>
    intro y
    cases y with
    | nil => simp
    | cons b y =>
      simp only [List.isPrefixOf, List.length_cons, List.take_succ_cons, ih, List.cons.injEq]
      by_cases h : a = b
      · subst h; simp
      · have h2 : ¬ b = a := fun e => h e.symm
        simp [h, h2]
theorem sub_iff (x : List Nat) : ∀ y : List Nat, sub x y = true ↔ ∃ i, i ≤ y.length ∧ (y.drop i).take x.length = x := by
  intro y
  induction y with
  | nil =>
    simp only [sub]
    constructor
    · intro h
      have : x = [] := by simpa using h
      subst this
      exact ⟨0, Nat.le_refl _, rfl⟩
    · rintro ⟨i, _, e⟩
      have : x = [] := by rw [← e]; simp
      subst this; rfl
  | cons c y ih =>
    simp only [sub, Bool.or_eq_true, isPrefixOf_take, decide_eq_true_eq, ih]
    constructor
    · rintro (h | ⟨i, hi, h⟩)
      · exact ⟨0, Nat.zero_le _, by simpa using h⟩
      · exact ⟨i + 1, by simp; omega, by simpa using h⟩
    · rintro ⟨i, hi, h⟩
      cases i with
      | zero => exact .inl (by simpa using h)
      | succ i => exact .inr ⟨i, by simpa using hi, by simpa using h⟩
theorem occ_sub (x y : List Nat) : (!(Builtin.Str.occurrences (sOf y) (sOf x) 0 (sOf y).length 1).isEmpty) = sub x y := by
  rw [Bool.eq_iff_iff, StrLaws.found_iff, sub_iff]
  have e : ∀ i, (Builtin.Str.subAt (sOf y) (sOf x) i = true) ↔ (y.drop i).take x.length = x := fun i => by
    rw [StrLaws.subAt_eq]
    show (List.take x.toArray.size (List.drop i y.toArray.toList) == x.toArray.toList) = true ↔ _
    rw [beq_iff_eq, List.size_toArray]
  constructor
  · rintro ⟨i, h1, h2⟩
    refine ⟨i, ?_, (e i).mp h2⟩
    have : i + x.toArray.size ≤ y.toArray.size := h1
    rw [List.size_toArray, List.size_toArray] at this
    omega
  · rintro ⟨i, h1, h2⟩
    refine ⟨i, ?_, (e i).mpr h2⟩
    show i + x.toArray.size ≤ y.toArray.size
    rw [List.size_toArray, List.size_toArray]
    have := congrArg List.length h2
    rw [List.length_take, List.length_drop] at this
    omega
/-- a comparison by its data -/
def rCmp (K : KW) (o : Co) : R2 := fun x y H Q => ∃ d e b, Rp K H x d ∧ Rp K H y e ∧ cmpF o d e = some b ∧ Q (.bl b) H
theorem in_ok (hu : X.A.units + 66 < cLine) {pins : List (Addr × Obj)} {s : Shared} {σ : L2.St} {H : Hp} {x y : V} {v u : Value} {Q : VK} (I : Inv X pins σ H s) (rx : RelV x v) (ry : RelV y u) {d e : D} {b : Bool} (hx : Rp X.KK H x d) (hy : Rp X.KK H y e) (he : inF d e = some b) :
    (Q (.bl b) H → wpAny (model X.prog X.w) X.A (compareOp .In v u) (EP X pins σ Q) X.xe s) ∧ (Q (.bl (!b)) H → wpAny (model X.prog X.w) X.A (compareOp .NotIn v u) (EP X pins σ Q) X.xe s) := by
  unfold inF at he
  split at he
  · rename_i ys
    split at he
    · rename_i hd
      cases he
      obtain ⟨as, r1⟩ := Dp.reads I (py d) x v (Rp.dp _ _ hx) rx
      obtain ⟨bs, r2⟩ := Dp.reads I (py (.lst ys)) y u (Rp.dp _ _ hy) ry
      have l1 := py_lay _ _ hx
      have l2 : PyData.canLayAll0 (pys ys) = true := by
        have := py_lay _ _ hy
        simpa only [py, PyData.canLay0] using this
      have hr : X.A.units + 1 + min (PyData.depthAll (pys ys)) (py d).depth < cLine := by
        rw [pys_depth, py_depth, Nat.min_comm]; omega
      refine ⟨fun q => SeqAt.in_list_reads r2 r1 l2 l1 hr ⟨.bl _, H, I, rfl, ?_⟩, fun q => SeqAt.notIn_list_reads r2 r1 l2 l1 hr ⟨.bl _, H, I, rfl, ?_⟩⟩
      · rw [pys_any]; exact q
      · rw [pys_any]; exact q
    · cases he
  · rename_i ys
    split at he
    · rename_i hd
      cases he
      obtain ⟨as, r1⟩ := Dp.reads I (py d) x v (Rp.dp _ _ hx) rx
      obtain ⟨bs, r2⟩ := Dp.reads I (py (.tup ys)) y u (Rp.dp _ _ hy) ry
      have l1 := py_lay _ _ hx
      have l2 : PyData.canLayAll0 (pys ys) = true := by
        have := py_lay _ _ hy
        simpa only [py, PyData.canLay0] using this
      have hr : X.A.units + 1 + min (PyData.depthAll (pys ys)) (py d).depth < cLine := by
        rw [pys_depth, py_depth, Nat.min_comm]; omega
      refine ⟨fun q => SeqAt.in_tuple_reads r2 r1 l2 l1 hr ⟨.bl _, H, I, rfl, ?_⟩, fun q => SeqAt.notIn_tuple_reads r2 r1 l2 l1 hr ⟨.bl _, H, I, rfl, ?_⟩⟩
      · rw [pys_any]; exact q
      · rw [pys_any]; exact q
    · cases he
  · rename_i ys
    split at he
    · rename_i zs
      cases he
      cases hx with | str _ e1 =>
      cases hy with | str _ e2 =>
      refine ⟨fun q => op_in_str pins s σ H _ _ v u Q I rx ry ⟨_, _, rfl, rfl, ?_⟩, fun q => op_notIn_str pins s σ H _ _ v u Q I rx ry ⟨_, _, rfl, rfl, ?_⟩⟩
      · rw [occ_sub]; exact q
      · rw [occ_sub]; exact q
    · cases he
  · cases he
theorem beq_vb (v : Value) (c : Bool) : (v == Value.bool c) = (match v with | .bool b => b == c | _ => false) := by
  by_cases e : v = Value.bool c
  · subst e; simp
  · rw [beq_eq_false_iff_ne.mpr e]
    cases v with
    | bool b => exact (beq_eq_false_iff_ne.mpr fun z => e (congrArg Value.bool z)).symm
    | _ => rfl
theorem cmp_ok (o : Co) (hu : X.A.units + 66 < cLine) : OpR X (compareOp o.op) (rCmp X.KK o) := by
  intro pins s σ H x y v u Q I rx ry h
  obtain ⟨d, e, b, hx, hy, he, q⟩ := h
  unfold cmpF at he
  split at he
  · split at he
    · rename_i hd
      cases he
      obtain ⟨as, r1⟩ := Dp.reads I (py d) x v (Rp.dp _ _ hx) rx
      obtain ⟨bs, r2⟩ := Dp.reads I (py e) y u (Rp.dp _ _ hy) ry
      exact SeqAt.compareEq_reads r1 r2 (py_lay _ _ hx) (py_lay _ _ hy) (by rw [py_depth, py_depth]; omega) ⟨.bl _, H, I, rfl, by rw [py_eqv]; exact q⟩
    · cases he
  · split at he
    · rename_i hd
      cases he
      obtain ⟨as, r1⟩ := Dp.reads I (py d) x v (Rp.dp _ _ hx) rx
      obtain ⟨bs, r2⟩ := Dp.reads I (py e) y u (Rp.dp _ _ hy) ry
      exact SeqAt.compareNe_reads r1 r2 (py_lay _ _ hx) (py_lay _ _ hy) (by rw [py_depth, py_depth]; omega) ⟨.bl _, H, I, rfl, by rw [py_eqv]; exact q⟩
    · cases he
  · cases hx; cases hy; cases he
    exact op_lt pins s σ H _ _ v u Q I rx ry ⟨_, _, rfl, rfl, q⟩
  · cases hx; cases hy; cases he
    exact op_le pins s σ H _ _ v u Q I rx ry ⟨_, _, rfl, rfl, q⟩
  · cases hx; cases hy; cases he
    exact op_gt pins s σ H _ _ v u Q I rx ry ⟨_, _, rfl, rfl, q⟩
  · cases hx; cases hy; cases he
    exact op_ge pins s σ H _ _ v u Q I rx ry ⟨_, _, rfl, rfl, q⟩
  · cases hy; cases he
    refine op_isN pins s σ H _ _ v u Q I rx ry ⟨rfl, ?_⟩
    cases hx <;> exact q
  · cases hy; cases he
    refine op_notN pins s σ H _ _ v u Q I rx ry ⟨rfl, ?_⟩
    cases hx <;> exact q
  · rename_i c
    cases hy
    cases (show u = Value.bool c from ry)
    have hp : plainIs v (.bool c) = true := by
      cases hx <;> first | (cases rx; rfl) | (obtain ⟨t, rfl⟩ := rx; rfl)
    cases he
    refine wpAny_is_plain hp ⟨.bl _, H, I, rfl, ?_⟩
    rw [beq_vb]
    cases hx <;> first | (cases rx; exact q) | (obtain ⟨t, rfl⟩ := rx; exact q)
  · rename_i c
    cases hy
    cases (show u = Value.bool c from ry)
    have hp : plainIs v (.bool c) = true := by
      cases hx <;> first | (cases rx; rfl) | (obtain ⟨t, rfl⟩ := rx; rfl)
    cases he
    refine wpAny_isNot_plain hp ⟨.bl _, H, I, rfl, ?_⟩
    rw [beq_vb]
    cases hx <;> first | (cases rx; exact q) | (obtain ⟨t, rfl⟩ := rx; exact q)
  · exact (in_ok hu I rx ry hx hy he).1 q
  · cases z : inF d e with
    | none => rw [z] at he; cases he
    | some c =>
      rw [z] at he
      cases he
      exact (in_ok hu I rx ry hx hy z).2 q
  · cases he
end
end Mp
namespace Mp
open PySem PySem.Spec PyProof.Rows L2
section
variable {X : Cx} {K : KW}
/-! ### truth -/
theorem truth_ok {S : FP} {H : Hp} {v : V} {d : D} {b : Bool} (h : Vw K S H v d) (e : D.truth d = some b) : TruV K v H b := by
  have g := h.rp
  unfold D.truth at e
  split at e
  · cases g; cases e; exact rfl
  · cases g; cases e; exact rfl
  · cases g; cases e; exact rfl
  · rename_i x
    split at e
    · rename_i hl
      cases g with | str _ hs =>
      cases e
      refine ⟨?_, ?_⟩
      · show x.toArray.size ≤ sizeLine
        rw [List.size_toArray, ← lim_line]; exact hl
      · show (!x.isEmpty) = ((x.toArray.size : Int) != 0)
        cases x with
        | nil => rfl
        | cons c r => simp; omega
    · cases e
  · cases g with | tup s r =>
    cases e
    refine .inr (.inl ⟨_, s, ?_⟩)
    cases r <;> rfl
  · cases g with | lst s r =>
    cases e
    refine .inl ⟨_, .inl (.inl s), ?_⟩
    cases r <;> rfl
  · cases g with | kl s r =>
    cases e
    refine .inl ⟨_, s, ?_⟩
    cases r <;> rfl

/-! ### -a -/
theorem neg_ok : UnR X (unaryOp .USub) (fun x H Q => ∃ i, x = .int i ∧ Q (.int (-i)) H) := un_neg

/-! ### subscripts -/
theorem ixN_eq (n : Nat) (i : Int) : L2.ixN n i = Mp.ixN n i := rfl
theorem atI_eq {α : Type} (xs : List α) (i : Int) : L2.atI xs i = Mp.atI xs i := rfl
theorem atI_rps {H : Hp} {vs : List V} {ds : List D} {i : Int} {d : D} (r : Rps K H vs ds) (e : Mp.atI ds i = some d) : ∃ v, L2.atI vs i = some v ∧ Rp K H v d := by
  unfold Mp.atI at e
  rw [atI_eq]
  unfold Mp.atI
  rw [r.length]
  cases z : Mp.ixN ds.length i with
  | none => rw [z] at e; cases e
  | some j =>
    rw [z] at e
    exact Rps.get r e
/-- xs[i], t[i], s[i], d[k] by what they are -/
theorem str_item (s : List Nat) (i : Int) (c : Nat) (h : Mp.atI s i = some c) : L2.atI (sOf s).cps.toList i = some c := by
  have : (sOf s).cps.toList = s := by simp
  rw [this]; exact h
theorem sok_mem {x : List Nat} (h : sok x = true) {c : Nat} (m : c ∈ x) : sok [c] = true := by
  unfold sok at *
  rw [Bool.and_eq_true] at h
  have := List.all_eq_true.mp h.2 c m
  simp only [Bool.and_eq_true, decide_eq_true_eq, List.all_cons, List.all_nil, Bool.and_true] at this ⊢
  exact ⟨by show 1 ≤ 16777216; decide, this⟩
theorem atI_mem {α : Type} {xs : List α} {i : Int} {v : α} (h : Mp.atI xs i = some v) : v ∈ xs := by
  unfold Mp.atI at h
  cases z : Mp.ixN xs.length i with
  | none => rw [z] at h; cases h
  | some j => rw [z] at h; exact List.mem_of_getElem? h
theorem idx_seq : IxR X (fun x y H Q => ∃ S s l R j d, (∀ a, S a → H a ≠ none) ∧ (∀ a xs, l = some (a, xs) → H a = some (.lst xs)) ∧ So X.KK l (hid S H) H x s R ∧ Rp X.KK H y j ∧ (∀ kvs, s ≠ .od kvs) ∧ (∀ kvs, s ≠ .dn kvs) ∧ idxF s j = some d ∧ (∀ v, Rp X.KK (hid S H) v d → Q v H)) := by
  intro value slice pins s σ H x y v u Q I rx ry h hs
  obtain ⟨S, sl, l, R, j, d, lv, hl, hx, hy, nd, nd2, he, q⟩ := h
  have list : ∀ (a : Addr) (xs : List V) (ds : List D) (i : Int), x = .ref a → y = .int i → SqL X.KK H a xs → Rps X.KK (hid S H) xs ds → Mp.atI ds i = some d → wpAny (model X.prog X.w) X.A (subscriptTail value slice v u) (EP X pins σ Q) X.xe s := by
    intro a xs ds i e1 e2 hd r e
    obtain ⟨w, e3, r3⟩ := atI_rps r e
    exact ix_list value slice pins s σ H x y v u Q I rx ry ⟨a, xs, i, w, e1, e2, hd, e3, q w r3⟩ hs
  unfold idxF at he
  split at he
  · cases hx with | sh g =>
    cases g with | tup st r =>
    cases hy
    obtain ⟨w, e3, r3⟩ := atI_rps r he
    exact ix_tup value slice pins s σ H _ _ v u Q I rx ry ⟨_, _, _, w, rfl, rfl, SqT.mono hid_sub st, e3, q w r3⟩ hs
  · cases hx with | sh g =>
    cases g with | lst st r =>
    cases hy
    exact list _ _ _ _ rfl rfl (.inl (.inl (hid_sub _ _ st))) r he
  · cases hx with | sh g =>
    cases g with | kl st r =>
    cases hy
    exact list _ _ _ _ rfl rfl (SqL.mono hid_sub st) r he
  · cases hx with | ol e r =>
    cases hy
    exact list _ _ _ _ rfl rfl (.inl (.inl e)) r he
  · cases hx with | lk e r =>
    cases hy
    exact list _ _ _ _ rfl rfl (.inl (.inl (hl _ _ e))) r he
  · rename_i x i
    cases hx with | sh g =>
    cases g with | str _ hk =>
    cases hy
    split at he
    · rename_i hl
      cases z : Mp.atI x i with
      | none => rw [z] at he; cases he
      | some c =>
        rw [z] at he
        cases he
        exact ix_str value slice pins s σ H _ _ v u Q I rx ry ⟨_, _, c, rfl, rfl, by show x.toArray.size ≤ sizeLine; rw [List.size_toArray, ← lim_line]; exact hl, str_item x i c z, q _ (.str [c] (sok_mem hk (atI_mem z)))⟩ hs
    · cases he
  · exact absurd rfl (nd _)
  · exact absurd rfl (nd2 _)
  · cases he

/-! ### slices -/
theorem sIx_eq (n d : Nat) (o : Option Int) : HT.sIx n d o = Mp.sIx n d o := by
  cases o with
  | none => rfl
  | some v => rfl
theorem cut_rps {H : Hp} {vs : List V} {ds : List D} (lo hi : Option Int) (r : Rps K H vs ds) : Rps K H (L2.cutV vs lo hi) (cut ds lo hi) := by
  unfold L2.cutV cut
  rw [sIx_eq, sIx_eq, r.length]
  exact (r.drop _).take _
theorem sok_cut {x : List Nat} (lo hi : Option Int) (h : sok x = true) : sok (cut x lo hi) = true := by
  unfold sok at *
  rw [Bool.and_eq_true] at *
  refine ⟨decide_eq_true ?_, ?_⟩
  · have := of_decide_eq_true h.1
    unfold cut
    rw [List.length_take, List.length_drop]
    omega
  · rw [List.all_eq_true] at *
    intro c hc
    exact h.2 c (List.mem_of_mem_drop (List.mem_of_mem_take hc))
def rSlc (K : KW) : V → Option Int → Option Int → Hp → VK → Prop := fun x lo hi H Q => ∃ S d, (∀ a, S a → H a ≠ none) ∧ Vw K S H x d ∧ rV K S H (slcF d lo hi) Q
theorem slc_ok : SlR X (rSlc X.KK) := by
  intro pins s σ H x v vl vu lo hi sl Q I rx hs pl pu h
  obtain ⟨S, d, lv, hx, r, he, q⟩ := h
  unfold slcF at he
  split at he
  · rename_i ds
    obtain ⟨a, xs, rfl, st, r, g⟩ := hx.tup
    cases he
    refine sl_tupA pins s σ H _ v vl vu lo hi sl Q I rx hs pl pu ⟨a, xs, rfl, st, fun w => ?_, fun _ p n => q _ _ _ (Nw.tup lv n (cut_rps lo hi r))⟩
    have e : cut ds lo hi = ds := by
      unfold cut
      rw [← sIx_eq, ← sIx_eq, ← r.length, w.1, w.2, List.drop_zero, Nat.sub_zero, r.length, List.take_length]
    rw [e] at q
    exact q _ _ _ (Nw.sh g)
  · obtain ⟨a, xs, rfl, st, r⟩ := hx.lst
    cases he
    exact sl_list pins s σ H _ v vl vu lo hi sl Q I rx hs pl pu ⟨a, xs, rfl, .inl (.inl st), fun p n => q _ _ _ (Nw.ol n (cut_rps lo hi r))⟩
  · obtain ⟨a, xs, rfl, st, r⟩ := hx.kl
    cases he
    exact sl_list pins s σ H _ v vl vu lo hi sl Q I rx hs pl pu ⟨a, xs, rfl, st, fun p n => q _ _ _ (Nw.ol n (cut_rps lo hi r))⟩
  · rename_i x
    obtain ⟨rfl, hk⟩ := hx.str
    split at he
    · rename_i hl
      cases he
      refine sl_str pins s σ H _ v vl vu lo hi sl Q I rx hs pl pu ⟨_, rfl, by show x.toArray.size ≤ sizeLine; rw [List.size_toArray, ← lim_line]; exact hl, ?_⟩
      have e : cutS (sOf x) lo hi = sOf (cut x lo hi) := by
        have el : (sOf x).length = x.length := by show x.toArray.size = _; simp
        unfold cutS cut
        rw [sIx_eq, sIx_eq, el]
      rw [e]
      exact q _ _ _ (Nw.sh (.str _ (sok_cut lo hi hk)))
    · cases he
  · cases he

/-! ### built-in functions -/
abbrev Vws (K : KW) (S : FP) (H : Hp) : List V → List D → Prop := Paired (Vw K S H)
def rBi (K : KW) (b : Bi) : List V → Hp → VK → Prop := fun xs H Q => ∃ S ds, (∀ a, S a → H a ≠ none) ∧ Vws K S H xs ds ∧ rV K S H (biF b ds) Q
def Bi.nm : Bi → String
  | .len => "len"
  | .all => "all"
  | .any => "any"
  | .sum => "sum"
  | .max => "max"
  | .min => "min"
  | .list => "list"
  | .tuple => "tuple"
  | .str => "str"
  | .int => "int"
  | .repr => "repr"
  | .sorted => "sorted"
  | .set => "set"
/-- is it a class -/
def Bi.ty : Bi → Bool
  | .list => true
  | .tuple => true
  | .str => true
  | .int => true
  | .set => true
  | _ => false
def Bi.val (b : Bi) : Value := if b.ty then .type b.nm else .builtin b.nm
theorem rps_bls : ∀ {xs : List V} {ds : List D} {bs : List Bool} {H : Hp}, Rps K H xs ds → allB ds = some bs → xs = bs.map V.bl
  | _, [], _, _, h, e => by cases h; cases e; rfl
  | _, .bl b :: r, bs, _, h, e => by
    cases h with | cons a t =>
    cases a
    unfold allB at e
    cases z : allB r with
    | none => rw [z] at e; cases e
    | some cs =>
      rw [z] at e
      cases e
      rw [rps_bls t z]
      rfl
theorem rps_ints : ∀ {xs : List V} {ds : List D} {bs : List Int} {H : Hp}, Rps K H xs ds → allI ds = some bs → xs = bs.map V.int
  | _, [], _, _, h, e => by cases h; cases e; rfl
  | _, .int b :: r, bs, _, h, e => by
    cases h with | cons a t =>
    cases a
    unfold allI at e
    cases z : allI r with
    | none => rw [z] at e; cases e
    | some cs =>
      rw [z] at e
      cases e
      rw [rps_ints t z]
      rfl
theorem maxI_mem : ∀ (ns : List Int) (a : Int), maxI a ns ∈ a :: ns ∧ ∀ y ∈ a :: ns, y ≤ maxI a ns
  | [], a => ⟨by simp [maxI], by simp [maxI]⟩
  | b :: r, a => by
    unfold maxI
    obtain ⟨h1, h2⟩ := maxI_mem r (if b > a then b else a)
    refine ⟨?_, fun y hy => ?_⟩
    · rcases List.mem_cons.mp h1 with e | e
      · rw [e]; split <;> simp
      · exact List.mem_cons_of_mem _ (List.mem_cons_of_mem _ e)
    · have h0 := h2 _ List.mem_cons_self
      rcases List.mem_cons.mp hy with e | hy
      · subst e; split at h0 <;> rename_i g <;> (split <;> omega)
      · rcases List.mem_cons.mp hy with e | hy
        · subst e; split at h0 <;> rename_i g <;> (split <;> omega)
        · exact h2 y (List.mem_cons_of_mem _ hy)
theorem minI_mem : ∀ (ns : List Int) (a : Int), minI a ns ∈ a :: ns ∧ ∀ y ∈ a :: ns, minI a ns ≤ y
  | [], a => ⟨by simp [minI], by simp [minI]⟩
  | b :: r, a => by
    unfold minI
    obtain ⟨h1, h2⟩ := minI_mem r (if b < a then b else a)
    refine ⟨?_, fun y hy => ?_⟩
    · rcases List.mem_cons.mp h1 with e | e
      · rw [e]; split <;> simp
      · exact List.mem_cons_of_mem _ (List.mem_cons_of_mem _ e)
    · have h0 := h2 _ List.mem_cons_self
      rcases List.mem_cons.mp hy with e | hy
      · subst e; split at h0 <;> rename_i g <;> (split <;> omega)
      · rcases List.mem_cons.mp hy with e | hy
        · subst e; split at h0 <;> rename_i g <;> (split <;> omega)
        · exact h2 y (List.mem_cons_of_mem _ hy)
theorem vws1 {S : FP} {H : Hp} {xs : List V} {d : D} (h : Vws K S H xs [d]) : ∃ x, xs = [x] ∧ Vw K S H x d := by
  cases h with | cons a t => cases t; exact ⟨_, rfl, a⟩
theorem vws2 {S : FP} {H : Hp} {xs : List V} {d e : D} (h : Vws K S H xs [d, e]) : ∃ x y, xs = [x, y] ∧ Vw K S H x d ∧ Vw K S H y e := by
  cases h with | cons a t => obtain ⟨y, rfl, b⟩ := vws1 t; exact ⟨_, _, rfl, a, b⟩
theorem vws3 {S : FP} {H : Hp} {xs : List V} {d e f : D} (h : Vws K S H xs [d, e, f]) : ∃ x y z, xs = [x, y, z] ∧ Vw K S H x d ∧ Vw K S H y e ∧ Vw K S H z f := by
  cases h with | cons a t => obtain ⟨y, z, rfl, b, c⟩ := vws2 t; exact ⟨_, _, _, rfl, a, b, c⟩
theorem nu_min3 (i j k : Int) : nuMin3 (.int i) (.int j) (.int k) = some (.int (min3 i j k)) := by
  unfold nuMin3 nuMin2 min3
  by_cases h : j < i
  · have e : nuLt (.int j) (.int i) = some true := congrArg some (decide_eq_true h)
    rw [e, if_pos h]
    show Option.map (fun c => if c = true then V.int k else V.int j) (nuLt (.int k) (.int j)) = _
    by_cases h2 : k < j
    · have e2 : nuLt (.int k) (.int j) = some true := congrArg some (decide_eq_true h2)
      rw [e2, if_pos h2]; rfl
    · have e2 : nuLt (.int k) (.int j) = some false := congrArg some (decide_eq_false h2)
      rw [e2, if_neg h2]; rfl
  · have e : nuLt (.int j) (.int i) = some false := congrArg some (decide_eq_false h)
    rw [e, if_neg h]
    show Option.map (fun c => if c = true then V.int k else V.int i) (nuLt (.int k) (.int i)) = _
    by_cases h2 : k < i
    · have e2 : nuLt (.int k) (.int i) = some true := congrArg some (decide_eq_true h2)
      rw [e2, if_pos h2]; rfl
    · have e2 : nuLt (.int k) (.int i) = some false := congrArg some (decide_eq_false h2)
      rw [e2, if_neg h2]; rfl
theorem bi_ok (b : Bi) (hc : X.calm = true) : CallR X b.val (rBi X.KK b) := by
  intro pins s σ H xs us Q I rx h
  obtain ⟨S, ds, lv, hv, r, he, q⟩ := h
  have sh : ∀ {d : D}, r = .sh d → (∀ v, Rp X.KK (hid S H) v d → Q v H) := fun {d} e v hr => q v H _ (e ▸ Nw.sh hr)
  unfold biF at he
  split at he
  · obtain ⟨x, rfl, hx⟩ := vws1 hv
    obtain ⟨a, ys, rfl, st, r', g⟩ := hx.tup
    cases he
    exact call_len_seq pins s σ H _ us Q I rx ⟨a, ys, rfl, .inr st, by rw [r'.length]; exact sh rfl _ (.int _)⟩
  · obtain ⟨x, rfl, hx⟩ := vws1 hv
    obtain ⟨a, ys, rfl, st, r'⟩ := hx.lst
    cases he
    exact call_len_seq pins s σ H _ us Q I rx ⟨a, ys, rfl, .inl (.inl (.inl st)), by rw [r'.length]; exact sh rfl _ (.int _)⟩
  · obtain ⟨x, rfl, hx⟩ := vws1 hv
    obtain ⟨a, ys, rfl, st, r'⟩ := hx.kl
    cases he
    exact call_len_seq pins s σ H _ us Q I rx ⟨a, ys, rfl, .inl st, by rw [r'.length]; exact sh rfl _ (.int _)⟩
  · rename_i x
    obtain ⟨x', rfl, hx⟩ := vws1 hv
    obtain ⟨rfl, hk⟩ := hx.str
    split at he
    · rename_i hl
      cases he
      have el : (sOf x).length = x.length := by show x.toArray.size = _; simp
      exact call_len_str pins s σ H _ us Q I rx ⟨_, rfl, by rw [el, ← lim_line]; exact hl, by rw [el]; exact sh rfl _ (.int _)⟩
    · cases he
  · rename_i ds
    obtain ⟨x, rfl, hx⟩ := vws1 hv
    obtain ⟨a, ys, rfl, st, r'⟩ := hx.lst
    cases z : allB ds with
    | none => rw [z] at he; cases he
    | some bs =>
      rw [z] at he
      cases he
      exact cr_all hc pins s σ H _ us Q I rx ⟨a, bs, rfl, .inl (by rw [← rps_bls r' z]; exact .inl st), sh rfl _ (.bl _)⟩
  · rename_i ds
    obtain ⟨x, rfl, hx⟩ := vws1 hv
    obtain ⟨a, ys, rfl, st, r'⟩ := hx.lst
    cases z : allB ds with
    | none => rw [z] at he; cases he
    | some bs =>
      rw [z] at he
      cases he
      exact cr_any hc pins s σ H _ us Q I rx ⟨a, bs, rfl, .inl (by rw [← rps_bls r' z]; exact .inl st), sh rfl _ (.bl _)⟩
  · rename_i ds
    obtain ⟨x, rfl, hx⟩ := vws1 hv
    obtain ⟨a, ys, rfl, st, r'⟩ := hx.lst
    cases z : allI ds with
    | none => rw [z] at he; cases he
    | some bs =>
      rw [z] at he
      cases he
      exact cr_sum hc pins s σ H _ us Q I rx ⟨a, bs, rfl, .inl (by rw [← rps_ints r' z]; exact .inl st), sh rfl _ (.int _)⟩
  · rename_i ds
    obtain ⟨x, rfl, hx⟩ := vws1 hv
    obtain ⟨a, ys, rfl, st, r'⟩ := hx.lst
    split at he
    · rename_i n ns z
      cases he
      refine cr_max hc pins s σ H _ us Q I rx ⟨a, n :: ns, rfl, .inl (by rw [← rps_ints r' z]; exact .inl st), by simp, fun m hm hle => ?_⟩
      obtain ⟨g1, g2⟩ := maxI_mem ns n
      have e : m = maxI n ns := Int.le_antisymm (g2 m hm) (by
        have := hle _ g1
        omega)
      rw [e]
      exact sh rfl _ (.int _)
    · cases he
  · rename_i ds
    obtain ⟨x, rfl, hx⟩ := vws1 hv
    obtain ⟨a, ys, rfl, st, r'⟩ := hx.lst
    split at he
    · rename_i n ns z
      cases he
      refine cr_min hc pins s σ H _ us Q I rx ⟨a, n :: ns, rfl, .inl (by rw [← rps_ints r' z]; exact .inl st), by simp, fun m hm hle => ?_⟩
      obtain ⟨g1, g2⟩ := minI_mem ns n
      have e : m = minI n ns := Int.le_antisymm (by
        have := hle _ g1
        omega) (g2 m hm)
      rw [e]
      exact sh rfl _ (.int _)
    · cases he
  · rename_i i j
    obtain ⟨x, y, rfl, hx, hy⟩ := vws2 hv
    cases hx.int; cases hy.int
    cases he
    exact call_max2 hc pins s σ H _ us Q I rx ⟨i, j, rfl, sh rfl _ (.int _)⟩
  · rename_i i j
    obtain ⟨x, y, rfl, hx, hy⟩ := vws2 hv
    cases hx.int; cases hy.int
    cases he
    exact call_min2 hc pins s σ H _ us Q I rx ⟨i, j, rfl, sh rfl _ (.int _)⟩
  · rename_i i j k
    obtain ⟨x, y, z, rfl, hx, hy, hz⟩ := vws3 hv
    cases hx.int; cases hy.int; cases hz.int
    cases he
    exact call_min3Nu hc pins s σ H _ us Q I rx ⟨.int i, .int j, .int k, .int (min3 i j k), rfl, nu_min3 i j k, sh rfl _ (.int _)⟩
  · obtain ⟨x, rfl, hx⟩ := vws1 hv
    obtain ⟨a, ys, rfl, st, r', g⟩ := hx.tup
    cases he
    exact call_list_of pins s σ H _ us Q I rx ⟨a, ys, rfl, .inr st, fun p n => q _ _ _ (Nw.ol n r')⟩
  · obtain ⟨x, rfl, hx⟩ := vws1 hv
    obtain ⟨a, ys, rfl, st, r'⟩ := hx.lst
    cases he
    exact call_list_of pins s σ H _ us Q I rx ⟨a, ys, rfl, .inl (.inl (.inl st)), fun p n => q _ _ _ (Nw.ol n r')⟩
  · obtain ⟨x, rfl, hx⟩ := vws1 hv
    obtain ⟨a, ys, rfl, st, r', g⟩ := hx.tup
    cases he
    exact call_tuple_of pins s σ H _ us Q I rx ⟨a, ys, rfl, .inr ⟨st, sh rfl _ g⟩⟩
  · obtain ⟨x, rfl, hx⟩ := vws1 hv
    obtain ⟨a, ys, rfl, st, r'⟩ := hx.lst
    cases he
    exact call_tuple_of pins s σ H _ us Q I rx ⟨a, ys, rfl, .inl ⟨.inl (.inl st), fun p n => q _ _ _ (Nw.tup lv n r')⟩⟩
  · rename_i i
    obtain ⟨x, rfl, hx⟩ := vws1 hv
    cases hx.int
    cases he
    exact call_int1 pins s σ H _ us Q I rx (.inl ⟨i, rfl, sh rfl _ (.int _)⟩)
  · rename_i c
    obtain ⟨x, rfl, hx⟩ := vws1 hv
    cases hx.bl
    cases he
    exact call_int1 pins s σ H _ us Q I rx (.inr ⟨c, rfl, sh rfl _ (.int _)⟩)
  · cases he
end
end Mp
namespace Mp
open PySem PySem.Spec PyProof.Rows L2

/-! ### outcomes -/
abbrev XT := Nat → Option (Value × List Str)
/-- an exception's class, its own dict -/
def XR (xt : XT) (K : KW) (Hs H : Hp) (c : Nat) (ds : List D) (cls : Value) (d : Option Addr) : Prop :=
  ∃ names, xt c = some (cls, names) ∧ (names = [] ∨ ∃ dx fs, d = some dx ∧ H dx = some (.xd fs) ∧ fs.map (·.1) = names ∧ Rps K Hs (fs.map (·.2)) ds)
/-- what is wanted of an outcome; slots stay -/
def Out {α : Type} (xt : XT) (K : KW) (L : Nat → Lk) (W : WX) (σ : L2.St) (H : Hp) (F : Nat → FP) (T : FP) (r : Z (α × Env)) (P : α → Env → Hp → (Nat → FP) → Prop) : Prop :=
  match r with
  | .ok (a, ρ') => ∀ H' F', En K L σ ρ' H' F' T → Stp (U F) H (U F') H' → P a ρ' H' F'
  | .exc c ds ρ' => ∀ cls d H' F', En K L σ ρ' H' F' T → Stp (U F) H (U F') H' → XR xt K (hid (hS F' T) H') H' c ds cls d → W cls d σ H'
  | .stuck => False
section
variable {xt : XT} {K : KW} {W : WX} {L : Nat → Lk} {σ : L2.St} {H : Hp} {F : Nat → FP} {T : FP}
theorem Out.bind {α β : Type} {r : Z (α × Env)} {f : α × Env → Z (β × Env)} {P : β → Env → Hp → (Nat → FP) → Prop} (h : Out xt K L W σ H F T (r.bind f) P) :
    Out xt K L W σ H F T r (fun a ρ1 H1 F1 => En K L σ ρ1 H1 F1 T ∧ Stp (U F) H (U F1) H1 ∧ Out xt K L W σ H1 F1 T (f (a, ρ1)) P) := by
  cases r with
  | ok q =>
    obtain ⟨a, ρ1⟩ := q
    intro H1 F1 e1 s1
    refine ⟨e1, s1, ?_⟩
    have h' : Out xt K L W σ H F T (f (a, ρ1)) P := h
    cases z : f (a, ρ1) with
    | ok q2 =>
      obtain ⟨b, ρ2⟩ := q2
      rw [z] at h'
      exact fun H2 F2 e2 s2 => h' H2 F2 e2 (s1.trans s2)
    | exc c ds ρ2 =>
      rw [z] at h'
      exact fun cls d H2 F2 e2 s2 => h' cls d H2 F2 e2 (s1.trans s2)
    | stuck => rw [z] at h'; exact h'
  | exc c ds ρ1 => exact h
  | stuck => exact h
/-- .. from a later start; the end as from the first one -/
theorem Out.bindS {α β : Type} {r : Z (α × Env)} {f : α × Env → Z (β × Env)} {P : β → Env → Hp → (Nat → FP) → Prop} (h : Out xt K L W σ H F T (r.bind f) P) {H2 : Hp} {F2 : Nat → FP} (st : Stp (U F) H (U F2) H2) :
    Out xt K L W σ H2 F2 T r (fun a ρ1 H1 F1 => En K L σ ρ1 H1 F1 T ∧ Stp (U F2) H2 (U F1) H1 ∧ Out xt K L W σ H F T (f (a, ρ1)) P) := by
  cases r with
  | ok q => exact fun H1 F1 e1 s1 => ⟨e1, s1, h⟩
  | exc c ds ρ1 => exact fun cls d H1 F1 e1 s1 => h cls d H1 F1 e1 (st.trans s1)
  | stuck => exact h
theorem Out.mono {α : Type} {r : Z (α × Env)} {P P' : α → Env → Hp → (Nat → FP) → Prop} (h : Out xt K L W σ H F T r P) (k : ∀ a ρ' H' F', P a ρ' H' F' → P' a ρ' H' F') : Out xt K L W σ H F T r P' := by
  cases r with
  | ok q => exact fun H1 F1 e1 s1 => k _ _ _ _ (h H1 F1 e1 s1)
  | exc c ds ρ1 => exact h
  | stuck => exact h
theorem Out.monoE {α : Type} {r : Z (α × Env)} {P P' : α → Env → Hp → (Nat → FP) → Prop} (h : Out xt K L W σ H F T r P) (k : ∀ a ρ' H' F', r = .ok (a, ρ') → P a ρ' H' F' → P' a ρ' H' F') : Out xt K L W σ H F T r P' := by
  cases r with
  | ok q => exact fun H1 F1 e1 s1 => k _ _ _ _ rfl (h H1 F1 e1 s1)
  | exc c ds ρ1 => exact h
  | stuck => exact h
theorem Out.ok {α : Type} {a : α} {ρ' : Env} {P : α → Env → Hp → (Nat → FP) → Prop} (h : Out xt K L W σ H F T (.ok (a, ρ')) P) {H' : Hp} {F' : Nat → FP} (e : En K L σ ρ' H' F' T) (s : Stp (U F) H (U F') H') : P a ρ' H' F' := h H' F' e s
theorem of_bind {α β : Type} {o : Option α} {f : α → Z (β × Env)} {P : β → Env → Hp → (Nat → FP) → Prop} (h : Out xt K L W σ H F T ((Z.of o).bind f) P) : ∃ a, o = some a ∧ Out xt K L W σ H F T (f a) P := by
  cases o with
  | none => exact False.elim h
  | some a => exact ⟨a, rfl, h⟩
theorem if_out {c : Prop} [Decidable c] {α : Type} {a : Z (α × Env)} {P : α → Env → Hp → (Nat → FP) → Prop} (h : Out xt K L W σ H F T (if c then a else .stuck) P) : c ∧ Out xt K L W σ H F T a P := by
  by_cases k : c
  · rw [if_pos k] at h; exact ⟨k, h⟩
  · rw [if_neg k] at h; exact h.elim
/-- from a later start -/
theorem Out.step {α : Type} {r : Z (α × Env)} {P : α → Env → Hp → (Nat → FP) → Prop} (h : Out xt K L W σ H F T r P) {H2 : Hp} {F2 : Nat → FP} (st : Stp (U F) H (U F2) H2) : Out xt K L W σ H2 F2 T r P := by
  cases r with
  | ok q => exact fun H' F' e' s' => h H' F' e' (st.trans s')
  | exc c ds q => exact fun cls d H' F' e' s' => h cls d H' F' e' (st.trans s')
  | stuck => exact h
/-- with more held -/
theorem Out.held {R : FP} {α : Type} {r : Z (α × Env)} {P : α → Env → Hp → (Nat → FP) → Prop} (h : Out xt K L W σ H F T r P) (hl : ∀ i a xs, L i = some (a, xs) → T a) : Out xt K L W σ H F (fun a => T a ∨ R a) r P := by
  cases r with
  | ok q => exact fun H1 F1 e1 s1 => h H1 F1 (e1.drop hl) s1
  | exc c ds ρ1 => exact fun cls d H1 F1 e1 s1 ⟨names, x1, x2⟩ => h cls d H1 F1 (e1.drop hl) s1 ⟨names, x1, x2.imp id fun ⟨dx, fs, y1, y2, y3, y4⟩ => ⟨dx, fs, y1, y2, y3, Rps.mono (hid_anti fun a z => z.elim .inl fun z => .inr (.inl z)) _ _ y4⟩⟩
  | stuck => exact h
end
section
variable {X : Cx}
theorem pe_imp {e : Expr} {t t' : TE} (h : PE X e t) (k : ∀ σ H Q, t' σ H Q → t σ H Q) : PE X e t' := ⟨fun pins s σ H Q I q => h.run pins s σ H Q I (k σ H Q q)⟩
theorem pe_pick {e : Expr} {t' : TE} (k : ∀ σ H Q, t' σ H Q → ∃ t, PE X e t ∧ t σ H Q) : PE X e t' := ⟨fun pins s σ H Q I q => by
  obtain ⟨t, h, z⟩ := k σ H Q q
  exact h.run pins s σ H Q I z⟩
theorem pt_imp {e : Expr} {t t' : TT} (h : PT X e t) (k : ∀ σ H Q, t' σ H Q → t σ H Q) : PT X e t' := ⟨fun pins s σ H Q I q => h.run pins s σ H Q I (k σ H Q q)⟩
theorem pt_pick {e : Expr} {t' : TT} (k : ∀ σ H Q, t' σ H Q → ∃ t, PT X e t ∧ t σ H Q) : PT X e t' := ⟨fun pins s σ H Q I q => by
  obtain ⟨t, h, z⟩ := k σ H Q q
  exact h.run pins s σ H Q I z⟩
theorem pw_imp {e : Expr} {t t' : TT} (h : PW X e t) (k : ∀ σ H Q, t' σ H Q → t σ H Q) : PW X e t' := ⟨fun w pins s σ H Q I q => h.run w pins s σ H Q I (k σ H Q q)⟩
theorem pa_imp {e : List Expr} {t t' : TA} (h : PA X e t) (k : ∀ σ H Q, t' σ H Q → t σ H Q) : PA X e t' := ⟨fun pos pins s σ H Q I q => h.run pos pins s σ H Q I (k σ H Q q)⟩
end

/-! ### the readings by the interpreter -/
section
variable (xt : XT) (K : KW) (W : WX) (C : Ctx)
/-- a result as the value v: its footprint is new -/
def PV (L : Nat → Lk) (σ : L2.St) (H : Hp) (F : Nat → FP) (T : FP) (Q : VK) : Sl → Env → Hp → (Nat → FP) → Prop := fun r ρ' H' F' => ∀ v R, En K L σ ρ' H' F' (fun a => T a ∨ R a) → Re K σ (hS F' T) H' v r R → (∀ a, R a → U F a ∨ H a = none) → Q v H'
def tE (e : Ex) : TE := fun σ H Q => ∃ ρ F T L, En K L σ ρ H F T ∧ Out xt K L W σ H F T (evE C e ρ) (PV K L σ H F T Q)
def tT (e : Te) : TT := fun σ H Q => ∃ ρ F T L, En K L σ ρ H F T ∧ Out xt K L W σ H F T (evT C e ρ) (fun b _ H' _ => Q b H')
/-- given-away items -/
def tF (es : Exs) : TA := fun σ H Q => ∃ ρ F T L, En K L σ ρ H F T ∧ Out xt K L W σ H F T (evF C es ρ) (fun ds ρ' H' F' => En K L σ ρ' H' F' T → ∀ vs, Rps K (hid (hS F' T) H') vs ds → Q vs H')
end
/-- results in a row, each beside the slots' and all others' -/
inductive Rel (K : KW) (σ : L2.St) (H : Hp) : FP → List V → List Sl → FP → Prop
  | nil {S : FP} : Rel K σ H S [] [] fun _ => False
  | cons {S T R : FP} {v : V} {vs : List V} {r : Sl} {rs : List Sl} : Re K σ (fun a => S a ∨ T a) H v r R → Rel K σ H (fun a => S a ∨ R a) vs rs T → Rel K σ H S (v :: vs) (r :: rs) fun a => R a ∨ T a
section
variable (xt : XT) (K : KW) (W : WX) (C : Ctx)
def tA (es : Exs) : TA := fun σ H Q => ∃ ρ F T L, En K L σ ρ H F T ∧ Out xt K L W σ H F T (evA C es ρ) (fun rs ρ' H' F' => ∀ vs R, En K L σ ρ' H' F' (fun a => T a ∨ R a) → Rel K σ H' (hS F' T) vs rs R → (∀ a, R a → U F a ∨ H a = none) → Q vs H')
end

section
variable {xt : XT} {K : KW} {W : WX} {C : Ctx} {L : Nat → Lk} {σ : L2.St} {ρ ρ' : Env} {H H' : Hp} {F F' : Nat → FP} {T : FP} {v : V} {r : Sl} {R : FP} {d : D}
/-- what is seen of a slot's content -/
theorem So.vw {Hs : Hp} {s : Sl} {l : Lk} {S R' : FP} (hl : ∀ a xs, l = some (a, xs) → H a = some (.lst xs)) (k : ∀ b o, Hs b = some o → hid S H b = some o) (g : So K l Hs H v s R') (z : see s = some d) : Vw K S H v d := by
  cases g with
  | sh g => cases z; exact .inl (Rp.mono k _ _ g)
  | ol e g => cases z; exact .inr ⟨_, _, _, rfl, rfl, e, Rps.mono k _ _ g⟩
  | lk e g => cases z; exact .inr ⟨_, _, _, rfl, rfl, hl _ _ e, Rps.mono k _ _ g⟩
  | od e g => cases z
  | dn e => cases z
  | td e p g => cases z
/-- what a result is, a reference resolved -/
theorem Re.res (E : En K L σ ρ H F T) {S : FP} (hs : ∀ a, hS F T a → S a) (h : Re K σ S H v r R) (n : res ρ r ≠ .un) : ∃ l R', (∀ a xs, l = some (a, xs) → H a = some (.lst xs)) ∧ So K l (hid (hS F T) H) H v (res ρ r) R' := by
  by_cases k : ∀ i, r ≠ .pk i
  · have e : Mp.res ρ r = r := by
      cases r with
      | pk i => exact absurd rfl (k i)
      | _ => rfl
    rw [e]
    exact ⟨none, R, fun _ _ z => (by cases z), (h.own k).1.mono (hid_anti fun a z => .inl (hs a z)) fun _ _ _ z => z⟩
  · have ⟨i, e⟩ : ∃ i, r = .pk i := Classical.byContradiction fun z => k fun i e => z ⟨i, e⟩
    subst e
    obtain ⟨w, h1, h2⟩ := E.get rfl n
    rw [h.1] at h1
    cases h1
    exact ⟨_, _, fun a xs z => (E.lks _ a xs z).2, h2⟩
theorem Re.vw (E : En K L σ ρ H F T) {S : FP} (hs : ∀ a, hS F T a → S a) (h : Re K σ S H v r R) (e : vw ρ r = some d) : Vw K (hS F T) H v d := by
  have n : Mp.res ρ r ≠ .un := fun z => by
    unfold Mp.vw at e
    rw [z] at e
    cases e
  obtain ⟨l, R', hl, g⟩ := Re.res E hs h n
  exact So.vw hl (fun _ _ z => z) g e
/-- the end of an expression: what was made is handed on -/
theorem PV.fin {H0 : Hp} {F0 : Nat → FP} {Q : VK} (h : Out xt K L W σ H F T (.ok (r, ρ)) (PV K L σ H0 F0 T Q)) (E : En K L σ ρ H F T) (n : Nw K (hS F T) H H' v r R) (s : ∀ a, H0 a ≠ none → H a ≠ none) : Q v H' := by
  refine Out.ok h (E.ext n.ext) (Stp.ext n.ext) v R (E.grow n.ext n.new n.so.live) (Re.of n.so fun a z w => E.liveS a w (n.new a z)) fun a z => .inr (Classical.byContradiction fun w => s a w (n.new a z))
/-- .. shared data of the heap as it stands -/
theorem PV.sh {H0 : Hp} {F0 : Nat → FP} {Q : VK} {d : D} (h : Out xt K L W σ H F T (.ok (.sh d, ρ)) (PV K L σ H0 F0 T Q)) (E : En K L σ ρ H F T) (g : Rp K (hid (hS F T) H) v d) (s : ∀ a, H0 a ≠ none → H a ≠ none) : Q v H := PV.fin h E (Nw.sh g) s
/-- .. a reference -/
theorem PV.pk {H0 : Hp} {F0 : Nat → FP} {Q : VK} {i : Nat} (h : Out xt K L W σ H F T (.ok (.pk i, ρ)) (PV K L σ H0 F0 T Q)) (E : En K L σ ρ H F T) (g : σ[i]? = some (some v)) : Q v H :=
  Out.ok h E Stp.refl v (fun _ => False) E.none ⟨g, fun _ z => z⟩ fun _ z => z.elim
theorem sub_held {S T R : FP} : ∀ a, S a ∨ T a → S a ∨ T a ∨ R a := fun a z => z.imp id .inl
/-- given away -/
theorem fz_ok {S : FP} (E : En K L σ ρ H F T) (hs : ∀ a, hS F T a → S a) (h : Re K σ S H v r R) (hS' : ∀ a, S a → hS F T a ∨ ¬ U F a) (e : fz r ρ = some (d, ρ')) : ∃ F', En K L σ ρ' H F' T ∧ Rp K (hid (hS F' T) H) v d ∧ (∀ i a, F' i a → F i a) := by
  unfold fz at e
  split at e
  · cases e
    obtain ⟨l, R', _, g⟩ := Re.res E hs h (by intro z; cases z)
    cases g with | sh g => exact ⟨F, E, g, fun _ _ z => z⟩
  · rename_i xs
    cases e
    obtain ⟨g, dj⟩ := h.own (by intro i z; cases z)
    cases g with | ol ea g =>
    exact ⟨F, E, .lst (hid_some.mpr ⟨fun z => dj _ rfl (hs _ z), ea⟩) (Rps.mono (hid_anti fun a z => .inl (hs a z)) _ _ g), fun _ _ z => z⟩
  · rename_i i
    split at e
    · rename_i xs ei
      cases e
      obtain ⟨w, h1, h2⟩ := E.get ei (by intro z; cases z)
      rw [h.1] at h1
      cases h1
      have hi : i < ρ.length := by
        have := get_of ei (by intro z; cases z)
        exact (List.getElem?_eq_some_iff.mp this).1
      have lt : ∀ j a, (if j = i then (fun _ => False : FP) else F j) a → F j a := fun j a z => by
        by_cases q : j = i
        · rw [if_pos q] at z; exact z.elim
        · rw [if_neg q] at z; exact z
      have anti : ∀ a, hS (fun j => if j = i then (fun _ => False : FP) else F j) T a → hS F T a := fun a z => z.imp (fun ⟨j, q⟩ => ⟨j, lt j a q⟩) id
      generalize hFi : F i = G at h2
      cases h2 with | ol ea g =>
      rename_i a vs
      have nin : ¬ hS (fun j => if j = i then (fun _ => False : FP) else F j) T a := fun z => by
        have fi : F i a := by rw [hFi]
        rcases z with ⟨j, q⟩ | q
        · have := E.dis j i a (lt j a q) fi
          subst this
          rw [if_pos rfl] at q
          exact q
        · exact E.tdis a q ⟨i, fi⟩
      have rp : Rp K (hid (hS (fun j => if j = i then (fun _ => False : FP) else F j) T) H) (.ref a) (.lst xs) := .lst (hid_some.mpr ⟨nin, ea⟩) (Rps.mono (hid_anti anti) _ _ g)
      refine ⟨fun j => if j = i then (fun _ => False) else F j, ⟨by rw [List.length_set]; exact E.len, fun j s es => ?_, fun j a hj z => ?_, fun j k a z1 z2 => E.dis j k a (lt j a z1) (lt k a z2), fun a z ⟨j, q⟩ => E.tdis a z ⟨j, lt j a q⟩, E.tl, E.lks⟩, rp, lt⟩
      · by_cases q : j = i
        · subst q
          rw [List.getElem?_set_self hi] at es
          cases es
          rw [if_pos rfl]
          exact .inr ⟨_, h.1, .sh rp⟩
        · rw [List.getElem?_set_ne (Ne.symm q)] at es
          rw [if_neg q]
          exact (E.at_ j s es).imp id fun ⟨v, z1, z2⟩ => ⟨v, z1, z2.mono (hid_anti anti) fun _ _ _ z => z⟩
      · rw [List.length_set] at hj
        exact E.out j a hj (lt j a z)
    · cases e
  · cases e
/-- slots that own less: a step -/
theorem Stp.less {F F' : Nat → FP} {H : Hp} (h : ∀ i a, F' i a → F i a) : Stp (U F) H (U F') H := ⟨fun _ _ _ e => e, fun _ e => e, fun a ⟨i, z⟩ => .inl ⟨i, h i a z⟩⟩
end

/-! ### constants, names -/
section
variable {xt : XT} {W : WX} {C : Ctx} {X : Cx}
theorem ex_int {i : Int} {j : Nat} {pos : Pos} : PE X (.Constant (.int i) j pos) (tE xt X.KK W C (.k (.int i))) := pe_imp pe_int fun σ H Q ⟨ρ, F, T, L, E, h⟩ => PV.sh h E (.int i) fun _ z => z
theorem ex_bl {i : Bool} {j : Nat} {pos : Pos} : PE X (.Constant (.bool i) j pos) (tE xt X.KK W C (.k (.bl i))) := pe_imp pe_bl fun σ H Q ⟨ρ, F, T, L, E, h⟩ => PV.sh h E (.bl i) fun _ z => z
theorem ex_non {j : Nat} {pos : Pos} : PE X (.Constant .none j pos) (tE xt X.KK W C (.k .non)) := pe_imp pe_non fun σ H Q ⟨ρ, F, T, L, E, h⟩ => PV.sh h E .non fun _ z => z
theorem ex_str {x : List Nat} {j : Nat} {pos : Pos} (hx : sok x = true) : PE X (.Constant (.str (sOf x)) j pos) (tE xt X.KK W C (.k (.str x))) := pe_imp pe_str fun σ H Q ⟨ρ, F, T, L, E, h⟩ => PV.sh h E (.str x hx) fun _ z => z
theorem ex_v {i : Nat} {x : Str} {pos : Pos} (hN : X.N[i]? = some x) (hv : Vis X.env.scope x) (hd : (x == ("__debug__" : Str)) = false) (hcd : (x == ("__classdict__" : Str)) = false) : PE X (.Name x pos) (tE xt X.KK W C (.v i)) := by
  refine pe_imp (pe_var hN hv hd hcd) fun σ H Q ⟨ρ, F, T, L, E, h⟩ => ?_
  simp only [evE] at h
  split at h
  · exact h.elim
  · exact h.elim
  · rename_i d e
    obtain ⟨v, h1, h2⟩ := E.get e (by intro z; cases z)
    generalize F i = G at h2
    cases h2 with | sh g => exact ⟨v, h1, PV.sh h E g fun _ z => z⟩
  · rename_i n1 n2 n3
    obtain ⟨v, h1, h2⟩ := E.get (s := ρ.get i) rfl n1
    exact ⟨v, h1, PV.pk h E h1⟩
theorem ex_g {i : Nat} {x : Str} {v : V} {u : Value} {d : D} {pos : Pos} (hg : Gl X x) (hm : X.mg x = some u) (r : RelV v u) (hd : (x == ("__debug__" : Str)) = false) (hc : ∀ d, C.gl i = some d → Rp X.KK (fun _ => none) v d) : PE X (.Name x pos) (tE xt X.KK W C (.g i)) := by
  refine pe_imp (pe_glob hg hm r hd) fun σ H Q ⟨ρ, F, T, L, E, h⟩ => ?_
  simp only [evE] at h
  split at h
  · rename_i d e
    exact PV.sh h E (Rp.mono (fun _ _ z => by cases z) _ _ (hc d e)) fun _ z => z
  · exact h.elim
theorem ex_fr {e : Expr} {a : Ex} (h : PE X e (tE xt X.KK W C a)) : PE X e (tE xt X.KK W C (.fr a)) := by
  refine pe_imp h fun σ H Q ⟨ρ, F, T, L, E, h⟩ => ⟨ρ, F, T, L, E, (Out.bind h).mono fun r ρ1 H1 F1 ⟨E1, S1, h1⟩ v R E1' re new => ?_⟩
  obtain ⟨⟨d, ρ2⟩, e1, h2⟩ := of_bind h1
  obtain ⟨F2, E2, rp, lt⟩ := fz_ok E1 (fun _ z => z) re (fun _ z => .inl z) e1
  refine Out.ok h2 E2 (Stp.less lt) v (fun _ => False) E2.none (Re.of (.sh (by rw [hid_or]; exact rp)) fun _ z => z.elim) fun _ z => z.elim

/-! ### items, arguments -/
theorem ex_fnil : PA X [] (tF xt X.KK W C .nil) := pa_imp pa_nil fun σ H Q ⟨ρ, F, T, L, E, h⟩ => Out.ok h E Stp.refl E [] .nil
theorem ex_fcons {e : Expr} {es : List Expr} {a : Ex} {as : Exs} (h1 : PE X e (tE xt X.KK W C a)) (h2 : PA X es (tF xt X.KK W C as)) (hs : starEach (e :: es) X.env = (false, eval e X.env) :: starEach es X.env) : PA X (e :: es) (tF xt X.KK W C (.cons a as)) := by
  refine pa_imp (pa_cons h1 h2 hs) fun σ H Q ⟨ρ, F, T, L, E, h⟩ => ⟨ρ, F, T, L, E, (Out.bind h).mono fun r ρ1 H1 F1 ⟨E1, S1, h1⟩ v R E1' re new => ?_⟩
  obtain ⟨⟨d, ρ2⟩, e1, h2⟩ := of_bind h1
  obtain ⟨F2, E2, rp, lt⟩ := fz_ok E1 (fun _ z => z) re (fun _ z => .inl z) e1
  have h3 := Out.step h2 (Stp.less (H := H1) lt)
  refine ⟨ρ2, F2, T, L, E2, (Out.bind h3).mono fun ds ρ3 H3 F3 ⟨E3, S3, h4⟩ _ vs rs => ?_⟩
  exact Out.ok h4 E3 Stp.refl E3 (v :: vs) (.cons (Rp.step rp S3.held0) rs)
theorem ex_anil : PA X [] (tA xt X.KK W C .nil) := pa_imp pa_nil fun σ H Q ⟨ρ, F, T, L, E, h⟩ => Out.ok h E Stp.refl [] (fun _ => False) E.none .nil fun _ z => z.elim
theorem Rel.imp {K : KW} {σ : L2.St} {H : Hp} {S S' : FP} {vs : List V} {rs : List Sl} {T : FP} (h : Rel K σ H S vs rs T) (k : ∀ a, S a ↔ S' a) : Rel K σ H S' vs rs T := by
  have e : S = S' := funext fun a => propext (k a)
  rw [← e]; exact h
theorem ex_acons {e : Expr} {es : List Expr} {a : Ex} {as : Exs} (h1 : PE X e (tE xt X.KK W C a)) (h2 : PA X es (tA xt X.KK W C as)) (hs : starEach (e :: es) X.env = (false, eval e X.env) :: starEach es X.env) : PA X (e :: es) (tA xt X.KK W C (.cons a as)) := by
  refine pa_imp (pa_cons h1 h2 hs) fun σ H Q ⟨ρ, F, T, L, E, h⟩ => ⟨ρ, F, T, L, E, (Out.bind h).mono fun r ρ1 H1 F1 ⟨E1, S1, h1⟩ v R E1' re new => ?_⟩
  refine ⟨ρ1, F1, fun a => T a ∨ R a, L, E1', Out.mono (Out.held (Out.bind h1) E1.lkT) ?_⟩
  rintro rs ρ2 H2 F2 ⟨E2, S2, h2⟩ vs R2 E2' rel new2
  have new2' : ∀ a, R2 a → U F a ∨ H a = none := fun a z => S1.bk (new2 a z)
  refine Out.ok h2 E2 Stp.refl (v :: vs) (fun a => R a ∨ R2 a) (E2'.imp fun a => ?_) ?_ fun a z => z.elim (new a) (new2' a)
  · constructor
    · rintro (z | z | z)
      · exact .inl (.inl z)
      · exact .inl (.inr z)
      · exact .inr z
    · rintro ((z | z) | z)
      · exact .inl z
      · exact .inr (.inl z)
      · exact .inr (.inr z)
  · refine .cons (Re.step re ⟨(S2.held (T := T) new2).keep, S2.dom, fun a z => ?_⟩) (rel.imp fun a => ?_)
    · rcases z with (z | z) | z
      · exact (S2.sub a z).imp .inl id
      · exact .inl (.inr z)
      · exact (new2 a z).imp (.inl) id
    · constructor
      · rintro (z | z | z)
        · exact .inl (.inl z)
        · exact .inl (.inr z)
        · exact .inr z
      · rintro ((z | z) | z)
        · exact .inl z
        · exact .inr (.inl z)
        · exact .inr (.inr z)
end
end Mp
namespace Mp
open PySem PySem.Spec PyProof.Rows L2
section
variable {xt : XT} {W : WX} {C : Ctx} {X : Cx} {a b c : Expr} {ea eb ec : Ex} {pos : Pos} {es : List Expr} {as : Exs}
/-! ### displays -/
theorem ex_tup {k : Nat} (h : PA X es (tF xt X.KK W C as)) : PE X (.Tuple es k pos) (tE xt X.KK W C (.tup as)) := by
  refine pe_imp (pe_tup h) fun σ H Q ⟨ρ, F, T, L, E, h⟩ => ⟨ρ, F, T, L, E, Out.mono (Out.bind h) ?_⟩
  rintro ds ρ1 H1 F1 ⟨E1, S1, h1⟩ _ vs rs
  obtain ⟨hl, h2⟩ := if_out h1
  exact ⟨by rw [rs.length, ← lim_line]; exact hl, fun p n => PV.fin h2 E1 (Nw.tup E1.liveS n rs) S1.dom⟩
theorem ex_lst (h : PA X es (tF xt X.KK W C as)) : PE X (.List es pos) (tE xt X.KK W C (.lst as)) := by
  refine pe_imp (pe_lst h) fun σ H Q ⟨ρ, F, T, L, E, h⟩ => ⟨ρ, F, T, L, E, Out.mono (Out.bind h) ?_⟩
  rintro ds ρ1 H1 F1 ⟨E1, S1, h1⟩ _ vs rs
  obtain ⟨hl, h2⟩ := if_out h1
  exact ⟨by rw [rs.length, ← lim_line]; exact hl, fun p n => PV.fin h2 E1 (Nw.ol n rs) S1.dom⟩

/-! ### operators -/
theorem ex_bin (o : Bo) (ha : PE X a (tE xt X.KK W C ea)) (hb : PE X b (tE xt X.KK W C eb)) : PE X (.BinOp a o.op b pos) (tE xt X.KK W C (.bin o ea eb)) := by
  refine pe_imp (pe_op (bin_ok o) ha hb) fun σ H Q ⟨ρ, F, T, L, E, h⟩ => ⟨ρ, F, T, L, E, Out.mono (Out.bind h) ?_⟩
  rintro r ρ1 H1 F1 ⟨E1, S1, h1⟩ v R E1' re new
  refine ⟨ρ1, F1, T, L, E1, Out.mono (Out.bind h1) ?_⟩
  rintro q ρ2 H2 F2 ⟨E2, S2, h2⟩ u R2 E2' re2 new2
  obtain ⟨z, hz, h3⟩ := of_bind h2
  unfold binS at hz
  split at hz
  · rename_i x y ex ey
    exact ⟨hS F2 T, x, y, E2.liveS, Re.vw E2 (fun _ z => z) (re.step S2.held0) ex, Re.vw E2 (fun _ z => z) re2 ey, z, hz, fun w H' R' n => PV.fin h3 E2 n (S1.trans S2).dom⟩
  · cases hz
theorem int_of {r : Sl} {K : KW} {σ : L2.St} {S : FP} {H : Hp} {v : V} {R : FP} {k : Int} (h : Re K σ S H v r R) (e : intOf r = some k) : v = .int k := by
  unfold intOf at e
  split at e
  · cases e
    have g := (h.own (by intro j z; cases z)).1
    cases g with | sh g =>
    cases g
    rfl
  · cases e
theorem ex_neg (ha : PE X a (tE xt X.KK W C ea)) : PE X (.UnaryOp .USub a pos) (tE xt X.KK W C (.neg ea)) := by
  refine pe_imp (pe_un neg_ok ha) fun σ H Q ⟨ρ, F, T, L, E, h⟩ => ⟨ρ, F, T, L, E, Out.mono (Out.bind h) ?_⟩
  rintro r ρ1 H1 F1 ⟨E1, S1, h1⟩ v R E1' re new
  obtain ⟨i, hi, h2⟩ := of_bind h1
  have e := int_of re hi
  subst e
  exact ⟨i, rfl, PV.sh h2 E1 (.int _) S1.dom⟩
theorem tru_of {ρ : Env} {r : Sl} {K : KW} {L : Nat → Lk} {σ : L2.St} {H : Hp} {F : Nat → FP} {T : FP} {P : Bool → Env → Hp → (Nat → FP) → Prop} (h : Out xt K L W σ H F T (tru (r, ρ)) P) : ∃ d k, vw ρ r = some d ∧ d.truth = some k ∧ Out xt K L W σ H F T (.ok (k, ρ)) P := by
  unfold tru at h
  dsimp only at h
  cases e : vw ρ r with
  | none => rw [e] at h; exact h.elim
  | some d =>
    rw [e] at h
    dsimp only at h
    cases e2 : d.truth with
    | none => rw [e2] at h; exact h.elim
    | some k => rw [e2] at h; exact ⟨d, k, rfl, e2, h⟩
theorem ex_not (ha : PE X a (tE xt X.KK W C ea)) : PE X (.UnaryOp .Not a pos) (tE xt X.KK W C (.not ea)) := by
  refine pe_imp (pe_notT ha) fun σ H Q ⟨ρ, F, T, L, E, h⟩ => ⟨ρ, F, T, L, E, Out.mono (Out.bind h) ?_⟩
  rintro r ρ1 H1 F1 ⟨E1, S1, h1⟩ v R E1' re new
  obtain ⟨d, k, e1, e2, h2⟩ := tru_of (Out.bind h1)
  obtain ⟨E2, S2, h3⟩ := Out.ok h2 E1 Stp.refl
  exact ⟨k, truth_ok (Re.vw E1 (fun _ z => z) re e1) e2, PV.sh h3 E1 (.bl _) S1.dom⟩
theorem bl_of {r : Sl} {K : KW} {σ : L2.St} {S : FP} {H : Hp} {v : V} {R : FP} {k : Bool} (h : Re K σ S H v r R) (e : blOf r = some k) : v = .bl k := by
  unfold blOf at e
  split at e
  · cases e
    have g := (h.own (by intro j z; cases z)).1
    cases g with | sh g =>
    cases g
    rfl
  · cases e
theorem ex_and {rest : List Expr} (ha : PE X a (tE xt X.KK W C ea)) (hb : PE X (.BoolOp .And (b :: rest) pos) (tE xt X.KK W C eb)) : PE X (.BoolOp .And (a :: b :: rest) pos) (tE xt X.KK W C (.and ea eb)) := by
  refine pe_imp (pe_and ha hb) fun σ H Q ⟨ρ, F, T, L, E, h⟩ => ⟨ρ, F, T, L, E, Out.mono (Out.bind h) ?_⟩
  rintro r ρ1 H1 F1 ⟨E1, S1, h1⟩ v R E1' re new
  obtain ⟨k, hk, h2⟩ := of_bind h1
  refine ⟨k, bl_of re hk, ?_⟩
  cases k with
  | true =>
    rw [if_pos rfl] at h2 ⊢
    refine ⟨ρ1, F1, T, L, E1, Out.mono h2 ?_⟩
    exact fun r2 ρ2 H2 F2 g w R2 E2 re2 new2 => g w R2 E2 re2 fun a z => S1.bk (new2 a z)
  | false =>
    rw [if_neg Bool.false_ne_true] at h2 ⊢
    exact PV.sh h2 E1 (.bl _) S1.dom
theorem ex_or {rest : List Expr} (ha : PE X a (tE xt X.KK W C ea)) (hb : PE X (.BoolOp .Or (b :: rest) pos) (tE xt X.KK W C eb)) : PE X (.BoolOp .Or (a :: b :: rest) pos) (tE xt X.KK W C (.or ea eb)) := by
  refine pe_imp (pe_or ha hb) fun σ H Q ⟨ρ, F, T, L, E, h⟩ => ⟨ρ, F, T, L, E, Out.mono (Out.bind h) ?_⟩
  rintro r ρ1 H1 F1 ⟨E1, S1, h1⟩ v R E1' re new
  obtain ⟨k, hk, h2⟩ := of_bind h1
  refine ⟨k, bl_of re hk, ?_⟩
  cases k with
  | true =>
    rw [if_pos rfl] at h2 ⊢
    exact PV.sh h2 E1 (.bl _) S1.dom
  | false =>
    rw [if_neg Bool.false_ne_true] at h2 ⊢
    refine ⟨ρ1, F1, T, L, E1, Out.mono h2 ?_⟩
    exact fun r2 ρ2 H2 F2 g w R2 E2 re2 new2 => g w R2 E2 re2 fun a z => S1.bk (new2 a z)
theorem ex_one {op : BoolOp} (ha : PE X a (tE xt X.KK W C ea)) : PE X (.BoolOp op [a] pos) (tE xt X.KK W C ea) := pe_one ha

/-! ### dicts -/
theorem sOf_inj {x y : List Nat} (h : sOf x = sOf y) : x = y := by simpa using congrArg (fun s : Str => s.cps.toList) h
section
variable {K : KW} {H : Hp}
theorem KVs.look {x : List Nat} : ∀ {kvs : List (Key × V)} {qs : List (List Nat × D)}, KVs K H kvs qs → (∀ d, lookS x qs = some d → ∃ v, valV kvs (Sum.inr (sOf x)) = some v ∧ Rp K H v d) ∧ (lookS x qs = none → valV kvs (Sum.inr (sOf x)) = none)
  | _, _, .nil => ⟨fun d e => (by cases e), fun _ => rfl⟩
  | p :: kvs, q :: qs, .cons h t => by
    obtain ⟨h1, h2⟩ := h
    obtain ⟨g1, g2⟩ := KVs.look t
    obtain ⟨y, d⟩ := q
    unfold lookS
    by_cases e : y = x
    · have e1 : p.1 = Sum.inr (sOf x) := by rw [h1, ← e]
      rw [if_pos e, valV_pos e1]
      exact ⟨fun d' z => ⟨_, rfl, (by cases z; exact h2)⟩, fun z => (by cases z)⟩
    · have e1 : ¬ p.1 = Sum.inr (sOf x) := fun z => e (sOf_inj (Sum.inr.inj (h1.symm.trans z)))
      rw [if_neg e, valV_neg e1]
      exact ⟨g1, g2⟩
theorem KVs.any {x : List Nat} : ∀ {kvs : List (Key × V)} {qs : List (List Nat × D)}, KVs K H kvs qs → (kvs.any fun kv => decide (kv.1 = Sum.inr (sOf x))) = qs.any fun p => decide (p.1 = x)
  | _, _, .nil => rfl
  | p :: kvs, q :: qs, .cons h t => by
    rw [List.any_cons, List.any_cons, KVs.any t, h.1]
    have : decide ((Sum.inr (sOf q.1) : Key) = Sum.inr (sOf x)) = decide (q.1 = x) := by
      by_cases e : q.1 = x
      · rw [e]; simp
      · rw [decide_eq_false e, decide_eq_false fun z => e (sOf_inj (Sum.inr.inj z))]
    rw [this]
theorem KVs.append : ∀ {kvs kvs2 : List (Key × V)} {qs qs2 : List (List Nat × D)}, KVs K H kvs qs → KVs K H kvs2 qs2 → KVs K H (kvs ++ kvs2) (qs ++ qs2)
  | _, _, _, _, .nil, g => g
  | _, _, _, _, .cons h t, g => .cons h (KVs.append t g)
theorem KVs.repl {x : List Nat} {v : V} {d : D} (r : Rp K H v d) : ∀ {kvs : List (Key × V)} {qs : List (List Nat × D)}, KVs K H kvs qs → KVs K H (kvs.map fun kv => if kv.1 = Sum.inr (sOf x) then (kv.1, v) else kv) (qs.map fun p => if p.1 = x then (p.1, d) else p)
  | _, _, .nil => .nil
  | p :: kvs, q :: qs, .cons h t => by
    rw [List.map_cons, List.map_cons]
    refine .cons ?_ (KVs.repl r t)
    by_cases e : q.1 = x
    · rw [if_pos e, if_pos (by rw [h.1, e])]
      exact ⟨h.1, r⟩
    · rw [if_neg e, if_neg fun z => e (sOf_inj (Sum.inr.inj (h.1.symm.trans z)))]
      exact h
theorem KVs.put {x : List Nat} {v : V} {d : D} (r : Rp K H v d) {kvs : List (Key × V)} {qs : List (List Nat × D)} (h : KVs K H kvs qs) : KVs K H (putK kvs (Sum.inr (sOf x)) v) (putS x d qs) := by
  unfold putK putS
  rw [h.any]
  split
  · exact h.repl r
  · exact h.append (.cons ⟨rfl, r⟩ .nil)
theorem KVs.length {kvs : List (Key × V)} {qs : List (List Nat × D)} (h : KVs K H kvs qs) : kvs.length = qs.length := Paired.length h
end

/-! ### comparisons -/
theorem cmpV_of {o : Co} {ρ : Env} {r q : Sl} {k : Bool} (e : cmpV o ρ r q = some k) : ∃ x y, vw ρ r = some x ∧ vw ρ q = some y ∧ cmpF o x y = some k := by
  unfold cmpV at e
  split at e
  · exact ⟨_, _, ‹_›, ‹_›, e⟩
  · cases e
theorem pc_pick {op : CmpOp} {t' : TE} (k : ∀ σ H Q, t' σ H Q → ∃ t, PC X op a b t ∧ t σ H Q) : PC X op a b t' := ⟨fun pins s σ H Q I q => by
  obtain ⟨t, h, z⟩ := k σ H Q q
  exact h.run pins s σ H Q I z⟩
theorem pc_R {op : CmpOp} {r : R2} {ta tb : TE} (ho : OpR X (compareOp op) r) (ha : PE X a ta) (hb : PE X b tb) : PC X op a b (tOp r ta tb) :=
  ⟨fun pins s σ H Q I h => bin ha hb I h fun v u s2 x y H2 I2 rx ry q => ho pins s2 σ H2 x y v u Q I2 rx ry q⟩
theorem ex_pc (o : Co) (hu : X.A.units + 66 < cLine) (ha : PE X a (tE xt X.KK W C ea)) (hb : PE X b (tE xt X.KK W C eb)) : PC X o.op a b (tE xt X.KK W C (.cmp o ea eb)) := by
  refine pc_pick fun σ H Q ⟨ρ, F, T, L, E, h⟩ => ?_
  by_cases hd : ∃ r ρ1 q ρ2 kvs, evE C ea ρ = .ok (r, ρ1) ∧ evE C eb ρ1 = .ok (q, ρ2) ∧ res ρ2 q = .od kvs
  · obtain ⟨r, ρ1, q, ρ2, kvs, e1, e2, e3⟩ := hd
    have h' : Out xt X.KK L W σ H F T ((evE C ea ρ).bind fun r => (evE C eb r.2).bind fun q => (Z.of (cmpS o q.2 r.1 q.1)).bind fun z => .ok (.sh (.bl z), q.2)) (PV X.KK L σ H F T Q) := h
    have fin : ∀ {H1 : Hp} {F1 : Nat → FP} {H2 : Hp} {F2 : Nat → FP} {v u : V} {R R2 : FP}, Stp (U F) H (U F1) H1 → En X.KK L σ ρ2 H2 F2 T → Stp (U F1) H1 (U F2) H2 → Re X.KK σ (hS F1 T) H1 v r R → Re X.KK σ (hS F2 T) H2 u q R2 →
        Out xt X.KK L W σ H2 F2 T ((Z.of (cmpS o ρ2 r q)).bind fun z => .ok (.sh (.bl z), ρ2)) (PV X.KK L σ H F T Q) →
        ∃ a x k kvs', u = .ref a ∧ v = .str (sOf x) ∧ H2 a = some (.dK kvs') ∧ hasF o (some (.str x)) kvs = some k ∧ KVs X.KK (hid (hS F2 T) H2) kvs' kvs ∧ Q (.bl k) H2 := by
      intro H1 F1 H2 F2 v u R R2 S1 E2 S2 re re2 h3
      obtain ⟨k, hk, h4⟩ := of_bind h3
      unfold cmpS at hk
      rw [e3] at hk
      dsimp only at hk
      cases ev : vw ρ2 r with
      | none => rw [ev] at hk; cases o <;> simp [hasF] at hk
      | some d =>
        rw [ev] at hk
        cases d with
        | str x =>
          obtain ⟨eq, _⟩ := (Re.vw E2 (fun _ z => z) (re.step S2.held0) ev).str
          obtain ⟨lk', R', hlk, g⟩ := Re.res E2 (fun _ z => z) re2 (by rw [e3]; intro z; cases z)
          rw [e3] at g
          cases g with | od ea2 g => exact ⟨_, x, k, _, rfl, eq, ea2, hk, g, PV.sh h4 E2 (.bl k) (S1.trans S2).dom⟩
        | non => cases o <;> simp [hasF] at hk
        | bl _ => cases o <;> simp [hasF] at hk
        | int _ => cases o <;> simp [hasF] at hk
        | tup _ => cases o <;> simp [hasF] at hk
        | lst _ => cases o <;> simp [hasF] at hk
        | kl _ => cases o <;> simp [hasF] at hk
    have look : ∀ {H2 : Hp} {Hs : Hp} {kvs' : List (Key × V)} {x : List Nat}, KVs X.KK Hs kvs' kvs → (valV kvs' (Sum.inr (sOf x))).isSome = (lookS x kvs).isSome := by
      intro H2 Hs kvs' x g
      obtain ⟨g1, g2⟩ := g.look (x := x)
      cases z : lookS x kvs with
      | none => rw [g2 z]; rfl
      | some d => obtain ⟨v, z2, _⟩ := g1 d z; rw [z2]; rfl
    by_cases ho : o = .in_
    · subst ho
      refine ⟨_, pc_din (by omega) ha hb, ρ, F, T, L, E, Out.monoE (Out.bind h') ?_⟩
      rintro r' ρ1' H1 F1 eq ⟨E1, S1, h1⟩ v R E1' re new
      rw [e1] at eq
      cases eq
      refine ⟨ρ1, F1, T, L, E1, Out.monoE (Out.bind h1) ?_⟩
      rintro q' ρ2' H2 F2 eq ⟨E2, S2, h2⟩ u R2 E2' re2 new2
      rw [e2] at eq
      cases eq
      obtain ⟨a, x, k, kvs', rfl, rfl, ed, ek, g, qq⟩ := fin S1 E2 S2 re re2 h2
      refine ⟨a, _, rfl, DGet.k (k := Sum.inr (sOf x)) ed, ?_⟩
      rw [look (H2 := H2) g]
      have : k = (lookS x kvs).isSome := by simpa [hasF] using ek.symm
      rw [← this]
      exact qq
    · by_cases ho2 : o = .notin
      · subst ho2
        refine ⟨_, pc_dnotin (by omega) ha hb, ρ, F, T, L, E, Out.monoE (Out.bind h') ?_⟩
        rintro r' ρ1' H1 F1 eq ⟨E1, S1, h1⟩ v R E1' re new
        rw [e1] at eq
        cases eq
        refine ⟨ρ1, F1, T, L, E1, Out.monoE (Out.bind h1) ?_⟩
        rintro q' ρ2' H2 F2 eq ⟨E2, S2, h2⟩ u R2 E2' re2 new2
        rw [e2] at eq
        cases eq
        obtain ⟨a, x, k, kvs', rfl, rfl, ed, ek, g, qq⟩ := fin S1 E2 S2 re re2 h2
        refine ⟨a, _, rfl, DGet.k (k := Sum.inr (sOf x)) ed, ?_⟩
        rw [look (H2 := H2) g]
        have : k = !(lookS x kvs).isSome := by simpa [hasF] using ek.symm
        rw [← this]
        exact qq
      · exfalso
        rw [e1] at h'
        have h2 : Out xt X.KK L W σ H F T ((evE C eb ρ1).bind fun q => (Z.of (cmpS o q.2 r q.1)).bind fun z => .ok (.sh (.bl z), q.2)) (PV X.KK L σ H F T Q) := h'
        rw [e2] at h2
        have h3 : Out xt X.KK L W σ H F T ((Z.of (cmpS o ρ2 r q)).bind fun z => .ok (.sh (.bl z), ρ2)) (PV X.KK L σ H F T Q) := h2
        obtain ⟨k, hk, h4⟩ := of_bind h3
        unfold cmpS at hk
        rw [e3] at hk
        dsimp only at hk
        cases o <;> first | exact ho rfl | exact ho2 rfl | (simp [hasF] at hk)
  by_cases hn : ∃ r ρ1 q ρ2 kvs, evE C ea ρ = .ok (r, ρ1) ∧ evE C eb ρ1 = .ok (q, ρ2) ∧ res ρ2 q = .dn kvs
  · obtain ⟨r, ρ1, q, ρ2, kvs, e1, e2, e3⟩ := hn
    have h' : Out xt X.KK L W σ H F T ((evE C ea ρ).bind fun r => (evE C eb r.2).bind fun q => (Z.of (cmpS o q.2 r.1 q.1)).bind fun z => .ok (.sh (.bl z), q.2)) (PV X.KK L σ H F T Q) := h
    have fin : ∀ {H1 : Hp} {F1 : Nat → FP} {H2 : Hp} {F2 : Nat → FP} {v u : V} {R R2 : FP}, Stp (U F) H (U F1) H1 → En X.KK L σ ρ2 H2 F2 T → Stp (U F1) H1 (U F2) H2 → Re X.KK σ (hS F1 T) H1 v r R → Re X.KK σ (hS F2 T) H2 u q R2 →
        Out xt X.KK L W σ H2 F2 T ((Z.of (cmpS o ρ2 r q)).bind fun z => .ok (.sh (.bl z), ρ2)) (PV X.KK L σ H F T Q) →
        ∃ a d k, u = .ref a ∧ DnAt X.KK (hid (hS F2 T) H2) H2 a kvs ∧ Rp X.KK H2 v d ∧ hasD o (some d) kvs = some k ∧ Q (.bl k) H2 := by
      intro H1 F1 H2 F2 v u R R2 S1 E2 S2 re re2 h3
      obtain ⟨k, hk, h4⟩ := of_bind h3
      unfold cmpS at hk
      rw [e3] at hk
      dsimp only at hk
      cases ev : vw ρ2 r with
      | none => rw [ev] at hk; cases o <;> simp [hasD] at hk
      | some d =>
        rw [ev] at hk
        have rv := (Re.vw E2 (fun _ z => z) (re.step S2.held0) ev).rp
        obtain ⟨lk', R', hlk, g⟩ := Re.res E2 (fun _ z => z) re2 (by rw [e3]; intro z; cases z)
        rw [e3] at g
        cases g with | dn ea2 => exact ⟨_, d, k, rfl, ea2, rv, hk, PV.sh h4 E2 (.bl k) (S1.trans S2).dom⟩
    by_cases ho : o = .in_
    · subst ho
      refine ⟨_, pc_nin hu ha hb, ρ, F, T, L, E, Out.monoE (Out.bind h') ?_⟩
      rintro r' ρ1' H1 F1 eq ⟨E1, S1, h1⟩ v R E1' re new
      rw [e1] at eq
      cases eq
      refine ⟨ρ1, F1, T, L, E1, Out.monoE (Out.bind h1) ?_⟩
      rintro q' ρ2' H2 F2 eq ⟨E2, S2, h2⟩ u R2 E2' re2 new2
      rw [e2] at eq
      cases eq
      obtain ⟨a, d, k, rfl, ed, rv, ek, qq⟩ := fin S1 E2 S2 re re2 h2
      simp only [hasD] at ek
      split at ek
      · rename_i ok
        cases ek
        exact ⟨a, _, kvs, d, rfl, ed, hid_sub, rv, ok, qq⟩
      · cases ek
    · by_cases ho2 : o = .notin
      · subst ho2
        refine ⟨_, pc_nnotin hu ha hb, ρ, F, T, L, E, Out.monoE (Out.bind h') ?_⟩
        rintro r' ρ1' H1 F1 eq ⟨E1, S1, h1⟩ v R E1' re new
        rw [e1] at eq
        cases eq
        refine ⟨ρ1, F1, T, L, E1, Out.monoE (Out.bind h1) ?_⟩
        rintro q' ρ2' H2 F2 eq ⟨E2, S2, h2⟩ u R2 E2' re2 new2
        rw [e2] at eq
        cases eq
        obtain ⟨a, d, k, rfl, ed, rv, ek, qq⟩ := fin S1 E2 S2 re re2 h2
        simp only [hasD] at ek
        split at ek
        · rename_i ok
          cases ek
          exact ⟨a, _, kvs, d, rfl, ed, hid_sub, rv, ok, qq⟩
        · cases ek
      · exfalso
        rw [e1] at h'
        have h2 : Out xt X.KK L W σ H F T ((evE C eb ρ1).bind fun q => (Z.of (cmpS o q.2 r q.1)).bind fun z => .ok (.sh (.bl z), q.2)) (PV X.KK L σ H F T Q) := h'
        rw [e2] at h2
        have h3 : Out xt X.KK L W σ H F T ((Z.of (cmpS o ρ2 r q)).bind fun z => .ok (.sh (.bl z), ρ2)) (PV X.KK L σ H F T Q) := h2
        obtain ⟨k, hk, h4⟩ := of_bind h3
        unfold cmpS at hk
        rw [e3] at hk
        dsimp only at hk
        cases o <;> first | exact ho rfl | exact ho2 rfl | (simp [hasD] at hk)
  · refine ⟨_, pc_R (cmp_ok o hu) ha hb, ρ, F, T, L, E, Out.monoE (Out.bind h) ?_⟩
    rintro r ρ1 H1 F1 eq1 ⟨E1, S1, h1⟩ v R E1' re new
    refine ⟨ρ1, F1, T, L, E1, Out.monoE (Out.bind h1) ?_⟩
    rintro q ρ2 H2 F2 eq2 ⟨E2, S2, h2⟩ u R2 E2' re2 new2
    obtain ⟨k, hk, h4⟩ := of_bind h2
    have hk' : cmpV o ρ2 r q = some k := by
      unfold cmpS at hk
      split at hk
      · exact absurd ⟨r, ρ1, q, ρ2, _, eq1, eq2, ‹_›⟩ hd
      · exact absurd ⟨r, ρ1, q, ρ2, _, eq1, eq2, ‹_›⟩ hn
      · exact hk
    obtain ⟨x, y, ex, ey, ek⟩ := cmpV_of hk'
    exact ⟨x, y, k, (Re.vw E2 (fun _ z => z) (re.step S2.held0) ex).rp, (Re.vw E2 (fun _ z => z) re2 ey).rp, ek, PV.sh h4 E2 (.bl _) (S1.trans S2).dom⟩
theorem ex_cmp (o : Co) (hu : X.A.units + 66 < cLine) (hm : behindInMarks o.op b = false) (ha : PE X a (tE xt X.KK W C ea)) (hb : PE X b (tE xt X.KK W C eb)) : PE X (.Compare a [o.op] [b] pos) (tE xt X.KK W C (.cmp o ea eb)) := pe_cmp (ex_pc o hu ha hb) hm
theorem ex_chain (o o' : Co) (hu : X.A.units + 66 < cLine) (hm : lastMarks [o.op, o'.op] [b, c] = false) (ha : PE X a (tE xt X.KK W C ea)) (hb : PE X b (tE xt X.KK W C eb)) (hc : PE X c (tE xt X.KK W C ec)) :
    PE X (.Compare a [o.op, o'.op] [b, c] pos) (tE xt X.KK W C (.chain o o' ea eb ec)) := by
  refine pe_imp (pe_chain (cmp_ok o hu) (cmp_ok o' hu) ha hb hc hm) fun σ H Q ⟨ρ, F, T, L, E, h⟩ => ⟨ρ, F, T, L, E, Out.mono (Out.bind h) ?_⟩
  rintro r ρ1 H1 F1 ⟨E1, S1, h1⟩ v R E1' re new
  refine ⟨ρ1, F1, T, L, E1, Out.mono (Out.bind h1) ?_⟩
  rintro q ρ2 H2 F2 ⟨E2, S2, h2⟩ u R2 E2' re2 new2
  obtain ⟨k, hk, h3⟩ := of_bind h2
  obtain ⟨x, y, ex, ey, ek⟩ := cmpV_of hk
  refine ⟨x, y, k, (Re.vw E2 (fun _ z => z) (re.step S2.held0) ex).rp, (Re.vw E2 (fun _ z => z) re2 ey).rp, ek, k, rfl, ?_⟩
  cases k with
  | true =>
    rw [if_pos rfl] at h3 ⊢
    refine ⟨ρ2, F2, T, L, E2, Out.mono (Out.bind h3) ?_⟩
    rintro p ρ3 H3 F3 ⟨E3, S3, h4⟩ w R3 E3' re3 new3
    obtain ⟨k2, hk2, h5⟩ := of_bind h4
    obtain ⟨x2, y2, ex2, ey2, ek2⟩ := cmpV_of hk2
    exact ⟨x2, y2, k2, (Re.vw E3 (fun _ z => z) (re2.step S3.held0) ex2).rp, (Re.vw E3 (fun _ z => z) re3 ey2).rp, ek2, PV.sh h5 E3 (.bl _) ((S1.trans S2).trans S3).dom⟩
  | false =>
    rw [if_neg Bool.false_ne_true] at h3 ⊢
    exact PV.sh h3 E2 (.bl _) (S1.trans S2).dom

/-! ### tests -/
/-- a value's truth -/
theorem tt_imp {t : TT} (h : PT X a t) (k : ∀ σ H Q, (∃ ρ F T L, En X.KK L σ ρ H F T ∧ Out xt X.KK L W σ H F T ((evE C ea ρ).bind tru) (fun b _ H' _ => Q b H')) → t σ H Q) : PT X a (tT xt X.KK W C (.e ea)) := pt_imp h fun σ H Q q => k σ H Q q
theorem te_e (ha : PE X a (tE xt X.KK W C ea)) (he : ∀ whole, isTrue a X.env whole = (do let v ← whole; standAt a.pos; holding [v] (truthy v))) : PT X a (tT xt X.KK W C (.e ea)) := by
  refine pt_imp (pt_truth ha he) fun σ H Q ⟨ρ, F, T, L, E, h⟩ => ⟨ρ, F, T, L, E, Out.mono (Out.bind h) ?_⟩
  rintro r ρ1 H1 F1 ⟨E1, S1, h1⟩ v R E1' re new
  obtain ⟨d, k, e1, e2, h2⟩ := tru_of h1
  exact ⟨k, truth_ok (Re.vw E1 (fun _ z => z) re e1) e2, Out.ok h2 E1 Stp.refl⟩
theorem tB_of {t : TE} (ht : ∀ σ H Q, (∃ ρ F T L, En X.KK L σ ρ H F T ∧ Out xt X.KK L W σ H F T (evE C ea ρ) (PV X.KK L σ H F T Q)) → t σ H Q) {σ : L2.St} {H : Hp} {Q : Bool → Hp → Prop} (hb : ∀ ρ r ρ', evE C ea ρ = .ok (r, ρ') → ∃ k, r = .sh (.bl k))
    (q : tT xt X.KK W C (.e ea) σ H Q) : tB t σ H Q := by
  obtain ⟨ρ, F, T, L, E, h⟩ := q
  refine ht σ H _ ⟨ρ, F, T, L, E, Out.monoE (Out.bind h) ?_⟩
  rintro r ρ1 H1 F1 eq ⟨E1, S1, h1⟩ v R E1' re new
  obtain ⟨k, rfl⟩ := hb _ _ _ eq
  obtain ⟨d, k2, e1, e2, h2⟩ := tru_of h1
  have g := (re.own (by intro j z; cases z)).1
  cases g with | sh g =>
  cases g
  cases e1
  cases e2
  exact ⟨k, rfl, Out.ok h2 E1 Stp.refl⟩
theorem bind_ok {α β : Type} {r : Z α} {f : α → Z β} {b : β} (h : r.bind f = .ok b) : ∃ a, r = .ok a ∧ f a = .ok b := by
  cases r with
  | ok a => exact ⟨a, rfl, h⟩
  | exc c ds ρ => cases h
  | stuck => cases h
theorem cmp_bl {o : Co} {ρ ρ' : Env} {r : Sl} (h : evE C (.cmp o ea eb) ρ = .ok (r, ρ')) : ∃ k, r = .sh (.bl k) := by
  simp only [evE] at h
  obtain ⟨q1, _, h⟩ := bind_ok h
  obtain ⟨q2, _, h⟩ := bind_ok h
  obtain ⟨z, _, h⟩ := bind_ok h
  cases h
  exact ⟨z, rfl⟩
theorem chain_bl {o o' : Co} {ρ ρ' : Env} {r : Sl} (h : evE C (.chain o o' ea eb ec) ρ = .ok (r, ρ')) : ∃ k, r = .sh (.bl k) := by
  simp only [evE] at h
  obtain ⟨q1, _, h⟩ := bind_ok h
  obtain ⟨q2, _, h⟩ := bind_ok h
  obtain ⟨z, _, h⟩ := bind_ok h
  split at h
  · obtain ⟨q3, _, h⟩ := bind_ok h
    obtain ⟨z2, _, h⟩ := bind_ok h
    cases h
    exact ⟨z2, rfl⟩
  · cases h
    exact ⟨false, rfl⟩
theorem te_cmp (o : Co) (hu : X.A.units + 66 < cLine) (hm : behindInMarks o.op b = false) (ha : PE X a (tE xt X.KK W C ea)) (hb : PE X b (tE xt X.KK W C eb)) : PT X (.Compare a [o.op] [b] pos) (tT xt X.KK W C (.e (.cmp o ea eb))) :=
  pt_imp (pt_cmp (ex_pc o hu ha hb) hm) fun σ H Q q => tB_of (fun _ _ _ z => z) (fun _ _ _ => cmp_bl) q
theorem te_chain (o o' : Co) (hu : X.A.units + 66 < cLine) (hm : lastMarks [o.op, o'.op] [b, c] = false) (ha : PE X a (tE xt X.KK W C ea)) (hb : PE X b (tE xt X.KK W C eb)) (hc : PE X c (tE xt X.KK W C ec)) :
    PT X (.Compare a [o.op, o'.op] [b, c] pos) (tT xt X.KK W C (.e (.chain o o' ea eb ec))) := by
  refine pt_imp (pt_chain (cmp_ok o hu) (cmp_ok o' hu) ha hb hc hm) fun σ H Q q => ?_
  refine tB_of (ea := .chain o o' ea eb ec) (t := tChain _ _ _ _ _) (fun σ H Q q => ?_) (fun _ _ _ => chain_bl) q
  obtain ⟨ρ, F, T, L, E, h⟩ := q
  refine ⟨ρ, F, T, L, E, Out.mono (Out.bind h) ?_⟩
  rintro r ρ1 H1 F1 ⟨E1, S1, h1⟩ v R E1' re new
  refine ⟨ρ1, F1, T, L, E1, Out.mono (Out.bind h1) ?_⟩
  rintro q ρ2 H2 F2 ⟨E2, S2, h2⟩ u R2 E2' re2 new2
  obtain ⟨k, hk, h3⟩ := of_bind h2
  obtain ⟨x, y, ex, ey, ek⟩ := cmpV_of hk
  refine ⟨x, y, k, (Re.vw E2 (fun _ z => z) (re.step S2.held0) ex).rp, (Re.vw E2 (fun _ z => z) re2 ey).rp, ek, k, rfl, ?_⟩
  cases k with
  | true =>
    rw [if_pos rfl] at h3 ⊢
    refine ⟨ρ2, F2, T, L, E2, Out.mono (Out.bind h3) ?_⟩
    rintro p ρ3 H3 F3 ⟨E3, S3, h4⟩ w R3 E3' re3 new3
    obtain ⟨k2, hk2, h5⟩ := of_bind h4
    obtain ⟨x2, y2, ex2, ey2, ek2⟩ := cmpV_of hk2
    exact ⟨x2, y2, k2, (Re.vw E3 (fun _ z => z) (re2.step S3.held0) ex2).rp, (Re.vw E3 (fun _ z => z) re3 ey2).rp, ek2, PV.sh h5 E3 (.bl _) ((S1.trans S2).trans S3).dom⟩
  | false =>
    rw [if_neg Bool.false_ne_true] at h3 ⊢
    exact PV.sh h3 E2 (.bl _) (S1.trans S2).dom
variable {t1 t2 : Te}
theorem te_not (ha : PT X a (tT xt X.KK W C t1)) : PT X (.UnaryOp .Not a pos) (tT xt X.KK W C (.not t1)) := by
  refine pt_imp (pt_not ha) fun σ H Q ⟨ρ, F, T, L, E, h⟩ => ⟨ρ, F, T, L, E, Out.mono (Out.bind h) ?_⟩
  rintro r ρ1 H1 F1 ⟨E1, S1, h1⟩
  exact Out.ok h1 E1 Stp.refl
theorem tw_and1 (ha : PT X a (tT xt X.KK W C t1)) : PW X (.BoolOp .And [a] pos) (tT xt X.KK W C t1) := pw_and1 ha
theorem tw_or1 (ha : PT X a (tT xt X.KK W C t1)) : PW X (.BoolOp .Or [a] pos) (tT xt X.KK W C t1) := pw_or1 ha
theorem tw_and {rest : List Expr} (ha : PT X a (tT xt X.KK W C t1)) (hb : PW X (.BoolOp .And (b :: rest) pos) (tT xt X.KK W C t2)) : PW X (.BoolOp .And (a :: b :: rest) pos) (tT xt X.KK W C (.and t1 t2)) := by
  refine pw_imp (pw_and ha hb) fun σ H Q ⟨ρ, F, T, L, E, h⟩ => ⟨ρ, F, T, L, E, Out.mono (Out.bind h) ?_⟩
  rintro r ρ1 H1 F1 ⟨E1, S1, h1⟩
  cases r with
  | true => rw [if_pos rfl] at h1 ⊢; exact ⟨ρ1, F1, T, L, E1, h1⟩
  | false => rw [if_neg Bool.false_ne_true] at h1 ⊢; exact Out.ok h1 E1 Stp.refl
theorem tw_or {rest : List Expr} (ha : PT X a (tT xt X.KK W C t1)) (hb : PW X (.BoolOp .Or (b :: rest) pos) (tT xt X.KK W C t2)) : PW X (.BoolOp .Or (a :: b :: rest) pos) (tT xt X.KK W C (.or t1 t2)) := by
  refine pw_imp (pw_or ha hb) fun σ H Q ⟨ρ, F, T, L, E, h⟩ => ⟨ρ, F, T, L, E, Out.mono (Out.bind h) ?_⟩
  rintro r ρ1 H1 F1 ⟨E1, S1, h1⟩
  cases r with
  | true => rw [if_pos rfl] at h1 ⊢; exact Out.ok h1 E1 Stp.refl
  | false => rw [if_neg Bool.false_ne_true] at h1 ⊢; exact ⟨ρ1, F1, T, L, E1, h1⟩
theorem ex_ite (hc : PT X c (tT xt X.KK W C t1)) (ha : PE X a (tE xt X.KK W C ea)) (hb : PE X b (tE xt X.KK W C eb)) : PE X (.IfExp c a b pos) (tE xt X.KK W C (.ite t1 ea eb)) := by
  refine pe_imp (pe_ifExp hc ha hb) fun σ H Q ⟨ρ, F, T, L, E, h⟩ => ⟨ρ, F, T, L, E, Out.mono (Out.bind h) ?_⟩
  rintro r ρ1 H1 F1 ⟨E1, S1, h1⟩
  cases r with
  | true =>
    rw [if_pos rfl] at h1 ⊢
    exact ⟨ρ1, F1, T, L, E1, Out.mono h1 fun r2 ρ2 H2 F2 g w R2 E2 re2 new2 => g w R2 E2 re2 fun a z => S1.bk (new2 a z)⟩
  | false =>
    rw [if_neg Bool.false_ne_true] at h1 ⊢
    exact ⟨ρ1, F1, T, L, E1, Out.mono h1 fun r2 ρ2 H2 F2 g w R2 E2 re2 new2 => g w R2 E2 re2 fun a z => S1.bk (new2 a z)⟩

/-! ### subscripts, slices -/
theorem idxS_of {ρ : Env} {r q : Sl} {d : D} (e : idxS ρ r q = some d) : ∃ y, vw ρ q = some y ∧ idxF (res ρ r) y = some d := by
  unfold idxS at e
  split at e
  · exact ⟨_, ‹_›, e⟩
  · cases e
theorem ex_idx (hu : X.A.units + 66 < cLine) (hs : PlainIx b) (ha : PE X a (tE xt X.KK W C ea)) (hb : PE X b (tE xt X.KK W C eb)) : PE X (.Subscript a b pos) (tE xt X.KK W C (.idx ea eb)) := by
  refine pe_pick fun σ H Q ⟨ρ, F, T, L, E, h⟩ => ?_
  by_cases hd : ∃ r ρ1 q ρ2 kvs, evE C ea ρ = .ok (r, ρ1) ∧ evE C eb ρ1 = .ok (q, ρ2) ∧ res ρ2 r = .od kvs
  · obtain ⟨r, ρ1, q, ρ2, kvs, e1, e2, e3⟩ := hd
    refine ⟨_, pe_dget (by omega) ha hb hs, ρ, F, T, L, E, Out.monoE (Out.bind h) ?_⟩
    rintro r' ρ1' H1 F1 eq ⟨E1, S1, h1⟩ v R E1' re new
    rw [e1] at eq
    cases eq
    refine ⟨ρ1, F1, T, L, E1, Out.monoE (Out.bind h1) ?_⟩
    rintro q' ρ2' H2 F2 eq ⟨E2, S2, h2⟩ u R2 E2' re2 new2
    rw [e2] at eq
    cases eq
    obtain ⟨d, hd, h3⟩ := of_bind h2
    obtain ⟨y, ey, ei⟩ := idxS_of hd
    rw [e3] at ei
    cases y with
    | str x =>
      obtain ⟨eq, _⟩ := (Re.vw E2 (fun _ z => z) re2 ey).str
      subst eq
      obtain ⟨lk', R', hlk, g⟩ := Re.res E2 (fun _ z => z) (re.step S2.held0) (by rw [e3]; intro z; cases z)
      rw [e3] at g
      cases g with | od ea2 g =>
      obtain ⟨w, hw, rw'⟩ := g.look.1 d ei
      exact ⟨_, w, rfl, by rw [← hw]; exact DGet.k (k := Sum.inr (sOf x)) ea2, PV.sh h3 E2 rw' (S1.trans S2).dom⟩
    | non => simp [idxF] at ei
    | bl _ => simp [idxF] at ei
    | int _ => simp [idxF] at ei
    | tup _ => simp [idxF] at ei
    | lst _ => simp [idxF] at ei
    | kl _ => simp [idxF] at ei
  by_cases hn : ∃ r ρ1 q ρ2 kvs, evE C ea ρ = .ok (r, ρ1) ∧ evE C eb ρ1 = .ok (q, ρ2) ∧ res ρ2 r = .dn kvs
  · obtain ⟨r, ρ1, q, ρ2, kvs, e1, e2, e3⟩ := hn
    refine ⟨_, pe_nget hu ha hb hs, ρ, F, T, L, E, Out.monoE (Out.bind h) ?_⟩
    rintro r' ρ1' H1 F1 eq ⟨E1, S1, h1⟩ v R E1' re new
    rw [e1] at eq
    cases eq
    refine ⟨ρ1, F1, T, L, E1, Out.monoE (Out.bind h1) ?_⟩
    rintro q' ρ2' H2 F2 eq ⟨E2, S2, h2⟩ u R2 E2' re2 new2
    rw [e2] at eq
    cases eq
    obtain ⟨d, hd, h3⟩ := of_bind h2
    obtain ⟨y, ey, ei⟩ := idxS_of hd
    rw [e3] at ei
    have rv := (Re.vw E2 (fun _ z => z) re2 ey).rp
    obtain ⟨lk', R', hlk, g⟩ := Re.res E2 (fun _ z => z) (re.step S2.held0) (by rw [e3]; intro z; cases z)
    rw [e3] at g
    cases g with | dn ea2 =>
    simp only [idxF] at ei
    split at ei
    · rename_i ok
      exact ⟨_, _, kvs, y, d, rfl, ea2, hid_sub, rv, ok, ei, fun w rw' => PV.sh h3 E2 rw' (S1.trans S2).dom⟩
    · cases ei
  · refine ⟨_, pe_ix idx_seq ha hb hs, ρ, F, T, L, E, Out.monoE (Out.bind h) ?_⟩
    rintro r ρ1 H1 F1 eq1 ⟨E1, S1, h1⟩ v R E1' re new
    refine ⟨ρ1, F1, T, L, E1, Out.monoE (Out.bind h1) ?_⟩
    rintro q ρ2 H2 F2 eq2 ⟨E2, S2, h2⟩ u R2 E2' re2 new2
    obtain ⟨d, hd', h3⟩ := of_bind h2
    obtain ⟨y, ey, ei⟩ := idxS_of hd'
    have nu : res ρ2 r ≠ .un := fun z => by rw [z] at ei; cases y <;> simp [idxF] at ei
    obtain ⟨lk', R', hlk, g⟩ := Re.res E2 (fun _ z => z) (re.step S2.held0) nu
    exact ⟨hS F2 T, _, lk', R', y, d, E2.liveS, hlk, g, (Re.vw E2 (fun _ z => z) re2 ey).rp, fun kvs z => hd ⟨r, ρ1, q, ρ2, kvs, eq1, eq2, z⟩, fun kvs z => hn ⟨r, ρ1, q, ρ2, kvs, eq1, eq2, z⟩, ei, fun w rw' => PV.sh h3 E2 rw' (S1.trans S2).dom⟩
/-- an optional bound -/
def tO (xt : XT) (K : KW) (W : WX) (C : Ctx) (o : Exs) : TO := fun σ H Q => ∃ ρ F T L, En K L σ ρ H F T ∧ Out xt K L W σ H F T (evO C o ρ) (fun b _ H' _ => Q b H')
theorem po_imp {o : Option Expr} {t t' : TO} (h : PO X o t) (k : ∀ σ H Q, t' σ H Q → t σ H Q) : PO X o t' := ⟨fun pins s σ H Q I q => h.run pins s σ H Q I (k σ H Q q)⟩
theorem eo_nil : PO X none (tO xt X.KK W C .nil) := po_imp po_none fun σ H Q ⟨ρ, F, T, L, E, h⟩ => Out.ok h E Stp.refl
theorem eo_one (ha : PE X a (tE xt X.KK W C ea)) : PO X (some a) (tO xt X.KK W C (.cons ea .nil)) := by
  refine po_imp (po_some ha) fun σ H Q ⟨ρ, F, T, L, E, h⟩ => ⟨ρ, F, T, L, E, Out.mono (Out.bind h) ?_⟩
  rintro r ρ1 H1 F1 ⟨E1, S1, h1⟩ v R E1' re new
  obtain ⟨i, hi, h2⟩ := of_bind h1
  exact ⟨i, int_of re hi, Out.ok h2 E1 Stp.refl⟩
theorem ex_slc {lo hi : Option Expr} {l h : Exs} {p2 : Pos} (ha : PE X a (tE xt X.KK W C ea)) (hl : PO X lo (tO xt X.KK W C l)) (hh : PO X hi (tO xt X.KK W C h)) : PE X (.Subscript a (.Slice lo hi none p2) pos) (tE xt X.KK W C (.slc ea l h)) := by
  refine pe_imp (pe_slice slc_ok ha hl hh) fun σ H Q ⟨ρ, F, T, L, E, h⟩ => ⟨ρ, F, T, L, E, Out.mono (Out.bind h) ?_⟩
  rintro r ρ1 H1 F1 ⟨E1, S1, h1⟩ v R E1' re new
  refine ⟨ρ1, F1, T, L, E1, Out.mono (Out.bind h1) ?_⟩
  rintro lo ρ2 H2 F2 ⟨E2, S2, h2⟩
  refine ⟨ρ2, F2, T, L, E2, Out.mono (Out.bind h2) ?_⟩
  rintro hi ρ3 H3 F3 ⟨E3, S3, h3⟩
  obtain ⟨z, hz, h4⟩ := of_bind h3
  unfold slcS at hz
  cases ev : vw ρ3 r with
  | none => dsimp only at hz; rw [ev] at hz; cases hz
  | some d =>
    dsimp only at hz
    rw [ev] at hz
    exact ⟨hS F3 T, d, E3.liveS, Re.vw E3 (fun _ z => z) ((re.step S2.held0).step S3.held0) ev, z, hz, fun w H' R' n => PV.fin h4 E3 n ((S1.trans S2).trans S3).dom⟩

/-! ### built-in functions -/
theorem Rel.vws {K : KW} {L : Nat → Lk} {σ : L2.St} {ρ : Env} {H : Hp} {F : Nat → FP} {T : FP} (E : En K L σ ρ H F T) : ∀ {S : FP} {vs : List V} {rs : List Sl} {R : FP} {ds : List D}, (∀ a, hS F T a → S a) → Rel K σ H S vs rs R → Mp.vws ρ rs = some ds → Vws K (hS F T) H vs ds
  | _, _, _, _, _, _, .nil, e => by cases e; exact .nil
  | _, _, _, _, ds, hs, .cons re rel, e => by
    unfold Mp.vws at e
    split at e
    · rename_i d e1
      split at e
      · rename_i ds' e2
        cases e
        exact .cons (Re.vw E (fun a z => .inl (hs a z)) re e1) (Rel.vws E (fun a z => .inl (hs a z)) rel e2)
      · cases e
    · cases e
theorem biS_of {b : Bi} {ρ : Env} {rs : List Sl} {z : Sl} (e : biS b ρ rs = some z) : (∃ ds, vws ρ rs = some ds ∧ biF b ds = some z) ∨ ∃ r kvs, rs = [r] ∧ res ρ r = .dn kvs ∧ biD b kvs = some z := by
  have gen : ∀ rs', (vws ρ rs').bind (biF b) = some z → ∃ ds, vws ρ rs' = some ds ∧ biF b ds = some z := by
    intro rs' e
    cases h : vws ρ rs' with
    | none => rw [h] at e; cases e
    | some ds => rw [h] at e; exact ⟨ds, rfl, e⟩
  unfold biS at e
  split at e
  · split at e
    · exact .inr ⟨_, _, rfl, ‹_›, e⟩
    · exact .inl (gen _ e)
  · exact .inl (gen _ e)
/-- .. of a dict -/
def rDn (K : KW) (b : Bi) : List V → Hp → VK → Prop := fun xs H Q => ∃ a S qs z, xs = [.ref a] ∧ (∀ a, S a → H a ≠ none) ∧ DnAt K (hid S H) H a qs ∧ biD b qs = some z ∧ ∀ v H' R, Nw K S H H' v z R → Q v H'
theorem dn_ok (bb : Bi) (hc : X.calm = true) : CallR X bb.val (rDn X.KK bb) := by
  intro pins s σ H xs us Q I rx h
  obtain ⟨a, S, qs, z, rfl, lv, g, ez, q⟩ := h
  cases bb <;> first | (simp [biD] at ez; done) | skip
  · cases ez
    exact call_len_dn hc pins s σ H _ us Q I rx ⟨a, _, qs, rfl, g, q _ H _ (Nw.sh (.int _))⟩
theorem call_both {X : Cx} {f : Value} {r1 r2 : List V → Hp → VK → Prop} (h1 : CallR X f r1) (h2 : CallR X f r2) : CallR X f (fun xs H Q => r1 xs H Q ∨ r2 xs H Q) := fun pins s σ H xs us Q I rx h => h.elim (h1 pins s σ H xs us Q I rx) (h2 pins s σ H xs us Q I rx)
theorem ex_bi_core {e : Expr} {bb : Bi} {t : TA} (ht : ∀ σ H Q, tA xt X.KK W C as σ H Q → t σ H Q) (h : PE X e (tCB (fun xs H Q => rBi X.KK bb xs H Q ∨ rDn X.KK bb xs H Q) t)) : PE X e (tE xt X.KK W C (.bi bb as)) := by
  refine pe_imp h fun σ H Q ⟨ρ, F, T, L, E, h⟩ => ht σ H _ ⟨ρ, F, T, L, E, Out.mono (Out.bind h) ?_⟩
  rintro rs ρ1 H1 F1 ⟨E1, S1, h1⟩ vs R E1' rel new
  obtain ⟨z, hz, h2⟩ := of_bind h1
  rcases biS_of hz with ⟨ds, e1, e2⟩ | ⟨r, kvs, rfl, e1, e2⟩
  · exact .inl ⟨hS F1 T, ds, E1.liveS, Rel.vws E1 (fun _ z => z) rel e1, z, e2, fun w H' R' n => PV.fin h2 E1 n S1.dom⟩
  · cases rel with | cons re rel =>
    cases rel
    obtain ⟨lk', R', hlk, g⟩ := Re.res E1 (fun a z => .inl z) re (by rw [e1]; intro z; cases z)
    dsimp only at e1
    rw [e1] at g
    cases g with | dn ea2 => exact .inr ⟨_, hS F1 T, kvs, z, rfl, E1.liveS, ea2, e2, fun w H' R' n => PV.fin h2 E1 n S1.dom⟩
theorem ex_bi (bb : Bi) {x : Str} {p : Pos} {e : Expr} (hc : X.calm = true) (hg : Gl X x) (hm : X.mg x = none) (hv : bootBuiltins x = some bb.val) (ha : PA X (e :: es) (tA xt X.KK W C as)) (hn : x ≠ "__name__") (hdb : (x == ("__debug__" : Str)) = false)
    (he : starEach (e :: es) X.env = (false, eval e X.env) :: starEach es X.env) (hpl : (backTo pos (starEach es X.env)).any (·.1) = false) : PE X (.Call (.Name x p) (e :: es) [] pos) (tE xt X.KK W C (.bi bb as)) := by
  have hk := bi_ok (X := X) bb hc
  have hkd := dn_ok (X := X) bb hc
  unfold Bi.val at hk hkd hv
  by_cases ht : bb.ty = true
  · rw [if_pos ht] at hk hkd hv
    exact ex_bi_core (fun _ _ _ z => z) (pe_callTy (call_both hk hkd) hg hm hv ha hn hdb he hpl)
  · rw [if_neg ht] at hk hkd hv
    exact ex_bi_core (fun _ _ _ z => z) (pe_callB (call_both hk hkd) hg hm hv ha hn hdb he hpl)
end
end Mp
namespace Mp
open PySem PySem.Spec PyProof.Rows L2
section
variable {xt : XT} {W : WX} {C : Ctx} {X : Cx} {a b c : Expr} {ea eb ec : Ex} {pos : Pos} {es : List Expr} {as : Exs}
/-! ### isinstance -/
def Ty.nm : Ty → String
  | .int => "int"
  | .bool => "bool"
  | .str => "str"
  | .tuple => "tuple"
  | .list => "list"
  | .dict => "dict"
/-- the name of a datum's class -/
def D.cls : D → String
  | .non => "NoneType"
  | .bl _ => "bool"
  | .int _ => "int"
  | .str _ => "str"
  | .tup _ => "tuple"
  | .lst _ => "list"
  | .kl _ => "list"
theorem ty_of {K : KW} {H : Hp} {v : V} {d : D} (h : Rp K H v d) (hk : d.noK = some d) : TyX K H v (.type d.cls) := by
  cases h with
  | kl _ _ => cases hk
  | non => exact .base .non
  | bl b => exact .base (.bl b)
  | int i => exact .base (.int i)
  | str x _ => exact .base (.str _)
  | lst s _ =>
    exact .base (.lst s)
  | tup s _ =>
    rcases s with (e | ⟨o, e⟩) | ⟨o, its, n, e, c, _⟩
    · exact .base (.tup e)
    · exact .fTuple e
    · exact .kTuple e c
theorem noK_of {o : Option D} {d : D} (h : o.bind D.noK = some d) : o = some d ∧ d.noK = some d := by
  cases o with
  | none => cases h
  | some x => cases x <;> first | (cases h; exact ⟨rfl, rfl⟩) | (cases h; done)
theorem kit_is (d : D) (t : Ty) : kitB d.cls t.nm = some (isTy d t) := by
  cases d <;> cases t <;> (simp only [D.cls, Ty.nm, isTy]; decide +kernel)
theorem kit_all (K : KW) (d : D) : ∀ ts : List Ty, PySem.W.kitAny K (.type d.cls) (ts.map fun t => Value.type t.nm) = some (ts.any (isTy d))
  | [] => rfl
  | t :: ts => by
    rw [List.map_cons, List.any_cons]
    refine kitAny_cons (kit_ty (kit_is d t)) (fun e => by rw [e]; exact kit_all K d ts) fun e => by rw [e]; rfl
/-- a class's name -/
structure TyNm (X : Cx) (x : Str) (t : Ty) : Prop where
  gl : Gl X x
  mg : X.mg x = none
  bt : bootBuiltins x = some (.type t.nm)
  nn : x ≠ "__name__"
  nd : (x == ("__debug__" : Str)) = false
theorem TyNm.pe {x : Str} {t : Ty} {p : Pos} (h : TyNm X x t) : PE X (.Name x p) (tC (.ty t.nm)) := pe_bltn h.gl h.mg h.bt rfl h.nn h.nd
theorem ex_isi {x : Str} {p p2 : Pos} {y : Str} {t : Ty} (hg : Gl X x) (hm : X.mg x = none) (hv : bootBuiltins x = some (.builtin "isinstance")) (hn : x ≠ "__name__") (hdb : (x == ("__debug__" : Str)) = false)
    (ht : TyNm X y t) (ha : PE X a (tE xt X.KK W C ea)) (hs : starEach (a :: [.Name y p2]) X.env = (false, eval a X.env) :: starEach [.Name y p2] X.env) :
    PE X (.Call (.Name x p) [a, .Name y p2] [] pos) (tE xt X.KK W C (.isi ea [t])) := by
  refine pe_imp (pe_callB call_isi hg hm hv (pa_cons ha (pa_cons ht.pe pa_nil) hs) hn hdb hs (by rfl)) fun σ H Q ⟨ρ, F, T, L, E, h⟩ => ⟨ρ, F, T, L, E, Out.mono (Out.bind h) ?_⟩
  rintro r ρ1 H1 F1 ⟨E1, S1, h1⟩ v R E1' re new
  obtain ⟨d, hd, h2⟩ := of_bind h1
  refine ⟨v, _, _, _, _, rfl, .ty _, ty_of (Re.vw E1 (fun _ z => z) re (noK_of hd).1).rp (noK_of hd).2, kit_ty (kit_is d t), ?_⟩
  have e : isTy d t = ([t].any (isTy d)) := by simp
  rw [e]
  exact PV.sh h2 E1 (.bl _) S1.dom
theorem pa_tys {ys : List (Str × Pos)} : ∀ {ts : List Ty}, Paired (fun (y : Str × Pos) t => TyNm X y.1 t) ys ts → PA X (ys.map fun y => Expr.Name y.1 y.2) (fun _ H Q => Q (ts.map fun t => V.ty t.nm) H) := by
  induction ys with
  | nil => intro ts h; cases h; exact pa_imp pa_nil fun _ _ _ q => q
  | cons y ys ih => intro ts h; cases h with | cons h1 h2 => exact pa_imp (pa_cons h1.pe (ih h2) (by rfl)) fun _ _ _ q => q
theorem cls_tys : ∀ ts : List Ty, Paired ClsV (ts.map fun t => V.ty t.nm) (ts.map fun t => Value.type t.nm)
  | [] => .nil
  | t :: ts => .cons (.ty _) (cls_tys ts)
theorem ex_isiT {x : Str} {p p2 : Pos} {k : Nat} {ys : List (Str × Pos)} {ts : List Ty} (hg : Gl X x) (hm : X.mg x = none) (hv : bootBuiltins x = some (.builtin "isinstance")) (hn : x ≠ "__name__") (hdb : (x == ("__debug__" : Str)) = false)
    (ht : Paired (fun (y : Str × Pos) t => TyNm X y.1 t) ys ts) (hl : ts.length ≤ 10) (ha : PE X a (tE xt X.KK W C ea)) (hs : starEach (a :: [.Tuple (ys.map fun y => Expr.Name y.1 y.2) k p2]) X.env = (false, eval a X.env) :: starEach [.Tuple (ys.map fun y => Expr.Name y.1 y.2) k p2] X.env) :
    PE X (.Call (.Name x p) [a, .Tuple (ys.map fun y => Expr.Name y.1 y.2) k p2] [] pos) (tE xt X.KK W C (.isi ea ts)) := by
  refine pe_imp (pe_callB call_isiT hg hm hv (pa_cons ha (pa_cons (pe_tup (pa_tys ht)) pa_nil) hs) hn hdb hs (by rfl)) fun σ H Q ⟨ρ, F, T, L, E, h⟩ => ⟨ρ, F, T, L, E, Out.mono (Out.bind h) ?_⟩
  rintro r ρ1 H1 F1 ⟨E1, S1, h1⟩ v R E1' re new
  obtain ⟨d, hd, h2⟩ := of_bind h1
  have vd := (Re.vw E1 (fun _ z => z) re (noK_of hd).1).rp
  refine ⟨by rw [List.length_map, sizeLine_eq]; omega, fun q hq => ?_⟩
  refine ⟨v, q, _, _, _, _, rfl, upd_same, cls_tys ts, ty_of (Rp.mono (ext_upd hq) _ _ vd) (noK_of hd).2, kit_all X.KK d ts, ?_⟩
  have n : Nw X.KK (hS F1 T) H1 (upd H1 q (.tup (ts.map fun t => V.ty t.nm))) (.bl (ts.any (isTy d))) (.sh (.bl (ts.any (isTy d)))) fun _ => False := ⟨ext_upd hq, fun _ z => z.elim, .sh (.bl _)⟩
  exact PV.fin h2 E1 n S1.dom

/-! ### what is changed in its place -/
section
variable {K : KW} {L : Nat → Lk} {σ : L2.St} {ρ : Env} {H : Hp} {F : Nat → FP} {T : FP}
theorem hid_hit {S : FP} {H : Hp} {p : Addr} {o : HO} (h : S p) : hid S (upd H p o) = hid S H := by
  funext b
  unfold hid
  by_cases e : S b
  · rw [if_pos e, if_pos e]
  · rw [if_neg e, if_neg e, upd_ne fun z => e (by rw [z]; exact h)]
theorem En.upd {i : Nat} {p : Addr} {o : HO} {s : Sl} (E : En K L σ ρ H F T) (hi : i < ρ.length) (hF : ∀ b, F i b ↔ b = p) (hs : σ[i]? = some (some (.ref p))) (g : So K (L i) (hid (hS F T) H) (upd H p o) (.ref p) s fun b => b = p) : En K L σ (ρ.set i s) (L2.upd H p o) F T where
  len := by rw [List.length_set]; exact E.len
  at_ := fun j t e => by
    have hp : hS F T p := .inl ⟨i, (hF p).mpr rfl⟩
    rw [hid_hit hp]
    by_cases hj : j = i
    · subst hj
      rw [List.getElem?_set_self hi] at e
      cases e
      refine .inr ⟨_, hs, ?_⟩
      have e2 : F j = fun b => b = p := funext fun b => propext (hF b)
      rw [e2]
      exact g
    · rw [List.getElem?_set_ne (Ne.symm hj)] at e
      refine (E.at_ j t e).imp id fun ⟨v, h1, h2⟩ => ⟨v, h1, h2.mono (fun _ _ z => z) fun b o fb z => ?_⟩
      rw [upd_ne fun q => hj (E.dis j i b fb ((hF b).mpr q))]
      exact z
  out := fun j a hj => by rw [List.length_set] at hj; exact E.out j a hj
  dis := E.dis
  tdis := E.tdis
  tl := fun b z => by
    by_cases q : b = p
    · subst q; rw [upd_same]; exact fun z => nomatch z
    · rw [upd_ne q]; exact E.tl b z
  lks := fun j a xs e => by
    obtain ⟨z1, z2⟩ := E.lks j a xs e
    refine ⟨z1, ?_⟩
    rw [upd_ne fun q => E.tdis a z1 ⟨i, (hF a).mpr q⟩]
    exact z2
theorem Stp.upd {S : FP} {p : Addr} {o : HO} (h : S p) : Stp S H S (L2.upd H p o) where
  keep := fun b u n e => by
    rw [upd_ne fun q => n (by rw [q]; exact h)]
    exact e
  dom := fun b e => by
    by_cases q : b = p
    · subst q; rw [upd_same]; exact fun z => nomatch z
    · rw [upd_ne q]; exact e
  sub := fun a z => .inl z
theorem En.updT {p : Addr} {o : HO} (E : En K L σ ρ H F T) (h : T p) (hk : ∀ i a xs, L i = some (a, xs) → a ≠ p) : En K L σ ρ (L2.upd H p o) F T where
  len := E.len
  at_ := fun j t e => by
    rw [hid_hit (.inr h)]
    refine (E.at_ j t e).imp id fun ⟨v, h1, h2⟩ => ⟨v, h1, h2.mono (fun _ _ z => z) fun b o fb z => ?_⟩
    rw [upd_ne fun q => E.tdis p h ⟨j, by rw [← q]; exact fb⟩]
    exact z
  out := E.out
  dis := E.dis
  tdis := E.tdis
  tl := fun b z => by
    by_cases q : b = p
    · subst q; rw [upd_same]; exact fun z => nomatch z
    · rw [upd_ne q]; exact E.tl b z
  lks := fun j a xs e => by
    obtain ⟨z1, z2⟩ := E.lks j a xs e
    exact ⟨z1, by rw [upd_ne (hk j a xs e)]; exact z2⟩
/-- an owned list at a slot -/
theorem En.lst {i : Nat} {xs : List D} (E : En K L σ ρ H F T) (e : ρ.get i = .ol xs) : ∃ p vs, i < ρ.length ∧ σ[i]? = some (some (.ref p)) ∧ H p = some (.lst vs) ∧ Rps K (hid (hS F T) H) vs xs ∧ ∀ b, F i b ↔ b = p := by
  obtain ⟨w, h1, h2⟩ := E.get e (by intro z; cases z)
  have hi : i < ρ.length := (List.getElem?_eq_some_iff.mp (get_of e (by intro z; cases z))).1
  generalize hG : F i = G at h2
  cases h2 with | ol e2 g => exact ⟨_, _, hi, h1, e2, g, fun b => Iff.rfl⟩
theorem En.dct {i : Nat} {xs : List (List Nat × D)} (E : En K L σ ρ H F T) (e : ρ.get i = .od xs) : ∃ p vs, i < ρ.length ∧ σ[i]? = some (some (.ref p)) ∧ H p = some (.dK vs) ∧ KVs K (hid (hS F T) H) vs xs ∧ ∀ b, F i b ↔ b = p := by
  obtain ⟨w, h1, h2⟩ := E.get e (by intro z; cases z)
  have hi : i < ρ.length := (List.getElem?_eq_some_iff.mp (get_of e (by intro z; cases z))).1
  generalize hG : F i = G at h2
  cases h2 with | od e2 g => exact ⟨_, _, hi, h1, e2, g, fun b => Iff.rfl⟩
theorem En.dnl {i : Nat} {xs : List (Mp.D × Mp.D)} (E : En K L σ ρ H F T) (e : ρ.get i = .dn xs) : ∃ p, i < ρ.length ∧ σ[i]? = some (some (.ref p)) ∧ DnAt K (hid (hS F T) H) H p xs ∧ ∀ b, F i b ↔ b = p := by
  obtain ⟨w, h1, h2⟩ := E.get e (by intro z; cases z)
  have hi : i < ρ.length := (List.getElem?_eq_some_iff.mp (get_of e (by intro z; cases z))).1
  generalize hG : F i = G at h2
  cases h2 with | dn g => exact ⟨_, hi, h1, g, fun b => Iff.rfl⟩
end
/-! ### methods of lists -/
theorem Rps.one {K : KW} {H : Hp} {vs : List V} {d : D} (h : Rps K H vs [d]) : ∃ v, vs = [v] ∧ Rp K H v d := by
  cases h with | cons a t => cases t; exact ⟨_, rfl, a⟩
def Mu.nm : Mu → Str
  | .append => "append"
  | .extend => "extend"
  | .insert => "insert"
  | .pop => "pop"
  | .clear => "clear"
  | .reverse => "reverse"
  | .setdefault => "setdefault"
  | .update => "update"
theorem mu_guard {i : Nat} {m : Mu} {ρ : Env} {K : KW} {L : Nat → Lk} {σ : L2.St} {H : Hp} {F : Nat → FP} {T : FP} {P : Sl → Env → Hp → (Nat → FP) → Prop} (h : Out xt K L W σ H F T (evE C (.mu m i as) ρ) P) :
    ∃ xs, ρ.get i = .ol xs ∧ Out xt K L W σ H F T ((evF C as ρ).bind fun r => (Z.of (muF m (r.2.get i) r.1)).bind fun z => .ok (.sh z.1, r.2.set i z.2)) P := by
  simp only [evE] at h
  cases e : ρ.get i with
  | ol xs =>
    rw [e] at h
    exact ⟨xs, rfl, h⟩
  | un => rw [e] at h; exact h.elim
  | sh _ => rw [e] at h; exact h.elim
  | lk _ => rw [e] at h; exact h.elim
  | od _ => rw [e] at h; exact h.elim
  | dn _ => rw [e] at h; exact h.elim
  | td _ _ => rw [e] at h; exact h.elim
  | oi _ _ => rw [e] at h; exact h.elim
  | pk _ => rw [e] at h; exact h.elim
/-- the end of a change -/
theorem mu_fin {i : Nat} {d : D} {ys : List D} {ρ : Env} {L : Nat → Lk} {σ : L2.St} {H0 H : Hp} {F0 F : Nat → FP} {T : FP} {Q : VK} {p : Addr} {us : List V} {v : V} (E : En X.KK L σ ρ H F T) (hi : i < ρ.length) (hF : ∀ b, F i b ↔ b = p) (hs : σ[i]? = some (some (.ref p)))
    (h : Out xt X.KK L W σ H F T (.ok (.sh d, ρ.set i (.ol ys))) (PV X.KK L σ H0 F0 T Q)) (r : Rps X.KK (hid (hS F T) H) us ys) (rv : Rp X.KK (hid (hS F T) H) v d) (dom : ∀ a, H0 a ≠ none → H a ≠ none) : Q v (upd H p (.lst us)) := by
  have E2 := E.upd (o := .lst us) hi hF hs (.ol upd_same r)
  have hp : hS F T p := .inl ⟨i, (hF p).mpr rfl⟩
  exact Out.ok h E2 (Stp.upd ⟨i, (hF p).mpr rfl⟩) v (fun _ => False) E2.none (Re.of (.sh (by rw [hid_or, hid_hit hp]; exact rv)) fun _ z => z.elim) fun _ z => z.elim
section
variable {x : Str} {i : Nat} {p apos cpos : Pos} {e : Expr}
/-- a method with one argument: append, extend -/
theorem ex_mu1 (m : Mu) (hm : m = .append) (hN : X.N[i]? = some x) (hv : Vis X.env.scope x) (hd : (x == ("__debug__" : Str)) = false) (hcd : (x == ("__classdict__" : Str)) = false) (ha : PA X [e] (tF xt X.KK W C as))
    (hbase : attributeBase (.Name x p) m.nm X.env (eval (.Name x p) X.env) = eval (.Name x p) X.env)
    (hfew : ((backTo cpos (starEach [e] X.env)).all (fun x => !x.1) && (backToKw cpos (keywordEach [] X.env)).all (fun x => x.1.isSome)
      && decide ([e].length + ([] : List Keyword).length + (if ([] : List Keyword).isEmpty then 0 else 1) < 30)) = true)
    (hline : (apos.endLine == cpos.line) = true) (hs : starEach [e] X.env = (false, eval e X.env) :: starEach [] X.env) :
    PE X (.Call (.Attribute (.Name x p) m.nm apos) [e] [] cpos) (tE xt X.KK W C (.mu m i as)) := by
  subst hm
  refine pe_imp (pe_bm PySem.F.plainAttrs_list PySem.F.slot_list_append PySem.F.type_list_append mt_append (pe_var hN hv hd hcd) ha hbase hfew hline hs (by rfl)) fun σ H Q ⟨ρ, F, T, L, E, h⟩ => ?_
  obtain ⟨xs, e0, h0⟩ := mu_guard h
  obtain ⟨q, vs, hi, hs, hq, rq, hF⟩ := E.lst e0
  refine ⟨_, hs, .inl ⟨rfl, vs, .inl (.inl hq)⟩, ρ, F, T, L, E, Out.mono (Out.bind h0) ?_⟩
  rintro ds ρ1 H1 F1 ⟨E1, S1, h1⟩ _ us rs
  obtain ⟨⟨d, s'⟩, hz, h2⟩ := of_bind h1
  dsimp only at hz h2
  cases e1 : ρ1.get i with
  | ol ys =>
    rw [e1] at hz
    obtain ⟨q1, vs1, hi1, hs1, hq1, rq1, hF1⟩ := E1.lst e1
    rw [hs] at hs1
    cases hs1
    cases ds with
    | nil => cases hz
    | cons d0 ds =>
      cases ds with
      | cons _ _ => cases hz
      | nil =>
        obtain ⟨y, rfl, ry⟩ := rs.one
        simp only [muF] at hz
        split at hz
        · rename_i hl
          cases hz
          exact ⟨q, vs1, y, rfl, rfl, hq1, by rw [rq1.length, ← lim_line]; exact hl, mu_fin E1 hi1 hF1 hs h2 (rq1.append (.cons ry .nil)) .non S1.dom⟩
        · cases hz
  | un => rw [e1] at hz; cases hz
  | sh _ => rw [e1] at hz; cases hz
  | lk _ => rw [e1] at hz; cases hz
  | od _ => rw [e1] at hz; cases hz
  | dn _ => rw [e1] at hz; cases hz
  | td _ _ => rw [e1] at hz; cases hz
  | oi _ _ => rw [e1] at hz; cases hz
  | pk _ => rw [e1] at hz; cases hz
/-- a method's reading where the list is changed -/
theorem mu_core {i : Nat} {m : Mu} {σ : L2.St} {H : Hp} {Q : VK} {r : V → List V → Hp → VK → Prop} {t : TA} (ht : ∀ σ H Q, tF xt X.KK W C as σ H Q → t σ H Q)
    (hr : ∀ {ρ1 : Env} {L : Nat → Lk} {H0 H1 : Hp} {F0 F1 : Nat → FP} {T : FP} {q : Addr} {us : List V} {ds xs : List D} {vs : List V} {z : D × Sl}, En X.KK L σ ρ1 H1 F1 T → i < ρ1.length → (∀ b, F1 i b ↔ b = q) → σ[i]? = some (some (.ref q)) → H1 q = some (.lst vs) → Rps X.KK (hid (hS F1 T) H1) vs xs → Rps X.KK (hid (hS F1 T) H1) us ds → (∃ ρ, evF C as ρ = .ok (ds, ρ1)) → muF m (.ol xs) ds = some z →
      Out xt X.KK L W σ H1 F1 T (.ok (.sh z.1, ρ1.set i z.2)) (PV X.KK L σ H0 F0 T Q) → (∀ a, H0 a ≠ none → H1 a ≠ none) → r (.ref q) us H1 Q)
    (h : tE xt X.KK W C (.mu m i as) σ H Q) : ∃ q vs, σ[i]? = some (some (.ref q)) ∧ H q = some (.lst vs) ∧ t σ H fun us H1 => r (.ref q) us H1 Q := by
  obtain ⟨ρ, F, T, L, E, h⟩ := h
  obtain ⟨xs, e0, h0⟩ := mu_guard h
  obtain ⟨q, vs, hi, hs, hq, rq, hF⟩ := E.lst e0
  refine ⟨q, vs, hs, hq, ht σ H _ ⟨ρ, F, T, L, E, Out.monoE (Out.bind h0) ?_⟩⟩
  rintro ds ρ1 H1 F1 eq ⟨E1, S1, h1⟩ _ us rs
  obtain ⟨z, hz, h2⟩ := of_bind h1
  dsimp only at hz h2
  cases e1 : ρ1.get i with
  | ol ys =>
    rw [e1] at hz
    obtain ⟨q1, vs1, hi1, hs1, hq1, rq1, hF1⟩ := E1.lst e1
    rw [hs] at hs1
    cases hs1
    exact hr E1 hi1 hF1 hs hq1 rq1 rs ⟨ρ, eq⟩ hz h2 S1.dom
  | un => rw [e1] at hz; cases m <;> cases hz
  | sh _ => rw [e1] at hz; cases m <;> cases hz
  | lk _ => rw [e1] at hz; cases m <;> cases hz
  | od _ => rw [e1] at hz; cases m <;> cases hz
  | dn _ => rw [e1] at hz; cases m <;> cases hz
  | td _ _ => rw [e1] at hz; cases m <;> cases hz
  | oi _ _ => rw [e1] at hz; cases m <;> cases hz
  | pk _ => rw [e1] at hz; cases m <;> cases hz
theorem ex_extend (hN : X.N[i]? = some x) (hv : Vis X.env.scope x) (hd : (x == ("__debug__" : Str)) = false) (hcd : (x == ("__classdict__" : Str)) = false) (ha : PA X [e] (tF xt X.KK W C as))
    (hfew : ((backTo cpos (starEach [e] X.env)).all (fun x => !x.1) && (backToKw cpos (keywordEach [] X.env)).all (fun x => x.1.isSome)
      && decide ([e].length + ([] : List Keyword).length + (if ([] : List Keyword).isEmpty then 0 else 1) < 30)) = true)
    (hline : (apos.endLine == cpos.line) = true) (hs : starEach [e] X.env = (false, eval e X.env) :: starEach [] X.env) :
    PE X (.Call (.Attribute (.Name x p) "extend" apos) [e] [] cpos) (tE xt X.KK W C (.mu .extend i as)) := by
  refine pe_imp (pe_bm PySem.F.plainAttrs_list PySem.F.slot_list_extend PySem.F.type_list_extend mt_extend (pe_var hN hv hd hcd) ha rfl hfew hline hs (by rfl)) fun σ H Q q => ?_
  obtain ⟨a, vs, h1, h2, h3⟩ := mu_core (r := rExtend) (fun _ _ _ z => z) (fun {ρ1 L H0 H1 F0 F1 T q us ds xs vs z} E1 hi hF hs hq rq rs _ hz h2 dom => by
    cases ds with
    | nil => cases hz
    | cons d0 ds =>
      cases ds with
      | cons _ _ => cases d0 <;> cases hz
      | nil =>
        cases d0 with
        | lst ys =>
          simp only [muF] at hz
          split at hz
          · rename_i hl
            cases hz
            obtain ⟨w, rfl, rw'⟩ := rs.one
            cases rw' with | lst s r =>
            exact ⟨q, _, vs, _, rfl, rfl, hq, hid_sub _ _ s, by rw [rq.length, r.length, ← lim_line]; exact hl, mu_fin E1 hi hF hs h2 (rq.append r) .non dom⟩
          · cases hz
        | _ => cases hz) q
  exact ⟨_, h1, .inl ⟨rfl, vs, .inl (.inl h2)⟩, h3⟩
/-! methods without arguments -/
theorem ex_reverse (hN : X.N[i]? = some x) (hv : Vis X.env.scope x) (hd : (x == ("__debug__" : Str)) = false) (hcd : (x == ("__classdict__" : Str)) = false) (hline : (apos.endLine == cpos.line) = true) :
    PE X (.Call (.Attribute (.Name x p) "reverse" apos) [] [] cpos) (tE xt X.KK W C (.mu .reverse i .nil)) := by
  refine pe_imp (pe_bm0 PySem.F.plainAttrs_list PySem.F.slot_list_reverse PySem.F.type_list_reverse mt_reverse (pe_var hN hv hd hcd) rfl hline) fun σ H Q ⟨ρ, F, T, L, E, h⟩ => ?_
  obtain ⟨xs, e0, h0⟩ := mu_guard h
  obtain ⟨q, vs, hi, hs, hq, rq, hF⟩ := E.lst e0
  simp only [evF, Z.bind, e0, muF, Z.of] at h0
  exact ⟨_, hs, .inl ⟨rfl, vs, .inl (.inl hq)⟩, q, vs, rfl, rfl, hq, mu_fin E hi hF hs h0 rq.reverse .non fun _ z => z⟩
theorem ex_clear (hN : X.N[i]? = some x) (hv : Vis X.env.scope x) (hd : (x == ("__debug__" : Str)) = false) (hcd : (x == ("__classdict__" : Str)) = false) (hline : (apos.endLine == cpos.line) = true) :
    PE X (.Call (.Attribute (.Name x p) "clear" apos) [] [] cpos) (tE xt X.KK W C (.mu .clear i .nil)) := by
  refine pe_imp (pe_bm0 PySem.F.plainAttrs_list PySem.F.slot_list_clear PySem.F.type_list_clear mt_clear (pe_var hN hv hd hcd) rfl hline) fun σ H Q ⟨ρ, F, T, L, E, h⟩ => ?_
  obtain ⟨xs, e0, h0⟩ := mu_guard h
  obtain ⟨q, vs, hi, hs, hq, rq, hF⟩ := E.lst e0
  simp only [evF, Z.bind, e0, muF, Z.of] at h0
  exact ⟨_, hs, .inl ⟨rfl, vs, .inl (.inl hq)⟩, q, vs, rfl, rfl, hq, mu_fin E hi hF hs h0 .nil .non fun _ z => z⟩
theorem Rps.eraseIdx {K : KW} {H : Hp} : ∀ {ds : List D} {vs : List V} (k : Nat), Rps K H vs ds → Rps K H (vs.eraseIdx k) (ds.eraseIdx k)
  | _, _, _, .nil => .nil
  | _ :: _, _ :: _, 0, .cons _ b => b
  | _ :: _, _ :: _, k + 1, .cons a b => .cons a (Rps.eraseIdx k b)
theorem ex_popAt {e1 : Ex} (hN : X.N[i]? = some x) (hv : Vis X.env.scope x) (hd : (x == ("__debug__" : Str)) = false) (hcd : (x == ("__classdict__" : Str)) = false) (ha : PA X [e] (tF xt X.KK W C (.cons e1 .nil)))
    (hfew : ((backTo cpos (starEach [e] X.env)).all (fun x => !x.1) && (backToKw cpos (keywordEach [] X.env)).all (fun x => x.1.isSome)
      && decide ([e].length + ([] : List Keyword).length + (if ([] : List Keyword).isEmpty then 0 else 1) < 30)) = true)
    (hline : (apos.endLine == cpos.line) = true) (hs : starEach [e] X.env = (false, eval e X.env) :: starEach [] X.env) :
    PE X (.Call (.Attribute (.Name x p) "pop" apos) [e] [] cpos) (tE xt X.KK W C (.mu .pop i (.cons e1 .nil))) := by
  refine pe_imp (pe_bm PySem.F.plainAttrs_list PySem.F.slot_list_pop PySem.F.type_list_pop mt_popAt (pe_var hN hv hd hcd) ha rfl hfew hline hs (by rfl)) fun σ H Q q => ?_
  obtain ⟨a, vs, h1, h2, h3⟩ := mu_core (r := rPopAt) (fun _ _ _ z => z) (fun {ρ1 L H0 H1 F0 F1 T q us ds xs vs z} E1 hi hF hs hq rq rs ev hz h2 dom => by
    obtain ⟨ρ, ev⟩ := ev
    simp only [evF] at ev
    obtain ⟨r1, _, ev⟩ := bind_ok ev
    obtain ⟨q1, _, ev⟩ := bind_ok ev
    cases ev
    obtain ⟨w, rfl, rw'⟩ := rs.one
    cases hq1 : q1.1 with
    | int k =>
      rw [hq1] at rw' hz
      cases rw'
      simp only [muF] at hz
      split at hz
      · rename_i hb
        cases hx : xs[k.toNat]? with
        | none => rw [hx] at hz; cases hz
        | some d =>
          rw [hx] at hz
          cases hz
          obtain ⟨v, hv, rv⟩ := rq.get hx
          have hlt : k.toNat < vs.length := (List.getElem?_eq_some_iff.mp hv).1
          exact ⟨q, vs, k, k.toNat, v, rfl, rfl, hq, by omega, hb.2, PySem.StrLaws.seqIndex_nonneg hb.1 (by omega), hv, mu_fin E1 hi hF hs h2 (rq.eraseIdx k.toNat) rv dom⟩
      · cases hz
    | _ => rw [hq1] at hz; cases hz) q
  exact ⟨_, h1, .inl ⟨rfl, vs, .inl (.inl h2)⟩, h3⟩
end
end
end Mp
namespace Mp
open PySem PySem.Spec PyProof.Rows L2
section
variable {xt : XT} {W : WX} {C : Ctx} {X : Cx} {a b c : Expr} {ea eb ec : Ex} {pos : Pos} {es : List Expr} {as : Exs}
/-! ### a display of a dict -/
/-- the pairs of a display -/
def PPd (xt : XT) (W : WX) (C : Ctx) (X : Cx) (pos : Pos) (keys : List (Option Expr)) (values : List Expr) (ks : List (List Nat)) (as : Exs) : Prop :=
  ∃ trs, PPs X pos keys values trs ∧ ∀ σ H (Q : List (V × V) → Hp → Prop), (∃ ρ F T L, En X.KK L σ ρ H F T ∧ Out xt X.KK L W σ H F T (evF C as ρ) (fun ds ρ' H' F' => En X.KK L σ ρ' H' F' T → ks.length = ds.length ∧ ∀ vs, Rps X.KK (hid (hS F' T) H') vs ds → Q ((ks.zip vs).map fun p => (V.str (sOf p.1), p.2)) H')) → tPairs trs σ H Q
theorem ppd_nil : PPd xt W C X pos [] [] [] .nil := ⟨[], pps_nil, fun σ H Q ⟨ρ, F, T, L, E, h⟩ => (Out.ok h E Stp.refl E).2 [] .nil⟩
theorem ppd_cons {k : List Nat} {j : Nat} {p : Pos} {v : Expr} {keys : List (Option Expr)} {values : List Expr} {ks : List (List Nat)} (hv : PE X v (tE xt X.KK W C ea)) (h : PPd xt W C X pos keys values ks as) :
    PPd xt W C X pos (some (.Constant (.str (sOf k)) j p) :: keys) (v :: values) (k :: ks) (.cons ea as) := by
  obtain ⟨trs, h1, h2⟩ := h
  refine ⟨_, pps_cons pe_str hv h1, fun σ H Q ⟨ρ, F, T, L, E, h⟩ => ?_⟩
  refine ⟨ρ, F, T, L, E, Out.mono (Out.bind h) ?_⟩
  rintro r ρ1 H1 F1 ⟨E1, S1, g1⟩ w R E1' re new
  obtain ⟨⟨d, ρ2⟩, e1, g2⟩ := of_bind g1
  obtain ⟨F2, E2, rp, lt⟩ := fz_ok E1 (fun _ z => z) re (fun _ z => .inl z) e1
  have g3 := Out.step g2 (Stp.less (H := H1) lt)
  refine h2 σ H1 _ ⟨ρ2, F2, T, L, E2, Out.mono (Out.bind g3) ?_⟩
  rintro ds ρ3 H3 F3 ⟨E3, S3, g4⟩ _
  obtain ⟨l1, l2⟩ := Out.ok g4 E3 Stp.refl E3
  exact ⟨by simpa using l1, fun vs rs => l2 (w :: vs) (.cons (Rp.step rp S3.held0) rs)⟩
theorem mergeK_nil : ∀ (kvs acc : List (Key × V)), (∀ p ∈ kvs, valV acc p.1 = none) → (kvs.map (·.1)).Nodup → mergeK acc kvs = acc ++ kvs
  | [], acc, _, _ => by simp [mergeK]
  | p :: kvs, acc, h, n => by
    have e : mergeK acc (p :: kvs) = mergeK (putK acc p.1 p.2) kvs := rfl
    rw [e, putK_new p.2 (h p List.mem_cons_self)]
    rw [List.map_cons, List.nodup_cons] at n
    rw [mergeK_nil kvs _ (fun q hq => ?_) n.2, List.append_assoc]
    · rfl
    · rw [valV_snoc _ _ _ _ (h p List.mem_cons_self), if_neg, h q (List.mem_cons_of_mem _ hq)]
      intro z
      exact n.1 (by rw [← z]; exact List.mem_map_of_mem hq)
theorem kvs_zip {K : KW} {H : Hp} : ∀ {ks : List (List Nat)} {vs : List V} {ds : List D}, ks.length = ds.length → Rps K H vs ds → KVs K H ((ks.zip vs).map fun p => ((Sum.inr (sOf p.1) : Key), p.2)) (ks.zip ds)
  | [], _, [], _, h => by cases h; exact .nil
  | k :: ks, _, d :: ds, e, h => by
    cases h with | cons a t =>
    exact .cons ⟨rfl, a⟩ (kvs_zip (by simpa using e) t)
theorem ex_dct {keys : List (Option Expr)} {values : List Expr} {ks : List (List Nat)} (hp : PPd xt W C X pos keys values ks as) (hall : keys.all (·.isSome) = true) (hl : keys.length = values.length) (h0 : keys ≠ []) (h15 : keys.length ≤ 15) :
    PE X (.Dict keys values pos) (tE xt X.KK W C (.dct ks as)) := by
  obtain ⟨trs, p1, p2⟩ := hp
  refine pe_imp (pe_disp p1 hall hl h0 h15) fun σ H Q ⟨ρ, F, T, L, E, h⟩ p hpn => ?_
  have E' : En X.KK L σ ρ (upd H p (.dK [])) F (fun a => T a ∨ a = p) := E.grow (ext_upd hpn) (fun a z => by rw [z]; exact hpn) (fun a z => by rw [z, upd_same]; exact fun z => nomatch z)
  have st : Stp (U F) H (U F) (upd H p (.dK [])) := Stp.ext (ext_upd hpn)
  refine p2 σ _ _ ⟨ρ, F, _, L, E', Out.mono (Out.held (Out.bindS h st) E.lkT) ?_⟩
  rintro ds ρ1 H1 F1 ⟨E1, S1, g1⟩ E1'
  obtain ⟨⟨l1, l2, l3⟩, g2⟩ := if_out g1
  have l1 : ks.length = ds.length := l1
  refine ⟨l1, fun vs rs => ?_⟩
  have np : ¬ U F p := fun ⟨i, z⟩ => E.live i p z hpn
  have e1 : H1 p = some (.dK []) := S1.keep p _ np upd_same
  have kv := kvs_zip l1 rs
  refine ⟨e1, (ks.zip vs).map fun q => ((Sum.inr (sOf q.1) : Key), q.2), ?_, ?_, ?_⟩
  · rw [List.map_map]
    rfl
  · rw [List.length_map, List.length_zip]
    omega
  · have nd : (((ks.zip vs).map fun q => ((Sum.inr (sOf q.1) : Key), q.2)).map (·.1)).Nodup := by
      rw [List.map_map]
      have : ((fun q : Key × V => q.1) ∘ fun q : List Nat × V => ((Sum.inr (sOf q.1) : Key), q.2)) = (fun k : List Nat => (Sum.inr (sOf k) : Key)) ∘ (fun q : List Nat × V => q.1) := rfl
      rw [this, ← List.map_map]
      have e2 : (ks.zip vs).map (fun q : List Nat × V => q.1) = ks := by
        rw [List.map_fst_zip]
        rw [rs.length]
        omega
      rw [e2]
      exact List.Pairwise.map _ (fun x y n z => n (sOf_inj (Sum.inr.inj z))) l3
    rw [mergeK_nil _ [] (fun _ _ => rfl) nd, List.nil_append]
    have E3 := E1'.updT (p := p) (o := .dK ((ks.zip vs).map fun q => ((Sum.inr (sOf q.1) : Key), q.2))) (.inr rfl) fun i a xs e z => E.tl a (E.lkT i a xs e) (by rw [z]; exact hpn)
    refine Out.ok g2 (E3.drop E1.lkT) ⟨fun b u n e => ?_, fun b e => ?_, fun a z => ?_⟩ (.ref p) (fun b => b = p) E3 (Re.of (.od upd_same (kv.mono fun b u e => ?_)) fun a z w => ?_) fun a z => by rw [z]; exact (.inr hpn)
    · have nb : b ≠ p := fun z => by rw [z, hpn] at e; cases e
      rw [upd_ne nb]
      exact S1.keep b u n (by rw [upd_ne nb]; exact e)
    · by_cases q : b = p
      · subst q; rw [upd_same]; exact fun z => nomatch z
      · rw [upd_ne q]
        exact S1.dom b (by rw [upd_ne q]; exact e)
    · exact (st.trans S1).sub a z
    · rw [hid_some] at e ⊢
      refine ⟨fun z => e.1 ?_, ?_⟩
      · rcases z with (z | z) | z
        · exact .inl z
        · exact .inr (.inl z)
        · exact .inr (.inr z)
      · rw [upd_ne fun z => e.1 (.inr (.inr z))]
        exact e.2
    · subst z
      rcases w with w | w
      · rcases S1.sub a w with ⟨i, w⟩ | w
        · exact E.live i a w hpn
        · rw [upd_same] at w; exact nomatch w
      · exact E.tl a w hpn
end
end Mp
namespace Mp
open PySem PySem.Spec PyProof.Rows L2
/-! # a def's promise where no repr is under way -/
structure FnG (pr : Program) (wd : World) (fr : PySem.W.Frag) (tops : Str → Option Value) (bs : Heap) (cx : CXT) (lv : Nat) (at_ : Addr) (data : FuncData) (names : List Str) (sp : Sp) : Prop where
  len : ∀ vs H Q E, sp vs H Q E → vs.length = names.length
  run : ∀ (A : Around) (outer : List PySem.Env) (s : Shared) (H : Hp) (args : Args) (us : List Value) (vs : List V) (Q : VK) (E : XK), A.guards = some [] → Room lv A → Env0 pr wd fr tops bs A outer s H → BindsTo s data args (names.zip us) → Vals vs us → sp vs H Q E →
    codeAny (model pr wd) A (.call (.ref at_) args) (CR cx outer pr wd H s Q E) s
section
variable {pr : Program} {wd : World} {fr : PySem.W.Frag} {tops : Str → Option Value} {bs : Heap} {cx : CXT} {lv : Nat} {at_ : Addr}
theorem fn_g {nm : Str} {st : Stmt} {data : FuncData} {N ps : List Str} {sp : Sp} (F : Fun fr nm nm st at_ data) (S : FnScope N ps (defScope st)) (len : ∀ vs H Q E, sp vs H Q E → vs.length = ps.length)
    (body : ∀ (cd : Value) (A : Around) (outer : List PySem.Env) (s : Shared) (H : Hp) (vs : List V) (Q : VK) (E : XK), A.guards = some [] → Room lv (A.deeper (envOfC nm (defScope st) s.heap.objs.size at_ cd)) → sp vs H Q E →
      ∃ t, PSs (cxOf cx pr wd fr tops bs N nm (defScope st) at_ cd A outer s H E) (defBody st) t ∧ t { nx := fun _ H' => Q .non H', rt := Q } (L2.start N vs) H) : FnG pr wd fr tops bs cx (lv + 1) at_ data ps sp := by
  obtain ⟨oc, od, kV, doc, pm, an, cd, ct, osl, rfl, lk, hcd⟩ := F.ex
  constructor
  · exact len
  intro A outer s H args us vs Q E gd room e0 binds rel wish
  have hl := len _ _ _ _ wish
  have old : ∀ b o, bs.get? b = some o → s.heap.get? b = some o := fun b o e => (e0.bs b o e).1
  have KX : fr.In s.heap := e0.mod.kin.keeps old
  have lim : s.heap.NoLimit := e0.mod.nolimit.keeps old
  have kinds : ∀ y ∈ ps.zip us, (defScope st).names.lookup y.1 = some .local ∨ ((defScope st).names.lookup y.1 = some .cell ∧ ((cellsFrom (s.heap.objs.size + 1) (defScope st).names []).lookup y.1).isSome = true) := by
    rintro ⟨n, v⟩ hy
    refine (S.par n (List.of_mem_zip hy).1).imp id fun q => ⟨q, PySem.W.cellsFrom_some _ _ _ (.inl q)⟩
  refine codeAny_call_function room.depth (KX _ _ lk) rfl S.co S.gen rfl (PySem.W.codeRec_of KX hcd) (binds _ _ _ _ (wpAny_newFunctionEnv_cells S.kind kinds fun env he s1 x => ?_))
  subst he
  refine ⟨lim.keeps x.toInCall.keep, codeAny_func ?_⟩
  obtain ⟨t, ht, hq⟩ := body cd A outer s H vs Q E gd (room.deeper _) wish
  have start0 := inv_start (CX := cx) (E := E) (qual := nm) S room.hd e0 hl rel x
  refine wpAny_mono (ht.run [] s1 _ H _ start0 hq) (fun fl s' hs => ?_) fun _ _ hs => hs
  cases fl with
  | brk => obtain ⟨_, _, _, q⟩ := hs; exact q.elim
  | cont => obtain ⟨_, _, _, q⟩ := hs; exact q.elim
  | next =>
    obtain ⟨_, H', J, q⟩ := hs
    exact ⟨V.non, H', J.os, J.bare, J.base, J.hok, rfl, q⟩
  | ret u =>
    obtain ⟨v, _, H', J, rv, q⟩ := hs
    exact ⟨v, H', J.os, J.bare, J.base, J.hok, rv, q⟩
end
section
variable {X : Cx} {cx : CXT} {lv : Nat} {at_ : Addr} {data : FuncData} {ps : List Str} {sp : Sp} {E : L2.St → XK}
theorem run_g {pins : List (Addr × Obj)} {σ : L2.St} {H : Hp} {s : Shared} {Q : VK} {us : List Value} {vs : List V} (F : FnG X.prog X.w X.K X.mg X.base cx lv at_ data ps sp) (gd : X.A.guards = some []) (room : Room lv X.A) (hb : Binds X.K data ps []) (hx : PassesAt cx X σ (E σ))
    (I : Inv X pins σ H s) (rel : Vals vs us) (wish : sp vs H Q (E σ)) : wpAny (model X.prog X.w) X.A (call (.ref at_) us) (EP X pins σ Q) X.xe s := by
  have e := F.len _ _ _ _ wish
  have b := hb s us I.kIn (by rw [List.append_nil, ← rel.length]; exact e)
  rw [List.append_nil] at b
  refine wpAny_call (codeAny_mono (F.run X.A X.stack s H ⟨us, []⟩ us vs Q (E σ) gd room I.env0 b rel wish) fun res s' hq => ?_)
  match res, hq with
  | .error e, hq => exact hx pins H s e s' I hq
  | .ok (.ret u), hq => exact I.after hq
  | .ok .next, hq => exact hq.elim
  | .ok .brk, hq => exact hq.elim
  | .ok .cont, hq => exact hq.elim
theorem pe_callG {x : Str} {p pos : Pos} {e : Expr} {es : List Expr} {t : TA} (F : FnG X.prog X.w X.K X.mg X.base cx lv at_ data ps sp) (gd : X.A.guards = some []) (room : Room lv X.A) (hg : Gl X x) (hm : X.mg x = some (.ref at_)) (hk : PySem.W.keepIn X.K (.ref at_) = true) (hb : Binds X.K data ps []) (hx : ∀ σ, PassesAt cx X σ (E σ))
    (ha : PA X (e :: es) t) (hdb : (x == ("__debug__" : Str)) = false) (he : starEach (e :: es) X.env = (false, eval e X.env) :: starEach es X.env) (hpl : (backTo pos (starEach es X.env)).any (·.1) = false) :
    PE X (.Call (.Name x p) (e :: es) [] pos) (tCallSD sp [] E t) := by
  constructor
  intro pins s σ H Q I wish
  refine wpAny_Call_Name_kw (ld_glob I hg hm (PySem.W.callWith_K (h₀ := X.base) I.ok.mod.kin hk (thn (ha.run pos pins s σ H _ I wish) fun us s1 ⟨vs, H1, I1, rel, q⟩ => ⟨I1.kIn, ?_⟩) he hpl) hdb)
  have q : sp (vs ++ []) H1 Q (E σ) := q
  rw [List.append_nil] at q
  exact run_g F gd room hb (hx σ) I1 rel q
end
section
variable {X : Cx} {cx : CXT} {lv : Nat} {at_ : Addr} {data : FuncData} {ps : List Str} {sp : Sp} {E : L2.St → XK}
theorem pe_callG0 {x : Str} {p pos : Pos} (F : FnG X.prog X.w X.K X.mg X.base cx lv at_ data ps sp) (gd : X.A.guards = some []) (room : Room lv X.A) (hg : Gl X x) (hm : X.mg x = some (.ref at_)) (hk : PySem.W.keepIn X.K (.ref at_) = true) (hb : Binds X.K data ps []) (hx : ∀ σ, PassesAt cx X σ (E σ))
    (hdb : (x == ("__debug__" : Str)) = false) : PE X (.Call (.Name x p) [] [] pos) (fun σ H Q => sp [] H Q (E σ)) := by
  constructor
  intro pins s σ H Q I wish
  exact wpAny_Call_Name_kw (ld_glob I hg hm (PySem.W.callWith_K0 I.kIn hk (run_g (us := []) F gd room hb (hx σ) I .nil wish)) hdb)
end
/-! ### the head -/
theorem head_g {pr : Program} {wd : World} {fr : PySem.W.Frag} {tops mb : Str → Option Value} {cx : CXT} {lv : Nat} {fa a : Addr} {data : FuncData} {x : Str} {sp : Sp} {s1 : Shared} {vs : List Value} {ns : List Int}
    (KX : fr.In s1.heap) (g1 : s1.heap.Ns mainGlobals tops) (g2 : s1.heap.Ns builtinsNs mb) (g3 : ∀ x : Str, x ≠ "__name__" → mb x = bootBuiltins x) (lim : s1.heap.NoLimit) (gens : s1.gens = #[])
    (ha : s1.heap.get? a = some { cls := .type "list", data := .seq vs.toArray }) (hw : IntsAre vs ns) (hl : ns.length ≤ sizeLine) (room : Room lv callerA)
    (F : ∀ bs : Heap, fr.In bs → bs.Ns mainGlobals tops → FnG pr wd fr tops bs cx lv fa data [x] sp) (binds : ∀ (s : Shared) (u : Value), BindsTo s data ⟨[u], []⟩ [(x, u)])
    (wish : ∀ H : Hp, SqL fr H a (ns.map V.int) → sp [.ref a] H (fun v _ => v = .bl true) fun _ _ _ => False) (none_out : ∀ H e s', cx [] H s1 (fun _ _ _ => False) e s' → False) :
    codeAny (model pr wd) callerA (.call (.ref fa) ⟨[.ref a], []⟩) (fun r s' => r = .ok (.ret (.bool true)) ∧ OldK s1.heap s'.heap ∧ s'.os = s1.os ∧ AllBare s'.gens) s1 := by
  have rv := vals_ints hw
  have lenV := hw.length
  -- whatever is tracked is the script
  have core : ∀ H : Hp, (∀ b, H b = none ∨ ∃ o xs, H b = some (.frz o (.lst xs))) → SqL fr H a (ns.map V.int) → HOk pr wd H s1.heap → (∀ b, H b ≠ none → b = a) → (H a ≠ none → fr.lookup a = none) →
      codeAny (model pr wd) callerA (.call (.ref fa) ⟨[.ref a], []⟩) (fun r s' => r = .ok (.ret (.bool true)) ∧ OldK s1.heap s'.heap ∧ s'.os = s1.os ∧ AllBare s'.gens) s1 := by
    intro H only hS hok hA hK
    have free : ∀ {b : Addr} {o : Obj}, s1.heap.get? b = some o → (b = a → False) → (hidT s1.heap H).get? b = some o := fun {b o} e n => hidT_get e (Classical.byContradiction fun z => n (hA b z))
    have ns_ok : ∀ {b : Addr} {m : Str → Option Value}, s1.heap.Ns b m → (hidT s1.heap H).Ns b m := by
      rintro b m ⟨o, es, ep, e, d, rest⟩
      refine ⟨o, es, ep, free e fun z => ?_, d, rest⟩
      subst z
      rw [ha] at e
      cases e
      have d' : Data.seq vs.toArray _ = Data.dict es ep := d
      cases d'
    have kin : fr.In (hidT s1.heap H) := fun b o e => by
      refine hidT_get (KX b o e) (Classical.byContradiction fun z => ?_)
      have eb := hA b z
      subst eb
      rw [hK z] at e
      cases e
    have md : Mod fr tops (hidT s1.heap H) := ⟨kin, ns_ok g1, ⟨mb, ns_ok g2, g3⟩, let ⟨mc, h1, h2⟩ := lim; ⟨mc, ns_ok h1, h2⟩⟩
    have e0 : Env0 pr wd fr tops (hidT s1.heap H) callerA [] s1 H := ⟨rfl, md, fun b o e => of_hidT e, Nat.le_of_eq (hidT_size _ _), trivial, fun b hb => (by cases hb), hok, .of_eq gens⟩
    refine codeAny_mono ((F _ kin (ns_ok g1)).run callerA [] s1 H ⟨[.ref a], []⟩ [.ref a] [.ref a] _ _ rfl room e0 (binds s1 (.ref a)) (.cons rfl .nil) (wish H hS)) fun res s' hq => ?_
    match res, hq with
    | .error e, hq => exact (none_out H e s' hq).elim
    | .ok .next, hq => exact hq.elim
    | .ok .brk, hq => exact hq.elim
    | .ok .cont, hq => exact hq.elim
    | .ok (.ret u), hq =>
      obtain ⟨v, H', os, bare, un, hok', rr, q⟩ := hq
      have q' : v = .bl true := q
      subst q'
      have eu : u = Value.bool true := rr
      subst eu
      refine ⟨rfl, OldK.of_keep fun b o e => ?_, os, bare⟩
      rcases only b with z | ⟨ob, xs, z⟩
      · exact un.keep b o e z (fun w => by cases w) (by simp)
      · obtain ⟨e1, _⟩ := hok b _ z
        obtain ⟨e2, _⟩ := hok' b _ (un.frzs b ob _ z)
        rw [e] at e1
        cases e1
        exact e2
  cases hk : fr.lookup a with
  | some o =>
    have e := KX a o hk
    rw [ha] at e
    cases e
    exact core (fun _ => none) (fun _ => .inl rfl) (.inr ⟨_, vs.toArray, _, hk, rfl, rfl, rfl, by rw [List.size_toArray, lenV]; exact hl, by simpa using rv⟩) (fun b u z => by have z' : (none : Option HO) = some u := z; cases z') (fun b z => absurd rfl z) fun z => absurd rfl z
  | none =>
    have at_a : ∀ b, (if b = a then some (HO.frz { cls := .type "list", data := .seq vs.toArray } (.lst (ns.map V.int))) else none) ≠ none → b = a := fun b z => Classical.byContradiction fun w => z (if_neg w)
    refine core (fun b => if b = a then some (.frz { cls := .type "list", data := .seq vs.toArray } (.lst (ns.map V.int))) else none) (fun b => ?_) (.inl (.inr ⟨_, if_pos rfl⟩)) (fun b u z => ?_) at_a fun _ => hk
    · by_cases hb : b = a
      · exact .inr ⟨_, _, if_pos hb⟩
      · exact .inl (if_neg hb)
    · have hb := at_a b fun w => by
        have z2 := w.symm.trans z
        cases z2
      have z' := (if_pos hb).symm.trans z
      cases z'
      subst hb
      exact ⟨ha, by rw [List.length_map]; exact hl, vs, _, rv, ha⟩
theorem walk_g {l : PySem.W.OpenLaw} {n lv : Nat} {q : Program} {loose : List Str} {XP : (Str → Option Value) → Heap → Prop} {YP : World → Heap → Prop} {d : DefRec} {fr : Params → PySem.W.Frag} {cx : World → CXT} {sp : World → Sp} {x : Str}
    (hn : l.most = some n) (hn2 : n ≤ sizeLine) (hdf : d.params.defaults = []) (room : Room lv callerA) (hY : ∀ (w : World) (h : Heap), YP w h → (fr w.params).In h)
    (F : ∀ (w : World) (mg : Str → Option Value) (fa : Addr) (h : Heap), (fr w.params).In h → h.Ns mainGlobals mg → mg d.name = some (.ref fa) →
      ∃ data : FuncData, (∀ (s : Shared) (u : Value), BindsTo s data ⟨[u], []⟩ [(x, u)]) ∧ ∀ bs : Heap, (fr w.params).In bs → bs.Ns mainGlobals mg → FnG l.prog w (fr w.params) mg bs (cx w) lv fa data [x] (sp w))
    (wish : ∀ (w : World) (H : Hp) (a : Addr) (ns : List Int), ns.length ≤ n → (∀ z ∈ ns, Builtin.Int.intBits z ≤ 1048576) → SqL (fr w.params) H a (ns.map V.int) → sp w [.ref a] H (fun v _ => v = .bl true) fun _ _ _ => False)
    (none_out : ∀ (w : World) (H : Hp) (s : Shared) (e : Value) (s' : Shared), cx w [] H s (fun _ _ _ => False) e s' → False) : PySem.W.WalkO q loose XP YP l.row.toRowW d [] (fun f vs => PySem.call f vs) := by
  refine Att.attach_callB hn hdf fun w s0 s1 mg mb fa o pm cd doc a vs ns G Y ho hd hcd hmg hobj hints hlen hbits hg => ?_
  obtain ⟨data, hb, hF⟩ := F w mg fa _ (hY w _ Y) G.T.g hmg
  exact head_g (hY w _ Y) G.T.g G.T.b G.T.builtins G.T.nolimit hg hobj hints (Nat.le_trans hlen hn2) room hF hb (fun H hS => wish w H a ns hlen hbits hS) fun H e s' => none_out w H s1 e s'
end Mp
namespace Mp
open PySem PySem.Spec PyProof.Rows L2

/-- nothing is locked -/
abbrev noLk : Nat → Lk := fun _ => none
/-- a def's promise by the interpreter -/
def spF (xt : XT) (K : KW) (n : Nat) (cl : List Sl → Z (Sl × List Sl)) : Sp := fun vs H Q E => vs.length = n ∧ ∃ args F T, En K noLk (vs.map some) args H F T ∧ (match cl args with
  | .ok (r, args') => isPk r = false ∧ ∀ v H' F' R, En K noLk (vs.map some) args' H' F' (fun a => T a ∨ R a) → Re K (vs.map some) (hS F' T) H' v r R → Stp (U F) H (U F') H' → (∀ a, R a → U F a ∨ H a = none) → Q v H'
  | .exc c ds args' => ∀ cls d H' F', En K noLk (vs.map some) args' H' F' T → Stp (U F) H (U F') H' → XR xt K (hid (hS F' T) H') H' c ds cls d → E cls d H'
  | .stuck => False)

/-- results in a row, by places -/
structure RelI (K : KW) (σ : L2.St) (H : Hp) (S : FP) (vs : List V) (rs : List Sl) (G : Nat → FP) : Prop where
  len : vs.length = rs.length
  at_ : ∀ j r, rs[j]? = some r → ∃ v, vs[j]? = some v ∧ Re K σ (fun a => S a ∨ ∃ k, k ≠ j ∧ G k a) H v r (G j)
  out : ∀ j a, rs.length ≤ j → ¬ G j a
  dis : ∀ j k a, G j a → G k a → j = k
theorem Re.congr {K : KW} {σ : L2.St} {S S' R R' : FP} {H : Hp} {v : V} {r : Sl} (h : Re K σ S H v r R) (k : ∀ a, S a ↔ S' a) (k2 : ∀ a, R a ↔ R' a) : Re K σ S' H v r R' := by
  have e : S = S' := funext fun a => propext (k a)
  have e2 : R = R' := funext fun a => propext (k2 a)
  rw [← e, ← e2]; exact h
theorem Re.dj {K : KW} {σ : L2.St} {S R : FP} {H : Hp} {v : V} {r : Sl} (h : Re K σ S H v r R) : ∀ a, R a → ¬ S a := by
  by_cases n : ∀ i, r ≠ .pk i
  · exact (h.own n).2
  · have ⟨i, e⟩ : ∃ i, r = .pk i := Classical.byContradiction fun z => n fun i e => z ⟨i, e⟩
    subst e
    exact fun a z => absurd z (h.2 a)
theorem Rel.ix {K : KW} {σ : L2.St} {H : Hp} : ∀ {S : FP} {vs : List V} {rs : List Sl} {R : FP}, Rel K σ H S vs rs R → ∃ G, RelI K σ H S vs rs G ∧ ∀ a, R a ↔ U G a
  | _, _, _, _, .nil => ⟨fun _ _ => False, ⟨rfl, fun j r e => by simp at e, fun _ _ _ z => z, fun _ _ _ z => z.elim⟩, fun a => ⟨fun z => z.elim, fun ⟨_, z⟩ => z⟩⟩
  | S, _, _, _, .cons (T := T) (R := R) (v := v) (vs := vs) (r := r) (rs := rs) re rel => by
    obtain ⟨G, g, hT⟩ := Rel.ix rel
    refine ⟨fun j => match j with | 0 => R | j + 1 => G j, ⟨by simp [g.len], fun j r' e => ?_, fun j a hj => ?_, fun j k a h1 h2 => ?_⟩, fun a => ?_⟩
    · cases j with
      | zero =>
        simp at e
        subst e
        refine ⟨v, rfl, re.congr (fun a => ?_) fun a => Iff.rfl⟩
        rw [hT]
        constructor
        · rintro (z | ⟨k, z⟩)
          · exact .inl z
          · exact .inr ⟨k + 1, by omega, z⟩
        · rintro (z | ⟨k, hk, z⟩)
          · exact .inl z
          · cases k with
            | zero => exact absurd rfl hk
            | succ k => exact .inr ⟨k, z⟩
      | succ j =>
        obtain ⟨u, h1, h2⟩ := g.at_ j r' (by simpa using e)
        refine ⟨u, by simpa using h1, h2.congr (fun a => ?_) fun a => Iff.rfl⟩
        constructor
        · rintro ((z | z) | ⟨k, hk, z⟩)
          · exact .inl z
          · exact .inr ⟨0, by omega, z⟩
          · exact .inr ⟨k + 1, by omega, z⟩
        · rintro (z | ⟨k, hk, z⟩)
          · exact .inl (.inl z)
          · cases k with
            | zero => exact .inl (.inr z)
            | succ k => exact .inr ⟨k, by omega, z⟩
    · cases j with
      | zero => simp at hj
      | succ j => exact g.out j a (by simpa using hj)
    · have d0 : ∀ k, R a → G k a → False := fun k z w => re.dj a z (.inr ((hT a).mpr ⟨k, w⟩))
      cases j with
      | zero =>
        cases k with
        | zero => rfl
        | succ k => exact (d0 k h1 h2).elim
      | succ j =>
        cases k with
        | zero => exact (d0 j h2 h1).elim
        | succ k => rw [g.dis j k a h1 h2]
    · show (R a ∨ T a) ↔ _
      rw [hT]
      constructor
      · rintro (z | ⟨k, z⟩)
        · exact ⟨0, z⟩
        · exact ⟨k + 1, z⟩
      · rintro ⟨k, z⟩
        cases k with
        | zero => exact .inl z
        | succ k => exact .inr ⟨k, z⟩

/-! ### references among the arguments -/
def PkAt (rs : List Sl) (i : Nat) (j : Nat) : Prop := rs[j]? = some (.pk i)
theorem pks_mem {i : Nat} : ∀ {rs : List Sl} {j : Nat}, PkAt rs i j → i ∈ pks rs
  | [], j, h => by unfold PkAt at h; simp at h
  | r :: rs, 0, h => by
    unfold PkAt at h
    simp at h
    subst h
    exact List.mem_cons_self
  | r :: rs, j + 1, h => by
    have h' : PkAt rs i j := by unfold PkAt at h ⊢; simpa using h
    have := pks_mem h'
    cases r <;> first | exact this | exact List.mem_cons_of_mem _ this
theorem pks_uniq {i : Nat} : ∀ {rs : List Sl} {j k : Nat}, nodup (pks rs) = true → PkAt rs i j → PkAt rs i k → j = k
  | [], j, _, _, h, _ => by unfold PkAt at h; simp at h
  | r :: rs, j, k, n, h1, h2 => by
    have tl : nodup (pks rs) = true := by
      cases r <;> first | exact n | (simp only [pks, nodup, Bool.and_eq_true] at n; exact n.2)
    have hd : ∀ {m}, r = .pk i → PkAt rs i m → False := fun {m} e h => by
      subst e
      simp only [pks, nodup, Bool.and_eq_true, Bool.not_eq_true', List.contains_eq_mem, decide_eq_false_iff_not] at n
      exact n.1 (pks_mem h)
    cases j with
    | zero =>
      cases k with
      | zero => rfl
      | succ k =>
        have e : r = .pk i := by unfold PkAt at h1; simpa using h1
        exact (hd e (by unfold PkAt at h2 ⊢; simpa using h2)).elim
    | succ j =>
      cases k with
      | zero =>
        have e : r = .pk i := by unfold PkAt at h2; simpa using h2
        exact (hd e (by unfold PkAt at h1 ⊢; simpa using h1)).elim
      | succ k =>
        rw [pks_uniq tl (show PkAt rs i j by unfold PkAt at h1 ⊢; simpa using h1) (show PkAt rs i k by unfold PkAt at h2 ⊢; simpa using h2)]
theorem back_len : ∀ (rs ss : List Sl) (ρ : Env), (argsBack rs ss ρ).length = ρ.length
  | [], _, ρ => by cases ‹List Sl› <;> rfl
  | r :: rs, [], ρ => by cases r <;> rfl
  | r :: rs, s :: ss, ρ => by
    cases r with
    | pk i => show (argsBack rs ss (ρ.set i s)).length = _; rw [back_len rs ss, List.length_set]
    | _ => exact back_len rs ss ρ
theorem back_not {i : Nat} : ∀ {rs ss : List Sl} {ρ : Env}, (∀ j, ¬ PkAt rs i j) → (argsBack rs ss ρ)[i]? = ρ[i]?
  | [], ss, ρ, _ => by cases ss <;> rfl
  | r :: rs, [], ρ, _ => by cases r <;> rfl
  | r :: rs, s :: ss, ρ, h => by
    have h' : ∀ j, ¬ PkAt rs i j := fun j z => h (j + 1) (by unfold PkAt at z ⊢; simpa using z)
    cases r with
    | pk k =>
      have ne : k ≠ i := fun e => h 0 (by unfold PkAt; simp [e])
      show (argsBack rs ss (ρ.set k s))[i]? = _
      rw [back_not h', List.getElem?_set_ne ne]
    | _ =>
      show (argsBack rs ss ρ)[i]? = _
      exact back_not h'
theorem back_at {i : Nat} : ∀ {rs ss : List Sl} {ρ : Env} {j : Nat} {s : Sl}, nodup (pks rs) = true → PkAt rs i j → ss[j]? = some s → i < ρ.length → (argsBack rs ss ρ)[i]? = some s
  | [], ss, ρ, j, s, _, h, _, _ => by unfold PkAt at h; simp at h
  | r :: rs, [], ρ, j, s, _, _, h, _ => by simp at h
  | r :: rs, s0 :: ss, ρ, j, s, n, h1, h2, hi => by
    have tl : nodup (pks rs) = true := by
      cases r <;> first | exact n | (simp only [pks, nodup, Bool.and_eq_true] at n; exact n.2)
    cases j with
    | zero =>
      have e : r = .pk i := by unfold PkAt at h1; simpa using h1
      have e2 : s0 = s := by simpa using h2
      subst e e2
      show (argsBack rs ss (ρ.set i s0))[i]? = _
      rw [back_not (fun j z => ?_), List.getElem?_set_self hi]
      have := pks_uniq n (show PkAt (.pk i :: rs) i 0 by rfl) (show PkAt (.pk i :: rs) i (j + 1) by unfold PkAt at z ⊢; simpa using z)
      omega
    | succ j =>
      have h1' : PkAt rs i j := by unfold PkAt at h1 ⊢; simpa using h1
      have h2' : ss[j]? = some s := by simpa using h2
      cases r with
      | pk k => exact back_at (ρ := ρ.set k s0) tl h1' h2' (by rw [List.length_set]; exact hi)
      | _ =>
        show (argsBack rs ss ρ)[i]? = _
        exact back_at tl h1' h2' hi
theorem back_none {i : Nat} : ∀ {rs ss : List Sl} {ρ : Env} {j : Nat}, nodup (pks rs) = true → PkAt rs i j → ss[j]? = none → (argsBack rs ss ρ)[i]? = ρ[i]?
  | [], ss, ρ, j, _, h, _ => by unfold PkAt at h; simp at h
  | r :: rs, [], ρ, j, _, _, h => by cases r <;> rfl
  | r :: rs, s0 :: ss, ρ, j, n, h1, h2 => by
    have tl : nodup (pks rs) = true := by
      cases r <;> first | exact n | (simp only [pks, nodup, Bool.and_eq_true] at n; exact n.2)
    cases j with
    | zero => simp at h2
    | succ j =>
      have h1' : PkAt rs i j := by unfold PkAt at h1 ⊢; simpa using h1
      have h2' : ss[j]? = none := by simpa using h2
      cases r with
      | pk k =>
        have ne : k ≠ i := fun e => by
          subst e
          have := pks_uniq n (show PkAt (.pk k :: rs) k 0 by rfl) (show PkAt (.pk k :: rs) k (j + 1) from h1)
          omega
        show (argsBack rs ss (ρ.set k s0))[i]? = _
        rw [back_none tl h1' h2', List.getElem?_set_ne ne]
      | _ =>
        show (argsBack rs ss ρ)[i]? = _
        exact back_none tl h1' h2'

section
variable {xt : XT} {W : WX} {C : Ctx} {X : Cx} {pos : Pos} {es : List Expr} {as : Exs} {K : KW} {L : Nat → Lk} {σ : L2.St} {ρ : Env} {H : Hp} {F : Nat → FP} {T : FP} {rs : List Sl} {vs : List V} {G : Nat → FP}
/-- the callee's footprints -/
def FC (F G : Nat → FP) (rs : List Sl) : Nat → FP := fun j => match rs[j]? with
  | some (.pk i) => F i
  | _ => G j
/-- what the caller holds meanwhile -/
def TC (F : Nat → FP) (T : FP) (rs : List Sl) : FP := fun a => T a ∨ ∃ i, (∀ j, ¬ PkAt rs i j) ∧ F i a
/-- the caller's footprints behind -/
def FB (F F2 : Nat → FP) (rs : List Sl) : Nat → FP := fun i a => (∃ j, PkAt rs i j ∧ F2 j a) ∨ ((∀ j, ¬ PkAt rs i j) ∧ F i a)
theorem FC_pk {i j : Nat} (h : PkAt rs i j) : FC F G rs j = F i := by
  unfold FC
  rw [show rs[j]? = some (.pk i) from h]
theorem FC_ow {j : Nat} (h : ∀ i, ¬ PkAt rs i j) : FC F G rs j = G j := by
  unfold FC
  split
  · exact absurd ‹_› (h _)
  · rfl
theorem FC_cases (j : Nat) : (∃ i, PkAt rs i j ∧ FC F G rs j = F i) ∨ ((∀ i, ¬ PkAt rs i j) ∧ FC F G rs j = G j) := by
  by_cases h : ∃ i, PkAt rs i j
  · obtain ⟨i, h⟩ := h
    exact .inl ⟨i, h, FC_pk h⟩
  · exact .inr ⟨fun i z => h ⟨i, z⟩, FC_ow fun i z => h ⟨i, z⟩⟩
/-- the callee's frame of mind -/
theorem En.callee (E : En K L σ ρ H F (fun a => T a ∨ U G a)) (rel : RelI K σ H (hS F T) vs rs G) (nd : nodup (pks rs) = true) : En K noLk (vs.map some) (rs.map (argS ρ)) H (FC F G rs) (TC F T rs) := by
  have inS : ∀ j a, FC F G rs j a → hS F (fun a => T a ∨ U G a) a := fun j a z => by
    rcases FC_cases (F := F) (G := G) (rs := rs) j with ⟨i, _, e⟩ | ⟨_, e⟩
    · rw [e] at z; exact .inl ⟨i, z⟩
    · rw [e] at z; exact .inr (.inr ⟨j, z⟩)
  have anti : ∀ a, hS (FC F G rs) (TC F T rs) a → hS F (fun a => T a ∨ U G a) a := fun a z => by
    rcases z with ⟨j, z⟩ | z | ⟨i, _, z⟩
    · exact inS j a z
    · exact .inr (.inl z)
    · exact .inl ⟨i, z⟩
  refine ⟨by simp [rel.len], fun j s e => ?_, fun j a hj z => ?_, fun j k a h1 h2 => ?_, fun a z ⟨j, w⟩ => ?_, fun a z => ?_, fun _ _ _ z => (by cases z)⟩
  · rw [List.getElem?_map] at e
    cases q : rs[j]? with
    | none => rw [q] at e; cases e
    | some r =>
      rw [q] at e
      cases e
      obtain ⟨v, h1, h2⟩ := rel.at_ j r q
      have hv : (vs.map some)[j]? = some (some v) := by rw [List.getElem?_map, h1]; rfl
      by_cases pk : ∃ i, r = .pk i
      · obtain ⟨i, rfl⟩ := pk
        rw [FC_pk (show PkAt rs i j from q)]
        by_cases un : ρ.get i = .un
        · have e0 : argS ρ (.pk i) = .un := by show (match ρ.get i with | .lk _ => Sl.un | s => s) = _; rw [un]
          refine .inl ⟨e0, fun a z => ?_⟩
          by_cases hi : i < ρ.length
          · have eg : ρ[i]? = some .un := by
              have : ρ.get i = ρ[i] := by unfold Env.get; rw [List.getD_eq_getElem?_getD, List.getElem?_eq_getElem hi]; rfl
              rw [List.getElem?_eq_getElem hi, ← this, un]
            rcases E.at_ i _ eg with ⟨_, w⟩ | ⟨v, _, w⟩
            · exact w a z
            · cases w
          · exact E.out i a (by omega) z
        · obtain ⟨w, e1, e2⟩ := E.get rfl un
          rw [h2.1] at e1
          cases e1
          by_cases lk : ∃ xs, ρ.get i = .lk xs
          · obtain ⟨xs, lk⟩ := lk
            have e0 : argS ρ (.pk i) = .un := by show (match ρ.get i with | .lk _ => Sl.un | s => s) = _; rw [lk]
            refine .inl ⟨e0, fun a z => ?_⟩
            rw [lk] at e2
            generalize hG : F i = G' at e2 z
            cases e2
            exact z
          · have e0 : argS ρ (.pk i) = ρ.get i := by
              show (match ρ.get i with | .lk _ => Sl.un | s => s) = _
              cases q : ρ.get i <;> first | rfl | exact absurd ⟨_, q⟩ lk
            rw [e0]
            exact .inr ⟨v, hv, (e2.relock fun xs z => lk ⟨xs, z⟩).mono (hid_anti anti) fun _ _ _ z => z⟩
      · have np : ∀ i, r ≠ .pk i := fun i z => pk ⟨i, z⟩
        have e3 : argS ρ r = r := by cases r <;> first | rfl | exact absurd rfl (np _)
        rw [e3, FC_ow fun i z => np i (by unfold PkAt at z; rw [q] at z; cases z; rfl)]
        have nl : ∀ xs, r ≠ .lk xs := fun xs z => by
          have g := (h2.own np).1
          rw [z] at g
          generalize G j = G' at g
          cases g with | lk e _ => cases e
        refine .inr ⟨v, hv, ((h2.own np).1.relock nl).mono (hid_anti fun a z => ?_) fun _ _ _ z => z⟩
        rcases anti a z with z | z | ⟨k, z⟩
        · exact .inl (.inl (.inl z))
        · exact .inl (.inl (.inr z))
        · by_cases hk : k = j
          · subst hk; exact .inr z
          · exact .inl (.inr ⟨k, hk, z⟩)
  · rw [List.length_map] at hj
    have hn : rs[j]? = Option.none := List.getElem?_eq_none hj
    rw [FC_ow fun i z => by unfold PkAt at z; rw [hn] at z; cases z] at z
    exact rel.out j a hj z
  · have GS : ∀ j a, G j a → ¬ U F a := fun j a z w => E.tdis a (.inr ⟨j, z⟩) w
    rcases FC_cases (F := F) (G := G) (rs := rs) j with ⟨i, p, e⟩ | ⟨_, e⟩ <;> rcases FC_cases (F := F) (G := G) (rs := rs) k with ⟨i', p', e'⟩ | ⟨_, e'⟩
    · rw [e] at h1; rw [e'] at h2
      have := E.dis i i' a h1 h2
      subst this
      exact pks_uniq nd p p'
    · rw [e] at h1; rw [e'] at h2
      exact (GS k a h2 ⟨i, h1⟩).elim
    · rw [e] at h1; rw [e'] at h2
      exact (GS j a h1 ⟨i', h2⟩).elim
    · rw [e] at h1; rw [e'] at h2
      exact rel.dis j k a h1 h2
  · rcases FC_cases (F := F) (G := G) (rs := rs) j with ⟨i, p, e⟩ | ⟨_, e⟩
    · rw [e] at w
      rcases z with z | ⟨i', n, z⟩
      · exact E.tdis a (.inl z) ⟨i, w⟩
      · have := E.dis i i' a w z
        subst this
        exact n j p
    · rw [e] at w
      rcases z with z | ⟨i', n, z⟩
      · rcases hj : rs[j]? with _ | r
        · exact rel.out j a (List.getElem?_eq_none_iff.mp hj) w
        · obtain ⟨v, _, h2⟩ := rel.at_ j r hj
          exact h2.dj a w (.inl (.inr z))
      · exact E.tdis a (.inr ⟨j, w⟩) ⟨i', z⟩
  · rcases z with z | ⟨i, _, z⟩
    · exact E.tl a (.inl z)
    · exact E.live i a z
/-- the caller's behind the call -/
theorem En.caller {H' : Hp} {F2 : Nat → FP} {R : FP} {args' : List Sl} (E : En K L σ ρ H F (fun a => T a ∨ U G a)) (rel : RelI K σ H (hS F T) vs rs G) (nd : nodup (pks rs) = true) (E2 : En K noLk (vs.map some) args' H' F2 (fun a => TC F T rs a ∨ R a)) (st : Stp (U (FC F G rs)) H (U F2) H')
    (new : ∀ a, R a → U (FC F G rs) a ∨ H a = Option.none) (rdj : ∀ a, R a → ¬ TC F T rs a) (hl : ∀ i a xs, L i = some (a, xs) → T a) : En K L σ (argsBack rs args' ρ) H' (FB F F2 rs) (fun a => T a ∨ R a) := by
  have notFC : ∀ i a, (∀ j, ¬ PkAt rs i j) → F i a → ¬ U (FC F G rs) a := fun i a n z ⟨j, w⟩ => by
    rcases FC_cases (F := F) (G := G) (rs := rs) j with ⟨i', p, e⟩ | ⟨_, e⟩
    · rw [e] at w
      have := E.dis i i' a z w
      subst this
      exact n j p
    · rw [e] at w
      exact E.tdis a (.inr ⟨j, w⟩) ⟨i, z⟩
  have anti : ∀ a, hS (FB F F2 rs) (fun a => T a ∨ R a) a → hS F2 (fun a => TC F T rs a ∨ R a) a := fun a z => by
    rcases z with ⟨i, ⟨j, _, z⟩ | ⟨n, z⟩⟩ | z | z
    · exact .inl ⟨j, z⟩
    · exact .inr (.inl (.inr ⟨i, n, z⟩))
    · exact .inr (.inl (.inl z))
    · exact .inr (.inr z)
  refine ⟨by rw [back_len]; exact E.len, fun i s e => ?_, fun i a hi z => ?_, fun i k a h1 h2 => ?_, fun a z ⟨i, w⟩ => ?_, fun a z => ?_, fun i a xs e => ?_⟩
  · by_cases hp : ∃ j, PkAt rs i j
    · obtain ⟨j, p⟩ := hp
      have hFB : ∀ a, FB F F2 rs i a ↔ F2 j a := fun a => by
        constructor
        · rintro (⟨k, q, z⟩ | ⟨n, _⟩)
          · rw [pks_uniq nd p q]; exact z
          · exact absurd p (n j)
        · exact fun z => .inl ⟨j, p, z⟩
      obtain ⟨v, h1, h2⟩ := rel.at_ j _ p
      have hi : i < ρ.length := by
        have := (List.getElem?_eq_some_iff.mp h2.1).1
        rw [← E.len]; exact this
      have eF : FB F F2 rs i = F2 j := funext fun a => propext (hFB a)
      rw [eF]
      cases q : args'[j]? with
      | some s' =>
        rw [back_at nd p q hi] at e
        cases e
        rcases E2.at_ j _ q with z | ⟨u, z1, z2⟩
        · exact .inl z
        · have : (vs.map some)[j]? = some (some v) := by rw [List.getElem?_map, h1]; rfl
          rw [this] at z1
          cases z1
          have nl : ∀ xs, s ≠ .lk xs := fun xs z => by
            rw [z] at z2
            generalize F2 j = G' at z2
            cases z2 with | lk e _ => cases e
          exact .inr ⟨v, h2.1, (z2.relock nl).mono (hid_anti anti) fun _ _ _ z => z⟩
      | none =>
        exfalso
        have l1 := E2.len
        rw [List.length_map] at l1
        have l2 := List.getElem?_eq_none_iff.mp q
        have l3 := (List.getElem?_eq_some_iff.mp h1).1
        omega
    · have n : ∀ j, ¬ PkAt rs i j := fun j z => hp ⟨j, z⟩
      have eF : FB F F2 rs i = F i := funext fun a => propext ⟨fun z => by
        rcases z with ⟨j, q, _⟩ | ⟨_, z⟩
        · exact absurd q (n j)
        · exact z, fun z => .inr ⟨n, z⟩⟩
      rw [back_not n] at e
      rw [eF]
      refine (E.at_ i s e).imp id fun ⟨v, h1, h2⟩ => ⟨v, h1, h2.mono (fun b o z => ?_) fun b o fb z => st.keep b o (notFC i b n fb) z⟩
      rw [hid_some] at z ⊢
      have nf : ¬ U (FC F G rs) b := fun ⟨j, w⟩ => by
        rcases FC_cases (F := F) (G := G) (rs := rs) j with ⟨i', p, e'⟩ | ⟨_, e'⟩
        · rw [e'] at w; exact z.1 (.inl ⟨i', w⟩)
        · rw [e'] at w; exact z.1 (.inr (.inr ⟨j, w⟩))
      refine ⟨fun w => ?_, st.keep b o nf z.2⟩
      rcases anti b w with ⟨j, w⟩ | (w | ⟨k, _, w⟩) | w
      · rcases st.sub b ⟨j, w⟩ with q | q
        · exact nf q
        · rw [q] at z; exact nomatch z.2
      · exact z.1 (.inr (.inl w))
      · exact z.1 (.inl ⟨k, w⟩)
      · rcases new b w with q | q
        · exact nf q
        · rw [q] at z; exact nomatch z.2
  · rw [back_len] at hi
    rcases z with ⟨j, p, z⟩ | ⟨_, z⟩
    · obtain ⟨v, h1, h2⟩ := rel.at_ j _ p
      have := (List.getElem?_eq_some_iff.mp h2.1).1
      rw [E.len] at this
      omega
    · exact E.out i a hi z
  · have old : ∀ i k, (∀ j, ¬ PkAt rs k j) → F k a → (∃ j, PkAt rs i j ∧ F2 j a) → False := fun i k n z ⟨j, _, w⟩ => by
      exact E2.tdis a (.inl (.inr ⟨k, n, z⟩)) ⟨j, w⟩
    rcases h1 with ⟨j, p, z⟩ | ⟨n, z⟩ <;> rcases h2 with ⟨j', p', z'⟩ | ⟨n', z'⟩
    · have := E2.dis j j' a z z'
      subst this
      unfold PkAt at p p'
      rw [p] at p'
      cases p'
      rfl
    · exact (old i k n' z' ⟨j, p, z⟩).elim
    · exact (old k i n z ⟨j', p', z'⟩).elim
    · exact E.dis i k a z z'
  · rcases w with ⟨j, p, w⟩ | ⟨n, w⟩
    · rcases z with z | z
      · exact E2.tdis a (.inl (.inl z)) ⟨j, w⟩
      · exact E2.tdis a (.inr z) ⟨j, w⟩
    · rcases z with z | z
      · exact E.tdis a (.inl z) ⟨i, w⟩
      · exact rdj a z (.inr ⟨i, n, w⟩)
  · rcases z with z | z
    · exact E2.tl a (.inl (.inl z))
    · exact E2.tl a (.inr z)
  · obtain ⟨z1, z2⟩ := E.lks i a xs e
    have tT : T a := hl i a xs e
    refine ⟨.inl tT, st.keep a _ (fun ⟨j, w⟩ => ?_) z2⟩
    rcases FC_cases (F := F) (G := G) (rs := rs) j with ⟨i', p, e'⟩ | ⟨_, e'⟩
    · rw [e'] at w; exact E.tdis a z1 ⟨i', w⟩
    · rw [e'] at w
      rcases hj : rs[j]? with _ | r
      · exact rel.out j a (List.getElem?_eq_none_iff.mp hj) w
      · obtain ⟨v, _, h2⟩ := rel.at_ j r hj
        exact h2.dj a w (.inl (.inr tT))
/-- the whole step of a call, for the caller -/
theorem Stp.call {H0 H' : Hp} {F0 F2 : Nat → FP} {R : FP} (S1 : Stp (U F0) H0 (U F) H) (hG : ∀ a, U G a → U F0 a ∨ H0 a = Option.none) (st : Stp (U (FC F G rs)) H (U F2) H') : Stp (U F0) H0 (U (FB F F2 rs)) H' where
  keep := fun b o n e => by
    refine st.keep b o (fun ⟨j, w⟩ => ?_) (S1.keep b o n e)
    rcases FC_cases (F := F) (G := G) (rs := rs) j with ⟨i', p, e'⟩ | ⟨_, e'⟩
    · rw [e'] at w
      rcases S1.sub b ⟨i', w⟩ with q | q
      · exact n q
      · rw [q] at e; cases e
    · rw [e'] at w
      rcases hG b ⟨j, w⟩ with q | q
      · exact n q
      · rw [q] at e; cases e
  dom := fun b e => st.dom b (S1.dom b e)
  sub := fun a z => by
    have back : H a = Option.none → H0 a = Option.none := fun q => Classical.byContradiction fun w => S1.dom a w q
    obtain ⟨i, ⟨j, _, z⟩ | ⟨_, z⟩⟩ := z
    · rcases st.sub a ⟨j, z⟩ with ⟨k, w⟩ | w
      · rcases FC_cases (F := F) (G := G) (rs := rs) k with ⟨i', p, e'⟩ | ⟨_, e'⟩
        · rw [e'] at w; exact S1.sub a ⟨i', w⟩
        · rw [e'] at w; exact hG a ⟨k, w⟩
      · exact .inr (back w)
    · exact S1.sub a ⟨i, z⟩
theorem FB_sub {F2 : Nat → FP} : ∀ a, hS (FB F F2 rs) T a → hS F2 (TC F T rs) a := fun a z => by
  rcases z with ⟨i, ⟨j, _, z⟩ | ⟨n, z⟩⟩ | z
  · exact .inl ⟨j, z⟩
  · exact .inr (.inr ⟨i, n, z⟩)
  · exact .inr (.inl z)
theorem call_core {t : TA} (ht : ∀ σ H Q, tA xt X.KK W C as σ H Q → t σ H Q) {fi n : Nat} (hcl : ∀ args, args.length ≠ n → C.cl fi args = .stuck) (hpk : ∀ args r a', C.cl fi args = .ok (r, a') → isPk r = false) {σ : L2.St} {H : Hp} {Q : VK} (q : tE xt X.KK W C (.call fi as) σ H Q) :
    tCallSD (spF xt X.KK n (C.cl fi)) [] (WE W) t σ H Q := by
  obtain ⟨ρ, F, T, L, E, h⟩ := q
  refine ht σ H _ ⟨ρ, F, T, L, E, Out.mono (Out.bindS h Stp.refl) ?_⟩
  rintro rs ρ1 H1 F1 ⟨E1, S1, h1⟩ vs R E1' rel new
  obtain ⟨nd, h2⟩ := if_out h1
  dsimp only at nd h2
  obtain ⟨G, relI, hR⟩ := rel.ix
  have EG : En X.KK L σ ρ1 H1 F1 (fun a => T a ∨ U G a) := E1'.imp fun a => ⟨fun z => z.imp id (hR a).mpr, fun z => z.imp id (hR a).mp⟩
  have hG : ∀ a, U G a → U F a ∨ H a = Option.none := fun a z => new a ((hR a).mpr z)
  rw [List.append_nil]
  have hlen : vs.length = n := by
    refine Classical.byContradiction fun ne => ?_
    rw [hcl _ (by rw [List.length_map, ← relI.len]; exact ne)] at h2
    exact h2
  refine ⟨hlen, rs.map (argS ρ1), FC F1 G rs, TC F1 T rs, EG.callee relI nd, ?_⟩
  cases hc : C.cl fi (rs.map (argS ρ1)) with
  | stuck => rw [hc] at h2; exact h2
  | ok q =>
    obtain ⟨r, args'⟩ := q
    rw [hc] at h2
    refine ⟨hpk _ _ _ hc, fun v H' F2 R2 E2 re2 st new2 => ?_⟩
    have np : ∀ i, r ≠ .pk i := fun i z => by
      have := hpk _ _ _ hc
      rw [z] at this
      cases this
    obtain ⟨g1, g2⟩ := re2.own np
    have E3 := EG.caller relI nd E2 st new2 (fun a z w => g2 a z (.inr w)) E1.lkT
    refine Out.ok h2 (E3.drop E1.lkT) (Stp.call (R := R2) S1 hG st) v R2 E3 (Re.of (g1.mono (hid_anti fun a z => z.imp (FB_sub a) id) fun _ _ _ z => z) fun a z w => g2 a z (FB_sub a w)) fun a z => (new2 a z).elim (fun ⟨j, w⟩ => by
      rcases FC_cases (F := F1) (G := G) (rs := rs) j with ⟨i', p, e'⟩ | ⟨_, e'⟩
      · rw [e'] at w; exact S1.sub a ⟨i', w⟩
      · rw [e'] at w; exact hG a ⟨j, w⟩) fun q => S1.bk (.inr q)
  | exc c ds args' =>
    rw [hc] at h2
    intro cls d H' F2 E2 st x
    have E2' : En X.KK noLk (vs.map some) args' H' F2 (fun a => TC F1 T rs a ∨ (fun _ => False) a) := E2.none
    have E3 := EG.caller relI nd E2' st (fun _ z => z.elim) (fun _ z => z.elim) E1.lkT
    obtain ⟨names, x1, x2⟩ := x
    exact h2 cls d H' _ (E3.drop E1.lkT) (Stp.call (R := fun _ => False) S1 hG st) ⟨names, x1, x2.imp id fun ⟨dx, fs, y1, y2, y3, y4⟩ => ⟨dx, fs, y1, y2, y3, Rps.mono (hid_anti FB_sub) _ _ y4⟩⟩
theorem ex_call {x : Str} {p : Pos} {e : Expr} {f : Addr} {fd : FuncData} {ps : List Str} {k fi : Nat} (F : FnG X.prog X.w X.KK X.mg X.base (L2.CX X.prog X.w) k f fd ps (spF xt X.KK ps.length (C.cl fi))) (gd : X.A.guards = some []) (hr : Room k X.A) (hg : Gl X x) (hm : X.mg x = some (.ref f)) (hk : PySem.W.keepIn X.KK (.ref f) = true) (hb : Binds X.KK fd ps [])
    (tk : Takes X W) (hcl : ∀ args, args.length ≠ ps.length → C.cl fi args = .stuck) (hpk : ∀ args r a', C.cl fi args = .ok (r, a') → isPk r = false) (ha : PA X (e :: es) (tA xt X.KK W C as)) (hdb : (x == ("__debug__" : Str)) = false)
    (he : starEach (e :: es) X.env = (false, eval e X.env) :: starEach es X.env) (hpl : (backTo pos (starEach es X.env)).any (·.1) = false) : PE X (.Call (.Name x p) (e :: es) [] pos) (tE xt X.KK W C (.call fi as)) :=
  pe_imp (pe_callG F gd hr hg hm hk hb (fun σ => passAt tk σ) ha hdb he hpl) fun σ H Q q => call_core (fun _ _ _ z => z) hcl hpk q
theorem ex_call0 {x : Str} {p : Pos} {f : Addr} {fd : FuncData} {ps : List Str} {k fi : Nat} (F : FnG X.prog X.w X.KK X.mg X.base (L2.CX X.prog X.w) k f fd ps (spF xt X.KK ps.length (C.cl fi))) (gd : X.A.guards = some []) (hr : Room k X.A) (hg : Gl X x) (hm : X.mg x = some (.ref f)) (hk : PySem.W.keepIn X.KK (.ref f) = true) (hb : Binds X.KK fd ps [])
    (tk : Takes X W) (hcl : ∀ args, args.length ≠ ps.length → C.cl fi args = .stuck) (hpk : ∀ args r a', C.cl fi args = .ok (r, a') → isPk r = false) (hdb : (x == ("__debug__" : Str)) = false) : PE X (.Call (.Name x p) [] [] pos) (tE xt X.KK W C (.call fi .nil)) :=
  pe_imp (pe_callG0 F gd hr hg hm hk hb (fun σ => passAt tk σ) hdb) fun σ H Q q =>
    call_core (t := fun σ H Q => Q [] H) (fun σ H Q ⟨ρ, F, T, L, E, h⟩ => Out.ok h E Stp.refl [] (fun _ => False) E.none .nil fun _ z => z.elim) hcl hpk q
end
end Mp
namespace Mp
open PySem PySem.Spec PyProof.Rows L2

/-- lists that are held meanwhile -/
abbrev Held := List (Addr × List V)
/-- an iterator walks the data -/
structure Wk (K : KW) (J : L2.It) (ds : List D) (S0 : FP) (H0 : Hp) (hl : Held) : Prop where
  go : ∀ i S H, Stp S0 H0 S H → (∀ p ∈ hl, H p.1 = some (.lst p.2)) → i < ds.length → J.go i H
  stop : ∀ i S H, Stp S0 H0 S H → (∀ p ∈ hl, H p.1 = some (.lst p.2)) → ds.length = i → J.stop i H
  yld : ∀ i S H x H' d, Stp S0 H0 S H → (∀ p ∈ hl, H p.1 = some (.lst p.2)) → (∀ a, S a → H a ≠ none) → J.yld i H x H' → ds[i]? = some d → (∀ b o, H b = some o → H' b = some o) ∧ Rp K (hid S H') x d
/-- what locking did -/
structure Lkd (L : Nat → Lk) (T : FP) (L' : Nat → Lk) (T' : FP) (lk : List Nat) (hl : Held) (F0 : Nat → FP) (H0 : Hp) : Prop where
  same : ∀ j, j ∉ lk → L' j = L j
  lock : ∀ i ∈ lk, ∃ p ∈ hl, L' i = some p
  held : ∀ a, T' a ↔ T a ∨ ∃ p ∈ hl, p.1 = a
  own : ∀ p ∈ hl, U F0 p.1 ∨ H0 p.1 = none
  nT : ∀ p ∈ hl, ¬ T p.1
  inj : ∀ i ∈ lk, ∀ j ∈ lk, ∀ p q, L' i = some p → L' j = some q → p.1 = q.1 → i = j
  hls : ∀ p ∈ hl, ∃ i ∈ lk, L' i = some p
theorem Lkd.none {L : Nat → Lk} {T : FP} {F0 : Nat → FP} {H0 : Hp} : Lkd L T L T [] [] F0 H0 := ⟨fun _ _ => rfl, fun _ z => by simp at z, fun a => by simp, fun _ z => by simp at z, fun _ z => by simp at z, fun _ z => by simp at z, fun _ z => by simp at z⟩
/-- an outcome with a raising end -/
def OutG {β : Type} (xt : XT) (K : KW) (L : Nat → Lk) (W : WX) (σ : L2.St) (H : Hp) (F : Nat → FP) (T : FP) (r : Z β) (P : β → Prop) : Prop :=
  match r with
  | .ok b => P b
  | .exc c ds ρ' => ∀ cls d H' F', En K L σ ρ' H' F' T → Stp (U F) H (U F') H' → XR xt K (hid (hS F' T) H') H' c ds cls d → W cls d σ H'
  | .stuck => False
section
variable {xt : XT} {K : KW} {L : Nat → Lk} {W : WX} {σ : L2.St} {H : Hp} {F : Nat → FP} {T : FP}
theorem OutG.bind {α β : Type} {r : Z (α × Env)} {f : α × Env → Z β} {P : β → Prop} (h : OutG xt K L W σ H F T (r.bind f) P) :
    Out xt K L W σ H F T r (fun a ρ1 H1 F1 => En K L σ ρ1 H1 F1 T ∧ Stp (U F) H (U F1) H1 ∧ OutG xt K L W σ H F T (f (a, ρ1)) P) := by
  cases r with
  | ok q => exact fun H1 F1 e1 s1 => ⟨e1, s1, h⟩
  | exc c ds ρ1 => exact h
  | stuck => exact h
theorem ofG_bind {α β : Type} {o : Option α} {f : α → Z β} {P : β → Prop} (h : OutG xt K L W σ H F T ((Z.of o).bind f) P) : ∃ a, o = some a ∧ OutG xt K L W σ H F T (f a) P := by
  cases o with
  | none => exact False.elim h
  | some a => exact ⟨a, rfl, h⟩
theorem ofG {α : Type} {o : Option α} {P : α → Prop} (h : OutG xt K L W σ H F T (Z.of o) P) : ∃ a, o = some a ∧ P a := by
  cases o with
  | none => exact False.elim h
  | some a => exact ⟨a, rfl, h⟩
end
/-- what is walked, by the interpreter -/
def tI (xt : XT) (K : KW) (W : WX) (C : Ctx) (it : Mp.It) : TI := fun σ H R => ∃ ρ F T L, En K L σ ρ H F T ∧ OutG xt K L W σ H F T (evI C it ρ) (fun q => ∀ J H' F' T' L' hl hw, En K L' σ q.2 H' F' T' → Lkd L T L' T' q.1.2 hl F H → Wk K J q.1.1 (hS F' T') H' hw → (∀ p ∈ hw, T' p.1 ∧ H' p.1 = some (.lst p.2)) → Stp (U F) H (U F') H' → R J H')
section
variable {X : Cx} {tg iter : Expr}
theorem pi_imp {t t' : TI} (h : PI X tg iter t) (k : ∀ σ H R, t' σ H R → t σ H R) : PI X tg iter t' := ⟨fun pins s σ H R I q => h.run pins s σ H R I (k σ H R q)⟩
theorem pi_pick {t' : TI} (k : ∀ σ H R, t' σ H R → ∃ t, PI X tg iter t ∧ t σ H R) : PI X tg iter t' := ⟨fun pins s σ H R I q => by
  obtain ⟨t, h, z⟩ := k σ H R q
  exact h.run pins s σ H R I z⟩
end
section
variable {xt : XT} {W : WX} {C : Ctx} {X : Cx} {a : Expr} {ea : Ex} {pos : Pos} {tg : Expr}
/-- a list that is shared -/
theorem wk_lst {K : KW} {S : FP} {H : Hp} {p : Addr} {xs : List V} {ds : List D} (hp : SqL K (hid S H) p xs) (r : Rps K (hid S H) xs ds) : Wk K (Itl K p) ds S H [] where
  go := fun i S' H' st _ hi => by
    have h2 : SqL K H' p xs := SqL.mono hid_sub (SqL.mono st.hid hp)
    have : i < xs.length := by rw [r.length]; exact hi
    exact ⟨xs, _, h2, List.getElem?_eq_getElem this⟩
  stop := fun i S' H' st _ hi => ⟨xs, SqL.mono hid_sub (SqL.mono st.hid hp), by rw [r.length]; exact Nat.le_of_eq hi⟩
  yld := fun i S' H' x H2 d st _ _ hy hd => by
    obtain ⟨rfl, fy⟩ := hy
    obtain ⟨v, e1, rv⟩ := r.get hd
    have := fy xs (SqL.mono hid_sub (SqL.mono st.hid hp))
    rw [e1] at this
    cases this
    exact ⟨fun _ _ z => z, Rp.mono st.hid _ _ rv⟩
/-- a list that is held -/
theorem wk_held {K : KW} {S : FP} {H : Hp} {p : Addr} {xs : List V} {ds : List D} {hl : Held} (hp : (p, xs) ∈ hl) (r : Rps K (hid S H) xs ds) : Wk K (Itl K p) ds S H hl where
  go := fun i S' H' st k hi => by
    have h2 : Rd H' p (.lst xs) := .inl (k _ hp)
    have : i < xs.length := by rw [r.length]; exact hi
    exact ⟨xs, _, .inl h2, List.getElem?_eq_getElem this⟩
  stop := fun i S' H' st k hi => ⟨xs, .inl (.inl (k _ hp)), by rw [r.length]; exact Nat.le_of_eq hi⟩
  yld := fun i S' H' x H2 d st k _ hy hd => by
    obtain ⟨rfl, fy⟩ := hy
    obtain ⟨v, e1, rv⟩ := r.get hd
    have := fy xs (.inl (.inl (k _ hp)))
    rw [e1] at this
    cases this
    exact ⟨fun _ _ z => z, Rp.mono st.hid _ _ rv⟩
theorem wk_tup {K : KW} {S : FP} {H : Hp} {p : Addr} {xs : List V} {ds : List D} (hp : SqT K (hid S H) p xs) (r : Rps K (hid S H) xs ds) : Wk K (Itt K p) ds S H [] where
  go := fun i S' H' st _ hi => by
    have h2 : SqT K H' p xs := SqT.mono hid_sub (SqT.mono st.hid hp)
    have : i < xs.length := by rw [r.length]; exact hi
    exact ⟨xs, _, h2, List.getElem?_eq_getElem this⟩
  stop := fun i S' H' st _ hi => ⟨xs, SqT.mono hid_sub (SqT.mono st.hid hp), by rw [r.length]; exact Nat.le_of_eq hi⟩
  yld := fun i S' H' x H2 d st _ _ hy hd => by
    obtain ⟨rfl, fy⟩ := hy
    obtain ⟨v, e1, rv⟩ := r.get hd
    have := fy xs (SqT.mono hid_sub (SqT.mono st.hid hp))
    rw [e1] at this
    cases this
    exact ⟨fun _ _ z => z, Rp.mono st.hid _ _ rv⟩
/-- is it a tuple -/
def isT : Sl → Bool
  | .sh (.tup _) => true
  | _ => false
/-- what locking makes of the frame -/
theorem lock_ok {K : KW} {L : Nat → Lk} {σ : L2.St} {ρ ρ' : Env} {H : Hp} {F : Nat → FP} {T : FP} {v : V} {r : Sl} {R : FP} {ds : List D} {lk : List Nat} (E : En K L σ ρ H F T) (re : Re K σ (hS F T) H v r R) (e : lock r ρ = some ((ds, lk), ρ')) (ns : ∀ s, r ≠ .sh (.str s)) :
    ∃ F' T' L' hl hw, En K L' σ ρ' H F' T' ∧ Lkd L T L' T' lk hl F H ∧ (∀ i a, F' i a → F i a) ∧ (∀ p ∈ hw, T' p.1 ∧ H p.1 = some (.lst p.2)) ∧ (isT r = false → ∃ p, v = .ref p ∧ (∃ ys, SqL K H p ys) ∧ Wk K (Itl K p) ds (hS F' T') H hw) ∧ (isT r = true → ∃ p, v = .ref p ∧ (∃ ys, SqT K H p ys) ∧ Wk K (Itt K p) ds (hS F' T') H hw) := by
  unfold lock at e
  split at e
  · cases e
    have g := (re.own (by intro j z; cases z)).1
    cases g with | sh g =>
    cases g with | tup s r =>
    have s' : SqT K (hid (hS F T) H) _ _ := SqT.mono (hid_anti fun a z => .inl z) s
    exact ⟨F, T, L, [], [], E, .none, fun _ _ z => z, fun _ z => by simp at z, fun z => (by cases z), fun _ => ⟨_, rfl, ⟨_, SqT.mono hid_sub s⟩, wk_tup s' (Rps.mono (hid_anti fun a z => .inl z) _ _ r)⟩⟩
  · cases e
    have g := (re.own (by intro j z; cases z)).1
    cases g with | sh g =>
    cases g with | lst s r =>
    have s' := hid_anti (fun a z => .inl z) _ _ s
    exact ⟨F, T, L, [], [], E, .none, fun _ _ z => z, fun _ z => by simp at z, fun _ => ⟨_, rfl, ⟨_, .inl (.inl (hid_sub _ _ s))⟩, wk_lst (.inl (.inl s')) (Rps.mono (hid_anti fun a z => .inl z) _ _ r)⟩, fun z => by cases z⟩
  · cases e
    have g := (re.own (by intro j z; cases z)).1
    cases g with | sh g =>
    cases g with | kl s r =>
    exact ⟨F, T, L, [], [], E, .none, fun _ _ z => z, fun _ z => by simp at z, fun _ => ⟨_, rfl, ⟨_, SqL.mono hid_sub s⟩, wk_lst (SqL.mono (hid_anti fun a z => .inl z) s) (Rps.mono (hid_anti fun a z => .inl z) _ _ r)⟩, fun z => by cases z⟩
  · exact absurd rfl (ns _)
  · cases e
    obtain ⟨g, dj⟩ := re.own (by intro j z; cases z)
    cases g with | ol e1 r =>
    exact ⟨F, T, L, [], [], E, .none, fun _ _ z => z, fun _ z => by simp at z, fun _ => ⟨_, rfl, ⟨_, .inl (.inl e1)⟩, wk_lst (.inl (.inl (hid_some.mpr ⟨dj _ rfl, e1⟩))) (Rps.mono (hid_anti fun a z => .inl z) _ _ r)⟩, fun z => by cases z⟩
  · rename_i i
    split at e
    · rename_i xs ei
      cases e
      obtain ⟨p, vs, hi, hs, hp, rp, hF⟩ := E.lst ei
      rw [re.1] at hs
      cases hs
      have lt : ∀ j a, (if j = i then (fun _ => False : FP) else F j) a → F j a := fun j a z => by
        by_cases q : j = i
        · rw [if_pos q] at z; exact z.elim
        · rw [if_neg q] at z; exact z
      have fip : F i p := (hF p).mpr rfl
      have nU : ¬ U (fun j => if j = i then (fun _ => False : FP) else F j) p := fun ⟨j, q⟩ => by
        have := E.dis j i p (lt j p q) fip
        subst this
        rw [if_pos rfl] at q
        exact q
      have sub : ∀ a, hS (fun j => if j = i then (fun _ => False : FP) else F j) (fun a => T a ∨ a = p) a → hS F T a := fun a z => by
        rcases z with ⟨j, z⟩ | z | z
        · exact .inl ⟨j, lt j a z⟩
        · exact .inr z
        · exact .inl ⟨i, by rw [z]; exact fip⟩
      refine ⟨fun j => if j = i then (fun _ => False) else F j, fun a => T a ∨ a = p, fun j => if j = i then some (p, vs) else L j, [(p, vs)], [(p, vs)], ⟨by rw [List.length_set]; exact E.len, fun j s es => ?_, fun j a hj z => ?_, fun j k a z1 z2 => E.dis j k a (lt j a z1) (lt k a z2), fun a z w => ?_, fun a z => ?_, fun j a ys ej => ?_⟩, ⟨fun j hj => if_neg (by simpa using hj), fun j hj => ⟨(p, vs), by simp, by simp at hj; rw [if_pos hj]⟩, fun a => ?_, fun q hq => ?_, fun q hq => ?_, fun j hj k hk _ _ _ _ _ => by simp at hj hk; rw [hj, hk], fun q hq => ?_⟩, lt, fun q hq => by simp at hq; rw [hq]; exact ⟨.inr rfl, hp⟩, fun _ => ⟨p, rfl, ⟨_, .inl (.inl hp)⟩, wk_held (by simp) (Rps.mono (hid_anti sub) _ _ rp)⟩, fun z => by cases z⟩
      · by_cases q : j = i
        · subst q
          rw [List.getElem?_set_self hi] at es
          cases es
          rw [if_pos rfl, if_pos rfl]
          exact .inr ⟨_, re.1, .lk rfl (Rps.mono (hid_anti sub) _ _ rp)⟩
        · rw [List.getElem?_set_ne (Ne.symm q)] at es
          rw [if_neg q, if_neg q]
          exact (E.at_ j s es).imp id fun ⟨v, z1, z2⟩ => ⟨v, z1, z2.mono (hid_anti sub) fun _ _ _ z => z⟩
      · rw [List.length_set] at hj
        exact E.out j a hj (lt j a z)
      · rcases z with z | z
        · exact E.tdis a z (let ⟨j, w⟩ := w; ⟨j, lt j a w⟩)
        · exact nU (by rw [← z]; exact w)
      · rcases z with z | z
        · exact E.tl a z
        · rw [z, hp]; exact fun z => nomatch z
      · by_cases q : j = i
        · rw [if_pos q] at ej
          cases ej
          exact ⟨.inr rfl, hp⟩
        · rw [if_neg q] at ej
          exact ⟨.inl (E.lks j a ys ej).1, (E.lks j a ys ej).2⟩
      · simp
        constructor
        · rintro (z | z)
          · exact .inl z
          · exact .inr z.symm
        · rintro (z | z)
          · exact .inl z
          · exact .inr z.symm
      · simp at hq; rw [hq]; exact .inl ⟨i, fip⟩
      · simp at hq; rw [hq]; exact fun z => E.tdis p z ⟨i, fip⟩
      · simp at hq; rw [hq]; exact ⟨i, by simp, if_pos rfl⟩
    · rename_i xs ei
      cases e
      obtain ⟨w, h1, h2⟩ := E.get ei (by intro z; cases z)
      rw [re.1] at h1
      cases h1
      generalize F i = G at h2
      cases h2 with | lk e1 r =>
      rename_i p vs
      have hp := (E.lks i p vs e1).2
      exact ⟨F, T, L, [], [(p, vs)], E, .none, fun _ _ z => z, fun q hq => by simp at hq; rw [hq]; exact ⟨(E.lks i p vs e1).1, hp⟩, fun _ => ⟨p, rfl, ⟨_, .inl (.inl hp)⟩, wk_held (by simp) r⟩, fun z => by cases z⟩
    · cases e
  · cases e
/-- a text, sign by sign -/
theorem wk_str {K : KW} {S : FP} {H : Hp} {x : List Nat} (hk : sok x = true) : Wk K (Its (sOf x)) (x.map fun c => .str [c]) S H [] where
  go := fun i _ _ _ _ hi => by
    show i < x.toArray.size
    rw [List.size_toArray]; simpa using hi
  stop := fun i _ _ _ _ hi => by
    show x.toArray.size ≤ i
    rw [List.size_toArray]; simpa using Nat.le_of_eq hi
  yld := fun i S' H' v H2 d st _ _ hy hd => by
    obtain ⟨rfl, c, hc, rfl⟩ := hy
    have hc' : x[i]? = some c := by simpa using hc
    rw [List.getElem?_map, hc'] at hd
    cases hd
    exact ⟨fun _ _ z => z, .str [c] (sok_mem hk (List.mem_of_getElem? hc'))⟩
theorem ei_e (ha : PE X a (tE xt X.KK W C ea)) : PI X tg a (tI xt X.KK W C (.e ea)) := by
  refine pi_pick fun σ H R ⟨ρ, F, T, L, E, h⟩ => ?_
  have h' : OutG xt X.KK L W σ H F T ((evE C ea ρ).bind fun r => Z.of (lock r.1 r.2)) _ := h
  have lkS : ∀ {H1 : Hp} {F1 : Nat → FP} {T' : FP} {L' : Nat → Lk} {lk : List Nat} {hl : Held}, Stp (U F) H (U F1) H1 → Lkd L T L' T' lk hl F1 H1 → Lkd L T L' T' lk hl F H := fun {H1 F1 T' L' lk hl} S1 lk2 =>
    ⟨lk2.same, lk2.lock, lk2.held, fun p hp => (lk2.own p hp).elim (fun z => S1.sub _ z) fun z => .inr (Classical.byContradiction fun w => S1.dom _ w z), lk2.nT, lk2.inj, lk2.hls⟩
  by_cases hs : ∃ s ρ1, evE C ea ρ = .ok (.sh (.str s), ρ1)
  · obtain ⟨s, ρ1', eq0⟩ := hs
    refine ⟨_, pi_str ha, ρ, F, T, L, E, Out.monoE (OutG.bind h') ?_⟩
    rintro r ρ1 H1 F1 eq ⟨E1, S1, h1⟩ v R1 E1' re new
    rw [eq0] at eq
    cases eq
    obtain ⟨⟨⟨ds, lk⟩, ρ2⟩, e1, h2⟩ := ofG h1
    simp only [lock] at e1
    split at e1
    · cases e1
      have g := (re.own (by intro j z; cases z)).1
      cases g with | sh g =>
      cases g with | str _ hk =>
      exact ⟨_, rfl, h2 _ H1 F1 T L [] [] E1 .none (wk_str hk) (fun _ z => by simp at z) S1⟩
    · cases e1
  · by_cases ht : ∃ r ρ1, evE C ea ρ = .ok (r, ρ1) ∧ isT r = true
    · obtain ⟨r0, ρ0, eq0, hT⟩ := ht
      refine ⟨_, pi_tup ha, ρ, F, T, L, E, Out.monoE (OutG.bind h') ?_⟩
      rintro r ρ1 H1 F1 eq ⟨E1, S1, h1⟩ v R1 E1' re new
      obtain ⟨⟨⟨ds, lk⟩, ρ2⟩, e1, h2⟩ := ofG h1
      obtain ⟨F', T', L', hl, hw, E2, lk2, lt, hh, _, g⟩ := lock_ok E1 re e1 fun s z => hs ⟨s, ρ1, z ▸ eq⟩
      rw [eq0] at eq
      cases eq
      obtain ⟨p, rfl, hq, w⟩ := g hT
      exact ⟨p, rfl, hq, h2 _ H1 F' T' L' hl hw E2 (lkS S1 lk2) w hh (S1.trans (Stp.less (H := H1) lt))⟩
    · refine ⟨_, pi_list ha, ρ, F, T, L, E, Out.monoE (OutG.bind h') ?_⟩
      rintro r ρ1 H1 F1 eq ⟨E1, S1, h1⟩ v R1 E1' re new
      obtain ⟨⟨⟨ds, lk⟩, ρ2⟩, e1, h2⟩ := ofG h1
      obtain ⟨F', T', L', hl, hw, E2, lk2, lt, hh, g, _⟩ := lock_ok E1 re e1 fun s z => hs ⟨s, ρ1, z ▸ eq⟩
      have nT : isT r = false := by
        cases q : isT r with
        | false => rfl
        | true => exact absurd ⟨r, ρ1, eq, q⟩ ht
      obtain ⟨p, rfl, hq, w⟩ := g nT
      exact ⟨p, rfl, hq, h2 _ H1 F' T' L' hl hw E2 (lkS S1 lk2) w hh (S1.trans (Stp.less (H := H1) lt))⟩
/-- range(n), range(m, n) -/
theorem wk_rng {K : KW} {S : FP} {H : Hp} (lo hi : Int) : Wk K (Itr lo (hi - lo).toNat) (rangeL lo hi) S H [] where
  go := fun i _ _ _ _ hi' => by
    show i < (hi - lo).toNat
    simpa [rangeL] using hi'
  stop := fun i _ _ _ _ hi' => by
    show (hi - lo).toNat ≤ i
    have : (rangeL lo hi).length = (hi - lo).toNat := by simp [rangeL]
    omega
  yld := fun i S' H' v H2 d st _ _ hy hd => by
    obtain ⟨rfl, rfl⟩ := hy
    have : d = .int (lo + i) := by
      unfold rangeL at hd
      rw [List.getElem?_map] at hd
      cases q : (List.range (hi - lo).toNat)[i]? with
      | none => rw [q] at hd; cases hd
      | some k =>
        rw [q] at hd
        have : k = i := by
          have := (List.getElem?_eq_some_iff.mp q).2
          simpa using this.symm
        subst this
        exact (Option.some.inj hd).symm
    subst this
    exact ⟨fun _ _ z => z, .int _⟩
def Exs.len : Exs → Nat
  | .nil => 0
  | .cons _ es => es.len + 1
theorem evA_len : ∀ {as : Exs} {ρ ρ' : Env} {rs : List Sl}, evA C as ρ = .ok (rs, ρ') → rs.length = as.len
  | .nil, ρ, ρ', rs, h => by simp only [evA] at h; cases h; rfl
  | .cons e es, ρ, ρ', rs, h => by
    simp only [evA] at h
    obtain ⟨r, _, h⟩ := bind_ok h
    obtain ⟨q, h2, h⟩ := bind_ok h
    cases h
    show q.1.length + 1 = es.len + 1
    rw [evA_len (rs := q.1) (ρ' := q.2) h2]
theorem rng_of {ds : List D} {z : List D} (e : rangeF ds = some z) : (∃ n, ds = [.int n] ∧ n < 2 ^ 62 ∧ -(2 ^ 62) ≤ n ∧ z = rangeL 0 n) ∨ ∃ m n, ds = [.int m, .int n] ∧ (n < 2 ^ 62 ∧ -(2 ^ 62) ≤ n ∧ m < 2 ^ 62 ∧ -(2 ^ 62) ≤ m) ∧ z = rangeL m n := by
  unfold rangeF at e
  split at e
  · split at e
    · rename_i h; cases e; exact .inl ⟨_, rfl, h.1, h.2, rfl⟩
    · cases e
  · split at e
    · rename_i h; cases e; exact .inr ⟨_, _, rfl, h, rfl⟩
    · cases e
  · cases e
theorem vws_len {ρ : Env} : ∀ {rs : List Sl} {ds : List D}, vws ρ rs = some ds → ds.length = rs.length
  | [], ds, h => by cases h; rfl
  | r :: rs, ds, h => by
    unfold vws at h
    split at h
    · split at h
      · cases h
        rename_i h2
        simp [vws_len h2]
      · cases h
    · cases h
theorem ei_range1 {as : Exs} {p : Pos} {e : Expr} (hl : as.len = 1) (hg : Gl X "range") (hm : X.mg "range" = none) (ha : PA X [e] (tA xt X.KK W C as)) (hs : starEach [e] X.env = [(false, eval e X.env)]) : PI X tg (.Call (.Name "range" p) [e] [] pos) (tI xt X.KK W C (.range as)) := by
  refine pi_imp (pi_range1 hg hm ha hs) fun σ H R ⟨ρ, F, T, L, E, h⟩ => ⟨ρ, F, T, L, E, Out.monoE (OutG.bind h) ?_⟩
  rintro rs ρ1 H1 F1 eq ⟨E1, S1, h1⟩ vs R1 E1' rel new
  obtain ⟨z, hz, h2⟩ := ofG_bind h1
  dsimp only at hz h2
  cases hv : vws ρ1 rs with
  | none => rw [hv] at hz; cases hz
  | some ds =>
    rw [hv] at hz
    have rv := Rel.vws E1 (fun _ z => z) rel hv
    rcases rng_of hz with ⟨n, rfl, l1, l2, rfl⟩ | ⟨m, n, rfl, l1, rfl⟩
    · obtain ⟨x, rfl, hx⟩ := vws1 rv
      cases hx.int
      exact ⟨n, rfl, l2, l1, h2 _ H1 F1 T L [] [] E1 .none (by
        have := wk_rng (K := X.KK) (S := hS F1 T) (H := H1) 0 n
        rw [Int.sub_zero] at this
        exact this) (fun _ z => by simp at z) S1⟩
    · have a1 := vws_len hv
      have a2 := evA_len eq
      rw [hl] at a2
      rw [a2] at a1
      cases a1
theorem ei_range2 {as : Exs} {p : Pos} {e e2 : Expr} (hl : as.len = 2) (hg : Gl X "range") (hm : X.mg "range" = none) (ha : PA X [e, e2] (tA xt X.KK W C as)) (hs : starEach [e, e2] X.env = [(false, eval e X.env), (false, eval e2 X.env)]) (hs2 : starEach [e2] X.env = [(false, eval e2 X.env)]) : PI X tg (.Call (.Name "range" p) [e, e2] [] pos) (tI xt X.KK W C (.range as)) := by
  refine pi_imp (pi_range2 hg hm ha hs hs2) fun σ H R ⟨ρ, F, T, L, E, h⟩ => ⟨ρ, F, T, L, E, Out.monoE (OutG.bind h) ?_⟩
  rintro rs ρ1 H1 F1 eq ⟨E1, S1, h1⟩ vs R1 E1' rel new
  obtain ⟨z, hz, h2⟩ := ofG_bind h1
  dsimp only at hz h2
  cases hv : vws ρ1 rs with
  | none => rw [hv] at hz; cases hz
  | some ds =>
    rw [hv] at hz
    have rv := Rel.vws E1 (fun _ z => z) rel hv
    rcases rng_of hz with ⟨n, rfl, l1, l2, rfl⟩ | ⟨m, n, rfl, l1, rfl⟩
    · have a1 := vws_len hv
      have a2 := evA_len eq
      rw [hl] at a2
      rw [a2] at a1
      cases a1
    · obtain ⟨x, y, rfl, hx, hy⟩ := vws2 rv
      cases hx.int; cases hy.int
      exact ⟨m, n, rfl, ⟨l1.2.2.2, l1.2.2.1, l1.2.1, l1.1⟩, h2 _ H1 F1 T L [] [] E1 .none (wk_rng m n) (fun _ z => by simp at z) S1⟩

/-! ### unlocked again -/
theorem unlock_len : ∀ (lk : List Nat) (ρ : Env), (unlock lk ρ).length = ρ.length
  | [], ρ => rfl
  | i :: is, ρ => by
    show (unlock is _).length = _
    rw [unlock_len is, List.length_set]
theorem ulS_ulS : ∀ s : Sl, ulS (ulS s) = ulS s := fun s => by cases s <;> rfl
theorem get_some {ρ : Env} {j : Nat} {s : Sl} (h : ρ[j]? = some s) : ρ.get j = s := by
  unfold Env.get
  rw [List.getD_eq_getElem?_getD, h]; rfl
theorem unlock_get {j : Nat} : ∀ (lk : List Nat) (ρ : Env), (unlock lk ρ)[j]? = if j ∈ lk then ρ[j]?.map ulS else ρ[j]?
  | [], ρ => by simp [unlock]
  | i :: is, ρ => by
    show (unlock is _)[j]? = _
    rw [unlock_get is]
    by_cases hij : j = i
    · subst hij
      rw [if_pos (List.mem_cons_self)]
      have e : (ρ.set j (ulS (ρ.get j)))[j]? = ρ[j]?.map ulS := by
        cases q : ρ[j]? with
        | none =>
          show _ = none
          rw [List.getElem?_eq_none_iff] at q ⊢
          rw [List.length_set]; exact q
        | some s =>
          have hj := (List.getElem?_eq_some_iff.mp q).1
          rw [List.getElem?_set_self hj, get_some q]
          rfl
      rw [e]
      by_cases hm : j ∈ is
      · rw [if_pos hm, Option.map_map]
        cases ρ[j]? with
        | none => rfl
        | some s => exact congrArg some (ulS_ulS s)
      · rw [if_neg hm]
    · rw [List.getElem?_set_ne (Ne.symm hij)]
      by_cases hm : j ∈ is
      · rw [if_pos hm, if_pos (List.mem_cons_of_mem _ hm)]
      · rw [if_neg hm, if_neg fun z => (List.mem_cons.mp z).elim hij hm]
theorem unlock_ok {K : KW} {L L' : Nat → Lk} {σ : L2.St} {ρ : Env} {H H0 : Hp} {F F0 : Nat → FP} {T T' : FP} {lk : List Nat} {hl : Held} (E : En K L' σ ρ H F T') (k : Lkd L T L' T' lk hl F0 H0) (old : ∀ i a xs, L i = some (a, xs) → T a ∧ H a = some (.lst xs)) :
    ∃ F3, En K L σ (unlock lk ρ) H F3 T ∧ ∀ i a, F3 i a → F i a ∨ ∃ p ∈ hl, p.1 = a := by
  let F3 : Nat → FP := fun i a => F i a ∨ (i ∈ lk ∧ (∃ xs, ρ[i]? = some (.lk xs)) ∧ ∃ p, L' i = some p ∧ p.1 = a)
  have fh : ∀ i a, F3 i a → F i a ∨ ∃ p ∈ hl, p.1 = a := fun i a z => by
    rcases z with z | ⟨hi, _, p, e, z⟩
    · exact .inl z
    · obtain ⟨q, hq, e2⟩ := k.lock i hi
      rw [e] at e2
      cases e2
      exact .inr ⟨p, hq, z⟩
  have sub : ∀ a, hS F3 T a → hS F T' a := fun a z => by
    rcases z with ⟨i, z⟩ | z
    · rcases fh i a z with z | z
      · exact .inl ⟨i, z⟩
      · exact .inr ((k.held a).mpr (.inr z))
    · exact .inr ((k.held a).mpr (.inl z))
  refine ⟨F3, ⟨by rw [unlock_len]; exact E.len, fun i s e => ?_, fun i a hi z => ?_, fun i j a z1 z2 => ?_, fun a z ⟨i, w⟩ => ?_, fun a z => E.tl a ((k.held a).mpr (.inl z)), old⟩, fh⟩
  · rw [unlock_get] at e
    by_cases hm : i ∈ lk
    · rw [if_pos hm] at e
      cases q : ρ[i]? with
      | none => rw [q] at e; cases e
      | some t =>
        rw [q] at e
        by_cases hlk : ∃ xs, t = .lk xs
        · obtain ⟨xs, rfl⟩ := hlk
          cases e
          rcases E.at_ i _ q with ⟨z, _⟩ | ⟨v, z1, z2⟩
          · cases z
          · have eF : F3 i = fun b => ∃ p, L' i = some p ∧ p.1 = b := funext fun b => propext ⟨fun z => by
              rcases z with z | ⟨_, _, z⟩
              · generalize F i = G at z2 z
                cases z2
                exact z.elim
              · exact z, fun z => .inr ⟨hm, ⟨xs, q⟩, z⟩⟩
            generalize F i = G at z2
            cases z2 with | lk e1 r =>
            rename_i p vs
            have eF2 : F3 i = fun b => b = p := by
              rw [eF]
              funext b
              rw [e1]
              apply propext
              constructor
              · rintro ⟨q, e, z⟩; cases e; exact z.symm
              · intro z; exact ⟨(p, vs), rfl, z.symm⟩
            rw [eF2]
            exact .inr ⟨_, z1, .ol (E.lks i p vs e1).2 (Rps.mono (hid_anti sub) _ _ r)⟩
        · have es : s = t := by
            cases t <;> first | (cases e; rfl) | exact absurd ⟨_, rfl⟩ hlk
          subst es
          have eF : F3 i = F i := funext fun b => propext ⟨fun z => by
            rcases z with z | ⟨_, ⟨xs, z⟩, _⟩
            · exact z
            · rw [q] at z; exact absurd ⟨xs, Option.some.inj z⟩ hlk, .inl⟩
          rw [eF]
          exact (E.at_ i _ q).imp id fun ⟨v, z1, z2⟩ => ⟨v, z1, (z2.relock fun xs z => hlk ⟨xs, z⟩).mono (hid_anti sub) fun _ _ _ z => z⟩
    · rw [if_neg hm] at e
      have eF : F3 i = F i := funext fun b => propext ⟨fun z => by
        rcases z with z | ⟨z, _⟩
        · exact z
        · exact absurd z hm, .inl⟩
      rw [eF, ← k.same i hm]
      exact (E.at_ i _ e).imp id fun ⟨v, z1, z2⟩ => ⟨v, z1, z2.mono (hid_anti sub) fun _ _ _ z => z⟩
  · rw [unlock_len] at hi
    rcases z with z | ⟨_, ⟨xs, z⟩, _⟩
    · exact E.out i a hi z
    · have := (List.getElem?_eq_some_iff.mp z).1
      omega
  · have dj : ∀ i j, F i a → (j ∈ lk ∧ (∃ xs, ρ[j]? = some (.lk xs)) ∧ ∃ p, L' j = some p ∧ p.1 = a) → False := fun i j z1 ⟨h1, _, p, e, z⟩ => by
      obtain ⟨q, hq, e2⟩ := k.lock j h1
      rw [e] at e2
      cases e2
      exact E.tdis a ((k.held a).mpr (.inr ⟨p, hq, z⟩)) ⟨i, z1⟩
    rcases z1 with z1 | z1 <;> rcases z2 with z2 | z2
    · exact E.dis i j a z1 z2
    · exact (dj i j z1 z2).elim
    · exact (dj j i z2 z1).elim
    · obtain ⟨h1, _, p, e, z⟩ := z1
      obtain ⟨h2, _, q, e', z'⟩ := z2
      exact k.inj i h1 j h2 p q e e' (z.trans z'.symm)
  · rcases fh i a w with w | ⟨p, hp, w⟩
    · exact E.tdis a ((k.held a).mpr (.inl z)) ⟨i, w⟩
    · exact k.nT p hp (by rw [w]; exact z)
end
end Mp
namespace Mp
open PySem PySem.Spec PyProof.Rows L2
/-! # list.index; enumerate, zip -/
theorem py_at {ds : List D} : ∀ {j : Nat}, (pys ds)[j]? = ds[j]?.map py := by
  induction ds with
  | nil => intro j; rfl
  | cons d ds ih =>
    intro j
    cases j with
    | zero => rfl
    | succ j => simpa [pys] using ih
section
variable {xt : XT} {W : WX} {C : Ctx} {X : Cx} {o e : Expr} {eo : Ex} {as : Exs} {apos cpos p pos : Pos}
theorem ex_index (hu : X.A.units + 66 < cLine) (ho : PE X o (tE xt X.KK W C eo)) (ha : PA X [e] (tA xt X.KK W C as)) (hbase : attributeBase o "index" X.env (eval o X.env) = eval o X.env)
    (hfew : ((backTo cpos (starEach [e] X.env)).all (fun x => !x.1) && (backToKw cpos (keywordEach [] X.env)).all (fun x => x.1.isSome)
      && decide ([e].length + ([] : List Keyword).length + (if ([] : List Keyword).isEmpty then 0 else 1) < 30)) = true)
    (hline : (apos.endLine == cpos.line) = true) (hs : starEach [e] X.env = (false, eval e X.env) :: starEach [] X.env) :
    PE X (.Call (.Attribute o "index" apos) [e] [] cpos) (tE xt X.KK W C (.bm .index eo as)) := by
  refine pe_imp (pe_bm PySem.F.plainAttrs_list PySem.F.slot_list_index PySem.F.type_list_index (mt_indexD (by omega)) ho ha hbase hfew hline hs (by rfl)) fun σ H Q ⟨ρ, F, T, L, E, h⟩ => ⟨ρ, F, T, L, E, Out.mono (Out.bind h) ?_⟩
  rintro r ρ1 H1 F1 ⟨E1, S1, h1⟩ v R E1' re new
  obtain ⟨ht, h2⟩ := if_out h1
  dsimp only at ht
  cases hv : vw ρ1 r with
  | none => rw [hv] at ht; cases ht
  | some d0 =>
    rw [hv] at ht
    cases d0 with
    | lst ys =>
      have V1 := Re.vw E1 (fun _ z => z) re hv
      obtain ⟨a, xs, rfl, hq, _⟩ := V1.lst
      refine ⟨.inl ⟨rfl, xs, .inl (.inl hq)⟩, ρ1, F1, T, L, E1, Out.mono (Out.bind h2) ?_⟩
      rintro rs ρ2 H2 F2 ⟨E2, S2, h3⟩ us R2 E2' rel new2
      obtain ⟨z, hz, h4⟩ := of_bind h3
      unfold bmS at hz
      split at hz
      · rename_i x ds ex ey
        have V2 : Vw X.KK (hS F2 T) H2 (.ref a) x := Re.vw E2 (fun _ z => z) (re.step S2.held0) ex
        have W2 := Rel.vws E2 (fun _ z => z) rel ey
        cases x with
        | lst ys2 =>
          cases ds with
          | nil => simp [bmF] at hz
          | cons d ds' =>
          cases ds' with
          | cons _ _ => simp [bmF] at hz
          | nil =>
          simp only [bmF] at hz
          split at hz
          · rename_i hc
            obtain ⟨y, rfl, hy⟩ := vws1 W2
            cases hf : ys2.findIdx? (fun z => D.eqv z d) with
            | none => rw [hf] at hz; cases hz
            | some j =>
              rw [hf] at hz
              cases hz
              rw [List.findIdx?_eq_some_iff_getElem] at hf
              obtain ⟨hj, hj1, hj2⟩ := hf
              have l1 := py_lay _ _ V2.rp
              have l2 := py_lay _ _ hy.rp
              refine ⟨a, y, py d, pys ys2, j, py ys2[j], rfl, rfl, Rp.dp _ _ V2.rp, Rp.dp _ _ hy.rp, ?_, ?_, ?_, ?_, ?_, PV.sh h4 E2 (.int _) (S1.trans S2).dom⟩
              · show (PyData.canLay0 (py (.lst ys2)) && decide ((py (.lst ys2)).depth ≤ 64)) = true
                rw [l1, py_depth, Bool.true_and]
                exact decide_eq_true hc.2.1
              · show (PyData.canLay0 (py d) && decide ((py d).depth ≤ 64)) = true
                rw [l2, py_depth, Bool.true_and]
                exact decide_eq_true hc.1
              · rw [py_at, List.getElem?_eq_getElem hj]; rfl
              · rw [py_eqv]; exact hj1
              · intro m z' hm hz'
                rw [py_at] at hz'
                have hml : m < ys2.length := by omega
                rw [List.getElem?_eq_getElem hml] at hz'
                cases hz'
                rw [py_eqv]
                exact Bool.eq_false_iff.mpr (hj2 m hm)
          · cases hz
        | _ => simp [bmF] at hz
      · cases hz
    | _ => cases ht
/-! ### enumerate, zip -/
theorem pair_new {K : KW} {S : FP} {H : Hp} {T : Addr} {x y : V} {d e : D} (lv : ∀ a, S a → H a ≠ Option.none) (n : H T = Option.none) (hx : Rp K (hid S H) x d) (hy : Rp K (hid S H) y e) : (∀ b o, H b = some o → upd H T (.tup [x, y]) b = some o) ∧ Rp K (hid S (upd H T (.tup [x, y]))) (.ref T) (.tup [d, e]) := by
  have k : ∀ b o, H b = some o → upd H T (.tup [x, y]) b = some o := fun b o e => by
    rw [upd_ne fun z => by rw [z, n] at e; cases e]
    exact e
  have k2 : ∀ b o, hid S H b = some o → hid S (upd H T (.tup [x, y])) b = some o := fun b o e => by
    rw [hid_some] at e ⊢
    exact ⟨e.1, k b o e.2⟩
  refine ⟨k, .tup (.inl (.inl ?_)) (.cons (Rp.mono k2 _ _ hx) (.cons (Rp.mono k2 _ _ hy) .nil))⟩
  rw [hid_some]
  exact ⟨fun z => lv T z n, upd_same⟩
theorem wk_enum {K : KW} {S : FP} {H : Hp} {p : Addr} {xs : List V} {ds : List D} (hp : SqL K (hid S H) p xs) (r : Rps K (hid S H) xs ds) : Wk K (Ite K p) (enumL 0 ds) S H [] where
  go := fun i S' H' st _ hi => by
    have h2 : SqL K H' p xs := SqL.mono hid_sub (SqL.mono st.hid hp)
    rw [enumL_len] at hi
    have : i < xs.length := by rw [r.length]; exact hi
    exact ⟨xs, _, h2, List.getElem?_eq_getElem this⟩
  stop := fun i S' H' st _ hi => ⟨xs, SqL.mono hid_sub (SqL.mono st.hid hp), by rw [r.length]; rw [enumL_len] at hi; omega⟩
  yld := fun i S' H' x H2 d st _ lv hy hd => by
    obtain ⟨T, y, rfl, hT, rfl, fy⟩ := hy
    rw [enumL_at] at hd
    cases hd0 : ds[i]? with
    | none => rw [hd0] at hd; cases hd
    | some d0 =>
      rw [hd0] at hd
      cases hd
      obtain ⟨v, e1, rv⟩ := r.get hd0
      have := fy xs (SqL.mono hid_sub (SqL.mono st.hid hp))
      rw [e1] at this
      cases this
      rw [Nat.zero_add]
      exact pair_new lv hT (.int _) (Rp.mono st.hid _ _ rv)
theorem zip_at {x y : List D} {i : Nat} {d : D} (h : (List.zipWith pairF x y)[i]? = some d) : ∃ a b, x[i]? = some a ∧ y[i]? = some b ∧ d = .tup [a, b] := by
  rw [List.getElem?_zipWith] at h
  cases ha : x[i]? with
  | none => rw [ha] at h; cases h
  | some a =>
    cases hb : y[i]? with
    | none => rw [ha, hb] at h; cases h
    | some b =>
      rw [ha, hb] at h
      cases h
      exact ⟨a, b, rfl, rfl, rfl⟩
variable {elts : List Expr} {kk : Nat} {tpos : Pos} {a b : Expr}
end
end Mp
namespace Mp
open PySem PySem.Spec PyProof.Rows L2
/-! # zip over a list or a tuple and a list or a tuple -/
/-- a list, a tuple -/
def SqE (t : Bool) (K : PySem.W.Frag) (H : Hp) (a : Addr) (xs : List V) : Prop := if t then SqT K H a xs else SqL K H a xs
def seqE (t : Bool) (h : Heap) (a : Addr) (its : Array Value) : Prop := if t then h.IsTuple a its else h.IsList a its
def itE (t : Bool) (h : Heap) (it a : Addr) (i : Nat) : Prop := if t then h.IsTupleIter it a i else h.IsListIter it a i
theorem itE_obj {t : Bool} {h : Heap} {it a : Addr} {i : Nat} (x : itE t h it a i) : ∃ o, h.get? it = some o ∧ ∀ v, o.data ≠ .cell v := by
  cases t
  · obtain ⟨o, e, _, d⟩ := x
    exact ⟨o, e, fun v q => by rw [d] at q; cases q⟩
  · obtain ⟨o, e, _, d⟩ := x
    exact ⟨o, e, fun v q => by rw [d] at q; cases q⟩
theorem itE_at {t : Bool} {h h' : Heap} {it a : Addr} {i : Nat} (x : itE t h it a i) (k : ∀ o, h.get? it = some o → h'.get? it = some o) : itE t h' it a i := by
  cases t
  · exact Heap.IsListIter.at x k
  · exact Heap.IsTupleIter.at x k
theorem draws_E {prog : Program} {w : World} {A : Around} (hh : A.handled = none) (t : Bool) (it l : Addr) (hne : l ≠ it) (items : Array Value) :
    Draws prog w A it [it, l] items.size (fun i v => items[i]? = some v) (fun i h => itE t h it l i ∧ seqE t h l items) := by
  cases t
  · exact Draws.list hh it l hne items
  · exact Draws.tuple hh it l hne items
theorem begins_E (t : Bool) (l : Addr) (items : Array Value) : ∃ o, Begins (.ref l) o (fun h => seqE t h l items) ∧ ∀ (h : Heap) (it : Addr), h.get? it = some o → itE t h it l 0 := by
  cases t
  · exact ⟨_, begins_list l items, fun h it e => ⟨_, e, rfl, rfl⟩⟩
  · exact ⟨_, begins_tuple l items, fun h it e => ⟨_, e, rfl, rfl⟩⟩
section
variable {X : Cx} {pins : List (Addr × Obj)} {σ : L2.St} {H : Hp} {s : Shared} {a : Addr} {xs : List V}
theorem inv_E {t : Bool} (I : Inv X pins σ H s) (h : SqE t X.K H a xs) : ∃ its : List Value, Vals xs its ∧ seqE t s.heap a its.toArray ∧ a < s.heap.objs.size := by
  cases t
  · obtain ⟨its, rv, p, _⟩ := I.list h
    exact ⟨its, rv, p.isList, p.lt⟩
  · obtain ⟨its, rv, p, _⟩ := I.tuple h
    obtain ⟨o, e, _⟩ := id p
    exact ⟨its, rv, p, Heap.lt_size e⟩
end
theorem sqE_inj {X : Cx} {pins : List (Addr × Obj)} {σ : L2.St} {H : Hp} {s : Shared} {a : Addr} {xs ys : List V} {t : Bool} (I : Inv X pins σ H s) (h : SqE t X.K H a xs) (k : SqE t X.K H a ys) : xs = ys := by
  cases t
  · exact I.list_inj h k
  · exact I.tuple_inj h k
/-- the items of both, as they stand at each turn, in new pairs -/
def ItzE (K : PySem.W.Frag) (t1 t2 : Bool) (a b : Addr) : L2.It :=
  ⟨fun i H => ∃ (xs ys : List V) (x y : V), SqE t1 K H a xs ∧ SqE t2 K H b ys ∧ xs[i]? = some x ∧ ys[i]? = some y,
    fun i H v H' => ∃ T x y, v = .ref T ∧ H T = none ∧ H' = upd H T (.tup [x, y]) ∧ (∀ xs, SqE t1 K H a xs → xs[i]? = some x) ∧ ∀ ys, SqE t2 K H b ys → ys[i]? = some y,
    fun i H => ∃ xs ys : List V, SqE t1 K H a xs ∧ SqE t2 K H b ys ∧ min xs.length ys.length = i⟩
theorem turn_zipE {P : Program} {w : World} {K : PySem.W.Frag} {elts : List Expr} {kk : Nat} {tpos : Pos} {t1 t2 : Bool} {a b z TI TO i1 i2 : Addr} (S : ZipSep2 z TI TO i1 i2 [i1, a] [i2, b]) (n1 : a ≠ i1) (n2 : b ≠ i2) :
    Turn P w K (.Tuple elts kk tpos) (ItzE K t1 t2 a b) [z, TI, TO, i1, i2] z (fun i h => IsZip h z TI TO .none ∧ IsTupOf2 h TI (.ref i1) (.ref i2) ∧ (∃ x y, IsTupOf2 h TO x y) ∧ itE t1 h i1 a i ∧ itE t2 h i2 b i) where
  mem := by simp
  obj := fun i h st c hc => by
    obtain ⟨hz, hTI, ⟨x, y, hTO⟩, e1, e2⟩ := st
    have e' : c = z ∨ c = TI ∨ c = TO ∨ c = i1 ∨ c = i2 := by simpa using hc
    rcases e' with q | q | q | q | q
    · subst q; exact ⟨_, hz, fun v q => nomatch q⟩
    · subst q; exact ⟨_, hTI, fun v q => nomatch q⟩
    · subst q; exact ⟨_, hTO, fun v q => nomatch q⟩
    · subst q; exact itE_obj e1
    · subst q; exact itE_obj e2
  keep := fun i h h' st k => by
    obtain ⟨hz, hTI, ⟨x, y, hTO⟩, e1, e2⟩ := st
    exact ⟨k z (by simp) _ hz, k TI (by simp) _ hTI, ⟨x, y, k TO (by simp) _ hTO⟩, itE_at e1 fun o q => k i1 (by simp) o q, itE_at e2 fun o q => k i2 (by simp) o q⟩
  item := by
    intro X hP hw hK hc i pins s σ H E I hf st hg
    subst hP hw hK
    obtain ⟨hz, hTI, ⟨x0, y0, hTO⟩, h1, h2⟩ := st
    obtain ⟨xs, ys, x, y, hqx, hqy, hx, hy⟩ := hg
    obtain ⟨its, rv, p, _⟩ := inv_E I hqx
    obtain ⟨its2, rv2, p2, _⟩ := inv_E I hqy
    obtain ⟨u, hu, ru⟩ := rv.get hx
    obtain ⟨u2, hu2, ru2⟩ := rv2.get hy
    have hh := I.ok.hd hc
    have D1 := draws_E (prog := X.prog) (w := X.w) (A := X.A.in1) hh t1 i1 a n1 its.toArray
    have D2 := draws_E (prog := X.prog) (w := X.w) (A := X.A.in1) hh t2 i2 b n2 its2.toArray
    have l1 : i < its.toArray.size := by
      have := (List.getElem?_eq_some_iff.mp hu).1
      simpa using this
    have l2 : i < its2.toArray.size := by
      have := (List.getElem?_eq_some_iff.mp hu2).1
      simpa using this
    have hzl : z < s.heap.objs.size := Heap.lt_size hz
    refine wpAny_pyNext_zipD2_item S D1 D2 hz hTI hTO ⟨h1, p⟩ ⟨h2, p2⟩ l1 l2 fun v1 v2 h' tk y1 y2 z' TO' d1 d2 hT hsz hk => ?_
    have ev1 : v1 = u := by
      have e : its[i]? = some v1 := by simpa using y1
      rw [hu] at e; cases e; rfl
    have ev2 : v2 = u2 := by
      have e : its2[i]? = some v2 := by simpa using y2
      rw [hu2] at e; cases e; rfl
    subst ev1 ev2
    refine ⟨_, rfl, wpAny_letOwnedTupleGo_zip (s := { s with heap := h', toks := tk }) z' fun h'' z'' sb => ?_⟩
    have hT2 : h''.get? s.heap.objs.size = some { cls := .type "tuple", data := .seq #[v1, v2] } := (sb.2 _ (Nat.ne_of_gt hzl)).trans hT
    have new : ObjOk X.prog X.w (upd H s.heap.objs.size (.tup [x, y])) h'' s.heap.objs.size (.tup [x, y]) :=
      ⟨by show 2 ≤ sizeLine; decide, [v1, v2], .cons ru (.cons ru2 .nil), ⟨_, hT2, rfl, _, rfl⟩⟩
    have I1 : Inv X pins σ (upd H s.heap.objs.size (.tup [x, y])) { s with heap := h'', toks := tk } :=
      I.turnedNew (t' := tk) (ch := [z, TI, TO, i1, i2]) (fun c o hb q => (sb.2 c (fun q' => hb (by simp [q']))).trans (hk c o (fun q' => hb (by simp [q'])) (fun q' => hb (by simp [q'])) (fun q' => hb (by simp [q'])) (fun q' => hb (by simp [q'])) q)) hf (Nat.le_refl _) new
    refine ⟨.ref s.heap.objs.size, _, I1, rfl, ⟨_, x, y, rfl, I.hok.fresh (Nat.le_refl _), rfl, fun l hl => by rw [sqE_inj I hl hqx]; exact hx, fun l hl => by rw [sqE_inj I hl hqy]; exact hy⟩, ⟨z'', ?_, ⟨v1, v2, ?_⟩, ?_, ?_⟩, fun c hcm => ?_⟩
    · exact (sb.2 _ S.TIz).trans (hk _ _ S.TIz S.TITO S.TIi1 S.TIi2 hTI)
    · exact (sb.2 _ S.TOz).trans TO'
    · exact itE_at d1.1 fun o q => (sb.2 _ S.zi1.symm).trans q
    · exact itE_at d2.1 fun o q => (sb.2 _ S.zi2.symm).trans q
    · have hlt : c < s.heap.objs.size := by
        have e' : c = z ∨ c = TI ∨ c = TO ∨ c = i1 ∨ c = i2 := by simpa using hcm
        rcases e' with q | q | q | q | q
        · rw [q]; exact hzl
        · rw [q]; exact Heap.lt_size hTI
        · rw [q]; exact Heap.lt_size hTO
        · rw [q]; obtain ⟨_, e1, _⟩ := itE_obj h1; exact Heap.lt_size e1
        · rw [q]; obtain ⟨_, e2, _⟩ := itE_obj h2; exact Heap.lt_size e2
      rw [upd_ne (Nat.ne_of_lt hlt)]
      exact (hf c hcm).1
  done := by
    intro X hP hw hK hc i pins s σ H E I hf st hg
    subst hP hw hK
    obtain ⟨hz, hTI, ⟨x0, y0, hTO⟩, h1, h2⟩ := st
    obtain ⟨xs, ys, hqx, hqy, hend⟩ := hg
    obtain ⟨its, rv, p, _⟩ := inv_E I hqx
    obtain ⟨its2, rv2, p2, _⟩ := inv_E I hqy
    have l1 := rv.length
    have l2 := rv2.length
    have hh := I.ok.hd hc
    have D1 := draws_E (prog := X.prog) (w := X.w) (A := X.A.in1) hh t1 i1 a n1 its.toArray
    have D2 := draws_E (prog := X.prog) (w := X.w) (A := X.A.in1) hh t2 i2 b n2 its2.toArray
    exact wpAny_pyNext_zipD2_end S D1 D2 hz hTI hTO ⟨h1, p⟩ ⟨h2, p2⟩ (by simp; omega) (by simp; omega) (by simp; omega) fun h' tk hk => ⟨rfl, I.turnedL (t' := tk) (ch := [z, TI, TO, i1, i2]) (fun c o hb q =>
      hk c o (fun q' => hb (by simp [q'])) (fun q' => hb (by simp [q'])) (fun q' => hb (by simp [q'])) (fun q' => hb (by simp [q'])) q) hf⟩
  self := fun A i s Q E st h => wpAny_pyIter_zip st.1 h
def iZipE (K : PySem.W.Frag) (ta : TA) : TI := fun σ H R => ta σ H fun vs H1 => ∃ t1 t2 a b xs ys, vs = [.ref a, .ref b] ∧ SqE t1 K H1 a xs ∧ SqE t2 K H1 b ys ∧ R (ItzE K t1 t2 a b) H1
theorem pi_zipE {X : Cx} {e e2 : Expr} {ta : TA} {p pos tpos : Pos} {elts : List Expr} {kk : Nat} (hg : Gl X "zip") (hm : X.mg "zip" = none) (ha : PA X [e, e2] ta)
    (hs : starEach [e, e2] X.env = (false, eval e X.env) :: starEach [e2] X.env) (hpl : (backTo pos (starEach [e2] X.env)).any (·.1) = false) :
    PI X (.Tuple elts kk tpos) (.Call (.Name "zip" p) [e, e2] [] pos) (iZipE X.K ta) := by
  refine ⟨fun pins s σ H R I h => ?_⟩
  refine Call_ (ld_blt I hg hm PyProof.Rows.boot_zip (PyProof.Rows.callWith_type1 (thn (ha.run pos pins s σ H _ I h) fun us s1 ⟨vs, H1, I1, r1, q1⟩ => ?_) hs hpl))
  obtain ⟨t1, t2, a, b, xs, ys, ex, hqx, hqy, q⟩ := q1
  subst ex
  cases r1 with
  | cons r rr =>
    cases rr with
    | cons r' rr =>
      cases rr
      cases r
      cases r'
      obtain ⟨its, rv, p1, la⟩ := inv_E I1 hqx
      obtain ⟨its2, rv2, p2, lb⟩ := inv_E I1 hqy
      obtain ⟨o1, B1, f1⟩ := begins_E t1 a its.toArray
      obtain ⟨o2, B2, f2⟩ := begins_E t2 b its2.toArray
      refine zip_begins2 B1 B2 p1 p2 fun h' hz hTI hTO g1 g2 hsz hk => wpAny_pyIter_zip hz ?_
      have I2 : Inv X pins σ H1 { s1 with heap := h' } := I1.kept (t' := s1.toks) hk
      have ne1 : a ≠ s1.heap.objs.size := Nat.ne_of_lt la
      have ne2 : b ≠ s1.heap.objs.size + 1 := Nat.ne_of_lt (Nat.lt_succ_of_lt lb)
      refine ⟨s1.heap.objs.size + 4, [s1.heap.objs.size + 4, s1.heap.objs.size + 2, s1.heap.objs.size + 3, s1.heap.objs.size, s1.heap.objs.size + 1], _, _, H1, rfl, I2,
        turn_zipE (PySem.zip_sep2 (fp1 := [a]) (fp2 := [b]) (fun c hc => by simp at hc; subst hc; exact la) (fun c hc => by simp at hc; subst hc; exact lb)) ne1 ne2, ⟨hz, hTI, ⟨_, _, hTO⟩, f1 _ _ g1, f2 _ _ g2⟩, fun c hcm => ?_, q⟩
      have e' : c = s1.heap.objs.size + 4 ∨ c = s1.heap.objs.size + 2 ∨ c = s1.heap.objs.size + 3 ∨ c = s1.heap.objs.size ∨ c = s1.heap.objs.size + 1 := by simpa using hcm
      have hle : s1.heap.objs.size ≤ c := by
        rcases e' with z | z | z | z | z
        · rw [z]; exact Nat.le_add_right _ _
        · rw [z]; exact Nat.le_add_right _ _
        · rw [z]; exact Nat.le_add_right _ _
        · rw [z]; exact Nat.le_refl _
        · rw [z]; exact Nat.le_add_right _ _
      exact I1.fpOk hle (I1.hok.fresh hle)
/-! ### for the interpreter -/
theorem SqE.mono {t : Bool} {K : KW} {H H' : Hp} {a : Addr} {xs : List V} (k : ∀ b o, H b = some o → H' b = some o) (h : SqE t K H a xs) : SqE t K H' a xs := by
  cases t
  · exact SqL.mono k h
  · exact SqT.mono k h
section
variable {xt : XT} {W : WX} {C : Ctx} {X : Cx} {as : Exs} {p pos : Pos}
theorem sqE_hid {t : Bool} {K : KW} {S S' : FP} {H H' : Hp} {a : Addr} {xs : List V} (st : Stp S H S' H') (h : SqE t K (hid S H) a xs) : SqE t K H' a xs := SqE.mono hid_sub (SqE.mono st.hid h)
theorem wk_zipE {K : KW} {S : FP} {H : Hp} {t1 t2 : Bool} {p q : Addr} {xs ys : List V} {ds es : List D} (hp : SqE t1 K (hid S H) p xs) (r : Rps K (hid S H) xs ds) (hq : SqE t2 K (hid S H) q ys) (r2 : Rps K (hid S H) ys es) : Wk K (ItzE K t1 t2 p q) (List.zipWith pairF ds es) S H [] where
  go := fun i S' H' st _ hi => by
    rw [List.length_zipWith] at hi
    have l1 := r.length
    have l2 := r2.length
    have i1 : i < xs.length := by omega
    have i2 : i < ys.length := by omega
    exact ⟨xs, ys, _, _, sqE_hid st hp, sqE_hid st hq, List.getElem?_eq_getElem i1, List.getElem?_eq_getElem i2⟩
  stop := fun i S' H' st _ hi => by
    rw [List.length_zipWith] at hi
    have l1 := r.length
    have l2 := r2.length
    exact ⟨xs, ys, sqE_hid st hp, sqE_hid st hq, by omega⟩
  yld := fun i S' H' x H2 d st _ lv hy hd => by
    obtain ⟨T, x1, y1, rfl, hT, rfl, fx, fy⟩ := hy
    obtain ⟨a, b, ha, hb, rfl⟩ := zip_at hd
    obtain ⟨v, e1, rv⟩ := r.get ha
    obtain ⟨w, e2, rw'⟩ := r2.get hb
    have h1 := fx xs (sqE_hid st hp)
    have h2 := fy ys (sqE_hid st hq)
    rw [e1] at h1
    rw [e2] at h2
    cases h1; cases h2
    exact pair_new lv hT (Rp.mono st.hid _ _ rv) (Rp.mono st.hid _ _ rw')
/-- what can be zipped -/
theorem rp_E {K : KW} {H : Hp} {v : V} {d : D} {ds : List D} (h : itemsZ d = some ds) (r : Rp K H v d) : ∃ t a xs, v = .ref a ∧ SqE t K H a xs ∧ Rps K H xs ds := by
  cases d <;> simp [itemsZ] at h
  · subst h
    cases r with | tup s r => exact ⟨true, _, _, rfl, s, r⟩
  · subst h
    cases r with | lst s r => exact ⟨false, _, _, rfl, .inl (.inl s), r⟩
variable {elts : List Expr} {kk : Nat} {tpos : Pos} {a b : Expr}
theorem ei_zip (hg : Gl X "zip") (hm : X.mg "zip" = none) (ha : PA X [a, b] (tF xt X.KK W C as)) (hs : starEach [a, b] X.env = (false, eval a X.env) :: starEach [b] X.env) (hpl : (backTo pos (starEach [b] X.env)).any (·.1) = false) :
    PI X (.Tuple elts kk tpos) (.Call (.Name "zip" p) [a, b] [] pos) (tI xt X.KK W C (.zip as)) := by
  refine pi_imp (pi_zipE hg hm ha hs hpl) fun σ H R ⟨ρ, F, T, L, E, h⟩ => ⟨ρ, F, T, L, E, Out.mono (OutG.bind h) ?_⟩
  rintro ds ρ1 H1 F1 ⟨E1, S1, h1⟩ _ vs rs
  obtain ⟨z, hz, h2⟩ := ofG_bind h1
  dsimp only at hz h2
  unfold zipF at hz
  split at hz
  · rename_i d1 d2
    cases e1 : itemsZ d1 with
    | none => rw [e1] at hz; cases hz
    | some ds1 =>
      cases e2 : itemsZ d2 with
      | none => rw [e1, e2] at hz; cases hz
      | some ds2 =>
        rw [e1, e2] at hz
        cases hz
        cases rs with | cons g1 t1 =>
        cases t1 with | cons g2 t2 =>
        cases t2
        obtain ⟨b1, a1, xs, rfl, s1, r1⟩ := rp_E e1 g1
        obtain ⟨b2, a2, ys, rfl, s2, r2⟩ := rp_E e2 g2
        exact ⟨b1, b2, _, _, _, _, rfl, SqE.mono hid_sub s1, SqE.mono hid_sub s2, h2 _ H1 F1 T L [] [] E1 .none (wk_zipE s1 r1 s2 r2) (fun _ z => by simp at z) S1⟩
  · cases hz
end
end Mp
namespace Mp
open PySem PySem.Spec PyProof.Rows L2
/-! # zip over three -/
/-- the items of three, as they stand at each turn, in new triples -/
def Itz3 (K : PySem.W.Frag) (t1 t2 t3 : Bool) (a b c : Addr) : L2.It :=
  ⟨fun i H => ∃ (xs ys zs : List V) (x y z : V), SqE t1 K H a xs ∧ SqE t2 K H b ys ∧ SqE t3 K H c zs ∧ xs[i]? = some x ∧ ys[i]? = some y ∧ zs[i]? = some z,
    fun i H v H' => ∃ T x y z, v = .ref T ∧ H T = none ∧ H' = upd H T (.tup [x, y, z]) ∧ (∀ xs, SqE t1 K H a xs → xs[i]? = some x) ∧ (∀ ys, SqE t2 K H b ys → ys[i]? = some y) ∧ ∀ zs, SqE t3 K H c zs → zs[i]? = some z,
    fun i H => ∃ xs ys zs : List V, SqE t1 K H a xs ∧ SqE t2 K H b ys ∧ SqE t3 K H c zs ∧ min (min xs.length ys.length) zs.length = i⟩
theorem turn_zip3 {P : Program} {w : World} {K : PySem.W.Frag} {elts : List Expr} {kk : Nat} {tpos : Pos} {t1 t2 t3 : Bool} {a b c z TI TO i1 i2 i3 : Addr} (S : ZipSep3 z TI TO i1 i2 i3 [i1, a] [i2, b] [i3, c]) (n1 : a ≠ i1) (n2 : b ≠ i2) (n3 : c ≠ i3) :
    Turn P w K (.Tuple elts kk tpos) (Itz3 K t1 t2 t3 a b c) [z, TI, TO, i1, i2, i3] z (fun i h => IsZip h z TI TO .none ∧ IsTupOf3 h TI (.ref i1) (.ref i2) (.ref i3) ∧ (∃ x y z, IsTupOf3 h TO x y z) ∧ itE t1 h i1 a i ∧ itE t2 h i2 b i ∧ itE t3 h i3 c i) where
  mem := by simp
  obj := fun i h st c hc => by
    obtain ⟨hz, hTI, ⟨x, y, zz, hTO⟩, e1, e2, e3⟩ := st
    have e' : c = z ∨ c = TI ∨ c = TO ∨ c = i1 ∨ c = i2 ∨ c = i3 := by simpa using hc
    rcases e' with q | q | q | q | q | q
    · subst q; exact ⟨_, hz, fun v q => nomatch q⟩
    · subst q; exact ⟨_, hTI, fun v q => nomatch q⟩
    · subst q; exact ⟨_, hTO, fun v q => nomatch q⟩
    · subst q; exact itE_obj e1
    · subst q; exact itE_obj e2
    · subst q; exact itE_obj e3
  keep := fun i h h' st k => by
    obtain ⟨hz, hTI, ⟨x, y, zz, hTO⟩, e1, e2, e3⟩ := st
    exact ⟨k z (by simp) _ hz, k TI (by simp) _ hTI, ⟨x, y, zz, k TO (by simp) _ hTO⟩, itE_at e1 fun o q => k i1 (by simp) o q, itE_at e2 fun o q => k i2 (by simp) o q, itE_at e3 fun o q => k i3 (by simp) o q⟩
  item := by
    intro X hP hw hK hc i pins s σ H E I hf st hg
    subst hP hw hK
    obtain ⟨hz, hTI, ⟨x0, y0, z0, hTO⟩, h1, h2, h3⟩ := st
    obtain ⟨xs, ys, zs, x, y, zv, hqx, hqy, hqz, hx, hy, hzv⟩ := hg
    obtain ⟨its, rv, p, _⟩ := inv_E I hqx
    obtain ⟨its2, rv2, p2, _⟩ := inv_E I hqy
    obtain ⟨its3, rv3, p3, _⟩ := inv_E I hqz
    obtain ⟨u, hu, ru⟩ := rv.get hx
    obtain ⟨u2, hu2, ru2⟩ := rv2.get hy
    obtain ⟨u3, hu3, ru3⟩ := rv3.get hzv
    have hh := I.ok.hd hc
    have D1 := draws_E (prog := X.prog) (w := X.w) (A := X.A.in1) hh t1 i1 a n1 its.toArray
    have D2 := draws_E (prog := X.prog) (w := X.w) (A := X.A.in1) hh t2 i2 b n2 its2.toArray
    have D3 := draws_E (prog := X.prog) (w := X.w) (A := X.A.in1) hh t3 i3 c n3 its3.toArray
    have l1 : i < its.toArray.size := by
      have := (List.getElem?_eq_some_iff.mp hu).1
      simpa using this
    have l2 : i < its2.toArray.size := by
      have := (List.getElem?_eq_some_iff.mp hu2).1
      simpa using this
    have l3 : i < its3.toArray.size := by
      have := (List.getElem?_eq_some_iff.mp hu3).1
      simpa using this
    have hzl : z < s.heap.objs.size := Heap.lt_size hz
    refine wpAny_pyNext_zipD3_item S D1 D2 D3 hz hTI hTO ⟨h1, p⟩ ⟨h2, p2⟩ ⟨h3, p3⟩ l1 l2 l3 fun v1 v2 v3 h' tk y1 y2 y3 z' TO' d1 d2 d3 hT hsz hk => ?_
    have ev1 : v1 = u := by
      have e : its[i]? = some v1 := by simpa using y1
      rw [hu] at e; cases e; rfl
    have ev2 : v2 = u2 := by
      have e : its2[i]? = some v2 := by simpa using y2
      rw [hu2] at e; cases e; rfl
    have ev3 : v3 = u3 := by
      have e : its3[i]? = some v3 := by simpa using y3
      rw [hu3] at e; cases e; rfl
    subst ev1 ev2 ev3
    refine ⟨_, rfl, wpAny_letOwnedTupleGo_zip (s := { s with heap := h', toks := tk }) z' fun h'' z'' sb => ?_⟩
    have hT2 : h''.get? s.heap.objs.size = some { cls := .type "tuple", data := .seq #[v1, v2, v3] } := (sb.2 _ (Nat.ne_of_gt hzl)).trans hT
    have new : ObjOk X.prog X.w (upd H s.heap.objs.size (.tup [x, y, zv])) h'' s.heap.objs.size (.tup [x, y, zv]) :=
      ⟨by show 3 ≤ sizeLine; decide, [v1, v2, v3], .cons ru (.cons ru2 (.cons ru3 .nil)), ⟨_, hT2, rfl, _, rfl⟩⟩
    have I1 : Inv X pins σ (upd H s.heap.objs.size (.tup [x, y, zv])) { s with heap := h'', toks := tk } :=
      I.turnedNew (t' := tk) (ch := [z, TI, TO, i1, i2, i3]) (fun c o hb q => (sb.2 c (fun q' => hb (by simp [q']))).trans (hk c o (fun q' => hb (by simp [q'])) (fun q' => hb (by simp [q'])) (fun q' => hb (by simp [q'])) (fun q' => hb (by simp [q'])) (fun q' => hb (by simp [q'])) q)) hf (Nat.le_refl _) new
    refine ⟨.ref s.heap.objs.size, _, I1, rfl, ⟨_, x, y, zv, rfl, I.hok.fresh (Nat.le_refl _), rfl, fun l hl => by rw [sqE_inj I hl hqx]; exact hx, fun l hl => by rw [sqE_inj I hl hqy]; exact hy, fun l hl => by rw [sqE_inj I hl hqz]; exact hzv⟩, ⟨z'', ?_, ⟨v1, v2, v3, ?_⟩, ?_, ?_, ?_⟩, fun c hcm => ?_⟩
    · exact (sb.2 _ S.TIz).trans (hk _ _ S.TIz S.TITO S.TIi1 S.TIi2 S.TIi3 hTI)
    · exact (sb.2 _ S.TOz).trans TO'
    · exact itE_at d1.1 fun o q => (sb.2 _ S.zi1.symm).trans q
    · exact itE_at d2.1 fun o q => (sb.2 _ S.zi2.symm).trans q
    · exact itE_at d3.1 fun o q => (sb.2 _ S.zi3.symm).trans q
    · have hlt : c < s.heap.objs.size := by
        have e' : c = z ∨ c = TI ∨ c = TO ∨ c = i1 ∨ c = i2 ∨ c = i3 := by simpa using hcm
        rcases e' with q | q | q | q | q | q
        · rw [q]; exact hzl
        · rw [q]; exact Heap.lt_size hTI
        · rw [q]; exact Heap.lt_size hTO
        · rw [q]; obtain ⟨_, e1, _⟩ := itE_obj h1; exact Heap.lt_size e1
        · rw [q]; obtain ⟨_, e2, _⟩ := itE_obj h2; exact Heap.lt_size e2
        · rw [q]; obtain ⟨_, e2, _⟩ := itE_obj h3; exact Heap.lt_size e2
      rw [upd_ne (Nat.ne_of_lt hlt)]
      exact (hf c hcm).1
  done := by
    intro X hP hw hK hc i pins s σ H E I hf st hg
    subst hP hw hK
    obtain ⟨hz, hTI, ⟨x0, y0, z0, hTO⟩, h1, h2, h3⟩ := st
    obtain ⟨xs, ys, zs, hqx, hqy, hqz, hend⟩ := hg
    obtain ⟨its, rv, p, _⟩ := inv_E I hqx
    obtain ⟨its2, rv2, p2, _⟩ := inv_E I hqy
    obtain ⟨its3, rv3, p3, _⟩ := inv_E I hqz
    have l1 := rv.length
    have l2 := rv2.length
    have l3 := rv3.length
    have hh := I.ok.hd hc
    have D1 := draws_E (prog := X.prog) (w := X.w) (A := X.A.in1) hh t1 i1 a n1 its.toArray
    have D2 := draws_E (prog := X.prog) (w := X.w) (A := X.A.in1) hh t2 i2 b n2 its2.toArray
    have D3 := draws_E (prog := X.prog) (w := X.w) (A := X.A.in1) hh t3 i3 c n3 its3.toArray
    exact wpAny_pyNext_zipD3_end S D1 D2 D3 hz hTI hTO ⟨h1, p⟩ ⟨h2, p2⟩ ⟨h3, p3⟩ (by simp; omega) (by simp; omega) (by simp; omega) (by simp; omega) fun h' tk hk => ⟨rfl, I.turnedL (t' := tk) (ch := [z, TI, TO, i1, i2, i3]) (fun c o hb q =>
      hk c o (fun q' => hb (by simp [q'])) (fun q' => hb (by simp [q'])) (fun q' => hb (by simp [q'])) (fun q' => hb (by simp [q'])) (fun q' => hb (by simp [q'])) q) hf⟩
  self := fun A i s Q E st h => wpAny_pyIter_zip st.1 h
def iZip3 (K : PySem.W.Frag) (ta : TA) : TI := fun σ H R => ta σ H fun vs H1 => ∃ t1 t2 t3 a b c xs ys zs, vs = [.ref a, .ref b, .ref c] ∧ SqE t1 K H1 a xs ∧ SqE t2 K H1 b ys ∧ SqE t3 K H1 c zs ∧ R (Itz3 K t1 t2 t3 a b c) H1
theorem pi_zip3 {X : Cx} {e e2 e3 : Expr} {ta : TA} {p pos tpos : Pos} {elts : List Expr} {kk : Nat} (hg : Gl X "zip") (hm : X.mg "zip" = none) (ha : PA X [e, e2, e3] ta)
    (hs : starEach [e, e2, e3] X.env = (false, eval e X.env) :: starEach [e2, e3] X.env) (hpl : (backTo pos (starEach [e2, e3] X.env)).any (·.1) = false) :
    PI X (.Tuple elts kk tpos) (.Call (.Name "zip" p) [e, e2, e3] [] pos) (iZip3 X.K ta) := by
  refine ⟨fun pins s σ H R I h => ?_⟩
  refine Call_ (ld_blt I hg hm PyProof.Rows.boot_zip (PyProof.Rows.callWith_type1 (thn (ha.run pos pins s σ H _ I h) fun us s1 ⟨vs, H1, I1, r1, q1⟩ => ?_) hs hpl))
  obtain ⟨t1, t2, t3, a, b, c, xs, ys, zs, ex, hqx, hqy, hqz, q⟩ := q1
  subst ex
  cases r1 with | cons r rr =>
  cases rr with | cons r' rr =>
  cases rr with | cons r'' rr =>
  cases rr
  cases r
  cases r'
  cases r''
  obtain ⟨its, rv, p1, la⟩ := inv_E I1 hqx
  obtain ⟨its2, rv2, p2, lb⟩ := inv_E I1 hqy
  obtain ⟨its3, rv3, p3, lc⟩ := inv_E I1 hqz
  obtain ⟨o1, B1, f1⟩ := begins_E t1 a its.toArray
  obtain ⟨o2, B2, f2⟩ := begins_E t2 b its2.toArray
  obtain ⟨o3, B3, f3⟩ := begins_E t3 c its3.toArray
  refine zip_begins3 B1 B2 B3 p1 p2 p3 fun h' hz hTI hTO g1 g2 g3 hsz hk => wpAny_pyIter_zip hz ?_
  have I2 : Inv X pins σ H1 { s1 with heap := h' } := I1.kept (t' := s1.toks) hk
  have ne1 : a ≠ s1.heap.objs.size := Nat.ne_of_lt la
  have ne2 : b ≠ s1.heap.objs.size + 1 := Nat.ne_of_lt (Nat.lt_succ_of_lt lb)
  have ne3 : c ≠ s1.heap.objs.size + 2 := Nat.ne_of_lt (Nat.lt_succ_of_lt (Nat.lt_succ_of_lt lc))
  refine ⟨s1.heap.objs.size + 5, [s1.heap.objs.size + 5, s1.heap.objs.size + 3, s1.heap.objs.size + 4, s1.heap.objs.size, s1.heap.objs.size + 1, s1.heap.objs.size + 2], _, _, H1, rfl, I2,
    turn_zip3 (PySem.zip_sep3 (fp1 := [a]) (fp2 := [b]) (fp3 := [c]) (fun c hc => by simp at hc; subst hc; exact la) (fun c hc => by simp at hc; subst hc; exact lb) (fun c hc => by simp at hc; subst hc; exact lc)) ne1 ne2 ne3, ⟨hz, hTI, ⟨_, _, _, hTO⟩, f1 _ _ g1, f2 _ _ g2, f3 _ _ g3⟩, fun c hcm => ?_, q⟩
  have e' : c = s1.heap.objs.size + 5 ∨ c = s1.heap.objs.size + 3 ∨ c = s1.heap.objs.size + 4 ∨ c = s1.heap.objs.size ∨ c = s1.heap.objs.size + 1 ∨ c = s1.heap.objs.size + 2 := by simpa using hcm
  have hle : s1.heap.objs.size ≤ c := by
    rcases e' with z | z | z | z | z | z
    · rw [z]; exact Nat.le_add_right _ _
    · rw [z]; exact Nat.le_add_right _ _
    · rw [z]; exact Nat.le_add_right _ _
    · rw [z]; exact Nat.le_refl _
    · rw [z]; exact Nat.le_add_right _ _
    · rw [z]; exact Nat.le_add_right _ _
  exact I1.fpOk hle (I1.hok.fresh hle)
/-! ### for the interpreter -/
theorem zip3_len : ∀ (x y z : List D), (zip3L x y z).length = min (min x.length y.length) z.length
  | [], _, _ => by simp [zip3L]
  | _ :: _, [], _ => by simp [zip3L]
  | _ :: _, _ :: _, [] => by simp [zip3L]
  | a :: as, b :: bs, c :: cs => by
    simp only [zip3L, List.length_cons, zip3_len as bs cs]
    omega
theorem zip3_at : ∀ {x y z : List D} {i : Nat} {d : D}, (zip3L x y z)[i]? = some d → ∃ a b c, x[i]? = some a ∧ y[i]? = some b ∧ z[i]? = some c ∧ d = .tup [a, b, c]
  | [], _, _, _, _, h => by simp [zip3L] at h
  | _ :: _, [], _, _, _, h => by simp [zip3L] at h
  | _ :: _, _ :: _, [], _, _, h => by simp [zip3L] at h
  | a :: as, b :: bs, c :: cs, 0, _, h => by simp [zip3L] at h; exact ⟨a, b, c, rfl, rfl, rfl, h.symm⟩
  | a :: as, b :: bs, c :: cs, i + 1, _, h => by
    simp only [zip3L, List.getElem?_cons_succ] at h ⊢
    exact zip3_at h
theorem three_new {K : KW} {S : FP} {H : Hp} {T : Addr} {x y z : V} {d e f : D} (lv : ∀ a, S a → H a ≠ Option.none) (n : H T = Option.none) (hx : Rp K (hid S H) x d) (hy : Rp K (hid S H) y e) (hz : Rp K (hid S H) z f) : (∀ b o, H b = some o → upd H T (.tup [x, y, z]) b = some o) ∧ Rp K (hid S (upd H T (.tup [x, y, z]))) (.ref T) (.tup [d, e, f]) := by
  have k : ∀ b o, H b = some o → upd H T (.tup [x, y, z]) b = some o := fun b o e => by
    rw [upd_ne fun z => by rw [z, n] at e; cases e]
    exact e
  have k2 : ∀ b o, hid S H b = some o → hid S (upd H T (.tup [x, y, z])) b = some o := fun b o e => by
    rw [hid_some] at e ⊢
    exact ⟨e.1, k b o e.2⟩
  refine ⟨k, .tup (.inl (.inl ?_)) (.cons (Rp.mono k2 _ _ hx) (.cons (Rp.mono k2 _ _ hy) (.cons (Rp.mono k2 _ _ hz) .nil)))⟩
  rw [hid_some]
  exact ⟨fun z => lv T z n, upd_same⟩
section
variable {xt : XT} {W : WX} {C : Ctx} {X : Cx} {as : Exs} {p pos : Pos}
theorem wk_zip3 {K : KW} {S : FP} {H : Hp} {t1 t2 t3 : Bool} {p q r : Addr} {xs ys zs : List V} {ds es fs : List D} (hp : SqE t1 K (hid S H) p xs) (r1 : Rps K (hid S H) xs ds) (hq : SqE t2 K (hid S H) q ys) (r2 : Rps K (hid S H) ys es) (hr : SqE t3 K (hid S H) r zs) (r3 : Rps K (hid S H) zs fs) : Wk K (Itz3 K t1 t2 t3 p q r) (zip3L ds es fs) S H [] where
  go := fun i S' H' st _ hi => by
    rw [zip3_len] at hi
    have l1 := r1.length
    have l2 := r2.length
    have l3 := r3.length
    have i1 : i < xs.length := by omega
    have i2 : i < ys.length := by omega
    have i3 : i < zs.length := by omega
    exact ⟨xs, ys, zs, _, _, _, sqE_hid st hp, sqE_hid st hq, sqE_hid st hr, List.getElem?_eq_getElem i1, List.getElem?_eq_getElem i2, List.getElem?_eq_getElem i3⟩
  stop := fun i S' H' st _ hi => by
    rw [zip3_len] at hi
    have l1 := r1.length
    have l2 := r2.length
    have l3 := r3.length
    exact ⟨xs, ys, zs, sqE_hid st hp, sqE_hid st hq, sqE_hid st hr, by omega⟩
  yld := fun i S' H' x H2 d st _ lv hy hd => by
    obtain ⟨T, x1, y1, z1, rfl, hT, rfl, fx, fy, fz⟩ := hy
    obtain ⟨a, b, c, ha, hb, hc, rfl⟩ := zip3_at hd
    obtain ⟨v, e1, rv⟩ := r1.get ha
    obtain ⟨w, e2, rw'⟩ := r2.get hb
    obtain ⟨u, e3, ru⟩ := r3.get hc
    have h1 := fx xs (sqE_hid st hp)
    have h2 := fy ys (sqE_hid st hq)
    have h3 := fz zs (sqE_hid st hr)
    rw [e1] at h1
    rw [e2] at h2
    rw [e3] at h3
    cases h1; cases h2; cases h3
    exact three_new lv hT (Rp.mono st.hid _ _ rv) (Rp.mono st.hid _ _ rw') (Rp.mono st.hid _ _ ru)
variable {elts : List Expr} {kk : Nat} {tpos : Pos} {a b c : Expr}
theorem ei_zip3 (hg : Gl X "zip") (hm : X.mg "zip" = none) (ha : PA X [a, b, c] (tF xt X.KK W C as)) (hs : starEach [a, b, c] X.env = (false, eval a X.env) :: starEach [b, c] X.env) (hpl : (backTo pos (starEach [b, c] X.env)).any (·.1) = false) :
    PI X (.Tuple elts kk tpos) (.Call (.Name "zip" p) [a, b, c] [] pos) (tI xt X.KK W C (.zip3 as)) := by
  refine pi_imp (pi_zip3 hg hm ha hs hpl) fun σ H R ⟨ρ, F, T, L, E, h⟩ => ⟨ρ, F, T, L, E, Out.mono (OutG.bind h) ?_⟩
  rintro ds ρ1 H1 F1 ⟨E1, S1, h1⟩ _ vs rs
  obtain ⟨z, hz, h2⟩ := ofG_bind h1
  dsimp only at hz h2
  unfold zip3F at hz
  split at hz
  · rename_i d1 d2 d3
    cases e1 : itemsZ d1 with
    | none => rw [e1] at hz; cases hz
    | some ds1 =>
      cases e2 : itemsZ d2 with
      | none => rw [e1, e2] at hz; cases hz
      | some ds2 =>
        cases e3 : itemsZ d3 with
        | none => rw [e1, e2, e3] at hz; cases hz
        | some ds3 =>
          rw [e1, e2, e3] at hz
          cases hz
          cases rs with | cons g1 t1 =>
          cases t1 with | cons g2 t2 =>
          cases t2 with | cons g3 t3 =>
          cases t3
          obtain ⟨b1, a1, xs, rfl, s1, r1⟩ := rp_E e1 g1
          obtain ⟨b2, a2, ys, rfl, s2, r2⟩ := rp_E e2 g2
          obtain ⟨b3, a3, zs, rfl, s3, r3⟩ := rp_E e3 g3
          exact ⟨b1, b2, b3, _, _, _, _, _, _, rfl, SqE.mono hid_sub s1, SqE.mono hid_sub s2, SqE.mono hid_sub s3, h2 _ H1 F1 T L [] [] E1 .none (wk_zip3 s1 r1 s2 r2 s3 r3) (fun _ z => by simp at z) S1⟩
  · cases hz
end
end Mp
namespace Mp
open PySem PySem.Spec PyProof.Rows L2
/-! # list(zip(a, b)) -/
theorem zipH_item {prog : Program} {w : World} {A : Around} {E : Value → Shared → Prop} {s : Shared} {z TI TO T i1 i2 : Addr} {fp1 fp2 : List Addr} {n1 n2 i : Nat} {P1 P2 : Nat → Value → Prop} {St1 St2 : Nat → Heap → Prop} {f : Bool} {oT : Obj} {Q : Option Value → Shared → Prop}
  (S : ZipSep2 z TI TO i1 i2 fp1 fp2) (D1 : Draws prog w A.in1 i1 fp1 n1 P1 St1) (D2 : Draws prog w A.in1 i2 fp2 n2 P2 St2)
  (hz : IsZipHeld s.heap z TI TO T f) (hT : s.heap.get? T = some oT) (hTI : IsTupOf2 s.heap TI (.ref i1) (.ref i2)) (h1 : St1 i s.heap) (h2 : St2 i s.heap) (l1 : i < n1) (l2 : i < n2)
  (q : ∀ x1 x2 h' tk, P1 i x1 → P2 i x2 → IsZipHeld h' z TI TO T true → St1 (i + 1) h' → St2 (i + 1) h' → IsTupOf2 h' s.heap.objs.size x1 x2 → h'.objs.size = s.heap.objs.size + 1 → (∀ (c : Addr) (o : Obj), c ≠ z → c ≠ i1 → c ≠ i2 → s.heap.get? c = some o → h'.get? c = some o) → Q (some (.ref s.heap.objs.size)) { heap := h', gens := s.gens, drawn := s.drawn, toks := tk, os := s.os }) :
  wpAny (model prog w) A (pyNext (.ref z)) Q E s := by
  have ht : s.TypeIs (.ref z) "zip" := ⟨_, hz, rfl⟩
  refine wpAny_bind (wpAny_attempt (wpAny_callSpecial?_slot ht F.slot_zip_next (wpAny_call_entry F.slot_zip_next ht F.entry_zip_next ?_ (F.args_zip_next_1 _))))
  refine wpAny_bind (wpAny_pure (a := (Value.ref z, ([] : List Value))) ?_)
  refine wpAny_bind (wpAny_field hz rfl rfl ?_)
  refine wpAny_bind (wpAny_field hz rfl rfl ?_)
  refine wpAny_bind (wpAny_seqItems hTI rfl ?_)
  refine wpAny_bind (wpAny_tupleHeld_zip hz hT fun ha hza sba => ?_)
  refine wpAny_bind (wpAny_bind (wpAny_bind (wpAny_holding (wpAny_bind (D1.item i _ _ _ l1 ?h1a fun x1 hb tkb p1 s1 sbb => wpAny_pure ?_)))))
  case h1a => exact D1.frame i s.heap ha h1 fun b hb o ho => by rw [sba.2 b (fun e => S.zf1 (e ▸ hb))]; exact ho
  refine wpAny_pure (wpAny_bind (wpAny_bind (wpAny_holding (wpAny_bind (D2.item i _ _ _ l2 ?h2a fun x2 hc tkc p2 s2 sbc => wpAny_pure ?_)))))
  case h2a =>
    refine D2.frame i s.heap hb h2 fun b hb' o ho => ?_
    rw [sbb.2 b (fun e => S.sep1_2 (e ▸ hb'))]
    show ha.get? b = some o
    rw [sba.2 b (fun e => S.zf2 (e ▸ hb'))]
    exact ho
  have zi1 : z ≠ i1 := fun e => S.zf1 (e ▸ S.mem1)
  have zi2 : z ≠ i2 := fun e => S.zf2 (e ▸ S.mem2)
  refine wpAny_pure (wpAny_pure (wpAny_bind (wpAny_newTuple ?_ (by show 2 ≤ sizeLine; decide))))
  refine wpAny_pure ⟨_, rfl, wpAny_pure ?_⟩
  have hk : ∀ (c : Addr) (o : Obj), c ≠ z → c ≠ i1 → c ≠ i2 → s.heap.get? c = some o → hc.get? c = some o := fun c o n1 n2 n3 e => by
    rw [sbc.2 c n3]
    show hb.get? c = some o
    rw [sbb.2 c n2]
    show ha.get? c = some o
    rw [sba.2 c n1]
    exact e
  have hz2 : IsZipHeld hc z TI TO T true := by
    show hc.get? z = _
    rw [sbc.2 z zi2]
    show hb.get? z = _
    rw [sbb.2 z zi1]
    exact hza
  have hsz : hc.objs.size = s.heap.objs.size := by
    have e1 := sbc.1
    have e2 := sbb.1
    have e3 := sba.1
    exact e1.trans (e2.trans e3)
  have s1c : St1 (i + 1) hc := D1.frame _ hb hc s1 fun b hb' o ho => by
    rw [sbc.2 b (fun e => S.sep2_1 (e ▸ hb'))]
    exact ho
  have := q x1 x2 (hc.push { cls := .type "tuple", data := .seq #[x1, x2] }) tkc p1 p2 (Heap.get?_push_of_some _ hz2) (D1.frame _ _ _ s1c fun b _ o ho => Heap.get?_push_of_some _ ho) (D2.frame _ _ _ s2 fun b _ o ho => Heap.get?_push_of_some _ ho) (by rw [← hsz]; exact Heap.get?_push_size _ rfl) (by rw [Heap.size_push, hsz]) (fun c o n1 n2 n3 e => Heap.get?_push_of_some _ (hk c o n1 n2 n3 e))
  rw [← hsz] at this
  exact this
theorem zipH_end {prog : Program} {w : World} {A : Around} {E : Value → Shared → Prop} {s : Shared} {z TI TO T i1 i2 : Addr} {fp1 fp2 : List Addr} {n1 n2 i : Nat} {P1 P2 : Nat → Value → Prop} {St1 St2 : Nat → Heap → Prop} {f : Bool} {oT : Obj} {Q : Option Value → Shared → Prop}
  (S : ZipSep2 z TI TO i1 i2 fp1 fp2) (D1 : Draws prog w A.in1 i1 fp1 n1 P1 St1) (D2 : Draws prog w A.in1 i2 fp2 n2 P2 St2)
  (hz : IsZipHeld s.heap z TI TO T f) (hT : s.heap.get? T = some oT) (hTI : IsTupOf2 s.heap TI (.ref i1) (.ref i2)) (h1 : St1 i s.heap) (h2 : St2 i s.heap) (l1 : i ≤ n1) (l2 : i ≤ n2) (l3 : i = n1 ∨ i = n2)
  (q : ∀ h' tk, (∀ (c : Addr) (o : Obj), c ≠ z → c ≠ i1 → c ≠ i2 → s.heap.get? c = some o → h'.get? c = some o) → Q none { heap := h', gens := s.gens, drawn := s.drawn, toks := tk, os := s.os }) :
  wpAny (model prog w) A (pyNext (.ref z)) Q E s := by
  have ht : s.TypeIs (.ref z) "zip" := ⟨_, hz, rfl⟩
  refine wpAny_bind (wpAny_attempt (wpAny_callSpecial?_slot ht F.slot_zip_next (wpAny_call_entry F.slot_zip_next ht F.entry_zip_next ?_ (F.args_zip_next_1 _))))
  refine wpAny_bind (wpAny_pure (a := (Value.ref z, ([] : List Value))) ?_)
  refine wpAny_bind (wpAny_field hz rfl rfl ?_)
  refine wpAny_bind (wpAny_field hz rfl rfl ?_)
  refine wpAny_bind (wpAny_seqItems hTI rfl ?_)
  refine wpAny_bind (wpAny_tupleHeld_zip hz hT fun ha hza sba => ?_)
  have h1a : St1 i ha := D1.frame i s.heap ha h1 fun b hb o ho => by rw [sba.2 b (fun e => S.zf1 (e ▸ hb))]; exact ho
  by_cases c1 : i = n1
  · subst c1
    refine wpAny_bind (wpAny_bind (wpAny_bind (wpAny_holding (wpAny_bind (D1.done _ _ _ h1a fun hb e xb ⟨oe, ge, ce⟩ => ?_)))))
    refine wpAny_bind (wpAny_isInstance ⟨oe, ge, ce⟩ isSubtype_stop (wpAny_pure ?_))
    exact q hb _ fun c o n1 n2 n3 ec => xb c o n2 (by show ha.get? c = some o; rw [sba.2 c n1]; exact ec)
  · have c2 : i = n2 := l3.resolve_left c1
    subst c2
    refine wpAny_bind (wpAny_bind (wpAny_bind (wpAny_holding (wpAny_bind (D1.item i _ _ _ (by omega) h1a fun x1 hb tkb p1 s1 sbb => wpAny_pure ?_)))))
    refine wpAny_pure (wpAny_bind (wpAny_bind (wpAny_holding (wpAny_bind (D2.done _ _ _ ?h2a fun hc e xc ⟨oe, ge, ce⟩ => ?_)))))
    case h2a =>
      refine D2.frame i s.heap hb h2 fun b hb' o ho => ?_
      rw [sbb.2 b (fun e => S.sep1_2 (e ▸ hb'))]
      show ha.get? b = some o
      rw [sba.2 b (fun e => S.zf2 (e ▸ hb'))]
      exact ho
    refine wpAny_bind (wpAny_isInstance ⟨oe, ge, ce⟩ isSubtype_stop (wpAny_pure ?_))
    exact q hc _ fun c o n1 n2 n3 ec => xc c o n3 (by
      show hb.get? c = some o
      rw [sbb.2 c n2]
      show ha.get? c = some o
      rw [sba.2 c n1]
      exact ec)
theorem zip_no_len : typeLookup (Value.type "zip") (Str.ofString "__len__") = pure none := by rfl
theorem zip_no_hint : typeLookup (Value.type "zip") (Str.ofString "__length_hint__") = pure none := by rfl
/-- the zip at turn i: nothing handed out, or what was handed out is kept -/
def ZAt (h : Heap) (z TI TO i1 i2 L : Addr) : Nat → Prop
  | 0 => IsZip h z TI TO .none ∧ ∃ a b, IsTupOf2 h TO a b
  | _ + 1 => ∃ T f oT, IsZipHeld h z TI TO T f ∧ h.get? T = some oT ∧ T ≠ L ∧ T ≠ z ∧ T ≠ i1 ∧ T ≠ i2
/-- pairs, new, in a row -/
def PrsAt (h : Heap) (B : Nat) (P1 P2 : Nat → Value → Prop) (n : Nat) (acc : Array Value) : Prop := acc.size = n ∧ ∀ j, j < n → ∃ x y, acc[j]? = some (.ref (B + j)) ∧ h.IsTuple (B + j) #[x, y] ∧ P1 j x ∧ P2 j y
theorem PrsAt.push {h h' : Heap} {B : Nat} {P1 P2 : Nat → Value → Prop} {n : Nat} {acc : Array Value} (p : PrsAt h B P1 P2 n acc) (k : ∀ j, j < n → ∀ o, h.get? (B + j) = some o → h'.get? (B + j) = some o) {x y : Value} (ht : h'.IsTuple (B + n) #[x, y]) (p1 : P1 n x) (p2 : P2 n y) : PrsAt h' B P1 P2 (n + 1) (acc.push (.ref (B + n))) := by
  obtain ⟨e, p⟩ := p
  refine ⟨by simp [e], fun j hj => ?_⟩
  by_cases c : j = n
  · subst c
    exact ⟨x, y, by rw [← e]; simp, ht, p1, p2⟩
  · have hj' : j < n := by omega
    obtain ⟨x', y', e1, ⟨o, g1, g2⟩, e3⟩ := p j hj'
    refine ⟨x', y', ?_, ⟨o, k j hj' o g1, g2⟩, e3⟩
    rw [Array.getElem?_push]
    rw [if_neg (by omega)]
    exact e1
theorem PrsAt.keep {h h' : Heap} {B : Nat} {P1 P2 : Nat → Value → Prop} {n : Nat} {acc : Array Value} (p : PrsAt h B P1 P2 n acc) (k : ∀ j, j < n → ∀ o, h.get? (B + j) = some o → h'.get? (B + j) = some o) : PrsAt h' B P1 P2 n acc :=
  ⟨p.1, fun j hj => by
    obtain ⟨x', y', e1, ⟨o, g1, g2⟩, e3⟩ := p.2 j hj
    exact ⟨x', y', e1, ⟨o, k j hj o g1, g2⟩, e3⟩⟩
theorem loop_zip {prog : Program} {w : World} {A : Around} {R : Result → Shared → Prop} {z TI TO i1 i2 L B : Addr} {fp1 fp2 : List Addr} {n1 n2 : Nat} {P1 P2 : Nat → Value → Prop} {St1 St2 : Nat → Heap → Prop} (res : Value)
  (S : ZipSep2 z TI TO i1 i2 fp1 fp2) (D1 : Draws prog w A.in1.in1 i1 fp1 n1 P1 St1) (D2 : Draws prog w A.in1.in1 i2 fp2 n2 P2 St2) (hL1 : L ∉ fp1) (hL2 : L ∉ fp2) (hLz : L ≠ z) (hLT : L ≠ TI) (hLO : L ≠ TO) (hn : min n1 n2 ≤ sizeLine)
  (bz : z < B) (b1 : i1 < B) (b2 : i2 < B) (bL : L < B) (bO : TO < B) :
  ∀ (k i : Nat) (s : Shared) (acc : Array Value) (c : Nat), min n1 n2 - i = k → i ≤ min n1 n2 → s.heap.objs.size = B + i → ZAt s.heap z TI TO i1 i2 L i → IsTupOf2 s.heap TI (.ref i1) (.ref i2) → St1 i s.heap → St2 i s.heap →
    s.heap.get? L = some { cls := .type "list", data := .seq acc c } → PrsAt s.heap B P1 P2 i acc →
    (∀ (h' : Heap) (tk : Nat) (acc' : Array Value) (c' : Nat), (∀ (a : Addr) (o : Obj), a ≠ z → a ≠ TO → a ≠ i1 → a ≠ i2 → a ≠ L → s.heap.get? a = some o → h'.get? a = some o) →
      h'.get? L = some { cls := .type "list", data := .seq acc' c' } → PrsAt h' B P1 P2 (min n1 n2) acc' → R (.ok (.ret res)) { heap := h', gens := s.gens, drawn := s.drawn, toks := tk, os := s.os }) →
    codeAny (model prog w) A (Code.builtin "list.extend.loop" { pos := [.ref L, .ref z, res] }) R s
  | 0, i, s, acc, c, hk, hi, hb, hz, hTI, h1, h2, hl, hp, q => by
    have gt : ∀ {a : Addr}, a < B → ∀ j : Nat, B + j ≠ a := fun h j => Nat.ne_of_gt (Nat.lt_of_lt_of_le h (Nat.le_add_right _ _))
    have ei : i = min n1 n2 := by omega
    have zi1 : z ≠ i1 := fun e => S.zf1 (e ▸ S.mem1)
    have L1 : L ≠ i1 := fun e => hL1 (e ▸ S.mem1)
    have L2 : L ≠ i2 := fun e => hL2 (e ▸ S.mem2)
    refine codeAny_builtin F.entry_extend_loop ?_
    rw [Around.under_plainId F.plain_extend_loop]
    have fin : ∀ h' tk, (∀ (c : Addr) (o : Obj), c ≠ z → c ≠ TO → c ≠ i1 → c ≠ i2 → s.heap.get? c = some o → h'.get? c = some o) → R (.ok (.ret res)) { heap := h', gens := s.gens, drawn := s.drawn, toks := tk, os := s.os } := fun h' tk hk' =>
      q h' tk acc c (fun a o n1 n2 n3 n4 _ e => hk' a o n1 n2 n3 n4 e) (hk' L _ hLz hLO L1 L2 hl) (ei ▸ hp.keep fun j hj o e => hk' _ o (gt bz j) (gt bO j) (gt b1 j) (gt b2 j) e)
    refine wpAny_bind ?_
    cases i with
    | zero =>
      obtain ⟨hz, a, b, hTO⟩ := hz
      exact wpAny_pyNext_zipD2_end S D1 D2 hz hTI hTO h1 h2 (by omega) (by omega) (by omega) fun h' tk hk' => wpAny_pure (fin h' tk hk')
    | succ i =>
      obtain ⟨T, f, oT, hz, hT, _⟩ := hz
      exact zipH_end S D1 D2 hz hT hTI h1 h2 (by omega) (by omega) (by omega) fun h' tk hk' => wpAny_pure (fin h' tk fun c o n1 _ n3 n4 e => hk' c o n1 n3 n4 e)
  | k + 1, i, s, acc, c, hk, hi, hb, hz, hTI, h1, h2, hl, hp, q => by
    have gt : ∀ {a : Addr}, a < B → ∀ j : Nat, B + j ≠ a := fun h j => Nat.ne_of_gt (Nat.lt_of_lt_of_le h (Nat.le_add_right _ _))
    have zi1 : z ≠ i1 := fun e => S.zf1 (e ▸ S.mem1)
    have zi2 : z ≠ i2 := fun e => S.zf2 (e ▸ S.mem2)
    have L1 : L ≠ i1 := fun e => hL1 (e ▸ S.mem1)
    have L2 : L ≠ i2 := fun e => hL2 (e ▸ S.mem2)
    refine codeAny_builtin F.entry_extend_loop ?_
    rw [Around.under_plainId F.plain_extend_loop]
    have eB : s.heap.objs.size = B + i := hb
    have go : ∀ (x1 x2 : Value) (h' : Heap) (tk : Nat), P1 i x1 → P2 i x2 → (∃ T f, IsZipHeld h' z TI TO T f ∧ (∃ oT, h'.get? T = some oT) ∧ T ≠ L ∧ T ≠ z ∧ T ≠ i1 ∧ T ≠ i2) → St1 (i + 1) h' → St2 (i + 1) h' → IsTupOf2 h' (B + i) x1 x2 → h'.objs.size = B + i + 1 → (∀ (c : Addr) (o : Obj), c ≠ z → c ≠ TO → c ≠ i1 → c ≠ i2 → s.heap.get? c = some o → h'.get? c = some o) →
        wpAny (model prog w) A.in1 ((do Builtin.List.listUpdate (.ref L) fun a => a.push (.ref (B + i)); again (Code.builtin "list.extend.loop" { pos := [.ref L, .ref z, res] }) : Sem PySem.Fin)) (fun fin s' => match fin with
          | .done f => R (.ok f) s'
          | .again c' => c'.quiet = true ∧ codeAny (model prog w) A c' R s') (fun e s' => R (.error e) s') { heap := h', gens := s.gens, drawn := s.drawn, toks := tk, os := s.os } := by
      intro x1 x2 h' tk p1 p2 hz' s1 s2 hT hsz hk'
      obtain ⟨T, f, hz', ⟨oT, gT⟩, TL, Tz, T1, T2⟩ := hz'
      have hl' := hk' L _ hLz hLO L1 L2 hl
      have hs : acc.size = i := hp.1
      refine wpAny_bind (wpAny_updateSeq hl' rfl (wpAny_pure ⟨plainId_quiet F.plain_extend_loop _, ?_⟩) (by rw [hs]; omega) (by rw [Array.size_push, hs]; omega))
      have ot : ∀ (a : Addr) (o : Obj), a ≠ L → h'.get? a = some o → (h'.update L (Obj.mapSeq fun a => a.push (.ref (B + i)))).get? a = some o := fun a o ne e => by rw [Heap.get?_update_other _ _ (Ne.symm ne)]; exact e
      obtain ⟨c2, gL⟩ : ∃ c2, (h'.update L (Obj.mapSeq fun a => a.push (.ref (B + i)))).get? L = some { cls := .type "list", data := .seq (acc.push (.ref (B + i))) c2 } := ⟨_, Heap.get?_update_self _ hl' rfl⟩
      refine loop_zip res S D1 D2 hL1 hL2 hLz hLT hLO hn bz b1 b2 bL bO k (i + 1) _ (acc.push (.ref (B + i))) c2 (by omega) (by omega) ?_ ?_ (ot _ _ hLT.symm (hk' TI _ S.TIz S.TITO S.TIi1 S.TIi2 hTI)) (D1.frame _ _ _ s1 fun b hb o ho => ot _ _ (fun e => hL1 (e ▸ hb)) ho) (D2.frame _ _ _ s2 fun b hb o ho => ot _ _ (fun e => hL2 (e ▸ hb)) ho) ?_ ?_ ?_
      · show (h'.update L _).objs.size = _
        rw [Heap.size_update, hsz]
        rfl
      · exact ⟨T, f, oT, ot _ _ hLz.symm hz', ot _ _ TL gT, TL, Tz, T1, T2⟩
      · exact gL
      · refine hp.push (fun j hj o e => ot _ _ (gt bL j) (hk' _ o (gt bz j) (gt bO j) (gt b1 j) (gt b2 j) e)) ⟨_, ot _ _ (gt bL i) hT, rfl, _, rfl⟩ p1 p2
      · intro h2' tk2 acc' c' k2 g2 p2'
        exact q h2' tk2 acc' c' (fun a o n1 n2 n3 n4 n5 e => k2 a o n1 n2 n3 n4 n5 (ot _ _ n5 (hk' a o n1 n2 n3 n4 e))) g2 p2'
    refine wpAny_bind ?_
    cases i with
    | zero =>
      obtain ⟨hz, a, b, hTO⟩ := hz
      refine wpAny_pyNext_zipD2_item S D1 D2 hz hTI hTO h1 h2 (by omega) (by omega) fun x1 x2 h' tk p1 p2 hz' hTO' s1 s2 hT hsz hk' => ?_
      rw [eB] at hT hsz hz'
      rw [eB]
      exact go x1 x2 h' tk p1 p2 ⟨B + 0, false, hz', ⟨_, hT⟩, gt bL 0, gt bz 0, gt b1 0, gt b2 0⟩ s1 s2 hT hsz hk'
    | succ i =>
      obtain ⟨T, f, oT, hz, hT0, TL, Tz, T1, T2⟩ := hz
      refine zipH_item S D1 D2 hz hT0 hTI h1 h2 (by omega) (by omega) fun x1 x2 h' tk p1 p2 hz' s1 s2 hT hsz hk' => ?_
      rw [eB] at hT hsz
      rw [eB]
      exact go x1 x2 h' tk p1 p2 ⟨T, true, hz', ⟨_, hk' T _ Tz T1 T2 hT0⟩, TL, Tz, T1, T2⟩ s1 s2 hT hsz fun c o n1 _ n3 n4 e => hk' c o n1 n3 n4 e
theorem extend_zip {prog : Program} {w : World} {A : Around} {R : Result → Shared → Prop} {z TI TO i1 i2 L : Addr} {fp1 fp2 : List Addr} {n1 n2 : Nat} {P1 P2 : Nat → Value → Prop} {St1 St2 : Nat → Heap → Prop} (res : Value) {s : Shared} {c : Nat} {a b : Value}
  (S : ZipSep2 z TI TO i1 i2 fp1 fp2) (D1 : Draws prog w A.in1.in1 i1 fp1 n1 P1 St1) (D2 : Draws prog w A.in1.in1 i2 fp2 n2 P2 St2) (hL1 : L ∉ fp1) (hL2 : L ∉ fp2) (hLz : L ≠ z) (hLT : L ≠ TI) (hLO : L ≠ TO) (hn : min n1 n2 ≤ sizeLine)
  (b1 : i1 < s.heap.objs.size) (b2 : i2 < s.heap.objs.size)
  (hz : IsZip s.heap z TI TO .none) (hTO : IsTupOf2 s.heap TO a b) (hTI : IsTupOf2 s.heap TI (.ref i1) (.ref i2)) (h1 : St1 0 s.heap) (h2 : St2 0 s.heap)
  (hl : s.heap.get? L = some { cls := .type "list", data := .seq #[] c })
  (q : ∀ (h' : Heap) (tk : Nat) (acc' : Array Value) (c' : Nat), (∀ (a : Addr) (o : Obj), a ≠ z → a ≠ TO → a ≠ i1 → a ≠ i2 → a ≠ L → s.heap.get? a = some o → h'.get? a = some o) →
      h'.get? L = some { cls := .type "list", data := .seq acc' c' } → PrsAt h' s.heap.objs.size P1 P2 (min n1 n2) acc' → R (.ok (.ret res)) { heap := h', gens := s.gens, drawn := s.drawn, toks := tk, os := s.os }) :
  wpAny (model prog w) A.in1 (Builtin.List.listExtendWith (.ref L) (.ref z) res) (fun fin s' => match fin with
          | .done f => R (.ok f) s'
          | .again c' => c'.quiet = true ∧ codeAny (model prog w) A c' R s') (fun e s' => R (.error e) s') s := by
  have ht : s.TypeIs (.ref z) "zip" := ⟨_, hz, rfl⟩
  unfold Builtin.List.listExtendWith
  refine wpAny_bind (wpAny_typeOf ht ?_)
  have e0 : (Builtin.List.listSameRef (.ref L) (.ref z) || (Value.type "zip") == Value.type "list" || (Value.type "zip") == Value.type "tuple") = false := by
    have : Builtin.List.listSameRef (.ref L) (.ref z) = false := beq_eq_false_iff_ne.mpr hLz
    rw [this]; rfl
  rw [if_neg (by rw [e0]; exact Bool.false_ne_true)]
  refine wpAny_bind (wpAny_pyIter_zip hz ?_)
  refine wpAny_bind (wpAny_holding ?_)
  refine wpAny_bind (wpAny_specialOf ht zip_no_len ?_)
  refine wpAny_bind (wpAny_specialOf ht zip_no_hint (wpAny_pure ?_))
  refine wpAny_bind (wpAny_rule ?_)
  refine wpAny_bind (wpAny_bind (wpAny_updateSeq hl rfl ?_ (by show 0 ≤ sizeLine; decide) (by show 1 ≤ sizeLine + 1; decide)))
  have g1 : (s.heap.update L (Obj.mapSeq fun x => x.push .none)).get? L = some { cls := .type "list", data := .seq #[.none] (c + 1) } := Heap.get?_update_self _ hl rfl
  refine wpAny_updateSeq g1 rfl (wpAny_pure ⟨plainId_quiet F.plain_extend_loop _, ?_⟩) (by show 1 ≤ sizeLine; decide) (by show 0 ≤ sizeLine + 1; decide)
  have ot : ∀ (a : Addr) (o : Obj), a ≠ L → s.heap.get? a = some o → ((s.heap.update L (Obj.mapSeq fun x => x.push .none)).update L (Obj.mapSeq fun x => x.pop)).get? a = some o := fun a o ne e => by rw [Heap.get?_update_other _ _ (Ne.symm ne), Heap.get?_update_other _ _ (Ne.symm ne)]; exact e
  obtain ⟨c2, gL⟩ : ∃ c2, ((s.heap.update L (Obj.mapSeq fun x => x.push .none)).update L (Obj.mapSeq fun x => x.pop)).get? L = some { cls := .type "list", data := .seq #[] c2 } := ⟨_, Heap.get?_update_self _ g1 rfl⟩
  refine loop_zip (B := s.heap.objs.size) res S D1 D2 hL1 hL2 hLz hLT hLO hn (Heap.lt_size hz) b1 b2 (Heap.lt_size hl) (Heap.lt_size hTO) (min n1 n2) 0 _ #[] c2 (by omega) (by omega) ?_ ⟨ot _ _ hLz.symm hz, a, b, ot _ _ hLO.symm hTO⟩ (ot _ _ hLT.symm hTI) (D1.frame _ _ _ h1 fun b hb o ho => ot _ _ (fun e => hL1 (e ▸ hb)) ho) (D2.frame _ _ _ h2 fun b hb o ho => ot _ _ (fun e => hL2 (e ▸ hb)) ho) gL ⟨rfl, fun j hj => absurd hj (Nat.not_lt_zero _)⟩ ?_
  · show ((s.heap.update L _).update L _).objs.size = _
    rw [Heap.size_update, Heap.size_update]
    rfl
  · intro h2' tk2 acc' c' k2 g2 p2'
    exact q h2' tk2 acc' c' (fun a o n1 n2 n3 n4 n5 e => k2 a o n1 n2 n3 n4 n5 (ot _ _ n5 e)) g2 p2'
theorem init_zip {prog : Program} {w : World} {A : Around} {R : Result → Shared → Prop} {z TI TO i1 i2 L : Addr} {fp1 fp2 : List Addr} {n1 n2 : Nat} {P1 P2 : Nat → Value → Prop} {St1 St2 : Nat → Heap → Prop} {s : Shared} {a b : Value}
  (S : ZipSep2 z TI TO i1 i2 fp1 fp2) (D1 : Draws prog w A.in1.in1 i1 fp1 n1 P1 St1) (D2 : Draws prog w A.in1.in1 i2 fp2 n2 P2 St2) (hL1 : L ∉ fp1) (hL2 : L ∉ fp2) (hLz : L ≠ z) (hLT : L ≠ TI) (hLO : L ≠ TO) (hn : min n1 n2 ≤ sizeLine)
  (b1 : i1 < s.heap.objs.size) (b2 : i2 < s.heap.objs.size)
  (hz : IsZip s.heap z TI TO .none) (hTO : IsTupOf2 s.heap TO a b) (hTI : IsTupOf2 s.heap TI (.ref i1) (.ref i2)) (h1 : St1 0 s.heap) (h2 : St2 0 s.heap)
  (hl : s.heap.get? L = some { cls := .type "list", data := .seq #[] })
  (q : ∀ (h' : Heap) (tk : Nat) (acc' : Array Value) (c' : Nat), (∀ (a : Addr) (o : Obj), a ≠ z → a ≠ TO → a ≠ i1 → a ≠ i2 → a ≠ L → s.heap.get? a = some o → h'.get? a = some o) →
      h'.get? L = some { cls := .type "list", data := .seq acc' c' } → PrsAt h' s.heap.objs.size P1 P2 (min n1 n2) acc' → R (.ok (.ret .none)) { heap := h', gens := s.gens, drawn := s.drawn, toks := tk, os := s.os }) :
  wpAny (model prog w) A.in1 (Builtin.«list.__init__» { pos := [.ref L, .ref z] }) (fun fin s' => match fin with
          | .done f => R (.ok f) s'
          | .again c' => c'.quiet = true ∧ codeAny (model prog w) A c' R s') (fun e s' => R (.error e) s') s := by
  refine wpAny_bind (wpAny_bind (wpAny_seqItems hl rfl (wpAny_pure ?_)))
  refine wpAny_bind (wpAny_updateSeq hl rfl ?_ (by show 0 ≤ sizeLine; decide) (by show 0 ≤ sizeLine + 1; decide))
  refine wpAny_bind (wpAny_letGo ?_)
  have ot : ∀ (a : Addr) (o : Obj), a ≠ L → s.heap.get? a = some o → (s.heap.update L (Obj.mapSeq fun x => #[])).get? a = some o := fun a o ne e => by rw [Heap.get?_update_other _ _ (Ne.symm ne)]; exact e
  obtain ⟨c2, gL⟩ : ∃ c2, (s.heap.update L (Obj.mapSeq fun x => #[])).get? L = some { cls := .type "list", data := .seq #[] c2 } := ⟨_, Heap.get?_update_self _ hl rfl⟩
  have hsz : (s.heap.update L (Obj.mapSeq fun x => #[])).objs.size = s.heap.objs.size := Heap.size_update _ _ _
  refine extend_zip .none S D1 D2 hL1 hL2 hLz hLT hLO hn (by show i1 < (s.heap.update L _).objs.size; rw [hsz]; exact b1) (by show i2 < (s.heap.update L _).objs.size; rw [hsz]; exact b2) (ot _ _ hLz.symm hz) (ot _ _ hLO.symm hTO) (ot _ _ hLT.symm hTI) (D1.frame _ _ _ h1 fun b hb o ho => ot _ _ (fun e => hL1 (e ▸ hb)) ho) (D2.frame _ _ _ h2 fun b hb o ho => ot _ _ (fun e => hL2 (e ▸ hb)) ho) gL ?_
  intro h2' tk2 acc' c' k2 g2 p2'
  refine q h2' tk2 acc' c' (fun a o n1 n2 n3 n4 n5 e => k2 a o n1 n2 n3 n4 n5 (ot _ _ n5 e)) g2 ?_
  have p2' : PrsAt h2' (s.heap.update L (Obj.mapSeq fun x => #[])).objs.size P1 P2 (min n1 n2) acc' := p2'
  rw [hsz] at p2'
  exact p2'
/-- list(z), z a new zip -/
theorem call_list_zip {prog : Program} {w : World} {A : Around} {Q E : Value → Shared → Prop} {z TI TO i1 i2 : Addr} {fp1 fp2 : List Addr} {n1 n2 : Nat} {P1 P2 : Nat → Value → Prop} {St1 St2 : Nat → Heap → Prop} {s : Shared} {a b : Value}
  (S : ZipSep2 z TI TO i1 i2 fp1 fp2) (D1 : Draws prog w A.in1.in1.in1 i1 fp1 n1 P1 St1) (D2 : Draws prog w A.in1.in1.in1 i2 fp2 n2 P2 St2) (f1 : ∀ b ∈ fp1, b < s.heap.objs.size) (f2 : ∀ b ∈ fp2, b < s.heap.objs.size) (hn : min n1 n2 ≤ sizeLine)
  (hz : IsZip s.heap z TI TO .none) (hTO : IsTupOf2 s.heap TO a b) (hTI : IsTupOf2 s.heap TI (.ref i1) (.ref i2)) (h1 : St1 0 s.heap) (h2 : St2 0 s.heap)
  (q : ∀ (h' : Heap) (tk : Nat) (acc' : Array Value) (c' : Nat), (∀ (a : Addr) (o : Obj), a ≠ z → a ≠ TO → a ≠ i1 → a ≠ i2 → s.heap.get? a = some o → h'.get? a = some o) →
      h'.get? s.heap.objs.size = some { cls := .type "list", data := .seq acc' c' } → PrsAt h' (s.heap.objs.size + 1) P1 P2 (min n1 n2) acc' → Q (.ref s.heap.objs.size) { heap := h', gens := s.gens, drawn := s.drawn, toks := tk, os := s.os }) :
  wpAny (model prog w) A (call (.type "list") [.ref z]) Q E s := by
  refine callType_codes (Q₁ := fun obj s₁ => obj = .ref s.heap.objs.size ∧ s₁ = { s with heap := s.heap.push { cls := .type "list", data := .seq #[] } }) F.called_list (F.typeCall_list_1 _) F.entry_list_init (code_list_new _ ⟨rfl, rfl⟩) ?_
  rintro _ _ ⟨rfl, rfl⟩
  have nl : ∀ {x : Addr}, x < s.heap.objs.size → s.heap.objs.size ≠ x := fun h => Nat.ne_of_gt h
  have ot : ∀ (a : Addr) (o : Obj), s.heap.get? a = some o → (s.heap.push { cls := .type "list", data := .seq #[] }).get? a = some o := fun a o e => Heap.get?_push_of_some _ e
  have gl : (s.heap.push { cls := .type "list", data := .seq #[] }).get? s.heap.objs.size = some { cls := .type "list", data := .seq #[] } := Heap.get?_push_size _ rfl
  have hsz : (s.heap.push { cls := .type "list", data := .seq #[] }).objs.size = s.heap.objs.size + 1 := Heap.size_push _ _
  refine ⟨⟨_, gl, rfl⟩, F.args_list_init_2 _ _, ?_⟩
  refine init_zip (L := s.heap.objs.size) S D1 D2 (fun h => nl (f1 _ h) rfl) (fun h => nl (f2 _ h) rfl) (nl (Heap.lt_size hz)) (nl (Heap.lt_size hTI)) (nl (Heap.lt_size hTO)) hn ?_ ?_ (ot _ _ hz) (ot _ _ hTO) (ot _ _ hTI) (D1.frame _ _ _ h1 fun b hb o ho => ot _ _ ho) (D2.frame _ _ _ h2 fun b hb o ho => ot _ _ ho) gl ?_
  · show i1 < (s.heap.push _).objs.size
    rw [hsz]
    exact Nat.lt_succ_of_lt (f1 _ S.mem1)
  · show i2 < (s.heap.push _).objs.size
    rw [hsz]
    exact Nat.lt_succ_of_lt (f2 _ S.mem2)
  · intro h' tk acc' c' k g p
    have p : PrsAt h' (s.heap.push { cls := .type "list", data := .seq #[] }).objs.size P1 P2 (min n1 n2) acc' := p
    rw [hsz] at p
    exact ⟨rfl, q h' tk acc' c' (fun a o n1 n2 n3 n4 e => k a o n1 n2 n3 n4 (fun e' => nl (Heap.lt_size e) e'.symm) (ot _ _ e)) g p⟩
end Mp
namespace Mp
open PySem PySem.Spec PyProof.Rows L2
/-- the new pairs beside what was -/
def prsH (B : Nat) (ps : List (V × V)) (H : Hp) : Hp := fun a => if B ≤ a then (match ps[a - B]? with
  | some (x, y) => some (.tup [x, y])
  | none => H a) else H a
def refsV (B n : Nat) : List V := (List.range n).map fun j => .ref (B + j)
theorem prsH_at {B : Nat} {ps : List (V × V)} {H : Hp} {j : Nat} {x y : V} (h : ps[j]? = some (x, y)) : prsH B ps H (B + j) = some (.tup [x, y]) := by
  unfold prsH
  rw [if_pos (Nat.le_add_right _ _), Nat.add_sub_cancel_left, h]
theorem prsH_old {B : Nat} {ps : List (V × V)} {H : Hp} {a : Addr} (h : a < B) : prsH B ps H a = H a := by
  unfold prsH
  rw [if_neg (Nat.not_le.mpr h)]
theorem prsH_some {B : Nat} {ps : List (V × V)} {H : Hp} {a : Addr} {o : HO} (h : prsH B ps H a = some o) : H a = some o ∨ ∃ j x y, a = B + j ∧ ps[j]? = some (x, y) ∧ o = .tup [x, y] := by
  unfold prsH at h
  split at h
  · rename_i hb
    cases e : ps[a - B]? with
    | none => rw [e] at h; exact .inl h
    | some p =>
      obtain ⟨x, y⟩ := p
      rw [e] at h
      cases h
      exact .inr ⟨a - B, x, y, (Nat.add_sub_cancel' hb).symm, e, rfl⟩
  · exact .inl h
def tLz (K : KW) (ta : TA) : TE := fun σ H Q => ta σ H fun vs H1 => ∃ t1 t2 a b xs ys, vs = [.ref a, .ref b] ∧ SqE t1 K H1 a xs ∧ SqE t2 K H1 b ys ∧ ∀ l B, H1 l = none → l < B → (∀ c, B ≤ c → H1 c = none) → Q (.ref l) (upd (prsH B (xs.zip ys) H1) l (.lst (refsV B (min xs.length ys.length))))
theorem vals_refs {h : Heap} {B n : Nat} {P1 P2 : Nat → Value → Prop} {acc : Array Value} (p : PrsAt h B P1 P2 n acc) : Vals (refsV B n) acc.toList := by
  have e : acc.toList = (List.range n).map fun j => Value.ref (B + j) := by
    refine List.ext_getElem? fun j => ?_
    rw [List.getElem?_map, Array.getElem?_toList]
    by_cases hj : j < n
    · obtain ⟨x, y, e1, _⟩ := p.2 j hj
      rw [e1, List.getElem?_range hj]
      rfl
    · rw [Array.getElem?_eq_none (by rw [p.1]; omega), List.getElem?_eq_none (by simpa using hj)]
      rfl
  rw [e]
  unfold refsV
  generalize List.range n = r
  induction r with
  | nil => exact .nil
  | cons a r ih => exact .cons rfl ih
section
variable {X : Cx} {e e2 : Expr} {ta : TA} {p p2 pos q : Pos}
theorem inv_lz {pins : List (Addr × Obj)} {σ : L2.St} {H : Hp} {s : Shared} {h' : Heap} {tk l B c' : Nat} {xs ys : List V} {its its2 : List Value} {acc : Array Value} (I : Inv X pins σ H s) (hk : ∀ (b : Addr) (o : Obj), s.heap.get? b = some o → h'.get? b = some o) (hl : s.heap.objs.size ≤ l) (hB : l < B)
    (rv : Vals xs its) (rv2 : Vals ys its2) (hz : min xs.length ys.length ≤ sizeLine) (g : h'.get? l = some { cls := .type "list", data := .seq acc c' }) (pr : PrsAt h' B (fun i v => its.toArray[i]? = some v) (fun i v => its2.toArray[i]? = some v) (min xs.length ys.length) acc) :
    Inv X pins σ (upd (prsH B (xs.zip ys) H) l (.lst (refsV B (min xs.length ys.length)))) { s with heap := h', toks := tk } := by
  have fr : ∀ {a : Addr}, s.heap.objs.size ≤ a → H a = none := fun h => I.hok.fresh h
  have old : ∀ {a : Addr}, a < s.heap.objs.size → upd (prsH B (xs.zip ys) H) l (.lst (refsV B (min xs.length ys.length))) a = H a := fun h => by
    rw [upd_ne (Nat.ne_of_lt (Nat.lt_of_lt_of_le h hl)), prsH_old (Nat.lt_of_lt_of_le h (Nat.le_trans hl (Nat.le_of_lt hB)))]
  have oldS : ∀ (a : Addr) (o : HO), H a = some o → upd (prsH B (xs.zip ys) H) l (.lst (refsV B (min xs.length ys.length))) a = some o := fun a o e => by
    rw [old (I.hok.lt e)]; exact e
  refine I.un ⟨fun b o e _ _ _ => hk b o e, fun b o e _ _ _ => ⟨o.slots, hk b o e⟩, fun b o e n _ => by rw [old (Heap.lt_size e)]; exact n, fun b o e _ => ⟨o, hk b o e⟩, fun b xs e => oldS b _ e, fun b o u e => oldS b _ e, fun b ps e => ⟨#[], by rw [Array.append_empty]; exact oldS b _ e⟩⟩ ?_
  intro a o e
  by_cases c : a = l
  · subst c
    rw [upd_same] at e
    cases e
    exact ⟨by simpa [refsV] using hz, acc.toList, c', vals_refs pr, by simpa using g⟩
  · rw [upd_ne c] at e
    rcases prsH_some e with e | ⟨j, x, y, rfl, e4, rfl⟩
    · exact (I.hok a o e).stay (fun b u _ h => hk b u h) (fun b h => oldS b _ h) (fun b xs h => oldS b _ h)
    · have hj : j < (xs.zip ys).length := (List.getElem?_eq_some_iff.mp e4).1
      rw [List.length_zip] at hj
      obtain ⟨u, u2, e1, hT, y1, y2⟩ := pr.2 j hj
      rw [List.getElem?_zip_eq_some] at e4
      obtain ⟨w, hw, r1⟩ := rv.get e4.1
      obtain ⟨w2, hw2, r2⟩ := rv2.get e4.2
      simp only [List.getElem?_toArray] at y1 y2
      rw [hw] at y1
      rw [hw2] at y2
      cases y1
      cases y2
      obtain ⟨o, g1, g2, n, g3⟩ := hT
      exact ⟨by show 2 ≤ sizeLine; decide, [u, u2], .cons r1 (.cons r2 .nil), ⟨o, g1, g2, n, g3⟩⟩
theorem lenE {pins : List (Addr × Obj)} {σ : L2.St} {H : Hp} {s : Shared} {a : Addr} {xs : List V} {t : Bool} (I : Inv X pins σ H s) (h : SqE t X.K H a xs) : xs.length ≤ sizeLine := by
  cases t
  · obtain ⟨_, _, _, l⟩ := I.list h
    exact l
  · obtain ⟨_, _, _, l⟩ := I.tuple h
    exact l
theorem seqE_at {t : Bool} {h h' : Heap} {a : Addr} {its : Array Value} (x : seqE t h a its) (k : ∀ o, h.get? a = some o → h'.get? a = some o) : seqE t h' a its := by
  cases t
  · obtain ⟨o, e, r⟩ := x
    exact ⟨o, k o e, r⟩
  · obtain ⟨o, e, r⟩ := x
    exact ⟨o, k o e, r⟩
theorem pe_lz (hg : Gl X "zip") (hm : X.mg "zip" = none) (hg2 : Gl X "list") (hm2 : X.mg "list" = none) (ha : PA X [e, e2] ta) (hc : X.calm = true)
    (hs : starEach [e, e2] X.env = (false, eval e X.env) :: starEach [e2] X.env) (hpl : (backTo q (starEach [e2] X.env)).any (·.1) = false)
    (hs2 : starEach [Expr.Call (.Name "zip" p) [e, e2] [] q] X.env = (false, eval (Expr.Call (.Name "zip" p) [e, e2] [] q) X.env) :: starEach [] X.env) :
    PE X (.Call (.Name "list" p2) [.Call (.Name "zip" p) [e, e2] [] q] [] pos) (tLz X.KK ta) := by
  refine ⟨fun pins s σ H Q I h => ?_⟩
  refine Call_ (ld_blt I hg2 hm2 (show bootBuiltins "list" = some (Value.type "list") by rfl) (PyProof.Rows.callWith_type1 (PyProof.Rows.args_cons (Call_ (ld_blt I hg hm PyProof.Rows.boot_zip (PyProof.Rows.callWith_type1 (thn (ha.run q pins s σ H _ I h) fun us s1 ⟨vs, H1, I1, r1, q1⟩ => ?_) hs hpl))) hs2) hs2 (by rfl)))
  obtain ⟨t1, t2, a, b, xs, ys, ex, hqx, hqy, q⟩ := q1
  subst ex
  cases r1 with
  | cons r rr =>
    cases rr with
    | cons r' rr =>
      cases rr
      cases r
      cases r'
      obtain ⟨its, rv, p1, la⟩ := inv_E I1 hqx
      obtain ⟨its2, rv2, p2, lb⟩ := inv_E I1 hqy
      obtain ⟨o1, B1, f1⟩ := begins_E t1 a its.toArray
      obtain ⟨o2, B2, f2⟩ := begins_E t2 b its2.toArray
      have hh := I1.ok.hd hc
      refine zip_begins2 B1 B2 p1 p2 fun h' hz hTI hTO g1 g2 hsz hk => PyProof.Rows.args_nil ?_
      have ne1 : a ≠ s1.heap.objs.size := Nat.ne_of_lt la
      have ne2 : b ≠ s1.heap.objs.size + 1 := Nat.ne_of_lt (Nat.lt_succ_of_lt lb)
      have lt5 : ∀ {k : Nat}, k < 5 → s1.heap.objs.size + k < h'.objs.size := fun h => by rw [hsz]; exact Nat.add_lt_add_left h _
      have lto : ∀ {c : Nat}, c < s1.heap.objs.size → c < h'.objs.size := fun h => by rw [hsz]; exact Nat.lt_of_lt_of_le h (Nat.le_add_right _ _)
      have D1 := draws_E (prog := X.prog) (w := X.w) (A := X.A.in1.in1.in1) hh t1 s1.heap.objs.size a ne1 its.toArray
      have D2 := draws_E (prog := X.prog) (w := X.w) (A := X.A.in1.in1.in1) hh t2 (s1.heap.objs.size + 1) b ne2 its2.toArray
      have l1 := rv.length
      have l2 := rv2.length
      have em : min its.toArray.size its2.toArray.size = min xs.length ys.length := by
        rw [List.size_toArray, List.size_toArray]
        omega
      have lx : min xs.length ys.length ≤ sizeLine := Nat.le_trans (Nat.min_le_left _ _) (lenE I1 hqx)
      refine call_list_zip (s := { s1 with heap := h' }) (PySem.zip_sep2 (fp1 := [a]) (fp2 := [b]) (fun c hc => by simp at hc; subst hc; exact la) (fun c hc => by simp at hc; subst hc; exact lb)) D1 D2 ?_ ?_ (by rw [em]; exact lx) hz hTO hTI ?_ ?_ ?_
      · intro c hc
        have e' : c = s1.heap.objs.size ∨ c = a := by simpa using hc
        rcases e' with z | z
        · rw [z]; exact lt5 (k := 0) (by decide)
        · rw [z]; exact lto la
      · intro c hc
        have e' : c = s1.heap.objs.size + 1 ∨ c = b := by simpa using hc
        rcases e' with z | z
        · rw [z]; exact lt5 (k := 1) (by decide)
        · rw [z]; exact lto lb
      · exact D1.frame 0 h' h' ⟨f1 _ _ g1, seqE_at p1 fun o q => hk _ o q⟩ fun b _ o e => e
      · exact D2.frame 0 h' h' ⟨f2 _ _ g2, seqE_at p2 fun o q => hk _ o q⟩ fun b _ o e => e
      · intro h2 tk acc c' k2 gl pr
        rw [em] at pr
        have hs : s1.heap.objs.size ≤ h'.objs.size := by rw [hsz]; exact Nat.le_add_right _ _
        have hkk : ∀ (b : Addr) (o : Obj), s1.heap.get? b = some o → h2.get? b = some o := fun b o e => by
          have hb := Heap.lt_size e
          have ne : ∀ k : Nat, b ≠ s1.heap.objs.size + k := fun k => Nat.ne_of_lt (Nat.lt_of_lt_of_le hb (Nat.le_add_right _ _))
          exact k2 b o (ne 4) (ne 3) (ne 0) (ne 1) (hk b o e)
        have I2 := inv_lz (tk := tk) I1 hkk hs (Nat.lt_succ_self _) rv rv2 lx gl pr
        exact ⟨.ref h'.objs.size, _, I2, rfl, q _ _ (I1.hok.fresh hs) (Nat.lt_succ_self _) fun c hc => I1.hok.fresh (Nat.le_trans hs (Nat.le_trans (Nat.le_succ _) hc))⟩
end
section
variable {xt : XT} {W : WX} {C : Ctx} {X : Cx} {as : Exs} {a b : Expr} {p p2 pos q : Pos}
theorem Nw.lz {K : KW} {S : FP} {H : Hp} {l B : Nat} {xs ys : List V} {ds es : List D} (lv : ∀ a, S a → H a ≠ none) (n : H l = none) (hB : l < B) (nB : ∀ c, B ≤ c → H c = none) (r : Rps K (hid S H) xs ds) (r2 : Rps K (hid S H) ys es) :
    Nw K S H (upd (prsH B (xs.zip ys) H) l (.lst (refsV B (min xs.length ys.length)))) (.ref l) (.ol (List.zipWith pairF ds es)) fun b => b = l := by
  have ext : ∀ b o, H b = some o → upd (prsH B (xs.zip ys) H) l (.lst (refsV B (min xs.length ys.length))) b = some o := fun b o e => by
    rw [upd_ne fun z => by rw [z, n] at e; cases e]
    have hb : b < B := Nat.lt_of_not_le fun z => by rw [nB b z] at e; cases e
    rw [prsH_old hb]
    exact e
  refine ⟨ext, fun a e => by rw [e]; exact n, .ol upd_same ?_⟩
  have hx : ∀ b o, hid S H b = some o → hid (fun a => S a ∨ a = l) (upd (prsH B (xs.zip ys) H) l (.lst (refsV B (min xs.length ys.length)))) b = some o := fun b o e => by
    rw [hid_some] at e ⊢
    exact ⟨fun z => z.elim e.1 fun z => (by rw [z, n] at e; cases e.2), ext b o e.2⟩
  have key : ∀ (n : Nat), n ≤ min xs.length ys.length → Rps K (hid (fun a => S a ∨ a = l) (upd (prsH B (xs.zip ys) H) l (.lst (refsV B (min xs.length ys.length))))) (refsV B n) ((List.zipWith pairF ds es).take n) := by
    intro k
    induction k with
    | zero => intro _; exact .nil
    | succ k ih =>
      intro hk
      have i1 : k < xs.length := by omega
      have i2 : k < ys.length := by omega
      have l1 := r.length
      have l2 := r2.length
      obtain ⟨d, e1, g1⟩ : ∃ d, ds[k]? = some d ∧ Rp K (hid S H) xs[k] d := by
        obtain ⟨v, e, g⟩ := r.get (List.getElem?_eq_getElem (show k < ds.length by omega))
        rw [List.getElem?_eq_getElem i1] at e
        cases e
        exact ⟨_, List.getElem?_eq_getElem (by omega), g⟩
      obtain ⟨d2, e2, g2⟩ : ∃ d, es[k]? = some d ∧ Rp K (hid S H) ys[k] d := by
        obtain ⟨v, e, g⟩ := r2.get (List.getElem?_eq_getElem (show k < es.length by omega))
        rw [List.getElem?_eq_getElem i2] at e
        cases e
        exact ⟨_, List.getElem?_eq_getElem (by omega), g⟩
      have ez : (xs.zip ys)[k]? = some (xs[k], ys[k]) := by
        rw [List.getElem?_zip_eq_some]
        exact ⟨List.getElem?_eq_getElem i1, List.getElem?_eq_getElem i2⟩
      have ew : (List.zipWith pairF ds es)[k]? = some (pairF d d2) := by
        rw [List.getElem?_zipWith, e1, e2]
      have er : refsV B (k + 1) = refsV B k ++ [.ref (B + k)] := by
        unfold refsV
        rw [List.range_succ, List.map_append]
        rfl
      rw [er, List.take_add_one, ew]
      refine Rps.append (ih (by omega)) (.cons ?_ .nil)
      refine .tup (.inl (.inl ?_)) (.cons (Rp.mono hx _ _ g1) (.cons (Rp.mono hx _ _ g2) .nil))
      rw [hid_some]
      refine ⟨fun z => ?_, ?_⟩
      · rcases z with z | z
        · exact lv _ z (nB _ (Nat.le_add_right _ _))
        · exact Nat.ne_of_gt (Nat.lt_of_lt_of_le hB (Nat.le_add_right _ _)) z
      · rw [upd_ne (Nat.ne_of_gt (Nat.lt_of_lt_of_le hB (Nat.le_add_right _ _)))]
        exact prsH_at ez
  have := key _ (Nat.le_refl _)
  rw [List.take_of_length_le (by rw [List.length_zipWith, r.length, r2.length]; exact Nat.le_refl _)] at this
  exact this
theorem ex_lz (hg : Gl X "zip") (hm : X.mg "zip" = none) (hg2 : Gl X "list") (hm2 : X.mg "list" = none) (ha : PA X [a, b] (tF xt X.KK W C as)) (hc : X.calm = true)
    (hs : starEach [a, b] X.env = (false, eval a X.env) :: starEach [b] X.env) (hpl : (backTo q (starEach [b] X.env)).any (·.1) = false)
    (hs2 : starEach [Expr.Call (.Name "zip" p) [a, b] [] q] X.env = (false, eval (Expr.Call (.Name "zip" p) [a, b] [] q) X.env) :: starEach [] X.env) :
    PE X (.Call (.Name "list" p2) [.Call (.Name "zip" p) [a, b] [] q] [] pos) (tE xt X.KK W C (.lz as)) := by
  refine pe_imp (pe_lz hg hm hg2 hm2 ha hc hs hpl hs2) fun σ H Q ⟨ρ, F, T, L, E, h⟩ => ⟨ρ, F, T, L, E, Out.mono (Out.bind h) ?_⟩
  rintro ds ρ1 H1 F1 ⟨E1, S1, h1⟩ _ vs rs
  obtain ⟨z, hz, h2⟩ := of_bind h1
  obtain ⟨hl, h3⟩ := if_out h2
  dsimp only at hz h3
  unfold zipF at hz
  split at hz
  · rename_i d1 d2
    cases e1 : itemsZ d1 with
    | none => rw [e1] at hz; cases hz
    | some ds1 =>
      cases e2 : itemsZ d2 with
      | none => rw [e1, e2] at hz; cases hz
      | some ds2 =>
        rw [e1, e2] at hz
        cases hz
        cases rs with | cons g1 t1 =>
        cases t1 with | cons g2 t2 =>
        cases t2
        obtain ⟨b1, a1, xs, rfl, s1, r1⟩ := rp_E e1 g1
        obtain ⟨b2, a2, ys, rfl, s2, r2⟩ := rp_E e2 g2
        exact ⟨b1, b2, _, _, _, _, rfl, SqE.mono hid_sub s1, SqE.mono hid_sub s2, fun l B n hB nB => PV.fin h3 E1 (Nw.lz E1.liveS n hB nB r1 r2) S1.dom⟩
  · cases hz
end
end Mp
namespace Mp
open PySem PySem.Spec PyProof.Rows L2
/-! # sorted(set(t)), t a tuple of whole numbers -/
theorem insU_mem {k x : Int} : ∀ {l : List Int}, x ∈ insU k l ↔ x = k ∨ x ∈ l
  | [] => by simp [insU]
  | y :: l => by
    unfold insU
    split
    · simp
    · split
      · rename_i h; subst h; simp
      · rw [List.mem_cons, insU_mem, List.mem_cons]
        constructor
        · rintro (h | h | h)
          · exact .inr (.inl h)
          · exact .inl h
          · exact .inr (.inr h)
        · rintro (h | h | h)
          · exact .inr (.inl h)
          · exact .inl h
          · exact .inr (.inr h)
theorem sortU_mem {x : Int} : ∀ {l : List Int}, x ∈ sortU l ↔ x ∈ l
  | [] => Iff.rfl
  | y :: l => by
    show x ∈ insU y (sortU l) ↔ _
    rw [insU_mem, sortU_mem, List.mem_cons]
theorem insU_rise {k : Int} : ∀ {l : List Int}, l.Pairwise (· < ·) → (insU k l).Pairwise (· < ·)
  | [], _ => by simp [insU]
  | y :: l, h => by
    obtain ⟨h1, h2⟩ := List.pairwise_cons.mp h
    unfold insU
    split
    · rename_i hk
      refine List.pairwise_cons.mpr ⟨fun z hz => ?_, h⟩
      rcases List.mem_cons.mp hz with rfl | hz
      · exact hk
      · have := h1 z hz; omega
    · split
      · exact h
      · refine List.pairwise_cons.mpr ⟨fun z hz => ?_, insU_rise h2⟩
        rcases insU_mem.mp hz with rfl | hz
        · omega
        · exact h1 z hz
theorem sortU_rise : ∀ l : List Int, (sortU l).Pairwise (· < ·)
  | [] => .nil
  | y :: l => insU_rise (sortU_rise l)
theorem rise_eq : ∀ {a b : List Int}, a.Pairwise (· < ·) → b.Pairwise (· < ·) → (∀ x, x ∈ a ↔ x ∈ b) → a = b
  | [], [], _, _, _ => rfl
  | [], y :: b, _, _, h => absurd ((h y).mpr List.mem_cons_self) (by simp)
  | x :: a, [], _, _, h => absurd ((h x).mp List.mem_cons_self) (by simp)
  | x :: a, y :: b, ha, hb, h => by
    obtain ⟨a1, a2⟩ := List.pairwise_cons.mp ha
    obtain ⟨b1, b2⟩ := List.pairwise_cons.mp hb
    have e : x = y := by
      rcases List.mem_cons.mp ((h x).mp List.mem_cons_self) with e | e
      · exact e
      · rcases List.mem_cons.mp ((h y).mpr List.mem_cons_self) with e2 | e2
        · exact e2.symm
        · have h1 := a1 y e2
          have h2 := b1 x e
          omega
    subst e
    congr 1
    refine rise_eq a2 b2 fun z => ⟨fun hz => ?_, fun hz => ?_⟩
    · rcases List.mem_cons.mp ((h z).mp (List.mem_cons_of_mem _ hz)) with e | e
      · have := a1 z hz; omega
      · exact e
    · rcases List.mem_cons.mp ((h z).mpr (List.mem_cons_of_mem _ hz)) with e | e
      · have := b1 z hz; omega
      · exact e
def tSst (K : KW) (td : TE) : TE := fun σ H Q => td σ H fun x H1 => ∃ l ns, x = .ref l ∧ SqT K H1 l (ns.map V.int) ∧ ns.length < 64 ∧ ∀ (p o : Addr) (u : HO), H1 o = none → upd H1 o u p = none → Q (.ref p) (upd (upd H1 o u) p (.lst ((sortU ns).map V.int)))
section
variable {X : Cx} {a : Expr} {ta : TE} {p p2 pos q : Pos}
theorem vals_ints : ∀ {ns : List Int} {us : List Value}, Vals (ns.map V.int) us → PyProof.Rows.IntsAre us ns
  | [], _, h => by cases h; exact .nil
  | n :: ns, _, h => by
    cases h with | cons r t =>
    obtain ⟨k, rfl⟩ := (show ∃ t, _ = Value.int _ t from r)
    exact .cons _ _ (vals_ints t)
theorem pe_sst (hg : Gl X "sorted") (hm : X.mg "sorted" = none) (hg2 : Gl X "set") (hm2 : X.mg "set" = none) (hc : X.calm = true) (ha : PE X a ta) (na : starEach [a] X.env = (false, eval a X.env) :: starEach [] X.env)
    (hs2 : starEach [Expr.Call (.Name "set" p) [a] [] q] X.env = (false, eval (Expr.Call (.Name "set" p) [a] [] q) X.env) :: starEach [] X.env) :
    PE X (.Call (.Name "sorted" p2) [.Call (.Name "set" p) [a] [] q] [] pos) (tSst X.KK ta) := by
  refine ⟨fun pins s σ H Q I h => ?_⟩
  refine Call_ (ld_blt I hg hm (show bootBuiltins "sorted" = some (Value.builtin "sorted") by rfl) (PyProof.Rows.callWith_builtin1 (PyProof.Rows.args_cons (Call_ (ld_blt I hg2 hm2 PyProof.Rows.boot_set (PyProof.Rows.callWith_type1 (PyProof.Rows.args_cons (thn (ha.run pins s σ H _ I h) fun v s1 ⟨x, H1, I1, r1, q1⟩ => PyProof.Rows.args_nil ?_) na) na (by rfl)))) hs2) hs2 (by rfl)))
  obtain ⟨l, ns, rfl, hq, hl, k⟩ := q1
  cases (show v = Value.ref l from r1)
  obtain ⟨its, rv, p1, _⟩ := I1.tuple hq
  have hh := I1.ok.hd hc
  refine call_set_tupI ns hh p1 (by simpa using vals_ints rv) (by show ns.length + 1 < 4096; omega) fun h' tk c hS hcn hk => PyProof.Rows.args_nil ?_
  have I2 := I1.laid (t' := tk) hk (Nat.le_refl _) (setO_new hS)
  refine cr_sortedSet hc pins _ σ _ [.ref s1.heap.objs.size] [.ref s1.heap.objs.size] Q I2 (.cons rfl .nil) ⟨_, _, c, rfl, upd_same, by omega, fun ns' b rise mem _ new => ?_⟩
  have e : ns' = sortU ns := rise_eq rise (sortU_rise ns) fun x => by
    rw [mem, sortU_mem]
    simp
  rw [e]
  exact k b _ _ (I1.hok.fresh (Nat.le_refl _)) new
end
section
variable {xt : XT} {W : WX} {C : Ctx} {X : Cx} {ea : Ex} {a : Expr} {p p2 pos q : Pos}
theorem rps_int : ∀ {K : KW} {H : Hp} {ns : List Int} {ds : List D} {vs : List V}, allI ds = some ns → Rps K H vs ds → vs = ns.map V.int
  | _, _, ns, [], _, h, r => by
    cases r
    cases h
    rfl
  | _, _, ns, d :: ds, _, h, r => by
    cases r with | cons r t =>
    cases d <;> simp only [allI, reduceCtorEq] at h
    rename_i i
    cases e : allI ds with
    | none => rw [e] at h; cases h
    | some ms =>
      rw [e] at h
      cases h
      cases r
      rw [rps_int e t]
      rfl
theorem rps_intD {K : KW} {H : Hp} : ∀ ns : List Int, Rps K H (ns.map V.int) (ns.map D.int)
  | [] => .nil
  | n :: ns => .cons (.int n) (rps_intD ns)
theorem ex_sst (hg : Gl X "sorted") (hm : X.mg "sorted" = none) (hg2 : Gl X "set") (hm2 : X.mg "set" = none) (hc : X.calm = true) (ha : PE X a (tE xt X.KK W C ea)) (na : starEach [a] X.env = (false, eval a X.env) :: starEach [] X.env)
    (hs2 : starEach [Expr.Call (.Name "set" p) [a] [] q] X.env = (false, eval (Expr.Call (.Name "set" p) [a] [] q) X.env) :: starEach [] X.env) :
    PE X (.Call (.Name "sorted" p2) [.Call (.Name "set" p) [a] [] q] [] pos) (tE xt X.KK W C (.sst ea)) := by
  refine pe_imp (pe_sst hg hm hg2 hm2 hc ha na hs2) fun σ H Q ⟨ρ, F, T, L, E, h⟩ => ⟨ρ, F, T, L, E, Out.mono (Out.bind h) ?_⟩
  rintro r ρ1 H1 F1 ⟨E1, S1, h1⟩ v R E1' re new
  obtain ⟨z, hz, h2⟩ := of_bind h1
  dsimp only at hz h2
  cases ev : vw ρ1 r with
  | none => rw [ev] at hz; cases hz
  | some d =>
    rw [ev] at hz
    replace hz : sstF d = some z := hz
    have hd := Re.vw E1 (fun _ z => z) re ev
    unfold sstF at hz
    split at hz
    · rename_i xs
      cases e : allI xs with
      | none => rw [e] at hz; cases hz
      | some ns =>
        rw [e] at hz
        replace hz : (if ns.length < 64 then some ((sortU ns).map D.int) else none) = some z := hz
        split at hz
        · rename_i hl
          cases hz
          obtain ⟨l, ys, rfl, st, r', g⟩ := hd.tup
          have ey := rps_int e r'
          subst ey
          refine ⟨l, ns, rfl, st, hl, fun p o u no np => ?_⟩
          have ext : ∀ b x, H1 b = some x → upd (upd H1 o u) p (.lst ((sortU ns).map V.int)) b = some x := fun b x e => by
            have n1 : b ≠ o := fun z => by rw [z, no] at e; cases e
            have e2 : upd H1 o u b = some x := by rw [upd_ne n1]; exact e
            rw [upd_ne fun z => by rw [z, np] at e2; cases e2]
            exact e2
          have hp : H1 p = none := by
            by_cases c : p = o
            · rw [c]; exact no
            · rw [upd_ne c] at np; exact np
          exact PV.fin h2 E1 ⟨ext, fun a e => by rw [e]; exact hp, .ol upd_same (rps_intD _)⟩ S1.dom
        · cases hz
    · cases hz
end
end Mp
namespace Mp
open PySem PySem.Spec PyProof.Rows L2
/-! # enumerate over a list or a tuple -/
theorem meets_enum1 {v : Value} {o : Obj} {H : Heap → Prop} (B : Begins v o H) :
    Meets (Builtin.«enumerate.__new__» ⟨[.type "enumerate", v], []⟩) (fun _ R s => H s.heap ∧
      R (.ok (.ret (.ref (s.heap.push o).objs.size))) { s with heap := (s.heap.push o).push { cls := .type "enumerate", data := .fields #[.none, .bool false, .ref s.heap.objs.size, rawInt 0, .none, .none] } }) :=
  .of_wp fun prog w A R s h => by
    obtain ⟨hp, g, d, tk, os⟩ := s; obtain ⟨h1, h⟩ := h
    have hsub := sub_enumerate
    have q1 : ∀ {A' : Around} {E : Value → Shared → Prop} {Q : Value → Shared → Prop}, Q (.ref hp.objs.size) ⟨hp.push o, g, d, tk, os⟩ → wpAny (model prog w) A' (pyIter v) Q E ⟨hp, g, d, tk, os⟩ :=
      fun q => B.iter prog w _ _ ⟨hp, g, d, tk, os⟩ _ h1 q
    wp_walk using q1
    refine wpAny_stack_any fun st => wpAny_pure ?_
    split
    · rename_i c _ _ _ _ _
      cases (c == Value.type "enumerate")
      · wp_walk using q1
        exact ⟨_, rfl, h⟩
      · wp_walk using q1
        exact ⟨_, rfl, h⟩
    · wp_walk using q1
      exact ⟨_, rfl, h⟩
theorem enum_begins1 {prog : Program} {w : World} {A : Around} {E : Value → Shared → Prop} {s : Shared} {v : Value} {o : Obj} {H : Heap → Prop} {Q : Value → Shared → Prop} (B : Begins v o H) (h1 : H s.heap)
    (h : ∀ h', IsEnum h' (s.heap.objs.size + 1) s.heap.objs.size 0 .none → h'.get? s.heap.objs.size = some o → h'.objs.size = s.heap.objs.size + 2 →
      (∀ b o, s.heap.get? b = some o → h'.get? b = some o) → Q (.ref (s.heap.objs.size + 1)) { s with heap := h' }) :
    wpAny (model prog w) A (call (.type "enumerate") [v]) Q E s := by
  refine callType_new F.called_enumerate (by decide) (F.typeCall_enumerate_1 _) (F.newCall_enumerate_1 _) (fun obj => F.args_object_init_2 obj _) F.entry_enumerate_new
    (meets_enum1 B) ⟨h1, ?_⟩
  have hz : (s.heap.push o).objs.size = s.heap.objs.size + 1 := Heap.size_push ..
  show _ ∧ _
  rw [hz]
  have he : IsEnum ((s.heap.push o).push { cls := .type "enumerate", data := .fields #[.none, .bool false, .ref s.heap.objs.size, rawInt 0, .none, .none] }) (s.heap.objs.size + 1) s.heap.objs.size 0 .none := by
    have := Heap.get?_push_size (s.heap.push o) (o := { cls := .type "enumerate", data := .fields #[.none, .bool false, .ref s.heap.objs.size, rawInt 0, .none, .none] }) rfl
    rw [hz] at this; exact this
  refine ⟨⟨_, he, rfl⟩, h _ he (Heap.get?_push_of_some _ (Heap.get?_push_size _ B.free)) (by rw [Heap.size_push, hz]) fun b o x => Heap.get?_push_of_some _ (Heap.get?_push_of_some _ x)⟩
/-- the items as they stand at each turn, each in a new pair -/
def IteE (K : PySem.W.Frag) (t : Bool) (a : Addr) : L2.It :=
  ⟨fun i H => ∃ (xs : List V) (x : V), SqE t K H a xs ∧ xs[i]? = some x, fun i H v H' => ∃ T x, v = .ref T ∧ H T = none ∧ H' = upd H T (.tup [.int (i : Nat), x]) ∧ ∀ xs, SqE t K H a xs → xs[i]? = some x, fun i H => ∃ xs : List V, SqE t K H a xs ∧ xs.length = i⟩
theorem turn_enumE {P : Program} {w : World} {K : PySem.W.Frag} {elts : List Expr} {kk : Nat} {tpos : Pos} {t : Bool} {a e it : Addr} (n1 : a ≠ it) (n2 : e ≠ it) (n3 : e ≠ a) :
    Turn P w K (.Tuple elts kk tpos) (IteE K t a) [e, it] e (fun i h => (∃ old, IsEnum h e it (0 + (i : Int)) old) ∧ itE t h it a i) where
  mem := by simp
  obj := fun i h st b hb => by
    obtain ⟨⟨old, he⟩, hi⟩ := st
    have e' : b = e ∨ b = it := by simpa using hb
    rcases e' with z | z
    · rw [z]; exact ⟨_, he, fun v q => nomatch q⟩
    · rw [z]; exact itE_obj hi
  keep := fun i h h' st k => let ⟨⟨old, he⟩, hi⟩ := st; ⟨⟨old, k e (by simp) _ he⟩, itE_at hi fun o q => k it (by simp) o q⟩
  item := by
    intro X hP hw hK hc i pins s σ H E I hf st hg
    subst hP hw hK
    obtain ⟨⟨old, he⟩, hit⟩ := st
    obtain ⟨xs, x, hq, hx⟩ := hg
    obtain ⟨its, rv, p, _⟩ := inv_E I hq
    obtain ⟨u, hu, ru⟩ := rv.get hx
    have hel : e < s.heap.objs.size := Heap.lt_size he
    have hil : it < s.heap.objs.size := by obtain ⟨_, q, _⟩ := itE_obj hit; exact Heap.lt_size q
    have D := draws_E (prog := X.prog) (w := X.w) (A := X.A.in1) (I.ok.hd hc) t it a n1 its.toArray
    have l1 : i < its.toArray.size := by
      have := (List.getElem?_eq_some_iff.mp hu).1
      simpa using this
    refine wpAny_pyNext_enum_itemC D he ⟨hit, p⟩ l1 n2 (by simp; exact ⟨n2, n3⟩) fun v1 h' tk hP ho hs' hT hsz hk => ?_
    have ev : v1 = u := by
      have e : its[i]? = some v1 := by simpa using hP
      rw [hu] at e; cases e; rfl
    subst ev
    refine ⟨_, rfl, wpAny_letOwnedTupleGo_enum (s := { s with heap := h', toks := tk + 1 }) ho fun h'' he' sb => ?_⟩
    have hT2 : h''.get? s.heap.objs.size = some { cls := .type "tuple", data := .seq #[.int (0 + (i : Int)) tk, v1] } := (sb.2 _ (Nat.ne_of_gt hel)).trans hT
    have new : ObjOk X.prog X.w (upd H s.heap.objs.size (.tup [.int (i : Nat), x])) h'' s.heap.objs.size (.tup [.int (i : Nat), x]) :=
      ⟨by show 2 ≤ sizeLine; decide, [.int (0 + (i : Int)) tk, v1], .cons ⟨_, by rw [Int.zero_add]⟩ (.cons ru .nil), ⟨_, hT2, rfl, _, rfl⟩⟩
    have I1 : Inv X pins σ (upd H s.heap.objs.size (.tup [.int (i : Nat), x])) { s with heap := h'', toks := tk + 1 } :=
      I.turnedNew (ch := [e, it]) (fun b ob hb q => (sb.2 b (fun z => hb (by simp [z]))).trans (hk b ob (fun z => hb (by simp [z])) (fun z => hb (by simp [z])) q)) hf (Nat.le_refl _) new
    refine ⟨.ref s.heap.objs.size, _, I1, rfl, ⟨_, x, rfl, I.hok.fresh (Nat.le_refl _), rfl, fun ys hy => by rw [sqE_inj I hy hq]; exact hx⟩, ⟨⟨v1, ?_⟩, itE_at hs'.1 fun o q => (sb.2 it (Ne.symm n2)).trans q⟩, fun b hb => ?_⟩
    · have e1 : 0 + ((i + 1 : Nat) : Int) = 0 + (i : Int) + 1 := by omega
      rw [e1]; exact he'
    · have hb' : b < s.heap.objs.size := by
        have e' : b = e ∨ b = it := by simpa using hb
        rcases e' with z | z
        · rw [z]; exact hel
        · rw [z]; exact hil
      rw [upd_ne (Nat.ne_of_lt hb')]
      exact (hf b hb).1
  done := by
    intro X hP hw hK hc i pins s σ H E I hf st hg
    subst hP hw hK
    obtain ⟨⟨old, he⟩, hit⟩ := st
    obtain ⟨xs, hq, hx⟩ := hg
    obtain ⟨its, rv, p, _⟩ := inv_E I hq
    obtain ⟨f0, f1, f2, f3, f4, f5⟩ := hf it (by simp)
    have hl := rv.length
    have D := draws_E (prog := X.prog) (w := X.w) (A := X.A.in1) (I.ok.hd hc) t it a n1 its.toArray
    have ei : i = its.toArray.size := by simp; omega
    subst ei
    exact wpAny_pyNext_enum_endD D he ⟨hit, p⟩ fun h' eb => ⟨rfl, I.turned (t' := s.toks) (fun b o hb q => eb b o hb q) f0 f1 f3 f4 f5⟩
  self := fun A i s Q E st h => let ⟨⟨_, he⟩, _⟩ := st; wpAny_pyIter_enum he h
def iEnumE (K : PySem.W.Frag) (ta : TA) : TI := fun σ H R => ta σ H fun vs H1 => ∃ t a xs, vs = [.ref a] ∧ SqE t K H1 a xs ∧ R (IteE K t a) H1
theorem pi_enumE {X : Cx} {e : Expr} {ta : TA} {p pos tpos : Pos} {elts : List Expr} {kk : Nat} (hg : Gl X "enumerate") (hm : X.mg "enumerate" = none) (ha : PA X [e] ta) (hs : starEach [e] X.env = [(false, eval e X.env)]) :
    PI X (.Tuple elts kk tpos) (.Call (.Name "enumerate" p) [e] [] pos) (iEnumE X.K ta) := by
  refine ⟨fun pins s σ H R I h => ?_⟩
  refine Call_ (ld_blt I hg hm boot_enumerate (PyProof.Rows.callWith_type1 (thn (ha.run pos pins s σ H _ I h) fun us s1 ⟨vs, H1, I1, r1, q1⟩ => ?_) hs rfl))
  obtain ⟨t, a, xs, ex, hq, q⟩ := q1
  subst ex
  cases r1 with
  | cons r rr =>
    cases rr
    cases r
    obtain ⟨its, rv, p', la⟩ := inv_E I1 hq
    obtain ⟨o, B, f⟩ := begins_E t a its.toArray
    refine enum_begins1 B p' fun h' he hit hsz hk => wpAny_pyIter_enum he ?_
    have I2 : Inv X pins σ H1 { s1 with heap := h' } := I1.kept (t' := s1.toks) hk
    refine ⟨s1.heap.objs.size + 1, [s1.heap.objs.size + 1, s1.heap.objs.size], _, _, H1, rfl, I2, turn_enumE (t := t) (a := a) (e := s1.heap.objs.size + 1) (it := s1.heap.objs.size) (Nat.ne_of_lt la) (Nat.succ_ne_self _) (Ne.symm (Nat.ne_of_lt (Nat.lt_succ_of_lt la))), ⟨⟨.none, he⟩, f _ _ hit⟩, fun b hb => ?_, q⟩
    have e' : b = s1.heap.objs.size + 1 ∨ b = s1.heap.objs.size := by simpa using hb
    have hle : s1.heap.objs.size ≤ b := by
      rcases e' with z | z
      · rw [z]; exact Nat.le_add_right _ _
      · rw [z]; exact Nat.le_refl _
    exact I1.fpOk hle (I1.hok.fresh hle)
/-! ### for the interpreter -/
section
variable {xt : XT} {W : WX} {C : Ctx} {X : Cx} {as : Exs} {p pos : Pos}
theorem wk_enumE {K : KW} {S : FP} {H : Hp} {t : Bool} {p : Addr} {xs : List V} {ds : List D} (hp : SqE t K (hid S H) p xs) (r : Rps K (hid S H) xs ds) : Wk K (IteE K t p) (enumL 0 ds) S H [] where
  go := fun i S' H' st _ hi => by
    rw [enumL_len] at hi
    have : i < xs.length := by rw [r.length]; exact hi
    exact ⟨xs, _, sqE_hid st hp, List.getElem?_eq_getElem this⟩
  stop := fun i S' H' st _ hi => ⟨xs, sqE_hid st hp, by rw [r.length]; rw [enumL_len] at hi; omega⟩
  yld := fun i S' H' x H2 d st _ lv hy hd => by
    obtain ⟨T, y, rfl, hT, rfl, fy⟩ := hy
    rw [enumL_at] at hd
    cases hd0 : ds[i]? with
    | none => rw [hd0] at hd; cases hd
    | some d0 =>
      rw [hd0] at hd
      cases hd
      obtain ⟨v, e1, rv⟩ := r.get hd0
      have := fy xs (sqE_hid st hp)
      rw [e1] at this
      cases this
      rw [Nat.zero_add]
      exact pair_new lv hT (.int _) (Rp.mono st.hid _ _ rv)
variable {elts : List Expr} {kk : Nat} {tpos : Pos} {a : Expr}
theorem ei_enumE (hg : Gl X "enumerate") (hm : X.mg "enumerate" = none) (ha : PA X [a] (tF xt X.KK W C as)) (hs : starEach [a] X.env = [(false, eval a X.env)]) :
    PI X (.Tuple elts kk tpos) (.Call (.Name "enumerate" p) [a] [] pos) (tI xt X.KK W C (.enum as)) := by
  refine pi_imp (pi_enumE hg hm ha hs) fun σ H R ⟨ρ, F, T, L, E, h⟩ => ⟨ρ, F, T, L, E, Out.mono (OutG.bind h) ?_⟩
  rintro ds ρ1 H1 F1 ⟨E1, S1, h1⟩ _ vs rs
  obtain ⟨z, hz, h2⟩ := ofG_bind h1
  dsimp only at hz h2
  unfold enumF at hz
  split at hz
  · rename_i d0
    cases e1 : itemsZ d0 with
    | none => rw [e1] at hz; cases hz
    | some x =>
      rw [e1] at hz
      cases hz
      obtain ⟨w, rfl, rw'⟩ := rs.one
      obtain ⟨b1, a1, xs, rfl, s1, r1⟩ := rp_E e1 rw'
      exact ⟨b1, _, _, rfl, SqE.mono hid_sub s1, h2 _ H1 F1 T L [] [] E1 .none (wk_enumE s1 r1) (fun _ z => by simp at z) S1⟩
  · cases hz
end
end Mp
namespace Mp
open PySem PySem.Spec PyProof.Rows L2
/-! # len(set(texts)) -/
def addK (p : (Key → Bool) × Nat) (k : Key) : (Key → Bool) × Nat := (fun k' => p.1 k' || decide (k' = k), if p.1 k = true then p.2 else p.2 + 1)
def stK (ks : List Key) (i : Nat) : (Key → Bool) × Nat := (ks.take i).foldl addK (fun _ => false, 0)
theorem stK_succ {ks : List Key} {i : Nat} {k : Key} (h : ks[i]? = some k) : stK ks (i + 1) = addK (stK ks i) k := by
  unfold stK
  rw [List.take_add_one, h, List.foldl_append]
  rfl
theorem stK_le (ks : List Key) : ∀ i : Nat, (stK ks i).2 ≤ i := by
  intro i
  induction i with
  | zero => exact Nat.le_refl _
  | succ i ih =>
    cases h : ks[i]? with
    | none =>
      have : stK ks (i + 1) = stK ks i := by
        unfold stK
        rw [List.take_add_one, h]
        simp
      rw [this]
      omega
    | some k =>
      rw [stK_succ h]
      show (if (stK ks i).1 k = true then (stK ks i).2 else (stK ks i).2 + 1) ≤ i + 1
      split <;> omega
section
variable {prog : Program} {w : World} {A : Around} {R : Result → Shared → Prop} {it : Addr} {fp wr : List Addr} {G : Array GenState → Array GenState → Prop} {n : Nat} {P : Nat → Value → Prop} {St : Nat → Shared → Prop}
theorem SetOf.carry {h h' : Heap} {a : Addr} {S : Key → Bool} {m : Nat} (x : h.SetOf (mixKind prog w) a S m) (k : ∀ o, h.get? a = some o → h'.get? a = some o) : h'.SetOf (mixKind prog w) a S m := setOf_at x k
/-- the loop of set(..), with keys -/
theorem upd_keys (W : WalksS prog w A.in1 it fp wr G n P St) (a : Addr) (off : a ∉ fp) (ks : List Key) (hk : ∀ i v, P i v → ∃ k, ks[i]? = some k ∧ (mixKind prog w).is k v = true ∧ v.scannable = true) (few : n + 1 < scanBound) :
    ∀ (j i : Nat) (u : Shared), n - i = j → i ≤ n → St i u → u.heap.SetOf (mixKind prog w) a (stK ks i).1 (stK ks i).2 →
      (∀ u', Moved (a :: wr) G u u' → u'.heap.SetOf (mixKind prog w) a (stK ks n).1 (stK ks n).2 → R (.ok (.ret .none)) u') →
      codeAny (model prog w) A (.builtin "set.update.loop" ⟨[.ref a, .ref it], []⟩) R u := by
  have offW : a ∉ wr := fun z => off (W.sub _ z)
  have wide : ∀ b ∈ wr, b ∈ a :: wr := fun b z => List.mem_cons_of_mem _ z
  intro j
  induction j with
  | zero =>
    intro i u e le st S0 fin
    have ei : i = n := by omega
    subst ei
    refine codeAny_builtin PyProof.Rows.F.entry_set_update_loop ?_
    rw [Around.under_plainId PyProof.Rows.F.plain_set_update_loop]
    show wpAny _ A.in1 (pyNext (.ref it) >>= _) _ _ u
    refine wpAny_bind (W.done u _ _ st fun u' mv => ?_)
    show wpAny _ A.in1 (ret Value.none) _ _ u'
    exact wpAny_pure (fin u' (mv.mono wide) (SetOf.carry S0 fun o z => mv.heap a o offW z))
  | succ j ih =>
    intro i u e le st S0 fin
    have lt : i < n := by omega
    refine codeAny_builtin PyProof.Rows.F.entry_set_update_loop ?_
    rw [Around.under_plainId PyProof.Rows.F.plain_set_update_loop]
    show wpAny _ A.in1 (pyNext (.ref it) >>= _) _ _ u
    refine wpAny_bind (W.item i u _ _ lt st fun v u' hP st' mv => ?_)
    obtain ⟨k, ek, isk, sc⟩ := hk i v hP
    have S1 := SetOf.carry S0 fun o z => mv.heap a o offW z
    show wpAny _ A.in1 (holding [v] (setAdd a v) >>= _) _ _ u'
    refine wpAny_bind (wpAny_holding ?_)
    unfold setAdd
    refine wpAny_holding (wpAny_bind ((mixKind prog w).pyHash (k := k) isk ?_))
    have room : (stK ks i).2 + 1 < scanBound := by have := stK_le ks i; omega
    refine wpAny_setAddHashed_of (knd := mixKind prog w) (s := { u' with toks := u'.toks + 1 }) isk sc S1 room fun h' sb S2 => ?_
    have S3 : h'.SetOf (mixKind prog w) a (stK ks (i + 1)).1 (stK ks (i + 1)).2 := by rw [stK_succ ek]; exact S2
    refine wpAny_pure ⟨plainId_quiet PyProof.Rows.F.plain_set_update_loop _, ih (i + 1) _ (by omega) lt (W.frame _ u' _ _ st' (Nat.le_succ _) fun b z o q => ?_) S3 fun u2 mv2 S4 => ?_⟩
    · rw [sb.2 b (fun q : b = a => off (by rw [← q]; exact z))]
      exact q
    · refine fin u2 (Moved.trans W.gtrans ((mv.mono wide).then_heap (Nat.le_succ _) fun b o z q => ?_) mv2) S4
      rw [sb.2 b (fun q : b = a => z (by rw [q]; exact List.mem_cons_self))]
      exact q
end
section
variable {prog : Program} {w : World} {A : Around} {E : Value → Shared → Prop} {u : Shared}
/-- a set as it is made -/
abbrev bareSet (b : Bool) : Obj := { cls := .type "set", dict := none, data := .set #[] 0 (.fresh 0 0 b) }
/-- set(l), l a list of keys -/
theorem call_set_keys {l : Addr} {its : Array Value} {ks : List Key} {Q : Value → Shared → Prop} (nh : A.handled = none) (il : u.heap.IsList l its) (len : ks.length = its.size) (few : its.size + 1 < scanBound)
    (hk : ∀ (i : Nat) (v : Value), its[i]? = some v → ∃ k, ks[i]? = some k ∧ (mixKind prog w).is k v = true ∧ v.scannable = true)
    (fin : ∀ (h' : Heap) (tk : Nat), h'.SetOf (mixKind prog w) u.heap.objs.size (stK ks its.size).1 (stK ks its.size).2 → (∀ b o, b < u.heap.objs.size → u.heap.get? b = some o → h'.get? b = some o) → Q (.ref u.heap.objs.size) { u with heap := h', toks := tk }) :
    wpAny (model prog w) A (call (.type "set") [.ref l]) Q E u := by
  obtain ⟨c0, t0, mro0⟩ := PySem.F.called_set.mro
  have m1 := PySem.F.called_set.made
  have m2 := PySem.F.called_set.sub
  refine wpAny_call (codeAny_of_tree ?_)
  show wpAny _ _ (callAny (.type "set") _) _ _ _
  refine wpAny_pure ⟨Code.quiet_builtin _ (by decide +kernel), codeAny_builtin PySem.F.entry_type_call ?_⟩
  rw [Around.under_plain (weight_type_call_type "set" [.ref l] []) rfl]
  have m3 := PySem.F.called_set.notType
  have m4 := PySem.F.called_set.canCreate
  have m5 := PySem.F.typeCall_set_1 (.ref l)
  repeat (any_goals (first | assumption | wp_step))
  refine codeAny_mono (code_set_new_1 (.ref l) (E := E) (Q₁ := fun x u1 => ∃ b : Bool, x = .ref u.heap.objs.size ∧ u1 = { u with heap := u.heap.push (bareSet b) }) fun b => ⟨b, rfl, rfl⟩) fun r0 u1 z0 => ?_
  cases r0 with
  | error e => exact z0
  | ok f0 =>
    cases f0 with
    | ret x0 =>
      obtain ⟨b, rfl, rfl⟩ := z0
      have S0 : (u.heap.push (bareSet b)).get? u.heap.objs.size = some (bareSet b) := Heap.get?_push_size _ rfl
      have T0 : Shared.TypeIs { u with heap := u.heap.push (bareSet b) } (.ref u.heap.objs.size) "set" := ⟨_, S0, rfl⟩
      have m6 := PySem.F.called_set.init.lookup
      have m7 := PySem.F.called_set.init.bind (.ref u.heap.objs.size)
      repeat (any_goals (first | assumption | wp_step))
      refine codeAny_mono (codeAny_call_builtin (R := wants (fun r u2 => r = .none ∧ ∃ h' tk, u2 = { u with heap := h', toks := tk } ∧ h'.SetOf (mixKind prog w) u.heap.objs.size (stK ks its.size).1 (stK ks its.size).2 ∧ (∀ b o, b < u.heap.objs.size → u.heap.get? b = some o → h'.get? b = some o)) E)
        PySem.F.called_set.init.plain PySem.F.entry_set_init (check_set_init_1 T0 ?_)) fun r1 u2 z1 => ?_
      · obtain ⟨o0, g0, k0, n0, d0⟩ := il
        obtain ⟨oc, od, oda, osl⟩ := o0
        simp only at k0 d0
        subst k0; subst d0
        have g1 : (u.heap.push (bareSet b)).get? l = some { cls := .type "list", dict := od, data := .seq its n0, slots := osl } := Heap.get?_push_of_some _ g0
        have m8 := PySem.F.sub_list_set
        have m9 := PySem.F.sub_list_frozenset
        have ma : (Value.type "list" == Value.type "dict") = false := by decide
        have L1 : (u.heap.push (bareSet b)).IsList l its := ⟨_, g1, rfl, n0, rfl⟩
        unfold Builtin.«set.__init__» noKeywords Builtin.Frozenset.updateFrom
        generalize hIter : pyIter = itf
        wp_walk
        subst hIter
        refine wpAny_pyIter_list L1 ?_
        refine wpAny_bind (wpAny_runValue ?_)
        have lt : l < u.heap.objs.size := Heap.lt_size g0
        have nh3 : A.in1.in1.in1.handled = none := by simp [nh]
        have sz : (u.heap.push (bareSet b)).objs.size = u.heap.objs.size + 1 := by rw [Heap.size_push]
        have apart : l ≠ (u.heap.push (bareSet b)).objs.size := by rw [sz]; exact Nat.ne_of_lt (Nat.lt_succ_of_lt lt)
        have off : u.heap.objs.size ∉ [(u.heap.push (bareSet b)).objs.size, l] := by
          rw [sz]
          simp only [List.mem_cons, List.not_mem_nil, or_false, not_or]
          exact ⟨Nat.ne_of_lt (Nat.lt_succ_self _), Nat.ne_of_gt lt⟩
        refine upd_keys ((Walks.list nh3 _ l apart its).toS) u.heap.objs.size off ks hk few (its.size - 0) 0 _ (by omega) (Nat.zero_le _)
          ⟨⟨_, Heap.get?_push_size _ rfl, rfl, rfl⟩, (L1.push _)⟩ ?s0 ?rr
        case s0 =>
          have g2 := Heap.get?_push_of_some { cls := .type "list_iterator", data := .fields #[.ref l, .int 0 0] } S0
          exact ⟨_, #[], 0, _, g2, ⟨rfl, rfl, rfl⟩, rfl, (fun e he => by simp at he), (fun k => by simp [stK]), (by decide), (by rfl), rfl⟩
        case rr =>
          intro u3 mv S3
          obtain ⟨h3, g3, d3, t3, o3⟩ := u3
          have q1 : g3 = u.gens := mv.gens
          have q2 : d3 = u.drawn := mv.drawn
          have q3 : o3 = u.os := mv.os
          subst q1; subst q2; subst q3
          show wpAny _ _ _ _ _ _
          refine wpAny_pure ?_
          show wpAny _ _ (ret Value.none) _ _ _
          refine wpAny_pure ⟨rfl, h3, t3, rfl, S3, fun c o z q => ?_⟩
          refine mv.heap c o ?_ (Heap.get?_push_of_some _ (Heap.get?_push_of_some _ q))
          rw [sz]
          simp only [List.mem_cons, List.not_mem_nil, or_false, not_or]
          exact ⟨Nat.ne_of_lt z, Nat.ne_of_lt (Nat.lt_succ_of_lt z)⟩
      · cases r1 with
        | error e => exact z1
        | ok f1 =>
          cases f1 with
          | ret r =>
            obtain ⟨rfl, h', tk, rfl, S1, kp⟩ := z1
            repeat (any_goals (first | assumption | wp_step))
            exact fin _ _ S1 kp
          | _ => exact z1.elim
    | _ => exact z0.elim
end
theorem metS_st : ∀ (xs : List (List Nat)) (acc : List (List Nat)) (p : (Key → Bool) × Nat), (∀ x, p.1 (Sum.inr (sOf x)) = acc.contains x) → p.2 = acc.length → ((xs.map fun x => (Sum.inr (sOf x) : Key)).foldl addK p).2 = (metS acc xs).length
  | [], acc, p, _, h2 => h2
  | x :: xs, acc, p, h1, h2 => by
    rw [List.map_cons, List.foldl_cons, metS]
    refine metS_st xs _ _ (fun y => ?_) ?_
    · show (p.1 (Sum.inr (sOf y)) || decide ((Sum.inr (sOf y) : Key) = Sum.inr (sOf x))) = _
      rw [h1]
      by_cases c : acc.contains x = true
      · rw [if_pos c]
        by_cases e : y = x
        · subst e
          rw [c, Bool.true_or]
        · have : decide ((Sum.inr (sOf y) : Key) = Sum.inr (sOf x)) = false := decide_eq_false fun z => e (sOf_inj (Sum.inr.inj z))
          rw [this, Bool.or_false]
      · rw [if_neg c]
        rw [List.contains_append]
        congr 1
        by_cases e : y = x
        · subst e
          simp
        · have : decide ((Sum.inr (sOf y) : Key) = Sum.inr (sOf x)) = false := decide_eq_false fun z => e (sOf_inj (Sum.inr.inj z))
          rw [this]
          simp [e]
    · show (if p.1 (Sum.inr (sOf x)) = true then p.2 else p.2 + 1) = _
      rw [h1, h2]
      split <;> simp
theorem metI_st : ∀ (xs : List Int) (acc : List Int) (p : (Key → Bool) × Nat), (∀ x, p.1 (Sum.inl x) = acc.contains x) → p.2 = acc.length → ((xs.map fun x => (Sum.inl x : Key)).foldl addK p).2 = (metI acc xs).length
  | [], acc, p, _, h2 => h2
  | x :: xs, acc, p, h1, h2 => by
    rw [List.map_cons, List.foldl_cons, metI]
    refine metI_st xs _ _ (fun y => ?_) ?_
    · show (p.1 (Sum.inl y) || decide ((Sum.inl y : Key) = Sum.inl x)) = _
      rw [h1]
      by_cases c : acc.contains x = true
      · rw [if_pos c]
        by_cases e : y = x
        · subst e
          rw [c, Bool.true_or]
        · have : decide ((Sum.inl y : Key) = Sum.inl x) = false := decide_eq_false fun z => e (Sum.inl.inj z)
          rw [this, Bool.or_false]
      · rw [if_neg c]
        rw [List.contains_append]
        congr 1
        by_cases e : y = x
        · subst e
          simp
        · have : decide ((Sum.inl y : Key) = Sum.inl x) = false := decide_eq_false fun z => e (Sum.inl.inj z)
          rw [this]
          simp [e]
    · show (if p.1 (Sum.inl x) = true then p.2 else p.2 + 1) = _
      rw [h1, h2]
      split <;> simp
def cntK (ks : List Key) : Nat := (stK ks ks.length).2
theorem cntK_S (xs : List (List Nat)) : cntK (xs.map fun x => (Sum.inr (sOf x) : Key)) = (metS [] xs).length := by
  unfold cntK stK
  rw [List.take_length]
  exact metS_st xs [] _ (fun y => rfl) rfl
theorem cntK_I (xs : List Int) : cntK (xs.map fun x => (Sum.inl x : Key)) = (metI [] xs).length := by
  unfold cntK stK
  rw [List.take_length]
  exact metI_st xs [] _ (fun y => rfl) rfl
/-- len(set(xs)) of a list of texts, of numbers -/
def tLset (K : KW) (ta : TE) : TE := fun σ H Q => ta σ H fun x H1 => ∃ (l : Addr) (ks : List Key), x = .ref l ∧ SqL K H1 l (ks.map kV) ∧ ks.length ≤ 1000 ∧ Q (.int (cntK ks)) H1
theorem kv_scan {k : Key} {v : Value} (r : RelV (kV k) v) : v.scannable = true := by
  cases k with
  | inl i => obtain ⟨t, rfl⟩ := (show ∃ t, v = Value.int i t from r); rfl
  | inr x => obtain ⟨t, rfl⟩ := (show ∃ t, v = Value.str x t from r); rfl
theorem keys_at : ∀ {ks : List Key} {us : List Value}, Vals (ks.map kV) us → ∀ (i : Nat) (v : Value), us[i]? = some v → ∃ k, ks[i]? = some k ∧ RelV (kV k) v
  | [], _, .nil, i, v, h => by simp at h
  | x :: xs, _, .cons r t, i, v, h => by
    cases i with
    | zero =>
      simp at h
      subst h
      exact ⟨x, rfl, r⟩
    | succ i => exact keys_at t i v (by simpa using h)
section
variable {xt : XT} {W : WX} {C : Ctx} {X : Cx} {a : Expr} {ea : Ex} {p p2 q pos : Pos}
theorem pe_lset {ta : TE} (hc : X.calm = true) (g1 : Gl X "len") (m1 : X.mg "len" = none) (g2 : Gl X "set") (m2 : X.mg "set" = none) (ha : PE X a ta) (hs : starEach [a] X.env = (false, eval a X.env) :: starEach [] X.env) :
    PE X (.Call (.Name "len" p) [.Call (.Name "set" p2) [a] [] q] [] pos) (tLset X.KK ta) := by
  refine ⟨fun pins u σ H Q I z => ?_⟩
  refine Call_ (ld_blt I g1 m1 PySem.boot_len ?_)
  refine PyProof.Rows.callWith_builtin1 (PyProof.Rows.args_cons ?_ rfl) rfl rfl
  refine Call_ (ld_blt I g2 m2 PyProof.Rows.boot_set ?_)
  refine PyProof.Rows.callWith_type1 (PyProof.Rows.args_cons (thn (ha.run pins u σ H _ I z) fun v u1 ⟨x, H1, I1, r1, k1⟩ => PyProof.Rows.args_nil ?_) hs) hs rfl
  obtain ⟨l, ks, rfl, hq, few, k1⟩ := k1
  cases r1
  obtain ⟨its, rv, pl, _⟩ := I1.list hq
  have len := rv.length
  rw [List.length_map] at len
  refine call_set_keys (I1.ok.hd hc) pl.isList (ks := ks) (by rw [List.size_toArray]; exact len) (by unfold scanBound; rw [List.size_toArray]; omega) (fun i v e => ?_) fun h' tk S1 kp => ?_
  · obtain ⟨k, e1, r⟩ := keys_at rv i v (by simpa using e)
    exact ⟨k, e1, kV_is r, kv_scan r⟩
  · refine PyProof.Rows.args_nil ?_
    have en : (stK ks its.toArray.size).2 = cntK ks := by
      unfold cntK
      rw [List.size_toArray, ← len]
    obtain ⟨o, es, ep, t, ho, hex, hd, _, _, _, hf, hn⟩ := S1
    have I2 : Inv X pins σ H1 { u1 with heap := h', toks := tk } := I1.kept fun b o e => kp b o (Heap.lt_size e) e
    rw [en] at hn
    have le : cntK ks ≤ 1000 := by
      rw [← en]
      refine Nat.le_trans (stK_le _ _) ?_
      rw [List.size_toArray]
      omega
    exact call_len_set ho hex hd hf (by rw [hn]; omega) ⟨.int (cntK ks), H1, I2.tok _, ⟨_, by rw [hn]⟩, k1⟩
theorem rps_ints2 : ∀ {vs : List V} {ds : List D} {xs : List Int} {H : Hp}, Rps X.KK H vs ds → allI ds = some xs → vs = xs.map V.int
  | _, [], _, _, h, e => by cases h; cases e; rfl
  | _, .int b :: r, xs, _, h, e => by
    cases h with | cons g t =>
    cases g
    unfold allI at e
    cases z : allI r with
    | none => rw [z] at e; cases e
    | some cs =>
      rw [z] at e
      cases e
      rw [rps_ints2 t z]
      rfl
theorem allI_len : ∀ {ds : List D} {xs : List Int}, allI ds = some xs → xs.length = ds.length
  | [], _, e => by cases e; rfl
  | .int b :: r, xs, e => by
    unfold allI at e
    cases z : allI r with
    | none => rw [z] at e; cases e
    | some cs =>
      rw [z] at e
      cases e
      simp [allI_len z]
theorem rps_strs : ∀ {vs : List V} {ds : List D} {xs : List (List Nat)} {H : Hp}, Rps X.KK H vs ds → allS ds = some xs → vs = xs.map fun x => V.str (sOf x)
  | _, [], _, _, h, e => by cases h; cases e; rfl
  | _, .str b :: r, xs, _, h, e => by
    cases h with | cons g t =>
    cases g
    unfold allS at e
    cases z : allS r with
    | none => rw [z] at e; cases e
    | some cs =>
      rw [z] at e
      cases e
      rw [rps_strs t z]
      rfl
theorem allS_len : ∀ {ds : List D} {xs : List (List Nat)}, allS ds = some xs → xs.length = ds.length
  | [], _, e => by cases e; rfl
  | .str b :: r, xs, e => by
    unfold allS at e
    cases z : allS r with
    | none => rw [z] at e; cases e
    | some cs =>
      rw [z] at e
      cases e
      simp [allS_len z]
theorem ex_lset (hc : X.calm = true) (g1 : Gl X "len") (m1 : X.mg "len" = none) (g2 : Gl X "set") (m2 : X.mg "set" = none) (ha : PE X a (tE xt X.KK W C ea)) (hs : starEach [a] X.env = (false, eval a X.env) :: starEach [] X.env) :
    PE X (.Call (.Name "len" p) [.Call (.Name "set" p2) [a] [] q] [] pos) (tE xt X.KK W C (.lset ea)) := by
  refine pe_imp (pe_lset hc g1 m1 g2 m2 ha hs) fun σ H Q ⟨ρ, F, T, L, E, h⟩ => ⟨ρ, F, T, L, E, Out.mono (Out.bind h) ?_⟩
  rintro r ρ1 H1 F1 ⟨E1, S1, h1⟩ v R E1' re new
  obtain ⟨k, hk, h2⟩ := of_bind h1
  dsimp only at hk
  cases hv : vw ρ1 r with
  | none => rw [hv] at hk; cases hk
  | some d =>
    rw [hv] at hk
    cases d with
    | lst ds =>
      have hk : lsetF (.lst ds) = some k := hk
      simp only [lsetF] at hk
      split at hk
      · rename_i hl
        obtain ⟨b, ys, rfl, st, rr⟩ := (Re.vw E1 (fun _ z => z) re hv).lst
        cases hx : allS ds with
        | none =>
          rw [hx] at hk
          cases hy : allI ds with
          | none => rw [hy] at hk; cases hk
          | some ns =>
            rw [hy] at hk
            cases hk
            refine ⟨b, ns.map fun x => (Sum.inl x : Key), rfl, ?_, by rw [List.length_map, allI_len hy]; exact hl, ?_⟩
            · rw [List.map_map]
              rw [rps_ints2 rr hy] at st
              exact .inl (.inl st)
            · rw [cntK_I]
              exact PV.sh h2 E1 (.int _) S1.dom
        | some xs =>
          rw [hx] at hk
          cases hk
          refine ⟨b, xs.map fun x => (Sum.inr (sOf x) : Key), rfl, ?_, by rw [List.length_map, allS_len hx]; exact hl, ?_⟩
          · rw [List.map_map]
            rw [rps_strs rr hx] at st
            exact .inl (.inl st)
          · rw [cntK_S]
            exact PV.sh h2 E1 (.int _) S1.dom
      · cases hk
    | _ => cases hk
end
end Mp
namespace Mp
open PySem PySem.Spec PyProof.Rows L2

/-- slots that may not be bound stay -/
structure Kept (wr : Nat → Bool) (σ σ' : L2.St) : Prop where
  len : σ'.length = σ.length
  at_ : ∀ i, wr i = false → σ'[i]? = σ[i]?
theorem Kept.refl {wr : Nat → Bool} {σ : L2.St} : Kept wr σ σ := ⟨rfl, fun _ _ => rfl⟩
theorem Kept.trans {wr : Nat → Bool} {σ σ1 σ2 : L2.St} (a : Kept wr σ σ1) (b : Kept wr σ1 σ2) : Kept wr σ σ2 := ⟨b.len.trans a.len, fun i h => (b.at_ i h).trans (a.at_ i h)⟩
theorem Kept.set {wr : Nat → Bool} {σ : L2.St} {i : Nat} {v : Option V} (h : wr i = true) : Kept wr σ (σ.set i v) := ⟨by rw [List.length_set], fun j hj => by
  rw [List.getElem?_set_ne]
  intro e
  rw [e, hj] at h
  cases h⟩
/-- what is wanted of a statement's outcome -/
def OutS (xt : XT) (K : KW) (L : Nat → Lk) (wr : Nat → Bool) (W : WX) (σ : L2.St) (H : Hp) (F : Nat → FP) (T : FP) (r : Z (Fl × Env)) (D : Ends) : Prop :=
  match r with
  | .ok (fl, ρ') => ∀ σ' H' F', En K L σ' ρ' H' F' T → Stp (U F) H (U F') H' → Kept wr σ σ' → (match fl with
    | .nx => D.nx σ' H'
    | .bk => D.bk σ' H'
    | .ct => D.ct σ' H'
    | .rt s => ∀ v R, En K L σ' ρ' H' F' (fun a => T a ∨ R a) → Re K σ' (hS F' T) H' v s R → (∀ a, R a → U F a ∨ H a = none) → D.rt v H')
  | .exc c ds ρ' => ∀ σ' cls d H' F', En K L σ' ρ' H' F' T → Stp (U F) H (U F') H' → Kept wr σ σ' → XR xt K (hid (hS F' T) H') H' c ds cls d → W cls d σ' H'
  | .stuck => False
section
variable {xt : XT} {K : KW} {W : WX} {L : Nat → Lk} {wr : Nat → Bool} {σ σ1 : L2.St} {H H1 : Hp} {F F1 : Nat → FP} {T : FP} {D : Ends}
/-- from a later start -/
theorem OutS.step {r : Z (Fl × Env)} (h : OutS xt K L wr W σ H F T r D) (st : Stp (U F) H (U F1) H1) (k : Kept wr σ σ1) : OutS xt K L wr W σ1 H1 F1 T r D := by
  cases r with
  | ok q =>
    obtain ⟨fl, ρ'⟩ := q
    intro σ' H' F' e s k'
    have h' := h σ' H' F' e (st.trans s) (k.trans k')
    cases fl with
    | rt s => exact fun v R e1 re new => h' v R e1 re fun a z => st.bk (new a z)
    | _ => exact h'
  | exc c ds ρ' => exact fun σ' cls d H' F' e s k' => h σ' cls d H' F' e (st.trans s) (k.trans k')
  | stuck => exact h
/-- an expression ahead -/
theorem OutS.bindE {α : Type} {r : Z (α × Env)} {f : α × Env → Z (Fl × Env)} (h : OutS xt K L wr W σ H F T (r.bind f) D) :
    Out xt K L W σ H F T r (fun a ρ1 H1 F1 => En K L σ ρ1 H1 F1 T ∧ Stp (U F) H (U F1) H1 ∧ OutS xt K L wr W σ H F T (f (a, ρ1)) D) := by
  cases r with
  | ok q => exact fun H1 F1 e1 s1 => ⟨e1, s1, h⟩
  | exc c ds ρ1 => exact fun cls d H1 F1 e1 s1 x => h σ cls d H1 F1 e1 s1 Kept.refl x
  | stuck => exact h
theorem ofS_bind {α : Type} {o : Option α} {f : α → Z (Fl × Env)} (h : OutS xt K L wr W σ H F T ((Z.of o).bind f) D) : ∃ a, o = some a ∧ OutS xt K L wr W σ H F T (f a) D := by
  cases o with
  | none => exact False.elim h
  | some a => exact ⟨a, rfl, h⟩
theorem OutS.nx {ρ : Env} (h : OutS xt K L wr W σ H F T (.ok (.nx, ρ)) D) {σ' : L2.St} {H' : Hp} {F' : Nat → FP} (e : En K L σ' ρ H' F' T) (s : Stp (U F) H (U F') H') (k : Kept wr σ σ') : D.nx σ' H' := h σ' H' F' e s k
/-- a slot gets something new -/
theorem En.bindS {ρ : Env} {i : Nat} {v : V} {s : Sl} {R : FP} (E : En K L σ ρ H F (fun a => T a ∨ R a)) (hl : ∀ i a xs, L i = some (a, xs) → T a) (re : Re K σ (hS F T) H v s R) (np : ∀ j, s ≠ .pk j) (hi : i < ρ.length) :
    En K L (σ.set i (some v)) (ρ.set i s) H (fun j => if j = i then R else F j) T := by
  obtain ⟨g, dj⟩ := re.own np
  have nl : ∀ xs, s ≠ .lk xs := fun xs z => by
    rw [z] at g
    cases g with | lk e _ => cases e
  have sub : ∀ a, hS (fun j => if j = i then R else F j) T a → hS F (fun a => T a ∨ R a) a := fun a z => by
    rcases z with ⟨j, z⟩ | z
    · split at z
      · exact .inr (.inr z)
      · exact .inl ⟨j, z⟩
    · exact .inr (.inl z)
  have sub2 : ∀ a, hS (fun j => if j = i then R else F j) T a → hS F T a ∨ R a := fun a z => by
    rcases sub a z with z | z | z
    · exact .inl (.inl z)
    · exact .inl (.inr z)
    · exact .inr z
  refine ⟨by rw [List.length_set, List.length_set]; exact E.len, fun j t e => ?_, fun j a hj z => ?_, fun j k a z1 z2 => ?_, fun a z ⟨j, w⟩ => ?_, fun a z => E.tl a (.inl z), fun j a xs e => ⟨hl j a xs e, (E.lks j a xs e).2⟩⟩
  · by_cases hj : j = i
    · subst hj
      rw [List.getElem?_set_self hi] at e
      cases e
      rw [if_pos rfl]
      exact .inr ⟨v, by rw [List.getElem?_set_self (by rw [E.len]; exact hi)], (g.relock nl).mono (hid_anti sub2) fun _ _ _ z => z⟩
    · rw [List.getElem?_set_ne (Ne.symm hj)] at e
      rw [if_neg hj]
      exact (E.at_ j t e).imp id fun ⟨u, z1, z2⟩ => ⟨u, by rw [List.getElem?_set_ne (Ne.symm hj)]; exact z1, z2.mono (hid_anti sub) fun _ _ _ z => z⟩
  · rw [List.length_set] at hj
    rw [if_neg (by omega)] at z
    exact E.out j a hj z
  · split at z1 <;> split at z2
    · omega
    · exact (E.tdis a (.inr z1) ⟨_, z2⟩).elim
    · exact (E.tdis a (.inr z2) ⟨_, z1⟩).elim
    · exact E.dis j k a z1 z2
  · dsimp only at w
    split at w
    · exact dj a w (.inr z)
    · exact E.tdis a (.inl z) ⟨j, w⟩
/-- .. shared data -/
theorem En.bindD {ρ : Env} {i : Nat} {v : V} {d : Mp.D} (E : En K L σ ρ H F T) (re : Rp K (hid (hS F T) H) v d) : ∃ F', En K L (σ.set i (some v)) (ρ.set i (.sh d)) H F' T ∧ ∀ j a, F' j a → F j a := by
  by_cases hi : i < ρ.length
  · refine ⟨_, En.bindS (R := fun _ => False) (s := .sh d) (v := v) E.none E.lkT (Re.of (.sh (Rp.mono (hid_anti fun a z => z.elim id False.elim) _ _ re)) fun _ z => z.elim) (by intro j z; cases z) hi, fun j a z => ?_⟩
    split at z
    · exact z.elim
    · exact z
  · have h1 : ρ.length ≤ i := by omega
    rw [List.set_eq_of_length_le h1, List.set_eq_of_length_le (by rw [E.len]; exact h1)]
    exact ⟨F, E, fun _ _ z => z⟩
/-- a slot is emptied -/
theorem En.clear {ρ : Env} {i : Nat} {R : FP} (E : En K L σ ρ H F T) (hR : ∀ a, R a ↔ F i a) : En K L σ (ρ.set i .un) H (fun j => if j = i then (fun _ => False) else F j) T ∧ ((∀ a, R a → H a ≠ Option.none) → En K L σ (ρ.set i .un) H (fun j => if j = i then (fun _ => False) else F j) (fun a => T a ∨ R a)) := by
  have lt : ∀ j a, (if j = i then (fun _ => False : FP) else F j) a → F j a := fun j a z => by
    split at z
    · exact z.elim
    · exact z
  have sub : ∀ a, hS (fun j => if j = i then (fun _ => False : FP) else F j) T a → hS F T a := fun a z => z.imp (fun ⟨j, q⟩ => ⟨j, lt j a q⟩) id
  have sub2 : ∀ a, hS (fun j => if j = i then (fun _ => False : FP) else F j) (fun a => T a ∨ R a) a → hS F T a := fun a z => by
    rcases z with ⟨j, q⟩ | q | q
    · exact .inl ⟨j, lt j a q⟩
    · exact .inr q
    · exact .inl ⟨i, (hR a).mp q⟩
  have at_ : ∀ {S : FP}, (∀ a, S a → hS F T a) → ∀ j t, (ρ.set i .un)[j]? = some t → (t = .un ∧ ∀ a, ¬ (if j = i then (fun _ => False : FP) else F j) a) ∨ ∃ v, σ[j]? = some (some v) ∧ So K (L j) (hid S H) H v t (if j = i then (fun _ => False : FP) else F j) := fun {S} hs j t e => by
    by_cases hj : j = i
    · subst hj
      rw [if_pos rfl]
      by_cases hi : j < ρ.length
      · rw [List.getElem?_set_self hi] at e
        cases e
        exact .inl ⟨rfl, fun _ z => z⟩
      · rw [List.getElem?_eq_none (by rw [List.length_set]; omega)] at e
        cases e
    · rw [List.getElem?_set_ne (Ne.symm hj)] at e
      rw [if_neg hj]
      exact (E.at_ j t e).imp id fun ⟨u, z1, z2⟩ => ⟨u, z1, z2.mono (hid_anti hs) fun _ _ _ z => z⟩
  refine ⟨⟨by rw [List.length_set]; exact E.len, at_ sub, fun j a hj z => ?_, fun j k a z1 z2 => E.dis j k a (lt j a z1) (lt k a z2), fun a z ⟨j, w⟩ => E.tdis a z ⟨j, lt j a w⟩, E.tl, E.lks⟩, fun lv => ⟨by rw [List.length_set]; exact E.len, at_ sub2, fun j a hj z => ?_, fun j k a z1 z2 => E.dis j k a (lt j a z1) (lt k a z2), fun a z ⟨j, w⟩ => ?_, fun a z => ?_, fun j a xs e => ⟨.inl (E.lks j a xs e).1, (E.lks j a xs e).2⟩⟩⟩
  · rw [List.length_set] at hj; exact E.out j a hj (lt j a z)
  · rw [List.length_set] at hj; exact E.out j a hj (lt j a z)
  · rcases z with z | z
    · exact E.tdis a z ⟨j, lt j a w⟩
    · have : j = i := E.dis j i a (lt j a w) ((hR a).mp z)
      subst this
      rw [if_pos rfl] at w
      exact w
  · exact z.elim (E.tl a) (lv a)
end
section
variable (xt : XT) (K : KW) (W : WX) (C : Ctx)
def tS (s : Sm) : TS := fun D σ H => ∃ ρ F T L, En K L σ ρ H F T ∧ OutS xt K L C.wr W σ H F T (exS C s ρ) D
def tSs (s : Sms) : TS := fun D σ H => ∃ ρ F T L, En K L σ ρ H F T ∧ OutS xt K L C.wr W σ H F T (exSs C s ρ) D
end
section
variable {X : Cx} {st : Stmt} {sts : List Stmt}
theorem ps_imp {t t' : TS} (h : PS X st t) (k : ∀ D σ H, t' D σ H → t D σ H) : PS X st t' := ⟨fun pins s σ H D I q => h.run pins s σ H D I (k D σ H q)⟩
theorem pss_imp {t t' : TS} (h : PSs X sts t) (k : ∀ D σ H, t' D σ H → t D σ H) : PSs X sts t' := ⟨fun pins s σ H D I q => h.run pins s σ H D I (k D σ H q)⟩
theorem ps_pick {t' : TS} (k : ∀ D σ H, t' D σ H → ∃ t, PS X st t ∧ t D σ H) : PS X st t' := ⟨fun pins s σ H D I q => by
  obtain ⟨t, h, z⟩ := k D σ H q
  exact h.run pins s σ H D I z⟩
end
section
variable {xt : XT} {W : WX} {C : Ctx} {X : Cx} {e c : Expr} {ee : Ex} {pos : Pos} {st : Stmt} {sts : List Stmt} {s : Sm} {ss sa sb : Sms}
theorem es_pass : PS X (.Pass pos) (tS xt X.KK W C .pass) := ps_imp ps_pass fun D σ H ⟨ρ, F, T, L, E, h⟩ => OutS.nx h E Stp.refl Kept.refl
theorem es_brk : PS X (.Break pos) (tS xt X.KK W C .brk) := ps_imp ps_break fun D σ H ⟨ρ, F, T, L, E, h⟩ => h σ H F E Stp.refl Kept.refl
theorem es_cont : PS X (.Continue pos) (tS xt X.KK W C .cont) := ps_imp ps_continue fun D σ H ⟨ρ, F, T, L, E, h⟩ => h σ H F E Stp.refl Kept.refl
theorem es_doc {x : Str} {j : Nat} {pos' : Pos} : PS X (.Expr (.Constant (.str x) j pos) pos') (tS xt X.KK W C .pass) := ps_imp ps_doc fun D σ H ⟨ρ, F, T, L, E, h⟩ => OutS.nx h E Stp.refl Kept.refl
theorem es_ex (he : PE X e (tE xt X.KK W C ee)) (hs : swapsWith e none pos.line X.env = pure false) : PS X (.Expr e pos) (tS xt X.KK W C (.ex ee)) := by
  refine ps_imp (ps_expr he hs) fun D σ H ⟨ρ, F, T, L, E, h⟩ => ⟨ρ, F, T, L, E, Out.mono (OutS.bindE h) ?_⟩
  rintro r ρ1 H1 F1 ⟨E1, S1, h1⟩ v R E1' re new
  exact OutS.nx h1 E1 S1 Kept.refl
theorem es_retN : PS X (.Return none pos) (tS xt X.KK W C .retN) := ps_imp ps_retN fun D σ H ⟨ρ, F, T, L, E, h⟩ => h σ H F E Stp.refl Kept.refl .non (fun _ => False) E.none (Re.of (.sh .non) fun _ z => z.elim) fun _ z => z.elim
theorem es_ret (he : PE X e (tE xt X.KK W C ee)) : PS X (.Return (some e) pos) (tS xt X.KK W C (.ret ee)) := by
  refine ps_imp (ps_ret he) fun D σ H ⟨ρ, F, T, L, E, h⟩ => ⟨ρ, F, T, L, E, Out.mono (OutS.bindE h) ?_⟩
  rintro r ρ1 H1 F1 ⟨E1, S1, h1⟩ v R E1' re new
  obtain ⟨⟨s, ρ2⟩, e1, h2⟩ := ofS_bind h1
  dsimp only at e1 h2
  by_cases hp : ∃ j, r = .pk j
  · obtain ⟨j, rfl⟩ := hp
    simp only [retS] at e1
    by_cases hw : C.wr j = true
    · rw [if_pos hw] at e1
      split at e1
      · rename_i xs ej
        cases e1
        obtain ⟨p, vs, hi, hs, hq, rq, hF⟩ := E1.lst ej
        rw [re.1] at hs
        cases hs
        obtain ⟨E2, E3⟩ := E1.clear (i := j) (R := F1 j) fun a => Iff.rfl
        have E3 := E3 fun a z => E1.live j a z
        have lt : ∀ k a, (if k = j then (fun _ => False : FP) else F1 k) a → F1 k a := fun k a z => by
          split at z
          · exact z.elim
          · exact z
        refine h2 σ H1 _ E2 (S1.trans (Stp.less lt)) Kept.refl _ _ E3 (Re.of (R := F1 j) ?_ ?_) fun a z => S1.sub a ⟨j, z⟩
        · have e0 : F1 j = fun b => b = p := funext fun b => propext (hF b)
          rw [e0]
          refine .ol hq (Rps.mono (hid_anti fun a z => ?_) _ _ rq)
          rcases z with (⟨k, z⟩ | z) | z
          · exact .inl ⟨k, lt k a z⟩
          · exact .inr z
          · exact .inl ⟨j, by rw [e0]; exact z⟩
        · rintro a z (⟨k, w⟩ | w)
          · have := E1.dis k j a (lt k a w) z
            subst this
            rw [if_pos rfl] at w
            exact w
          · exact E1.tdis a w ⟨j, z⟩
      · rename_i xs ej
        cases e1
        obtain ⟨p, vs, hi, hs, hq, rq, hF⟩ := E1.dct ej
        rw [re.1] at hs
        cases hs
        obtain ⟨E2, E3⟩ := E1.clear (i := j) (R := F1 j) fun a => Iff.rfl
        have E3 := E3 fun a z => E1.live j a z
        have lt : ∀ k a, (if k = j then (fun _ => False : FP) else F1 k) a → F1 k a := fun k a z => by
          split at z
          · exact z.elim
          · exact z
        refine h2 σ H1 _ E2 (S1.trans (Stp.less lt)) Kept.refl _ _ E3 (Re.of (R := F1 j) ?_ ?_) fun a z => S1.sub a ⟨j, z⟩
        · have e0 : F1 j = fun b => b = p := funext fun b => propext (hF b)
          rw [e0]
          refine .od hq (rq.mono (hid_anti fun a z => ?_))
          rcases z with (⟨k, z⟩ | z) | z
          · exact .inl ⟨k, lt k a z⟩
          · exact .inr z
          · exact .inl ⟨j, by rw [e0]; exact z⟩
        · rintro a z (⟨k, w⟩ | w)
          · have := E1.dis k j a (lt k a w) z
            subst this
            rw [if_pos rfl] at w
            exact w
          · exact E1.tdis a w ⟨j, z⟩
      · rename_i xs ej
        cases e1
        obtain ⟨p, hi, hs, hq, hF⟩ := E1.dnl ej
        rw [re.1] at hs
        cases hs
        obtain ⟨E2, E3⟩ := E1.clear (i := j) (R := F1 j) fun a => Iff.rfl
        have E3 := E3 fun a z => E1.live j a z
        have lt : ∀ k a, (if k = j then (fun _ => False : FP) else F1 k) a → F1 k a := fun k a z => by
          split at z
          · exact z.elim
          · exact z
        refine h2 σ H1 _ E2 (S1.trans (Stp.less lt)) Kept.refl _ _ E3 (Re.of (R := F1 j) ?_ ?_) fun a z => S1.sub a ⟨j, z⟩
        · have e0 : F1 j = fun b => b = p := funext fun b => propext (hF b)
          rw [e0]
          refine .dn (hq.mono (hid_anti fun a z => ?_) fun _ z => z)
          rcases z with (⟨k, z⟩ | z) | z
          · exact .inl ⟨k, lt k a z⟩
          · exact .inr z
          · exact .inl ⟨j, by rw [e0]; exact z⟩
        · rintro a z (⟨k, w⟩ | w)
          · have := E1.dis k j a (lt k a w) z
            subst this
            rw [if_pos rfl] at w
            exact w
          · exact E1.tdis a w ⟨j, z⟩
      · cases e1
    · rw [if_neg hw] at e1
      cases hz : fz (.pk j) ρ1 with
      | none => rw [hz] at e1; cases e1
      | some q =>
        obtain ⟨d, ρ3⟩ := q
        rw [hz] at e1
        cases e1
        obtain ⟨F2, E2, rp, lt⟩ := fz_ok E1 (fun _ z => z) re (fun _ z => .inl z) hz
        exact h2 σ H1 F2 E2 (S1.trans (Stp.less lt)) Kept.refl v (fun _ => False) E2.none (Re.of (.sh (by rw [hid_or]; exact rp)) fun _ z => z.elim) fun _ z => z.elim
  · have e2 : s = r ∧ ρ2 = ρ1 := by
      unfold retS at e1
      split at e1
      · exact absurd ⟨_, rfl⟩ hp
      · cases e1; exact ⟨rfl, rfl⟩
    obtain ⟨rfl, rfl⟩ := e2
    exact h2 σ H1 F1 E1 S1 Kept.refl v R E1' re new
/-- name = value -/
theorem asg_core {i : Nat} {te : TE} (hte : ∀ σ H Q, tE xt X.KK W C ee σ H Q → te σ H Q) {D : Ends} {σ : L2.St} {H : Hp} (q : tS xt X.KK W C (.asg i ee) D σ H) : tAsg te (gName i) D σ H := by
  obtain ⟨ρ, F, T, L, E, h⟩ := q
  refine hte σ H _ ⟨ρ, F, T, L, E, Out.mono (OutS.bindE h) ?_⟩
  rintro r ρ1 H1 F1 ⟨E1, S1, h1⟩ v R E1' re new
  obtain ⟨ρ2, e1, h2⟩ := ofS_bind h1
  simp only [asgS] at e1
  split at e1
  · rename_i hw
    have own : (∀ j, r ≠ .pk j) → ρ2 = ρ1.set i r → D.nx (σ.set i (some v)) H1 := fun np e => by
      subst e
      refine OutS.nx h2 (En.bindS E1' E1.lkT re np hw.2) ⟨S1.keep, S1.dom, ?_⟩ (Kept.set hw.1)
      rintro a ⟨j, z⟩
      split at z
      · exact new a z
      · exact S1.sub a ⟨j, z⟩
    split at e1
    · rename_i j
      cases hz : fz (.pk j) ρ1 with
      | none => rw [hz] at e1; cases e1
      | some q =>
        obtain ⟨d, ρ3⟩ := q
        rw [hz] at e1
        cases e1
        obtain ⟨F2, E2, rp, lt⟩ := fz_ok E1 (fun _ z => z) re (fun _ z => .inl z) hz
        obtain ⟨F3, E3, lt2⟩ := En.bindD (i := i) E2 rp
        exact OutS.nx h2 E3 (S1.trans (Stp.less fun k a z => lt k a (lt2 k a z))) (Kept.set hw.1)
    · cases e1
    · cases e1
    · cases e1
    · rename_i n1 n2 n3 n4
      cases e1
      exact own n1 rfl
  · cases e1
theorem es_asg {i : Nat} {x : Str} {pos' : Pos} (hN : X.N.Nodup) (hi : X.N[i]? = some x) (hx : Loc X.env.scope x) (he : PE X e (tE xt X.KK W C ee)) (hs : swapsWith e (some (.Name x pos')) pos.line X.env = pure false) (hf : X.fn x = true ∨ X.env.scope.names.lookup x = some .local) :
    PS X (.Assign [.Name x pos'] e pos) (tS xt X.KK W C (.asg i ee)) :=
  ps_imp (ps_set hN hi hx he hs hf) fun D σ H q => asg_core (fun _ _ _ z => z) q
/-! ### targets -/
def gTs : List Nat → TGs
  | [] => gNil
  | i :: is => gCons (gName i) (gTs is)
theorem setT_ok {L : Nat → Lk} {wr : Nat → Bool} : ∀ {is : List Nat} {ds : List Mp.D} {vs : List V} {σ : L2.St} {ρ ρ' : Env} {H : Hp} {F : Nat → FP} {T : FP} {Q : L2.St → Hp → Prop}, is.all wr = true → En X.KK L σ ρ H F T → Rps X.KK (hid (hS F T) H) vs ds → setT is ds ρ = some ρ' → (∀ σ' F', En X.KK L σ' ρ' H F' T → (∀ j a, F' j a → F j a) → Kept wr σ σ' → Q σ' H) → gTs is vs σ H Q
  | [], [], vs, σ, ρ, ρ', H, F, T, Q, _, E, r, e, k => by
    cases r
    cases e
    exact ⟨rfl, k σ F E (fun _ _ z => z) Kept.refl⟩
  | [], _ :: _, _, _, _, _, _, _, _, _, _, _, _, e, _ => by cases e
  | _ :: _, [], _, _, _, _, _, _, _, _, _, _, _, e, _ => by cases e
  | i :: is, d :: ds, vs, σ, ρ, ρ', H, F, T, Q, hw, E, r, e, k => by
    cases r with | cons r1 r2 =>
    rw [List.all_cons, Bool.and_eq_true] at hw
    obtain ⟨F1, E1, lt⟩ := En.bindD (i := i) E r1
    refine ⟨_, _, rfl, ?_⟩
    show gTs is _ (σ.set i _) H Q
    refine setT_ok hw.2 E1 (Rps.mono (hid_anti fun a z => z.imp (fun ⟨j, q⟩ => ⟨j, lt j a q⟩) id) _ _ r2) e fun σ' F' E' lt' kp => k σ' F' E' (fun j a z => lt j a (lt' j a z)) ((Kept.set hw.1).trans kp)
theorem pgs_names : ∀ {xs : List (Str × Pos)} {is : List Nat}, X.N.Nodup → Paired (fun x i => X.N[i]? = some x.1 ∧ Loc X.env.scope x.1 ∧ (X.fn x.1 = true ∨ X.env.scope.names.lookup x.1 = some .local)) xs is → PGs X (xs.map fun x => Expr.Name x.1 x.2) (gTs is)
  | _, _, _, .nil => pgs_nil
  | _, _, hN, .cons h t => pgs_cons (pg_name hN h.1 h.2.1 h.2.2) (pgs_names hN t) (by rfl)
theorem setT_len : ∀ {is : List Nat} {ds : List Mp.D} {ρ ρ' : Env}, setT is ds ρ = some ρ' → is.length = ds.length
  | [], [], _, _, _ => rfl
  | [], _ :: _, _, _, e => by cases e
  | _ :: _, [], _, _, e => by cases e
  | _ :: is, _ :: ds, ρ, ρ', e => by
    have := setT_len (is := is) (ds := ds) e
    simp [this]
/-- a, b = e -/
theorem es_asgT {xs : List (Str × Pos)} {is : List Nat} {k : Nat} {tp : Pos} (hc : X.calm = true) (hN : X.N.Nodup) (hx : Paired (fun x i => X.N[i]? = some x.1 ∧ Loc X.env.scope x.1 ∧ (X.fn x.1 = true ∨ X.env.scope.names.lookup x.1 = some .local)) xs is) (he : PE X e (tE xt X.KK W C ee))
    (hl : (assignEach (xs.map fun x => Expr.Name x.1 x.2) X.env).length = is.length) (hst : (assignEach (xs.map fun x => Expr.Name x.1 x.2) X.env).findIdx? (·.1) = none)
    (hs : swapsWithSole [.Tuple (xs.map fun x => Expr.Name x.1 x.2) k tp] e pos.line X.env = pure false) (hw : swappedStores [.Tuple (xs.map fun x => Expr.Name x.1 x.2) k tp] e X.env = pure none)
    (h1 : (assignEach [.Tuple (xs.map fun x => Expr.Name x.1 x.2) k tp] X.env).map (·.2) = [assign (.Tuple (xs.map fun x => Expr.Name x.1 x.2) k tp) X.env]) :
    PS X (.Assign [.Tuple (xs.map fun x => Expr.Name x.1 x.2) k tp] e pos) (tS xt X.KK W C (.asgT is ee)) := by
  refine ps_imp (ps_asg he (pg_tup (n := is.length) hc (pgs_names hN hx) hl hst) hs hw h1) fun D σ H ⟨ρ, F, T, L, E, h⟩ => ⟨ρ, F, T, L, E, Out.mono (OutS.bindE h) ?_⟩
  rintro r ρ1 H1 F1 ⟨E1, S1, h1⟩ v R E1' re new
  obtain ⟨ρ2, e1, h2⟩ := ofS_bind h1
  dsimp only at e1
  by_cases htd : ∃ kvs d, r = .td kvs d
  · obtain ⟨kvs, d, rfl⟩ := htd
    obtain ⟨g, dj⟩ := re.own (by intro j z; cases z)
    cases g with | td ea ep rd =>
    rename_i a p v'
    simp only [asgTS] at e1
    split at e1
    · rename_i ix i j hix
      split at e1
      · rename_i hc'
        obtain ⟨w1, w2, l1, l2, ne⟩ := hc'
        cases e1
        refine ⟨p, [.ref a, v'], rfl, .inl (.inl (hid_sub _ _ ep)), rfl, ?_⟩
        refine ⟨_, _, rfl, ?_⟩
        have Eb := En.bindS (i := i) E1' E1.lkT (Re.of (.dn ea) dj : Re X.KK σ (hS F1 T) H1 (.ref a) (.dn kvs) (fun b => b = a)) (by intro j z; cases z) l1
        show gTs [j] [v'] (σ.set i _) H1 _
        refine ⟨_, _, rfl, ?_⟩
        have rd2 : Rp X.KK (hid (hS (fun k => if k = i then (fun b => b = a) else F1 k) T) H1) v' d := Rp.mono (hid_anti fun b z => by
          rcases z with ⟨k, z⟩ | z
          · split at z
            · exact .inr z
            · exact .inl (.inl ⟨k, z⟩)
          · exact .inl (.inr z)) _ _ rd
        obtain ⟨F3, E3, lt2⟩ := En.bindD (i := j) Eb (v := v') (d := d) rd2
        refine ⟨rfl, OutS.nx h2 E3 ⟨S1.keep, S1.dom, ?_⟩ ((Kept.set w1).trans (Kept.set w2))⟩
        rintro b ⟨k, z⟩
        have z2 := lt2 k b z
        split at z2
        · exact new b z2
        · exact S1.sub b ⟨k, z2⟩
      · cases e1
    · cases e1
  have e1 : ((vw ρ1 r).bind fun d => bindW C.wr is true d ρ1) = some ρ2 := by
    unfold asgTS at e1
    split at e1
    · exact absurd ⟨_, _, rfl⟩ htd
    · exact e1
  cases hv : vw ρ1 r with
  | none => rw [hv] at e1; cases e1
  | some d =>
    rw [hv] at e1
    simp only [Option.bind, bindW, bindT, if_true] at e1
    split at e1
    · rename_i hwr
      split at e1
      · rename_i ds
        have g := Re.vw E1 (fun _ z => z) re hv
        rcases g with g | ⟨_, _, _, _, z, _⟩
        · cases g with | tup s rs =>
          refine ⟨_, _, rfl, SqT.mono hid_sub s, by rw [rs.length, setT_len e1], ?_⟩
          exact setT_ok hwr E1 rs e1 fun σ' F' E' lt kp => OutS.nx h2 E' (S1.trans (Stp.less lt)) kp
        · cases z
      · cases e1
    · cases e1
theorem es_if {sta stb : List Stmt} {t : Te} (hc : PT X c (tT xt X.KK W C t)) (ha : PSs X sta (tSs xt X.KK W C sa)) (hb : PSs X stb (tSs xt X.KK W C sb)) : PS X (.If c sta stb pos) (tS xt X.KK W C (.ifs t sa sb)) := by
  refine ps_imp (ps_if hc ha hb) fun D σ H ⟨ρ, F, T, L, E, h⟩ => ⟨ρ, F, T, L, E, Out.mono (OutS.bindE h) ?_⟩
  rintro b ρ1 H1 F1 ⟨E1, S1, h1⟩
  have h2 := OutS.step h1 S1 Kept.refl
  cases b with
  | true => exact ⟨ρ1, F1, T, L, E1, h2⟩
  | false => exact ⟨ρ1, F1, T, L, E1, h2⟩
theorem ess_nil : PSs X [] (tSs xt X.KK W C .nil) := pss_imp pss_nil fun D σ H ⟨ρ, F, T, L, E, h⟩ => OutS.nx h E Stp.refl Kept.refl
theorem ess_cons (h1 : PS X st (tS xt X.KK W C s)) (h2 : PSs X sts (tSs xt X.KK W C ss)) : PSs X (st :: sts) (tSs xt X.KK W C (.cons s ss)) := by
  refine pss_imp (pss_cons h1 h2) fun D σ H ⟨ρ, F, T, L, E, h⟩ => ⟨ρ, F, T, L, E, ?_⟩
  simp only [exSs] at h
  cases q : exS C s ρ with
  | stuck => rw [q] at h; exact h
  | exc c ds ρ' => rw [q] at h; exact h
  | ok z =>
    obtain ⟨fl, ρ'⟩ := z
    rw [q] at h
    intro σ1 H1 F1 E1 S1 K1
    cases fl with
    | nx => exact ⟨ρ', F1, T, L, E1, OutS.step h S1 K1⟩
    | bk => exact h σ1 H1 F1 E1 S1 K1
    | ct => exact h σ1 H1 F1 E1 S1 K1
    | rt s => exact h σ1 H1 F1 E1 S1 K1
end
end Mp
namespace Mp
open PySem PySem.Spec PyProof.Rows L2
section
variable {xt : XT} {W : WX} {C : Ctx} {X : Cx} {e c : Expr} {ee : Ex} {pos : Pos} {st : Stmt} {sts : List Stmt} {s : Sm} {ss sa sb : Sms}
/-- a[i] = v of a list or a dict -/
def rSetB (K : KW) : TSet := fun o i v H Q => (rSetL o i v H Q ∨ rSetD o i v H Q) ∨ rSetN K o i v H Q
theorem set_both (hu : X.A.units + 66 < cLine) : PSet X (rSetB X.KK) := by
  intro pins s σ H o i v ov iv u Q I ro ri rv h
  rcases h with (h | h) | h
  · exact set_list pins s σ H o i v ov iv u Q I ro ri rv h
  · exact set_dict (by omega) pins s σ H o i v ov iv u Q I ro ri rv h
  · exact set_dn hu pins s σ H o i v ov iv u Q I ro ri rv h
theorem ixN_both {n : Nat} {k : Int} {j : Nat} (h : Mp.ixN n k = some j) : L2.ixN n k = some j := by
  unfold Mp.ixN at h
  unfold L2.ixN
  exact h
theorem es_setI {i : Nat} {x : Str} {j : Expr} {ej : Ex} {p sp : Pos} (hu : X.A.units + 66 < cLine) (hN : X.N[i]? = some x) (hv : Vis X.env.scope x) (hd : (x == ("__debug__" : Str)) = false) (hcd : (x == ("__classdict__" : Str)) = false) (hj : PE X j (tE xt X.KK W C ej)) (he : PE X e (tE xt X.KK W C ee))
    (ha : ∀ v, assign (.Subscript (.Name x p) j sp) X.env v = (do
      let ov ← holding [v] (eval (.Name x p) X.env)
      let iv ← holding [v, ov] (eval j X.env)
      standAt sp
      holding [v, ov, iv] (setItem ov iv v)
      release [v, ov, iv] []))
    (hs : swapsWithSole [.Subscript (.Name x p) j sp] e pos.line X.env = pure false) (hw : swappedStores [.Subscript (.Name x p) j sp] e X.env = pure none)
    (h1 : (assignEach [.Subscript (.Name x p) j sp] X.env).map (·.2) = [assign (.Subscript (.Name x p) j sp) X.env]) :
    PS X (.Assign [.Subscript (.Name x p) j sp] e pos) (tS xt X.KK W C (.setI i ej ee)) := by
  refine ps_imp (ps_asg he (pg_sub (pe_var hN hv hd hcd) hj (set_both hu) ha) hs hw h1) fun D σ H ⟨ρ, F, T, L, E, h⟩ => ⟨ρ, F, T, L, E, Out.mono (OutS.bindE h) ?_⟩
  rintro r ρ1 H1 F1 ⟨E1, S1, h1⟩ v R E1' re new
  obtain ⟨⟨d, ρ2⟩, e1, h2⟩ := ofS_bind h1
  obtain ⟨F2, E2, rp, lt⟩ := fz_ok E1 (fun _ z => z) re (fun _ z => .inl z) e1
  have S2 := S1.trans (Stp.less (H := H1) lt)
  have h3 := OutS.step h2 S2 Kept.refl
  dsimp only at h3
  by_cases hod : isOD (ρ2.get i) = true
  · rw [if_pos hod] at h3
    obtain ⟨o, ho, _⟩ := E2.get (i := i) rfl (by intro z; rw [z] at hod; cases hod)
    refine ⟨o, ho, ρ2, F2, T, L, E2, Out.mono (OutS.bindE h3) ?_⟩
    rintro q ρ3 H3 F3 ⟨E3, S3, h4⟩ w R3 E3' re3 new3
    obtain ⟨z, hz, h5⟩ := ofS_bind h4
    dsimp only at hz
    cases hv : vw ρ3 q with
    | none => rw [hv] at hz; cases hz
    | some y =>
      rw [hv] at hz
      have g3 := Re.vw E3 (fun _ z => z) re3 hv
      have rp3 := Rp.step rp (S3.held0 (T := T))
      simp only [Option.bind] at hz
      cases es : ρ3.get i with
      | ol xs =>
        rw [es] at hz
        obtain ⟨p, vs, hi, hs, hq, rq, hF⟩ := E3.lst es
        rw [ho] at hs
        cases hs
        cases y with
        | int k =>
          cases g3.int
          simp only [setIF] at hz
          cases hn : Mp.ixN xs.length k with
          | none => rw [hn] at hz; cases hz
          | some n =>
            rw [hn] at hz
            cases hz
            refine .inl <| .inl ⟨p, vs, k, n, rfl, rfl, hq, ixN_both (by rw [rq.length]; exact hn), ?_⟩
            exact OutS.nx h5 (E3.upd (o := .lst (vs.set n v)) hi hF ho (.ol upd_same (rq.set n rp3))) (S3.trans (Stp.upd ⟨i, (hF p).mpr rfl⟩)) Kept.refl
        | _ => cases hz
      | od kvs =>
        rw [es] at hz
        obtain ⟨p, vs, hi, hs, hq, rq, hF⟩ := E3.dct es
        rw [ho] at hs
        cases hs
        cases y with
        | str k =>
          obtain ⟨rfl, _⟩ := g3.str
          simp only [setIF] at hz
          split at hz
          · rename_i hl
            cases hz
            refine .inl <| .inr ⟨p, _, rfl, DPut.k (k := Sum.inr (sOf k)) hq (by rw [rq.length, ← lim_line]; exact hl), ?_⟩
            exact OutS.nx h5 (E3.upd (o := .dK (putK vs (Sum.inr (sOf k)) v)) hi hF ho (.od upd_same (rq.put rp3))) (S3.trans (Stp.upd ⟨i, (hF p).mpr rfl⟩)) Kept.refl
          · cases hz
        | _ => cases hz
      | dn kvs =>
        rw [es] at hz
        obtain ⟨p, hi, hs, hq, hF⟩ := E3.dnl es
        rw [ho] at hs
        cases hs
        simp only [setIF] at hz
        split at hz
        · rename_i hl
          cases hz
          have hp : hS F3 T p := .inl ⟨i, (hF p).mpr rfl⟩
          have gy : Rp X.KK (hid (hS F3 T) H3) w y := by
            rcases g3 with g3 | ⟨_, _, _, _, rfl, _⟩
            · exact g3
            · exact absurd hl.1 (by simp [keyOk, Mp.D.leaf, Mp.D.tupk])
          refine .inr ⟨p, _, kvs, y, d, rfl, hq, hid_sub, gy, rp3, hl.1, by rw [← lim_line]; exact hl.2, fun o ho' => ?_⟩
          refine OutS.nx h5 (E3.upd (o := o) hi hF ho (.dn (ho'.at_ upd_same))) (S3.trans (Stp.upd ⟨i, (hF p).mpr rfl⟩)) Kept.refl
        · cases hz
      | td _ _ => rw [es] at hz; cases hz
      | un => rw [es] at hz; cases hz
      | sh _ => rw [es] at hz; cases hz
      | lk _ => rw [es] at hz; cases hz
      | oi _ _ => rw [es] at hz; cases hz
      | pk _ => rw [es] at hz; cases hz
  · rw [if_neg hod] at h3; exact h3.elim
end
end Mp
namespace Mp
open PySem PySem.Spec PyProof.Rows L2
/-- a loop's target -/
def gTg (K : KW) : Bool → List Nat → TG
  | false, [i] => gName i
  | false, _ => fun _ _ _ _ => False
  | true, is => gTup K is.length (gTs is)
theorem pg_tgName {X : Cx} {i : Nat} {x : Str} {pos : Pos} (hN : X.N.Nodup) (h : X.N[i]? = some x ∧ Loc X.env.scope x ∧ (X.fn x = true ∨ X.env.scope.names.lookup x = some .local)) : PG X (.Name x pos) (gTg X.KK false [i]) := pg_name hN h.1 h.2.1 h.2.2
theorem pg_tgTup {X : Cx} {xs : List (Str × Pos)} {is : List Nat} {k : Nat} {tp : Pos} (hc : X.calm = true) (hN : X.N.Nodup) (hx : Paired (fun x i => X.N[i]? = some x.1 ∧ Loc X.env.scope x.1 ∧ (X.fn x.1 = true ∨ X.env.scope.names.lookup x.1 = some .local)) xs is)
    (hl : (assignEach (xs.map fun x => Expr.Name x.1 x.2) X.env).length = is.length) (hst : (assignEach (xs.map fun x => Expr.Name x.1 x.2) X.env).findIdx? (·.1) = none) : PG X (.Tuple (xs.map fun x => Expr.Name x.1 x.2) k tp) (gTg X.KK true is) :=
  pg_tup (n := is.length) hc (pgs_names hN hx) hl hst
theorem bindT_ok {X : Cx} {L : Nat → Lk} {wr : Nat → Bool} {is : List Nat} {tup : Bool} {d : D} {v : V} {σ : L2.St} {ρ ρ' : Env} {H : Hp} {F : Nat → FP} {T : FP} {Q : L2.St → Hp → Prop} (hw : is.all wr = true) (E : En X.KK L σ ρ H F T) (r : Rp X.KK (hid (hS F T) H) v d) (e : bindT is tup d ρ = some ρ')
    (k : ∀ σ' F', En X.KK L σ' ρ' H F' T → (∀ j a, F' j a → F j a) → Kept wr σ σ' → Q σ' H) : gTg X.KK tup is v σ H Q := by
  unfold bindT at e
  cases tup with
  | true =>
    rw [if_pos rfl] at e
    split at e
    · rename_i ds
      cases r with | tup s rs =>
      exact ⟨_, _, rfl, SqT.mono hid_sub s, by rw [rs.length, setT_len e], setT_ok hw E rs e k⟩
    · cases e
  | false =>
    rw [if_neg Bool.false_ne_true] at e
    have hl := setT_len e
    cases is with
    | nil => cases hl
    | cons i is =>
      cases is with
      | cons _ _ => simp at hl
      | nil =>
        obtain ⟨w, ws, hw', hk⟩ := setT_ok (Q := Q) hw E (.cons r .nil) e k
        cases hw'
        exact hk.2
theorem bindW_some {wr : Nat → Bool} {is : List Nat} {tup : Bool} {d : D} {ρ ρ' : Env} (e : bindW wr is tup d ρ = some ρ') : is.all wr = true ∧ bindT is tup d ρ = some ρ' := by
  unfold bindW at e
  split at e
  · exact ⟨‹_›, e⟩
  · cases e
theorem XR.anti {xt : XT} {K : KW} {S S' : FP} {H : Hp} {c : Nat} {ds : List D} {cls : Value} {d : Option Addr} (h : XR xt K (hid S H) H c ds cls d) (k : ∀ a, S' a → S a) : XR xt K (hid S' H) H c ds cls d := by
  obtain ⟨names, x1, x2⟩ := h
  exact ⟨names, x1, x2.imp id fun ⟨dx, fs, y1, y2, y3, y4⟩ => ⟨dx, fs, y1, y2, y3, Rps.mono (hid_anti k) _ _ y4⟩⟩
section
variable {xt : XT} {W : WX} {C : Ctx} {X : Cx} {tg iter c : Expr} {it : Mp.It} {is : List Nat} {tup : Bool} {pos : Pos} {body : List Stmt} {sb : Sms}
/-- the end of a loop: what it locked is unlocked -/
theorem unl_end {K : KW} {L L' : Nat → Lk} {σ : L2.St} {ρ : Env} {H H0 : Hp} {F F0 : Nat → FP} {T T' R : FP} {lk : List Nat} {hl : Held} (E : En K L' σ ρ H F (fun a => T' a ∨ R a)) (k : Lkd L T L' T' lk hl F0 H0) (old : ∀ i a xs, L i = some (a, xs) → T a ∧ H a = some (.lst xs)) (rd : ∀ a, R a → ¬ T' a)
    (st : Stp (U F0) H0 (U F) H) : ∃ F3, En K L σ (unlock lk ρ) H F3 (fun a => T a ∨ R a) ∧ Stp (U F0) H0 (U F3) H ∧ ∀ a, hS F3 T a → hS F T' a := by
  have k' : Lkd L (fun a => T a ∨ R a) L' (fun a => T' a ∨ R a) lk hl F0 H0 := ⟨k.same, k.lock, fun a => by
    show (T' a ∨ R a) ↔ _
    rw [k.held a]
    constructor
    · rintro ((z | z) | z)
      · exact .inl (.inl z)
      · exact .inr z
      · exact .inl (.inr z)
    · rintro ((z | z) | z)
      · exact .inl (.inl z)
      · exact .inr z
      · exact .inl (.inr z), k.own, fun p hp z => z.elim (k.nT p hp) fun z => rd _ z ((k.held _).mpr (.inr ⟨p, hp, rfl⟩)), k.inj, k.hls⟩
  obtain ⟨F3, E3, lt⟩ := unlock_ok E k' fun i a xs e => ⟨.inl (old i a xs e).1, (old i a xs e).2⟩
  refine ⟨F3, E3, ⟨st.keep, st.dom, fun a ⟨i, z⟩ => ?_⟩, fun a z => ?_⟩
  · rcases lt i a z with z | ⟨p, hp, z⟩
    · exact st.sub a ⟨i, z⟩
    · rw [← z]; exact k.own p hp
  · rcases z with ⟨i, z⟩ | z
    · rcases lt i a z with z | ⟨p, hp, z⟩
      · exact .inl ⟨i, z⟩
      · exact .inr ((k.held a).mpr (.inr ⟨p, hp, z⟩))
    · exact .inr ((k.held a).mpr (.inl z))
theorem es_for (hp : PassesOwn (model X.prog X.w) X.A X.env X.xe) (hc : X.calm = true) (hi : PI X tg iter (tI xt X.KK W C it)) (hg : PG X tg (gTg X.KK tup is)) (hb : PSs X body (tSs xt X.KK W C sb)) (hs : ∀ x, foldedSetIterable iter X.env x = pure x) :
    PS X (.For tg iter body [] pos) (tS xt X.KK W C (.for_ is tup it sb)) := by
  refine ps_imp (ps_for hp hc hi hg hb hs) fun D σ H ⟨ρ, F, T, L, E, h⟩ => ⟨ρ, F, T, L, E, ?_⟩
  simp only [exS] at h
  cases q : evI C it ρ with
  | stuck => rw [q] at h; exact h
  | exc c ds ρ' => rw [q] at h; exact fun cls d H1 F1 e1 s1 x => h σ cls d H1 F1 e1 s1 Kept.refl x
  | ok z =>
    obtain ⟨⟨ds, lk⟩, ρ1⟩ := z
    rw [q] at h
    have h : OutS xt X.KK L C.wr W σ H F T ((forL (bindW C.wr is tup) (exSs C sb) ds ρ1).unl lk) D := h
    intro J H1 F1 T' L' hl hw E1 lk2 wk held S1
    have old : ∀ {F' : Nat → FP} {H' : Hp}, Stp (U F1) H1 (U F') H' → ∀ i a xs, L i = some (a, xs) → T a ∧ H' a = some (.lst xs) := fun {F' H'} st i a xs e => by
      obtain ⟨z1, z2⟩ := E.lks i a xs e
      exact ⟨z1, st.keep a _ (fun z => E1.tdis a ((lk2.held a).mpr (.inl z1)) z) (S1.keep a _ (E.tdis a z1) z2)⟩
    have hold : ∀ {F' : Nat → FP} {H' : Hp}, Stp (U F1) H1 (U F') H' → ∀ p ∈ hw, H' p.1 = some (.lst p.2) := fun {F' H'} st p hp => st.keep _ _ (E1.tdis _ (held p hp).1) (held p hp).2
    refine ⟨fun i m σ' H' => ∃ ρ' F', En X.KK L' σ' ρ' H' F' T' ∧ Stp (U F1) H1 (U F') H' ∧ Kept C.wr σ σ' ∧ i ≤ ds.length ∧ m = ds.length - i ∧ OutS xt X.KK L C.wr W σ H F T ((forL (bindW C.wr is tup) (exSs C sb) (ds.drop i) ρ').unl lk) D, ⟨ds.length, ρ1, F1, E1, Stp.refl, Kept.refl, Nat.zero_le _, rfl, h⟩, ?_⟩
    rintro i m σ' H' ⟨ρ', F', E', st', kp, hi, rfl, h'⟩
    by_cases hlt : i < ds.length
    · refine .inr ⟨wk.go i _ H' st'.held0 (hold st') hlt, fun σ'' H'' => ∃ ρ'' F'', En X.KK L' σ'' ρ'' H'' F'' T' ∧ Stp (U F1) H1 (U F'') H'' ∧ Kept C.wr σ σ'' ∧ i + 1 ≤ ds.length ∧ OutS xt X.KK L C.wr W σ H F T ((forL (bindW C.wr is tup) (exSs C sb) (ds.drop (i + 1)) ρ'').unl lk) D, fun σ'' H'' ⟨ρ'', F'', a1, a2, a3, a4, a5⟩ => ⟨ds.length - (i + 1), by omega, ρ'', F'', a1, a2, a3, a4, rfl, a5⟩, fun x H2 y => ?_⟩
      obtain ⟨ext, rp⟩ := wk.yld i _ H' x H2 ds[i] st'.held0 (hold st') E'.liveS y (List.getElem?_eq_getElem hlt)
      have E2 := E'.ext ext
      have st2 := st'.trans (Stp.ext (S := U F') ext)
      rw [List.drop_eq_getElem_cons hlt] at h'
      simp only [forL] at h'
      cases hb : bindW C.wr is tup ds[i] ρ' with
      | none => rw [hb] at h'; exact h'.elim
      | some ρ2 =>
        rw [hb] at h'
        obtain ⟨hw1, hb2⟩ := bindW_some hb
        refine bindT_ok hw1 E2 rp hb2 fun σ2 F2 E3 lt kp2 => ⟨ρ2, F2, T', L', E3, ?_⟩
        have st3 := st2.trans (Stp.less (H := H2) lt)
        have kp3 := kp.trans kp2
        have h' : OutS xt X.KK L C.wr W σ H F T (((exSs C sb ρ2).bind fun r => match r.1 with
          | .nx => forL (bindW C.wr is tup) (exSs C sb) (ds.drop (i + 1)) r.2
          | .ct => forL (bindW C.wr is tup) (exSs C sb) (ds.drop (i + 1)) r.2
          | .bk => .ok (.nx, r.2)
          | .rt s => .ok (.rt s, r.2)).unl lk) D := h'
        cases hx : exSs C sb ρ2 with
        | stuck => rw [hx] at h'; exact h'
        | exc c es ρ3 =>
          rw [hx] at h'
          intro σ3 cls d H3 F3 E4 s4 kp4 x
          obtain ⟨F4, E5, S5, sub⟩ := unl_end (R := fun _ => False) E4.none lk2 (old (st3.trans s4)) (fun _ z => z.elim) (S1.trans (st3.trans s4))
          exact h' σ3 cls d H3 F4 (E5.drop E.lkT) S5 (kp3.trans kp4) (x.anti sub)
        | ok z =>
          obtain ⟨fl, ρ3⟩ := z
          rw [hx] at h'
          intro σ3 H3 F3 E4 s4 kp4
          cases fl with
          | nx => exact ⟨ρ3, F3, E4, st3.trans s4, kp3.trans kp4, hlt, h'⟩
          | ct => exact ⟨ρ3, F3, E4, st3.trans s4, kp3.trans kp4, hlt, h'⟩
          | bk =>
            obtain ⟨F4, E5, S5, sub⟩ := unl_end (R := fun _ => False) E4.none lk2 (old (st3.trans s4)) (fun _ z => z.elim) (S1.trans (st3.trans s4))
            exact OutS.nx h' (E5.drop E.lkT) S5 (kp3.trans kp4)
          | rt s =>
            intro v R E4' re new
            have rd := re.dj
            obtain ⟨F4, E5, S5, sub⟩ := unl_end E4' lk2 (old (st3.trans s4)) (fun a z w => rd a z (.inr w)) (S1.trans (st3.trans s4))
            exact h' σ3 H3 F4 (E5.drop E.lkT) S5 (kp3.trans kp4) v R E5 (re.step ⟨fun _ _ _ z => z, fun _ z => z, fun a z => .inl (sub a z)⟩) fun a z => (S1.trans st3).bk (new a z)
    · have : i = ds.length := by omega
      subst this
      rw [List.drop_length] at h'
      obtain ⟨F4, E5, S5, sub⟩ := unl_end (R := fun _ => False) E'.none lk2 (old st') (fun _ z => z.elim) (S1.trans st')
      exact .inl ⟨wk.stop _ _ H' st'.held0 (hold st') rfl, OutS.nx h' (E5.drop E.lkT) S5 kp⟩
/-- while -/
theorem es_while {t : Te} (hp : PassesOwn (model X.prog X.w) X.A X.env X.xe) (hc : PT X c (tT xt X.KK W C t)) (hb : PSs X body (tSs xt X.KK W C sb)) : PS X (.While c body [] pos) (tS xt X.KK W C (.whl t sb)) := by
  refine ps_imp (ps_while hp hc hb) fun D σ H ⟨ρ, F, T, L, E, h⟩ => ?_
  refine ⟨fun m σ' H' => ∃ ρ' F', En X.KK L σ' ρ' H' F' T ∧ OutS xt X.KK L C.wr W σ' H' F' T (whlL (evT C t) (exSs C sb) m ρ') D, ⟨C.wf, ρ, F, E, h⟩, ?_⟩
  rintro m σ' H' ⟨ρ', F', E', h'⟩
  cases m with
  | zero => exact h'.elim
  | succ m =>
    simp only [whlL] at h'
    refine ⟨ρ', F', T, L, E', Out.mono (OutS.bindE h') ?_⟩
    rintro b ρ1 H1 F1 ⟨E1, S1, h1⟩
    cases b with
    | false =>
      rw [if_neg Bool.false_ne_true] at h1 ⊢
      exact OutS.nx h1 E1 S1 Kept.refl
    | true =>
      rw [if_pos rfl] at h1 ⊢
      have h1 := OutS.step h1 S1 Kept.refl
      refine ⟨fun σ'' H'' => ∃ ρ'' F'', En X.KK L σ'' ρ'' H'' F'' T ∧ OutS xt X.KK L C.wr W σ'' H'' F'' T (whlL (evT C t) (exSs C sb) m ρ'') D, fun σ'' H'' z => ⟨m, by omega, z⟩, ρ1, F1, T, L, E1, ?_⟩
      dsimp only at h1
      cases hx : exSs C sb ρ1 with
      | stuck => rw [hx] at h1; exact h1
      | exc c es ρ3 => rw [hx] at h1; exact h1
      | ok z =>
        obtain ⟨fl, ρ3⟩ := z
        rw [hx] at h1
        intro σ3 H3 F3 E4 s4 kp4
        cases fl with
        | nx => exact ⟨ρ3, F3, E4, OutS.step h1 s4 kp4⟩
        | ct => exact ⟨ρ3, F3, E4, OutS.step h1 s4 kp4⟩
        | bk => exact OutS.nx h1 E4 s4 kp4
        | rt s => exact h1 σ3 H3 F3 E4 s4 kp4
end
end Mp
namespace Mp
open PySem PySem.Spec PyProof.Rows L2
/-- nothing is raised -/
abbrev WF : WX := fun _ _ _ _ => False
theorem hard_ok {α : Type} {r : Z α} {a : α} (h : r.hard = .ok a) : r = .ok a := by
  cases r with
  | ok b => exact h
  | exc _ _ _ => cases h
  | stuck => cases h
theorem lcL_cons {wp : Env → Env} {bd : D → Env → Option Env} {cd : Env → Z (Bool × Env)} {el : Env → Z (D × Env)} {d : D} {ds acc : List D} {ρ : Env} {q : List D × Env} (h : lcL wp bd cd el (d :: ds) ρ acc = .ok q) :
    ∃ ρ1 c, bd d (wp ρ) = some ρ1 ∧ cd ρ1 = .ok c ∧ ((c.1 = true ∧ ∃ r, el c.2 = .ok r ∧ acc.length < LIM ∧ lcL wp bd cd el ds r.2 (acc ++ [r.1]) = .ok q) ∨ (c.1 = false ∧ lcL wp bd cd el ds c.2 acc = .ok q)) := by
  simp only [lcL] at h
  obtain ⟨ρ1, h1, h⟩ := bind_ok h
  obtain ⟨c, h2, h⟩ := bind_ok h
  have e1 : bd d (wp ρ) = some ρ1 := by
    cases q : bd d (wp ρ) with
    | none => rw [q] at h1; cases h1
    | some z => rw [q] at h1; cases h1; rfl
  refine ⟨ρ1, c, e1, h2, ?_⟩
  by_cases hc : c.1 = true
  · rw [if_pos hc] at h
    obtain ⟨r, h3, h⟩ := bind_ok h
    split at h
    · exact .inl ⟨hc, r, h3, ‹_›, h⟩
    · cases h
  · rw [if_neg hc] at h
    exact .inr ⟨by simpa using hc, h⟩
theorem lcL_noexc {wp : Env → Env} {bd : D → Env → Option Env} {cd : Env → Z (Bool × Env)} {el : Env → Z (D × Env)} (h1 : ∀ ρ c ds ρ', cd ρ ≠ .exc c ds ρ') (h2 : ∀ ρ c ds ρ', el ρ ≠ .exc c ds ρ') : ∀ (ds : List D) (ρ : Env) (acc : List D) (c : Nat) (es : List D) (ρ' : Env), lcL wp bd cd el ds ρ acc ≠ .exc c es ρ'
  | [], _, _, _, _, _, h => by cases h
  | d :: ds, ρ, acc, c, es, ρ', h => by
    simp only [lcL] at h
    cases q : bd d (wp ρ) with
    | none => rw [q] at h; cases h
    | some ρ1 =>
      rw [q] at h
      simp only [Z.of, Z.bind] at h
      cases q2 : cd ρ1 with
      | exc _ _ _ => exact h1 _ _ _ _ q2
      | stuck => rw [q2] at h; cases h
      | ok b =>
        rw [q2] at h
        dsimp only at h
        split at h
        · cases q3 : el b.2 with
          | exc _ _ _ => exact h2 _ _ _ _ q3
          | stuck => rw [q3] at h; cases h
          | ok r =>
            rw [q3] at h
            dsimp only at h
            split at h
            · exact lcL_noexc h1 h2 ds _ _ _ _ _ h
            · cases h
        · exact lcL_noexc h1 h2 ds _ _ _ _ _ h
theorem hard_ne {α : Type} {r : Z α} {c : Nat} {ds : List D} {ρ : Env} : r.hard ≠ .exc c ds ρ := by
  cases r <;> (intro z; cases z)
/-! ### wiped slots -/
theorem set_get {α : Type} {xs : List α} {i j : Nat} {a : α} : (xs.set i a)[j]? = if j = i then xs[j]?.map (fun _ => a) else xs[j]? := by
  by_cases h : j = i
  · subst h
    rw [if_pos rfl]
    cases q : xs[j]? with
    | none => rw [List.getElem?_eq_none_iff] at q; exact List.getElem?_eq_none (by rw [List.length_set]; exact q)
    | some b => exact List.getElem?_set_self (List.getElem?_eq_some_iff.mp q).1
  · rw [if_neg h, List.getElem?_set_ne (Ne.symm h)]
theorem omap_map {α : Type} {o : Option α} {a b : α} : (o.map fun _ => a).map (fun _ => b) = o.map fun _ => b := by cases o <;> rfl
theorem wipe_get {σ : L2.St} {j : Nat} : ∀ vs : List Nat, (wipe σ vs)[j]? = if j ∈ vs then σ[j]?.map (fun _ => none) else σ[j]?
  | [] => by simp [wipe]
  | v :: vs => by
    show ((wipe σ vs).set v none)[j]? = _
    rw [set_get, wipe_get vs]
    by_cases h : j = v
    · subst h
      rw [if_pos rfl, if_pos List.mem_cons_self]
      split
      · exact omap_map
      · rfl
    · rw [if_neg h]
      by_cases h2 : j ∈ vs
      · rw [if_pos h2, if_pos (List.mem_cons_of_mem _ h2)]
      · rw [if_neg h2, if_neg fun z => (List.mem_cons.mp z).elim h h2]
theorem wipeE_get {ρ : Env} {j : Nat} : ∀ vs : List Nat, (wipeE ρ vs)[j]? = if j ∈ vs then ρ[j]?.map (fun _ => .un) else ρ[j]?
  | [] => by simp [wipeE]
  | v :: vs => by
    show ((wipeE ρ vs).set v .un)[j]? = _
    rw [set_get, wipeE_get vs]
    by_cases h : j = v
    · subst h
      rw [if_pos rfl, if_pos List.mem_cons_self]
      split
      · exact omap_map
      · rfl
    · rw [if_neg h]
      by_cases h2 : j ∈ vs
      · rw [if_pos h2, if_pos (List.mem_cons_of_mem _ h2)]
      · rw [if_neg h2, if_neg fun z => (List.mem_cons.mp z).elim h h2]
theorem wipeE_len {ρ : Env} : ∀ vs : List Nat, (wipeE ρ vs).length = ρ.length
  | [] => rfl
  | v :: vs => by show ((wipeE ρ vs).set v .un).length = _; rw [List.length_set, wipeE_len vs]
theorem back_get {ρ₀ ρ : Env} {j : Nat} : ∀ vs : List Nat, (giveBack ρ₀ ρ vs)[j]? = if j ∈ vs then ρ[j]?.map (fun _ => ρ₀.get j) else ρ[j]?
  | [] => by simp [giveBack]
  | v :: vs => by
    show ((giveBack ρ₀ ρ vs).set v (ρ₀.get v))[j]? = _
    rw [set_get, back_get vs]
    by_cases h : j = v
    · subst h
      rw [if_pos rfl, if_pos List.mem_cons_self]
      split
      · exact omap_map
      · rfl
    · rw [if_neg h]
      by_cases h2 : j ∈ vs
      · rw [if_pos h2, if_pos (List.mem_cons_of_mem _ h2)]
      · rw [if_neg h2, if_neg fun z => (List.mem_cons.mp z).elim h h2]
theorem backL_len {ρ₀ ρ : Env} : ∀ vs : List Nat, (giveBack ρ₀ ρ vs).length = ρ.length
  | [] => rfl
  | v :: vs => by show ((giveBack ρ₀ ρ vs).set v _).length = _; rw [List.length_set, backL_len vs]
theorem noOwn_at {ρ : Env} {j : Nat} : ∀ {vs : List Nat}, noOwn ρ vs = true → j ∈ vs → ρ.get j = .un ∨ ∃ d, ρ.get j = .sh d
  | [], _, h => by cases h
  | v :: vs, h, hj => by
    simp only [noOwn, Bool.and_eq_true, Bool.not_eq_true'] at h
    rcases List.mem_cons.mp hj with e | e
    · subst e
      cases q : ρ.get j with
      | un => exact .inl rfl
      | sh d => exact .inr ⟨d, rfl⟩
      | _ => rw [q] at h; exact absurd h.1 (by simp [isOwn])
    · exact noOwn_at h.2 e
section
variable {K : KW} {L L' : Nat → Lk} {σ : L2.St} {ρ ρ0 : Env} {H H0 : Hp} {F F0 : Nat → FP} {T T0 : FP}
open Classical in
noncomputable def lessF (F : Nat → FP) (vs : List Nat) : Nat → FP := fun j => if j ∈ vs then (fun _ => False) else F j
theorem lessF_sub {F : Nat → FP} {vs : List Nat} : ∀ j a, lessF F vs j a → F j a := fun j a z => by
  unfold lessF at z
  split at z
  · exact z.elim
  · exact z
theorem En.wipe (E : En K L σ ρ H F T) (vs : List Nat) : En K L (L2.wipe σ vs) (wipeE ρ vs) H (lessF F vs) T := by
  refine ⟨by rw [wipe_length, wipeE_len]; exact E.len, fun i s e => ?_, fun i a hi z => E.out i a (by rw [wipeE_len] at hi; exact hi) (lessF_sub i a z), fun i j a z1 z2 => E.dis i j a (lessF_sub i a z1) (lessF_sub j a z2), fun a z ⟨i, w⟩ => E.tdis a z ⟨i, lessF_sub i a w⟩, E.tl, E.lks⟩
  rw [wipeE_get] at e
  rw [wipe_get]
  unfold lessF
  by_cases hj : i ∈ vs
  · rw [if_pos hj] at e
    cases q : ρ[i]? with
    | none => rw [q] at e; cases e
    | some t => rw [q] at e; cases e; rw [if_pos hj]; exact .inl ⟨rfl, fun _ z => z⟩
  · rw [if_neg hj] at e
    rw [if_neg hj, if_neg hj]
    exact (E.at_ i s e).imp id fun ⟨v, z1, z2⟩ => ⟨v, z1, z2.mono (hid_anti fun a z => z.imp (fun ⟨j, q⟩ => ⟨j, lessF_sub (vs := vs) j a q⟩) id) fun _ _ _ z => z⟩
theorem En.back {vs : List Nat} (E0 : En K L' σ ρ0 H0 F0 T0) (no : noOwn ρ0 vs = true) (E : En K L (L2.wipe σ vs) (wipeE ρ vs) H F T) (st : Stp (hS F0 T0) H0 (hS F T) H) : En K L σ (giveBack ρ0 ρ vs) H (lessF F vs) T := by
  have l : σ.length = ρ.length := by
    have := E.len
    rw [wipe_length, wipeE_len] at this
    exact this
  refine ⟨by rw [backL_len]; exact l, fun i s e => ?_, fun i a hi z => E.out i a (by rw [backL_len] at hi; rw [wipeE_len]; exact hi) (lessF_sub i a z), fun i j a z1 z2 => E.dis i j a (lessF_sub i a z1) (lessF_sub j a z2), fun a z ⟨i, w⟩ => E.tdis a z ⟨i, lessF_sub i a w⟩, E.tl, E.lks⟩
  have sub : ∀ a, hS (lessF F vs) T a → hS F T a := fun a z => z.imp (fun ⟨j, q⟩ => ⟨j, lessF_sub (vs := vs) j a q⟩) id
  rw [back_get] at e
  by_cases hj : i ∈ vs
  · rw [if_pos hj] at e
    have eF : lessF F vs i = fun _ => False := by unfold lessF; rw [if_pos hj]
    rw [eF]
    cases q : ρ[i]? with
    | none => rw [q] at e; cases e
    | some t =>
      rw [q] at e
      cases e
      rcases noOwn_at no hj with z | ⟨d, z⟩
      · exact .inl ⟨z, fun _ z => z⟩
      · obtain ⟨v, h1, h2⟩ := E0.get z (by intro z; cases z)
        rw [z]
        generalize F0 i = G at h2
        cases h2 with | sh r =>
        exact .inr ⟨v, h1, .sh (Rp.mono (hid_anti sub) _ _ (r.step st))⟩
  · rw [if_neg hj] at e
    have eF : lessF F vs i = F i := by unfold lessF; rw [if_neg hj]
    rw [eF]
    have h := E.at_ i s (by rw [wipeE_get, if_neg hj]; exact e)
    rw [wipe_get, if_neg hj] at h
    exact h.imp id fun ⟨v, z1, z2⟩ => ⟨v, z1, z2.mono (hid_anti sub) fun _ _ _ z => z⟩
end
theorem wipe_kept {σ σ2 : L2.St} {vs : List Nat} {wr : Nat → Bool} (h : ∀ i, i ∉ vs → wr i = false) (k : Kept wr (wipe σ vs) σ2) : wipe σ2 vs = wipe σ vs := by
  apply List.ext_getElem?
  intro j
  rw [wipe_get, wipe_get]
  have l : σ2.length = σ.length := by rw [k.len, wipe_length]
  by_cases hj : j ∈ vs
  · rw [if_pos hj, if_pos hj]
    by_cases hl : j < σ.length
    · rw [List.getElem?_eq_getElem hl, List.getElem?_eq_getElem (by rw [l]; exact hl)]; rfl
    · rw [List.getElem?_eq_none (show σ2.length ≤ j by omega), List.getElem?_eq_none (show σ.length ≤ j by omega)]
  · rw [if_neg hj, if_neg hj, k.at_ j (h j hj), wipe_get, if_neg hj]
theorem En.addT {K : KW} {L : Nat → Lk} {σ : L2.St} {ρ : Env} {H : Hp} {F : Nat → FP} {T : FP} {p : Addr} {o : HO} (E : En K L σ ρ H F T) (n : H p = Option.none) : En K L σ ρ (L2.upd H p o) F (fun a => T a ∨ a = p) :=
  E.grow (R := fun a => a = p) (fun b u e => by rw [upd_ne (ne_of_none e n)]; exact e) (fun a z => by rw [z]; exact n) fun a z => by rw [z, upd_same]; exact fun z => nomatch z
section
variable {xt : XT} {W : WX} {C : Ctx} {X : Cx}
theorem pts_no : PTs X [] (tT xt X.KK W C .tt) := ⟨fun pins s σ H Q I ⟨ρ, F, T, L, E, h⟩ => pts_nil.run pins s σ H Q I (Out.ok h E Stp.refl)⟩
theorem pts_if {c : Expr} {t : Te} (h : PT X c (tT xt X.KK W C t)) : PTs X [c] (tT xt X.KK W C t) := pts_one h
theorem lc_ok {wi : TI} {it : Mp.It} {is : List Nat} {tup : Bool} {cond : Te} {ee : Ex} (hwi : ∀ σ H R, tI xt X.KK W C it σ H R → wi σ H R) {σ : L2.St} {H : Hp} {Q : VK} (q : tE xt X.KK W C (.lc ee is tup it cond) σ H Q) : tLc wi (gTg X.KK tup is) (tT xt X.KK WF C cond) (tE xt X.KK WF C ee) is σ H Q := by
  obtain ⟨ρ, F, T, L, E, h⟩ := q
  refine hwi σ H _ ⟨ρ, F, T, L, E, ?_⟩
  simp only [evE] at h
  cases q : evI C it ρ with
  | stuck => rw [q] at h; exact h
  | exc c ds ρ' => rw [q] at h; exact h
  | ok z =>
    obtain ⟨⟨ds, lk⟩, ρ1⟩ := z
    rw [q] at h
    have h : Out xt X.KK L W σ H F T (if noOwn ρ1 is = true then
      (lcL (fun ρ => wipeE ρ is) (bindT is tup) (fun ρ => (evT C cond ρ).hard) (fun ρ => ((evE C ee ρ).bind fun q => Z.of (fz q.1 q.2)).hard) ds ρ1 []).bind fun q =>
        .ok (.ol q.1, unlock lk (giveBack ρ1 q.2 is)) else .stuck) (PV X.KK L σ H F T Q) := h
    obtain ⟨no, h⟩ := if_out h
    intro J H1 F1 T' L' hl hw E1 lk2 wk held S1 Da hD
    cases hq : lcL (fun ρ => wipeE ρ is) (bindT is tup) (fun ρ => (evT C cond ρ).hard) (fun ρ => ((evE C ee ρ).bind fun q => Z.of (fz q.1 q.2)).hard) ds ρ1 [] with
    | stuck => rw [hq] at h; exact h.elim
    | exc c es ρ' => exact absurd hq (lcL_noexc (fun _ _ _ _ => hard_ne) (fun _ _ _ _ => hard_ne) _ _ _ _ _ _)
    | ok z =>
      obtain ⟨out, ρe⟩ := z
      rw [hq] at h
      have h : Out xt X.KK L W σ H F T (.ok (.ol out, unlock lk (giveBack ρ1 ρe is))) (PV X.KK L σ H F T Q) := h
      have DaT : ¬ T' Da := fun z => E1.tl Da z hD
      have hlk : ∀ i a xs, L' i = some (a, xs) → a ≠ Da := fun i a xs e z => by
        have := (E1.lks i a xs e).1
        rw [z] at this
        exact DaT this
      have E1' : En X.KK L' σ ρ1 (upd H1 Da (.lst [])) F1 (fun a => T' a ∨ a = Da) := E1.addT hD
      have hold : ∀ {F' : Nat → FP} {H' : Hp}, Stp (U F1) H1 (U F') H' → ∀ p ∈ hw, H' p.1 = some (.lst p.2) := fun {F' H'} st p hp => st.keep _ _ (E1.tdis _ (held p hp).1) (held p hp).2
      have old : ∀ {F' : Nat → FP} {H' : Hp}, Stp (U F1) H1 (U F') H' → ∀ i a xs, L i = some (a, xs) → T a ∧ H' a = some (.lst xs) := fun {F' H'} st i a xs e => by
        obtain ⟨z1, z2⟩ := E.lks i a xs e
        exact ⟨z1, st.keep a _ (fun z => E1.tdis a ((lk2.held a).mpr (.inl z1)) z) (S1.keep a _ (E.tdis a z1) z2)⟩
      have h0 : ∀ {F' : Nat → FP} {H' : Hp}, Stp (U F1) H1 (U F') H' → Stp (hS F1 T') H1 (hS F' fun a => T' a ∨ a = Da) H' := fun {F' H'} st =>
        ⟨fun b o n e => st.keep b o (fun z => n (.inl z)) e, st.dom, fun a z => by
          rcases z with z | z | z
          · exact (st.sub a z).imp .inl id
          · exact .inl (.inr z)
          · exact .inr (by rw [z]; exact hD)⟩
      have hupd : ∀ {S : FP} {H' : Hp} {o : HO}, Stp (U F1) H1 S H' → Stp (U F1) H1 S (upd H' Da o) := fun {S H' o} st =>
        ⟨fun b u n e => by rw [upd_ne (ne_of_none e hD)]; exact st.keep b u n e, fun b e => by rw [upd_ne (fun z => e (by rw [z]; exact hD))]; exact st.dom b e, st.sub⟩
      refine ⟨fun i m H' => ∃ ρ' F' acc ds', En X.KK L' (wipe σ is) (wipeE ρ' is) H' F' (fun a => T' a ∨ a = Da) ∧ Stp (U F1) H1 (U F') H' ∧ H' Da = some (.lst acc) ∧ Rps X.KK (hid (hS F' fun a => T' a ∨ a = Da) H') acc ds' ∧ i ≤ ds.length ∧ m = ds.length - i ∧
        lcL (fun ρ => wipeE ρ is) (bindT is tup) (fun ρ => (evT C cond ρ).hard) (fun ρ => ((evE C ee ρ).bind fun q => Z.of (fz q.1 q.2)).hard) (ds.drop i) ρ' ds' = .ok (out, ρe), ⟨ds.length, ρ1, _, [], [], E1'.wipe is, hupd (Stp.less lessF_sub), upd_same, .nil, Nat.zero_le _, rfl, hq⟩, ?_⟩
      rintro i m H' ⟨ρ', F', acc, ds', E', st', hacc, racc, hi, rfl, eq⟩
      by_cases hlt : i < ds.length
      · refine .inr ⟨wk.go i _ H' (h0 st') (hold st') hlt, fun H'' => ∃ ρ' F' acc ds', En X.KK L' (wipe σ is) (wipeE ρ' is) H'' F' (fun a => T' a ∨ a = Da) ∧ Stp (U F1) H1 (U F') H'' ∧ H'' Da = some (.lst acc) ∧ Rps X.KK (hid (hS F' fun a => T' a ∨ a = Da) H'') acc ds' ∧ i + 1 ≤ ds.length ∧
          lcL (fun ρ => wipeE ρ is) (bindT is tup) (fun ρ => (evT C cond ρ).hard) (fun ρ => ((evE C ee ρ).bind fun q => Z.of (fz q.1 q.2)).hard) (ds.drop (i + 1)) ρ' ds' = .ok (out, ρe), fun H'' ⟨a1, a2, a3, a4, a5, a6, a7, a8, a9, a10⟩ => ⟨ds.length - (i + 1), by omega, a1, a2, a3, a4, a5, a6, a7, a8, a9, rfl, a10⟩, fun x H2 y => ?_⟩
        obtain ⟨ext, rp⟩ := wk.yld i _ H' x H2 ds[i] (h0 st') (hold st') E'.liveS y (List.getElem?_eq_getElem hlt)
        have E2 := E'.ext ext
        rw [List.drop_eq_getElem_cons hlt] at eq
        obtain ⟨ρ2, ⟨b, ρ3⟩, hb, hc, rest⟩ := lcL_cons eq
        refine bindT_ok (wr := fun i => decide (i ∈ is)) (List.all_eq_true.mpr fun i hi => by simpa using hi) E2 rp hb fun σ2 F2 E3 lt kp => ?_
        have ew := wipe_kept (fun i hi => by simpa using hi) kp
        refine ⟨ew, ρ2, F2, _, L', E3, ?_⟩
        rw [hard_ok hc]
        intro H3 F3 E4 S4
        have stp2 : Stp (U F') H' (U F3) H3 := ((Stp.ext (S := U F') ext).trans (Stp.less (H := H2) lt)).trans S4
        have d3 : H3 Da = some (.lst acc) := S4.keep _ _ (E3.tdis _ (.inr rfl)) (ext _ _ hacc)
        cases b with
        | false =>
          show ∃ _, _
          rcases rest with ⟨z, _⟩ | ⟨_, rest⟩
          · cases z
          have stp3 := stp2.trans (Stp.less (H := H3) (lessF_sub (F := F3) (vs := is)))
          refine ⟨ρ3, lessF F3 is, acc, ds', ?_, st'.trans stp3, d3, Rps.mono (stp3.held0 (T := fun a => T' a ∨ a = Da)).hid _ _ racc, hlt, rest⟩
          have := E4.wipe is
          rw [ew] at this
          exact this
        | true =>
          show tE xt X.KK WF C ee σ2 H3 _
          rcases rest with ⟨_, ⟨d, ρ4⟩, h1, hl, rest⟩ | ⟨z, _⟩
          · obtain ⟨⟨r, ρ5⟩, g1, g2⟩ := bind_ok (hard_ok h1)
            have g3 : fz r ρ5 = some (d, ρ4) := by
              dsimp only at g2
              cases w : fz r ρ5 with
              | none => rw [w] at g2; cases g2
              | some z => rw [w] at g2; cases g2; rfl
            refine ⟨ρ3, F3, _, L', E4, ?_⟩
            rw [g1]
            intro H4 F4 E5 S5 v R E5' re new
            have d4 : H4 Da = some (.lst acc) := S5.keep _ _ (E4.tdis _ (.inr rfl)) d3
            obtain ⟨F5, E6, rv, lt5⟩ := fz_ok E5 (fun _ z => z) re (fun _ z => .inl z) g3
            have stp3 := (stp2.trans S5).trans (Stp.less (H := H4) (F' := lessF F5 is) fun j a z => lt5 j a (lessF_sub j a z))
            have racc' := Rps.mono (stp3.held0 (T := fun a => T' a ∨ a = Da)).hid _ _ racc
            have rv' : Rp X.KK (hid (hS (lessF F5 is) fun a => T' a ∨ a = Da) H4) v d := Rp.mono (hid_anti fun a z => z.imp (fun ⟨j, q⟩ => ⟨j, lessF_sub j a q⟩) id) _ _ rv
            refine ⟨acc, d4, by rw [racc.length, ← lim_line]; exact hl, ρ4, lessF F5 is, acc ++ [v], ds' ++ [d], ?_, hupd (st'.trans stp3), upd_same, ?_, hlt, rest⟩
            · have := E6.wipe is
              rw [ew] at this
              exact this.updT (.inr rfl) hlk
            · rw [hid_hit (.inr (.inr rfl))]
              exact racc'.append (.cons rv' .nil)
          · cases z
      · have : i = ds.length := by omega
        subst this
        rw [List.drop_length] at eq
        cases eq
        have E'' := En.back E1 no E' (h0 st')
        obtain ⟨F3, E5, S5, sub⟩ := unl_end (R := fun a => a = Da) E'' lk2 (old st') (fun a z => by rw [z]; exact DaT) (S1.trans (st'.trans (Stp.less lessF_sub)))
        refine .inl ⟨wk.stop _ _ H' (h0 st') (hold st') rfl, ?_⟩
        refine Out.ok h (E5.drop E.lkT) S5 (.ref Da) (fun a => a = Da) E5 (Re.of (.ol hacc (Rps.mono (hid_anti fun a z => ?_) _ _ racc)) fun a z w => ?_) fun a z => .inr (by rw [z]; exact Classical.byContradiction fun w => S1.dom _ w hD)
        · rcases z with z | z
          · rcases sub a z with ⟨j, q⟩ | q
            · exact .inl ⟨j, lessF_sub j a q⟩
            · exact .inr (.inl q)
          · exact .inr (.inr z)
        · rw [z] at w
          rcases sub _ w with ⟨j, q⟩ | q
          · exact E'.tdis _ (.inr rfl) ⟨j, lessF_sub j _ q⟩
          · exact DaT q
section
variable {elt tg iter : Expr} {ifs : List Expr} {scope : Scope} {own : List (Str × Nat)} {pos : Pos} {it : Mp.It} {is : List Nat} {tup : Bool} {cond : Te} {ee : Ex}
theorem ex_lc (hc : X.calm = true) (hN : X.N.Nodup) (hi : PI X tg iter (tI xt X.KK W C it)) (ok : BlkOk X.N X.env.scope scope own) (hown : own.map (·.2) = is)
    (hg : ∀ (s : Shared) (H : Hp) (Ca : Addr) (cl : List (Str × Addr)) (fp : List Addr), PG (X.blk s H scope (compEnvC scope cl Ca X.env) fp) tg (gTg X.KK tup is))
    (ht : ∀ (s : Shared) (H : Hp) (Ca : Addr) (cl : List (Str × Addr)) (fp : List Addr), PTs (X.blk s H scope (compEnvC scope cl Ca X.env) fp) ifs (tT xt X.KK WF C cond))
    (he : ∀ (s : Shared) (H : Hp) (Ca : Addr) (cl : List (Str × Addr)) (fp : List Addr), PE (X.blk s H scope (compEnvC scope cl Ca X.env) fp) elt (tE xt X.KK WF C ee)) (hs : ∀ x, foldedSetIterable iter X.env x = pure x) :
    PE X (.ListComp elt [⟨tg, iter, ifs, 0⟩] scope pos) (tE xt X.KK W C (.lc ee is tup it cond)) := by
  have h := pe_lc (pos := pos) hc hN hi ok hg ht he hs
  rw [hown] at h
  exact pe_imp h fun σ H Q q => lc_ok (fun _ _ _ z => z) q
theorem es_setLc {i : Nat} {y : Str} {py spos : Pos} (hc : X.calm = true) (hN : X.N.Nodup) (hy : X.N[i]? = some y) (hyl : X.env.scope.names.lookup y = some .local) (hsw : swapsWith (.ListComp elt [⟨tg, iter, ifs, 0⟩] scope pos) (some (.Name y py)) spos.line X.env = pure true)
    (hi : PI X tg iter (tI xt X.KK W C it)) (ok : BlkOk X.N X.env.scope scope own) (hown : own.map (·.2) = is)
    (hg : ∀ (s : Shared) (H : Hp) (Ca : Addr) (cl : List (Str × Addr)) (fp : List Addr), PG (X.blk s H scope (compEnvC scope cl Ca X.env) fp) tg (gTg X.KK tup is))
    (ht : ∀ (s : Shared) (H : Hp) (Ca : Addr) (cl : List (Str × Addr)) (fp : List Addr), PTs (X.blk s H scope (compEnvC scope cl Ca X.env) fp) ifs (tT xt X.KK WF C cond))
    (he : ∀ (s : Shared) (H : Hp) (Ca : Addr) (cl : List (Str × Addr)) (fp : List Addr), PE (X.blk s H scope (compEnvC scope cl Ca X.env) fp) elt (tE xt X.KK WF C ee)) (hs : ∀ x, foldedSetIterable iter X.env x = pure x) :
    PS X (.Assign [.Name y py] (.ListComp elt [⟨tg, iter, ifs, 0⟩] scope pos) spos) (tS xt X.KK W C (.asg i (.lc ee is tup it cond))) := by
  have h := ps_setLc hc hN hy hyl hsw hi ok hg ht he hs
  rw [hown] at h
  exact ps_imp h fun D σ H q => asg_core (fun _ _ _ z => lc_ok (fun _ _ _ z => z) z) q
end
end
end Mp
namespace Mp
open PySem PySem.Spec PyProof.Rows L2
/-! # repr of a list, of a tuple -/
def disp : D → Bool
  | .int i => decide (i.natAbs.log2 < 1920)
  | _ => true
def rpK (d : D) : Option (List Nat) :=
  if (py d).showable = true ∧ disp d = true ∧ D.dep d ≤ 60 ∧ sok (py d).shown.cps.toList = true then some (py d).shown.cps.toList else none
theorem sOf_toList (x : Str) : sOf x.cps.toList = x := by
  show (⟨x.cps.toList.toArray⟩ : Str) = x
  rw [Array.toArray_toList]
theorem rp_boot : bootBuiltins ("repr" : Str) = some (.builtin "repr") := by decide +kernel
section
variable {X : Cx}
def rRp (K : KW) : List V → Hp → VK → Prop := fun xs H Q => ∃ x d s, xs = [x] ∧ Rp K H x d ∧ rpK d = some s ∧ Q (.str (sOf s)) H
theorem call_rp (gd : X.A.guards = some []) (hu : X.A.units + 66 < cLine) : CallR X (.builtin "repr") (rRp X.KK) := by
  intro pins s σ H xs us Q I r h
  obtain ⟨x, d, t, rfl, hd, e, q⟩ := h
  cases r with | cons r0 rr =>
  cases rr
  unfold rpK at e
  split at e
  · rename_i hc
    cases e
    obtain ⟨h1, h2, h3, h4⟩ := hc
    have hsz : (py d).shown.length ≤ sizeLine := by
      unfold sok at h4
      rw [Bool.and_eq_true] at h4
      have := of_decide_eq_true h4.1
      rw [← lim_line]
      rw [Array.length_toList] at this
      exact this
    rw [sOf_toList] at q
    by_cases hdis : isDisplay (py d) = true
    · obtain ⟨as, rd⟩ := Dp.reads I (py d) x _ (Rp.dp d x hd) r0
      obtain ⟨a, rfl⟩ := isRef_of_reads rd hdis
      have hdep : (py d).depth ≤ 60 := by rw [py_depth]; exact h3
      refine repr_of_reads' rd h1 (PyData.noDict_hsm (PyData.hasDict_of_canLay _ (py_lay d x hd))) gd (by omega) (fun _ _ e => e) (fun h' u tk hk => ?_) hsz
      exact ⟨.str (py d).shown, H, I.kept (t' := tk) hk, ⟨_, rfl⟩, q⟩
    · cases d with
      | non =>
        cases hd
        cases r0
        exact PySem.P.repr_of_none ⟨.str (py .non).shown, H, I.tok _, ⟨_, rfl⟩, q⟩
      | bl c =>
        cases hd
        cases r0
        exact PySem.P.repr_of_bool ⟨.str (py (.bl c)).shown, H, I.tok _, ⟨_, rfl⟩, q⟩
      | int i =>
        cases hd
        obtain ⟨t, rfl⟩ := r0
        exact PySem.P.repr_of_int (of_decide_eq_true h2) ⟨.str (py (.int i)).shown, H, I.tok _, ⟨_, rfl⟩, q⟩
      | str x =>
        cases hd with | str _ hx =>
        obtain ⟨t, rfl⟩ := r0
        have q : Q (.str (py (.str x)).shown) H := q
        exact PySem.P.repr_of_str ⟨.str (py (.str x)).shown, H, I.tok _, ⟨_, rfl⟩, q⟩ hsz
      | tup _ => exact absurd rfl hdis
      | lst _ => exact absurd rfl hdis
      | kl _ => exact absurd rfl hdis
  · cases e
variable {xt : XT} {W : WX} {C : Ctx} {a : Expr} {ea : Ex} {pos p : Pos}
theorem ex_rpr {x : Str} (gd : X.A.guards = some []) (hu : X.A.units + 66 < cLine) (hrp : ∀ d s, C.rp d = some s → rpK d = some s) (hg : Gl X x) (hm : X.mg x = none) (hv : bootBuiltins x = some (.builtin "repr")) (hn : x ≠ "__name__") (hdb : (x == ("__debug__" : Str)) = false)
    (ha : PE X a (tE xt X.KK W C ea)) (hs : starEach (a :: []) X.env = (false, eval a X.env) :: starEach [] X.env) : PE X (.Call (.Name x p) [a] [] pos) (tE xt X.KK W C (.rpr ea)) := by
  refine pe_imp (pe_callB (call_rp gd hu) hg hm hv (pa_cons ha pa_nil hs) hn hdb hs (by rfl)) fun σ H Q ⟨ρ, F, T, L, E, h⟩ => ⟨ρ, F, T, L, E, Out.mono (Out.bind h) ?_⟩
  rintro r ρ1 H1 F1 ⟨E1, S1, h1⟩ v R E1' re new
  obtain ⟨t, ht, h2⟩ := of_bind h1
  dsimp only at ht
  cases hd : vw ρ1 r with
  | none => rw [hd] at ht; cases ht
  | some d =>
    rw [hd] at ht
    have hk := hrp d t ht
    refine ⟨v, d, t, rfl, (Re.vw E1 (fun _ z => z) re hd).rp, hk, PV.sh h2 E1 (.str t ?_) S1.dom⟩
    unfold rpK at hk
    split at hk
    · rename_i hc
      cases hk
      exact hc.2.2.2
    · cases hk
end
end Mp
namespace Mp
open PySem PySem.Spec PyProof.Rows L2
/-! # that a text is told -/
def OkS (s : Str) : Prop := ∀ c ∈ s.cps.toList, c < 1114112
theorem OkS.app {s t : Str} (h : OkS s) (k : OkS t) : OkS (s ++ t) := fun c hc => by
  rw [PySem.Str.cps_append, Array.toList_append, List.mem_append] at hc
  exact hc.elim (h c) (k c)
instance (s : Str) : Decidable (OkS s) := inferInstanceAs (Decidable (∀ c ∈ s.cps.toList, c < 1114112))
theorem okS_from : ∀ (ts : List Str) (k : Nat) (acc : Str), OkS acc → (∀ t ∈ ts, OkS t) → OkS (textFrom k acc ts)
  | [], _, _, h, _ => h
  | t :: r, k, acc, h, ht => okS_from r (k + 1) _ ((h.app (by split <;> decide +kernel)).app (ht t List.mem_cons_self)) fun u hu => ht u (List.mem_cons_of_mem _ hu)
theorem okS_join : ∀ (ts : List Str), (∀ t ∈ ts, OkS t) → OkS (Str.join ", " ts)
  | [], _ => by decide +kernel
  | [x], h => h x List.mem_cons_self
  | x :: y :: r, h => by
    have := okS_join (y :: r) fun u hu => h u (List.mem_cons_of_mem _ hu)
    show OkS (x ++ ", " ++ Str.join ", " (y :: r))
    exact ((h x List.mem_cons_self).app (by decide +kernel)).app this
mutual
/-- the leaves of it are told -/
def RpO : D → Prop
  | .int i => OkS (py (.int i)).shown ∧ i.natAbs.log2 < 1920
  | .str s => OkS (py (.str s)).shown
  | .tup xs => RpOs xs
  | .lst xs => RpOs xs
  | .kl xs => RpOs xs
  | .non => True
  | .bl _ => True
def RpOs : List D → Prop
  | [] => True
  | x :: xs => RpO x ∧ RpOs xs
end
mutual
theorem rpo_shows : ∀ d : D, RpO d → (py d).showable = true
  | .non, _ => rfl
  | .bl _, _ => rfl
  | .int i, h => by simp only [RpO] at h; simpa [py, PyData.showable] using h.2
  | .str s, _ => rfl
  | .tup xs, h => by simp only [RpO] at h; simpa only [py, PyData.showable] using rpos_shows xs h
  | .lst xs, h => by simp only [RpO] at h; simpa only [py, PyData.showable] using rpos_shows xs h
  | .kl xs, h => by simp only [RpO] at h; simpa only [py, PyData.showable] using rpos_shows xs h
theorem rpos_shows : ∀ xs : List D, RpOs xs → PyData.showableAll (pys xs) = true
  | [], _ => rfl
  | x :: xs, h => by simp only [RpOs] at h; simp [pys, PyData.showableAll, rpo_shows x h.1, rpos_shows xs h.2]
end
mutual
theorem rpo_ok : ∀ d : D, RpO d → OkS (py d).shown
  | .non, _ => by decide +kernel
  | .bl true, _ => by decide +kernel
  | .bl false, _ => by decide +kernel
  | .int i, h => by simp only [RpO] at h; exact h.1
  | .str s, h => by simp only [RpO] at h; exact h
  | .tup xs, h => by
    simp only [RpO] at h
    have := rpos_ok xs h
    show OkS (tupleText (PyData.shownAll (pys xs)))
    unfold tupleText
    exact (OkS.app (by decide +kernel) (okS_join _ this)).app (by split <;> decide +kernel)
  | .lst xs, h => by
    simp only [RpO] at h
    have := rpos_ok xs h
    show OkS (listText (PyData.shownAll (pys xs)))
    unfold listText
    exact (okS_from _ _ _ (by decide +kernel) this).app (by decide +kernel)
  | .kl xs, h => by
    simp only [RpO] at h
    have := rpos_ok xs h
    show OkS (listText (PyData.shownAll (pys xs)))
    unfold listText
    exact (okS_from _ _ _ (by decide +kernel) this).app (by decide +kernel)
theorem rpos_ok : ∀ xs : List D, RpOs xs → ∀ t ∈ PyData.shownAll (pys xs), OkS t
  | [], _, t, ht => by simp [pys, PyData.shownAll] at ht
  | x :: xs, h, t, ht => by
    simp only [RpOs] at h
    simp only [pys, PyData.shownAll, List.mem_cons] at ht
    rcases ht with rfl | ht
    · exact rpo_ok x h.1
    · exact rpos_ok xs h.2 t ht
end
mutual
def shL : D → Nat
  | .tup xs => shLs xs + 3
  | .lst xs => shLs xs + 3
  | .kl xs => shLs xs + 3
  | .non => 4
  | .bl _ => 5
  | .int i => (py (.int i)).shown.length
  | .str s => (py (.str s)).shown.length
def shLs : List D → Nat
  | [] => 0
  | x :: xs => shL x + 2 + shLs xs
end
mutual
theorem shown_le : ∀ d : D, (py d).shown.length ≤ shL d
  | .non => by decide +kernel
  | .bl true => by decide +kernel
  | .bl false => by decide +kernel
  | .int i => Nat.le_of_eq (by simp only [shL])
  | .str s => Nat.le_of_eq (by simp only [shL])
  | .tup xs => by
    have h1 := shownAll_le xs
    have h2 := tupleText_len_le (PyData.shownAll (pys xs))
    show (tupleText (PyData.shownAll (pys xs))).length ≤ _
    simp only [shL]
    omega
  | .lst xs => by
    have h1 := shownAll_le xs
    have h2 := listText_len_le (PyData.shownAll (pys xs))
    show (listText (PyData.shownAll (pys xs))).length ≤ _
    simp only [shL]
    omega
  | .kl xs => by
    have h1 := shownAll_le xs
    have h2 := listText_len_le (PyData.shownAll (pys xs))
    show (listText (PyData.shownAll (pys xs))).length ≤ _
    simp only [shL]
    omega
theorem shownAll_le : ∀ xs : List D, ((PyData.shownAll (pys xs)).map (·.length)).sum + 2 * (PyData.shownAll (pys xs)).length ≤ shLs xs
  | [] => by simp [pys, PyData.shownAll, shLs]
  | x :: xs => by
    have h1 := shown_le x
    have h2 := shownAll_le xs
    simp only [pys, PyData.shownAll, List.map_cons, List.sum_cons, List.length_cons, shLs]
    omega
end
theorem rp_tot {d : D} (h : RpO d) (hd : D.dep d ≤ 60) (hl : shL d ≤ LIM) : ∃ s, rpK d = some s := by
  refine ⟨(py d).shown.cps.toList, ?_⟩
  unfold rpK
  rw [if_pos]
  refine ⟨rpo_shows d h, ?_, hd, ?_⟩
  · cases d with
    | int i => simp only [RpO] at h; exact decide_eq_true h.2
    | _ => rfl
  · unfold sok
    rw [Bool.and_eq_true]
    refine ⟨decide_eq_true ?_, ?_⟩
    · have := shown_le d
      rw [Array.length_toList]
      exact Nat.le_trans this hl
    · rw [List.all_eq_true]
      exact fun c hc => decide_eq_true (rpo_ok d h c hc)
/-! ### told data, by depth and by length of the text -/
def Lf (k L : Nat) (d : D) : Prop := RpO d ∧ D.dep d ≤ k ∧ shL d ≤ L
theorem Lf.mono {k k' L L' : Nat} {d : D} (h : Lf k L d) (a : k ≤ k') (b : L ≤ L') : Lf k' L' d := ⟨h.1, Nat.le_trans h.2.1 a, Nat.le_trans h.2.2 b⟩
theorem lf_all {k L : Nat} : ∀ xs : List D, (∀ d ∈ xs, Lf k L d) → RpOs xs ∧ D.deps xs ≤ k ∧ shLs xs ≤ (L + 2) * xs.length
  | [], _ => ⟨trivial, Nat.zero_le _, Nat.zero_le _⟩
  | x :: xs, h => by
    obtain ⟨a, b, c⟩ := lf_all xs fun d hd => h d (List.mem_cons_of_mem _ hd)
    obtain ⟨a1, b1, c1⟩ := h x List.mem_cons_self
    refine ⟨⟨a1, a⟩, ?_, ?_⟩
    · show Nat.max (D.dep x) (D.deps xs) ≤ k
      exact Nat.max_le.mpr ⟨b1, b⟩
    · show shL x + 2 + shLs xs ≤ _
      rw [List.length_cons, Nat.mul_succ]
      omega
theorem lf_tup {k L : Nat} {xs : List D} (h : ∀ d ∈ xs, Lf k L d) : Lf (k + 1) ((L + 2) * xs.length + 3) (.tup xs) := by
  obtain ⟨a, b, c⟩ := lf_all xs h
  exact ⟨a, Nat.succ_le_succ b, Nat.add_le_add_right c 3⟩
theorem lf_lst {k L : Nat} {xs : List D} (h : ∀ d ∈ xs, Lf k L d) : Lf (k + 1) ((L + 2) * xs.length + 3) (.lst xs) := by
  obtain ⟨a, b, c⟩ := lf_all xs h
  exact ⟨a, Nat.succ_le_succ b, Nat.add_le_add_right c 3⟩
theorem lf_rp {k L : Nat} {d : D} (h : Lf k L d) (a : k ≤ 60) (b : L ≤ LIM) : ∃ s, rpK d = some s := rp_tot h.1 (Nat.le_trans h.2.1 a) (Nat.le_trans h.2.2 b)
end Mp
namespace Mp
open PySem PySem.Spec PyProof.Rows L2
section
variable {xt : XT} {W : WX} {C : Ctx} {X : Cx} {e c o f : Expr} {ee eo ek ex : Ex} {pos apos cpos p : Pos} {st : Stmt}
theorem es_stk : PS X st (tS xt X.KK W C .stk) := ⟨fun pins s σ H D I ⟨ρ, F, T, L, E, h⟩ => False.elim h⟩
/-! ### {}, {k: v} -/
theorem Nw.dn0 {K : KW} {S : FP} {H : Hp} {p : Addr} (n : H p = none) : Nw K S H (upd H p (DkL K.pr K.wd p [])) (.ref p) (.dn []) fun b => b = p :=
  ⟨ext_upd n, fun a e => by rw [e]; exact n, .dn (.inl ⟨[], upd_same, .nil⟩)⟩
theorem ex_dcn : PE X (.Dict [] [] pos) (tE xt X.KK W C .dcn) := pe_imp pe_nnew fun σ H Q ⟨ρ, F, T, L, E, h⟩ p n => PV.fin h E (Nw.dn0 n) fun _ z => z
theorem disp_core {g : D → Bool} {σ : L2.St} {H : Hp} {Q : VK} {tk tv : TE} (hk : ∀ σ H Q, tE xt X.KK W C ek σ H Q → tk σ H Q) (hv : ∀ σ H Q, tE xt X.KK W C ee σ H Q → tv σ H Q) {ρ : Env} {F : Nat → FP} {T : FP} {L : Nat → Lk} (E : En X.KK L σ ρ H F T) (h : Out xt X.KK L W σ H F T (evE C (.dc1 ek ee) ρ) (PV X.KK L σ H F T Q))
    (hg : ∀ r ρ1 d ρ2, evE C ek ρ = .ok (r, ρ1) → fz r ρ1 = some (d, ρ2) → g d = true) : tNDisp X.KK g tk tv σ H Q := by
  intro p n
  have E' : En X.KK L σ ρ (upd H p (DkL X.prog X.w p [])) F (fun a => T a ∨ a = p) := E.grow (ext_upd n) (fun a z => by rw [z]; exact n) (fun a z => by rw [z, upd_same]; exact fun z => nomatch z)
  have st : Stp (U F) H (U F) (upd H p (DkL X.prog X.w p [])) := Stp.ext (ext_upd n)
  have np : ¬ U F p := fun ⟨i, z⟩ => E.live i p z n
  have nT : ¬ T p := fun z => E.tl p z n
  refine hk σ _ _ ⟨ρ, F, _, L, E', Out.monoE (Out.held (Out.bindS h st) E.lkT) ?_⟩
  rintro r ρ1 H1 F1 eq1 ⟨E1, S1, g1⟩ v R E1' re new
  obtain ⟨⟨d, ρ2⟩, e1, g2⟩ := of_bind g1
  obtain ⟨ok, g2⟩ := if_out g2
  have E1c : En X.KK L σ ρ1 H1 F1 (fun a => T a ∨ a = p) := E1'.drop fun i a xs z => .inl (E1.lkT i a xs z)
  obtain ⟨F2, E2, rp, lt⟩ := fz_ok E1c (fun _ z => z) re (fun _ z => .inl z) e1
  have hgd := hg _ _ _ _ eq1 e1
  have e0 : H1 p = some (DkL X.prog X.w p []) := S1.keep p _ np upd_same
  have np1 : ¬ U F1 p := fun z => E1c.tdis p (.inr rfl) z
  have np2 : ¬ U F2 p := fun z => E2.tdis p (.inr rfl) z
  have E2d := E2.drop (T := T) (R := fun a => a = p) fun i a xs z => E.lkT i a xs (by exact z)
  have S2 : Stp (U F1) H1 (U F2) H1 := Stp.less lt
  refine hv σ H1 _ ⟨ρ2, F2, _, L, E2, Out.mono (Out.held (Out.bindS g2 (st.trans (S1.trans S2))) E.lkT) ?_⟩
  rintro r2 ρ3 H3 F3 ⟨E3, S3, g3⟩ v2 R2 E3' re2 new2
  obtain ⟨⟨d2, ρ4⟩, e2, g5⟩ := of_bind g3
  have E3c : En X.KK L σ ρ3 H3 F3 (fun a => T a ∨ a = p) := E3'.drop fun i a xs z => .inl (E3.lkT i a xs z)
  obtain ⟨F4, E4, rp2, lt2⟩ := fz_ok E3c (fun _ z => z) re2 (fun _ z => .inl z) e2
  have e3 : H3 p = some (DkL X.prog X.w p []) := S3.keep p _ np2 e0
  have S4 : Stp (U F3) H3 (U F4) H3 := Stp.less lt2
  have rpk : Rp X.KK (hid (hS F4 fun a => T a ∨ a = p) H3) v d := Rp.step (Rp.step rp (S3.held0 (T := fun a => T a ∨ a = p))) (S4.held0 (T := fun a => T a ∨ a = p))
  refine ⟨e3, hid (hS F4 fun a => T a ∨ a = p) H3, d, d2, hid_sub, rpk, rp2, hgd, fun o ho => ?_⟩
  have E5 := E4.updT (p := p) (o := o) (.inr rfl) fun i a xs e z => nT (by rw [← z]; exact E.lkT i a xs e)
  refine Out.ok g5 (E5.drop fun i a xs e => E.lkT i a xs e) ⟨fun b u nb eb => ?_, fun b eb => ?_, fun a z => ?_⟩ (.ref p) (fun b => b = p) E5 (Re.of (.dn (ho.at_ upd_same |>.mono (fun b u e => ?_) fun _ z => z)) fun a z w => ?_) fun a z => by rw [z]; exact (.inr n)
  · have nbp : b ≠ p := fun z => by rw [z, n] at eb; cases eb
    rw [upd_ne nbp]
    have nF2 : ¬ U F2 b := fun ⟨i, z⟩ => by
      rcases S1.sub b ⟨i, lt i b z⟩ with z | z
      · exact nb z
      · rw [upd_ne nbp] at z; rw [z] at eb; cases eb
    exact S3.keep b u nF2 (S1.keep b u nb (by rw [upd_ne nbp]; exact eb))
  · by_cases q : b = p
    · subst q; rw [upd_same]; exact fun z => nomatch z
    · rw [upd_ne q]
      exact S3.dom b (S1.dom b (by rw [upd_ne q]; exact eb))
  · exact (((st.trans S1).trans S2).trans (S3.trans S4)).sub a z
  · rw [hid_some] at e ⊢
    refine ⟨fun z => e.1 ?_, ?_⟩
    · rcases z with (z | z) | z
      · exact .inl z
      · exact .inr (.inl z)
      · exact .inr (.inr z)
    · rw [upd_ne fun z => e.1 (.inr (.inr z))]
      exact e.2
  · subst z
    rcases w with w | w
    · exact E4.tdis a (.inr rfl) w
    · exact nT w
theorem ex_dc1 (hu : X.A.units + 66 < cLine) (hk : PE X e (tE xt X.KK W C ek)) (hv : PE X f (tE xt X.KK W C ee)) : PE X (.Dict [some e] [f] pos) (tE xt X.KK W C (.dc1 ek ee)) := by
  refine pe_pick fun σ H Q ⟨ρ, F, T, L, E, h⟩ => ?_
  by_cases hl : ∀ r ρ1 d ρ2, evE C ek ρ = .ok (r, ρ1) → fz r ρ1 = some (d, ρ2) → d.leaf = true
  · exact ⟨_, pe_ndispL hk hv, disp_core (fun _ _ _ z => z) (fun _ _ _ z => z) E h hl⟩
  · refine ⟨_, pe_ndispN hu hk hv, disp_core (fun _ _ _ z => z) (fun _ _ _ z => z) E h fun r ρ1 d ρ2 e1 e2 => ?_⟩
    have nl : ¬ d.leaf = true := fun z => hl fun r' ρ1' d' ρ2' e1' e2' => by
      rw [e1] at e1'; cases e1'
      rw [e2] at e2'; cases e2'
      exact z
    have h2 : Out xt X.KK L W σ H F T ((evE C ek ρ).bind fun r => (Z.of (fz r.1 r.2)).bind fun q => if keyOk [] q.1 = true then (evE C ee q.2).bind fun s => (Z.of (fz s.1 s.2)).bind fun p => .ok (.dn [(q.1, p.1)], p.2) else .stuck) (PV X.KK L σ H F T Q) := h
    rw [e1] at h2
    have h3 : Out xt X.KK L W σ H F T ((Z.of (fz r ρ1)).bind fun q => if keyOk [] q.1 = true then (evE C ee q.2).bind fun s => (Z.of (fz s.1 s.2)).bind fun p => .ok (.dn [(q.1, p.1)], p.2) else .stuck) (PV X.KK L σ H F T Q) := h2
    rw [e2] at h3
    obtain ⟨hk, _⟩ := if_out (show Out xt X.KK L W σ H F T (if keyOk [] d = true then (evE C ee ρ2).bind fun s => (Z.of (fz s.1 s.2)).bind fun p => .ok (.dn [(d, p.1)], p.2) else .stuck) (PV X.KK L σ H F T Q) from h3)
    simpa [keyOk, Bool.eq_false_iff.mpr nl] using hk
/-! ### d.get(k, x), d.setdefault(k, x) -/
theorem isDn_of {s : Sl} (h : isDn s = true) : ∃ kvs, s = .dn kvs := by cases s <;> first | exact ⟨_, rfl⟩ | cases h
theorem isOd_of {s : Sl} (h : isOd s = true) : ∃ kvs, s = .od kvs := by cases s <;> first | exact ⟨_, rfl⟩ | cases h
theorem ex_dget (hu : X.A.units + 66 < cLine) (ho : PE X o (tE xt X.KK W C eo)) (he : PE X e (tE xt X.KK W C ek)) (hf : PE X f (tE xt X.KK W C ex)) (m : M2 X o "get" apos e f cpos) : PE X (.Call (.Attribute o "get" apos) [e, f] [] cpos) (tE xt X.KK W C (.dget eo ek ex)) := by
  refine pe_pick fun σ H Q ⟨ρ, F, T, L, E, h⟩ => ?_
  by_cases hd : ∃ r ρ1, evE C eo ρ = .ok (r, ρ1) ∧ isDn (res ρ1 r) = false
  · obtain ⟨r, ρ1, e1, e2⟩ := hd
    refine ⟨_, pe_dget2 (by omega) ho he hf m, ρ, F, T, L, E, Out.monoE (Out.bind h) ?_⟩
    rintro r' ρ1' H1 F1 eq ⟨E1, S1, h1⟩ v R E1' re new
    rw [e1] at eq
    cases eq
    dsimp only at h1
    rw [if_neg (by rw [e2]; exact Bool.false_ne_true)] at h1
    obtain ⟨io, h2⟩ := if_out h1
    obtain ⟨kvs, e2⟩ := isOd_of io
    obtain ⟨lk', R', hlk, g⟩ := Re.res E1 (fun _ z => z) re (by rw [e2]; intro z; cases z)
    rw [e2] at g
    cases g with | od ea g =>
    refine ⟨_, rfl, .inl ⟨_, .inl ea⟩, ρ1, F1, T, L, E1, Out.mono (Out.bind h2) ?_⟩
    rintro q ρ2 H2 F2 ⟨E2, S2, h3⟩ u R2 E2' re2 new2
    refine ⟨ρ2, F2, T, L, E2, Out.mono (Out.bind h3) ?_⟩
    rintro p ρ3 H3 F3 ⟨E3, S3, h4⟩ w R3 E3' re3 new3
    obtain ⟨⟨d, ρ4⟩, e3, h5⟩ := of_bind h4
    obtain ⟨F4, E4, rp, lt⟩ := fz_ok E3 (fun _ z => z) re3 (fun _ z => .inl z) e3
    have S4 : Stp (U F3) H3 (U F4) H3 := Stp.less lt
    obtain ⟨z, hz, h6⟩ := of_bind h5
    have h6 := Out.step h6 S4
    unfold dgetO at hz
    dsimp only at hz
    split at hz
    · rename_i kvs' y er ey
      cases hz
      obtain ⟨lk2, R2', _, g2⟩ := Re.res E4 (fun _ z => z) (((re.step S2.held0).step S3.held0).step S4.held0) (by rw [er]; intro z; cases z)
      rw [er] at g2
      cases g2 with | od ea2 g2 =>
      obtain ⟨rfl, _⟩ := (Re.vw E4 (fun _ z => z) ((re2.step S3.held0).step S4.held0) ey).str
      obtain ⟨g3, g4⟩ := g2.look (x := y)
      refine ⟨_, DGet.k (k := Sum.inr (sOf y)) ea2, ?_⟩
      cases z : lookS y kvs' with
      | none =>
        rw [g4 z]
        rw [z] at h6
        exact PV.sh h6 E4 rp (((S1.trans S2).trans S3).trans S4).dom
      | some d' =>
        obtain ⟨v', z2, rv⟩ := g3 d' z
        rw [z2]
        rw [z] at h6
        exact PV.sh h6 E4 rv (((S1.trans S2).trans S3).trans S4).dom
    · cases hz
  · refine ⟨_, pe_nget2 hu ho he hf m, ρ, F, T, L, E, Out.monoE (Out.bind h) ?_⟩
    rintro r ρ1 H1 F1 eq ⟨E1, S1, h1⟩ v R E1' re new
    have ir : isDn (res ρ1 r) = true := by
      cases z : isDn (res ρ1 r) with
      | true => rfl
      | false => exact absurd ⟨r, ρ1, eq, z⟩ hd
    obtain ⟨kvs, er⟩ := isDn_of ir
    dsimp only at h1
    rw [if_pos ir] at h1
    obtain ⟨lk', R', hlk, g⟩ := Re.res E1 (fun _ z => z) re (by rw [er]; intro z; cases z)
    rw [er] at g
    cases g with | dn ea =>
    refine ⟨_, _, _, rfl, ea, ρ1, F1, T, L, E1, Out.mono (Out.bind h1) ?_⟩
    rintro q ρ2 H2 F2 ⟨E2, S2, h3⟩ u R2 E2' re2 new2
    refine ⟨ρ2, F2, T, L, E2, Out.mono (Out.bind h3) ?_⟩
    rintro p ρ3 H3 F3 ⟨E3, S3, h4⟩ w R3 E3' re3 new3
    obtain ⟨⟨d, ρ4⟩, e3, h5⟩ := of_bind h4
    obtain ⟨F4, E4, rp, lt⟩ := fz_ok E3 (fun _ z => z) re3 (fun _ z => .inl z) e3
    have S4 : Stp (U F3) H3 (U F4) H3 := Stp.less lt
    obtain ⟨z, hz, h6⟩ := of_bind h5
    have h6 := Out.step h6 S4
    unfold dgetN at hz
    dsimp only at hz
    split at hz
    · rename_i kvs' y er2 ey
      obtain ⟨lk2, R2', _, g2⟩ := Re.res E4 (fun _ z => z) (((re.step S2.held0).step S3.held0).step S4.held0) (by rw [er2]; intro z; cases z)
      rw [er2] at g2
      cases g2 with | dn ea2 =>
      split at hz
      · rename_i ok
        cases hz
        exact ⟨_, kvs', y, d, ea2, hid_sub, (Re.vw E4 (fun _ z => z) ((re2.step S3.held0).step S4.held0) ey).rp, rp, ok, fun v' rv => PV.sh h6 E4 rv (((S1.trans S2).trans S3).trans S4).dom⟩
      · cases hz
    · cases hz
theorem ex_dsd {x : Str} {i : Nat} (hu : X.A.units + 66 < cLine) (hN : X.N[i]? = some x) (hv : Vis X.env.scope x) (hd : (x == ("__debug__" : Str)) = false) (hcd : (x == ("__classdict__" : Str)) = false) (he : PE X e (tE xt X.KK W C ek)) (hf : PE X f (tE xt X.KK W C ex)) (m : M2 X (.Name x p) "setdefault" apos e f cpos) :
    PE X (.Call (.Attribute (.Name x p) "setdefault" apos) [e, f] [] cpos) (tE xt X.KK W C (.dsd i ek ex)) := by
  refine pe_imp (pe_nsetd hu (pe_var hN hv hd hcd) he hf m) fun σ H Q ⟨ρ, F, T, L, E, h⟩ => ?_
  obtain ⟨id, h0⟩ := if_out (show Out xt X.KK L W σ H F T (if isDn (ρ.get i) = true then (evE C ek ρ).bind fun q => (Z.of (fz q.1 q.2)).bind fun q => (evE C ex q.2).bind fun p => (Z.of (fz p.1 p.2)).bind fun z => (Z.of (dsdS (z.2.get i) q.1 z.1)).bind fun w => .ok (.sh w.1, z.2.set i w.2) else .stuck) (PV X.KK L σ H F T Q) from h)
  obtain ⟨kvs, ei⟩ := isDn_of id
  obtain ⟨q, hi, hs, hq, hF⟩ := E.dnl ei
  refine ⟨_, hs, _, _, _, rfl, hq, ρ, F, T, L, E, Out.mono (Out.bind h0) ?_⟩
  rintro r ρ1 H1 F1 ⟨E1, S1, h1⟩ v R E1' re new
  obtain ⟨⟨d, ρ2⟩, e1, h2⟩ := of_bind h1
  obtain ⟨F2, E2, rp, lt⟩ := fz_ok E1 (fun _ z => z) re (fun _ z => .inl z) e1
  have S2 : Stp (U F1) H1 (U F2) H1 := Stp.less lt
  have h2 := Out.step h2 S2
  refine ⟨ρ2, F2, T, L, E2, Out.mono (Out.bind h2) ?_⟩
  rintro r3 ρ3 H3 F3 ⟨E3, S3, h3⟩ w R3 E3' re3 new3
  obtain ⟨⟨d3, ρ4⟩, e3, h4⟩ := of_bind h3
  obtain ⟨F4, E4, rp3, lt3⟩ := fz_ok E3 (fun _ z => z) re3 (fun _ z => .inl z) e3
  have S4 : Stp (U F3) H3 (U F4) H3 := Stp.less lt3
  obtain ⟨z, hz, h5⟩ := of_bind h4
  have h5 := Out.step h5 S4
  have rpk := Rp.step (Rp.step rp (S3.held0 (T := T))) (S4.held0 (T := T))
  dsimp only at hz h5
  cases e4 : ρ4.get i with
  | dn kvs' =>
    rw [e4] at hz
    obtain ⟨q4, hi4, hs4, hq4, hF4⟩ := E4.dnl e4
    rw [hs] at hs4
    cases hs4
    simp only [dsdS] at hz
    split at hz
    · rename_i ok
      refine ⟨_, kvs', d, d3, hq4, hid_sub, rpk, rp3, ok.1, by rw [← lim_line]; exact ok.2, fun v' d' l rv => ?_, fun o l ho => ?_⟩
      · rw [l] at hz
        cases hz
        have eset : ρ4.set i (.dn kvs') = ρ4 := by
          have := get_of e4 (by intro z; cases z)
          rw [← List.getElem?_eq_some_iff.mp this |>.2]
          simp
        rw [eset] at h5
        exact PV.sh h5 E4 rv (((S1.trans S2).trans S3).trans S4).dom
      · rw [l] at hz
        cases hz
        have hp : hS F4 T q := .inl ⟨i, (hF4 q).mpr rfl⟩
        have E5 := E4.upd (o := o) hi4 hF4 hs (.dn (ho.at_ upd_same))
        exact Out.ok h5 E5 (Stp.upd ⟨i, (hF4 q).mpr rfl⟩) w (fun _ => False) E5.none (Re.of (.sh (by rw [hid_or, hid_hit hp]; exact rp3)) fun _ z => z.elim) fun _ z => z.elim
    · cases hz
  | un => rw [e4] at hz; cases hz
  | sh _ => rw [e4] at hz; cases hz
  | ol _ => rw [e4] at hz; cases hz
  | lk _ => rw [e4] at hz; cases hz
  | td _ _ => rw [e4] at hz; cases hz
  | oi _ _ => rw [e4] at hz; cases hz
  | od _ => rw [e4] at hz; cases hz
  | pk _ => rw [e4] at hz; cases hz
/-! ### (d, e), d a dict of one's own -/
theorem ex_pr2 {x : Str} {i k : Nat} (hN : X.N[i]? = some x) (hv : Vis X.env.scope x) (hd : (x == ("__debug__" : Str)) = false) (hcd : (x == ("__classdict__" : Str)) = false) (he : PE X e (tE xt X.KK W C ee)) (hs : starEach [.Name x p, e] X.env = (false, eval (.Name x p) X.env) :: starEach [e] X.env) (hs2 : starEach [e] X.env = (false, eval e X.env) :: starEach [] X.env) :
    PE X (.Tuple [.Name x p, e] k pos) (tE xt X.KK W C (.pr2 i ee)) := by
  refine pe_imp (pe_tup (pa_cons (pe_var hN hv hd hcd) (pa_cons he pa_nil hs2) hs)) fun σ H Q ⟨ρ, F, T, L, E, h⟩ => ?_
  obtain ⟨⟨id, _⟩, h0⟩ := if_out (show Out xt X.KK L W σ H F T (if isDn (ρ.get i) = true ∧ C.wr i = true then (evE C ee ρ).bind fun r => (Z.of (fz r.1 r.2)).bind fun q => (match q.2.get i with
      | .dn kvs => .ok (.td kvs q.1, q.2.set i .un)
      | _ => .stuck) else .stuck) (PV X.KK L σ H F T Q) from h)
  obtain ⟨kvs0, ei⟩ := isDn_of id
  obtain ⟨q, hi0, hs, hq0, hF0⟩ := E.dnl ei
  refine ⟨_, hs, ρ, F, T, L, E, Out.mono (Out.bind h0) ?_⟩
  rintro r ρ1 H1 F1 ⟨E1, S1, h1⟩ v R E1' re new
  obtain ⟨⟨d, ρ2⟩, e1, h2⟩ := of_bind h1
  obtain ⟨F2, E2, rp, lt⟩ := fz_ok E1 (fun _ z => z) re (fun _ z => .inl z) e1
  have S2 : Stp (U F1) H1 (U F2) H1 := Stp.less lt
  have h2 := Out.step h2 S2
  dsimp only at h2
  refine ⟨by show 2 ≤ sizeLine; rw [sizeLine_eq]; decide, fun p n => ?_⟩
  cases e4 : ρ2.get i with
  | dn kvs =>
    rw [e4] at h2
    obtain ⟨q4, hi4, hs4, hq4, hF4⟩ := E2.dnl e4
    rw [hs] at hs4
    cases hs4
    obtain ⟨E3, E4⟩ := E2.clear (i := i) (R := F2 i) fun a => Iff.rfl
    have E4 := E4 fun a z => E2.live i a z
    have lt4 : ∀ k a, (if k = i then (fun _ => False : FP) else F2 k) a → F2 k a := fun k a z => by
      split at z
      · exact z.elim
      · exact z
    have e0 : F2 i = fun b => b = q := funext fun b => propext (hF4 b)
    have hd2 : ∀ a, (hS (fun k => if k = i then (fun _ => False : FP) else F2 k) T a ∨ F2 i a) → hS F2 T a := fun a z => by
      rcases z with (⟨k, z⟩ | z) | z
      · exact .inl ⟨k, lt4 k a z⟩
      · exact .inr z
      · exact .inl ⟨i, z⟩
    have kx : ∀ b o, hid (hS F2 T) H1 b = some o → hid (fun a => hS (fun k => if k = i then (fun _ => False : FP) else F2 k) T a ∨ F2 i a) (upd H1 p (.tup [.ref q, v])) b = some o := fun b o e => by
      rw [hid_some] at e ⊢
      refine ⟨fun z => e.1 (hd2 b z), ?_⟩
      rw [upd_ne (ne_of_none e.2 n)]
      exact e.2
    refine Out.ok h2 (E3.ext (ext_upd n)) ((Stp.less lt4).trans (Stp.ext (ext_upd n))) (.ref p) (F2 i) (E4.ext (ext_upd n)) (Re.of ?_ ?_) fun a z => (S1.trans S2).sub a ⟨i, z⟩
    · rw [e0]
      refine .td (hq4.mono (fun b o e => ?_) fun o e => ext_upd n _ _ e) ?_ (Rp.mono (fun b o e => ?_) _ _ rp)
      · rw [← e0]; exact kx b o e
      · rw [← e0, hid_some]
        refine ⟨fun z => ?_, upd_same⟩
        rcases hd2 p z with ⟨k, z⟩ | z
        · exact E2.live k p z n
        · exact E2.tl p z n
      · rw [← e0]; exact kx b o e
    · rintro a z (⟨k, w⟩ | w)
      · split at w
        · exact w
        · rename_i ne
          exact ne (E2.dis k i a w z)
      · exact E2.tdis a w ⟨i, z⟩
  | un => rw [e4] at h2; exact h2.elim
  | sh _ => rw [e4] at h2; exact h2.elim
  | ol _ => rw [e4] at h2; exact h2.elim
  | lk _ => rw [e4] at h2; exact h2.elim
  | td _ _ => rw [e4] at h2; exact h2.elim
  | oi _ _ => rw [e4] at h2; exact h2.elim
  | od _ => rw [e4] at h2; exact h2.elim
  | pk _ => rw [e4] at h2; exact h2.elim
/-! ### xs[::-1] of a list -/
theorem ex_rev {k : Nat} {p1 p2 p3 : Pos} (ha : PE X e (tE xt X.KK W C ee)) : PE X (.Subscript e (.Slice none none (some (.UnaryOp .USub (.Constant (.int 1) k p1) p2)) p3) pos) (tE xt X.KK W C (.rev ee)) := by
  refine pe_imp (pe_revL ha) fun σ H Q ⟨ρ, F, T, L, E, h⟩ => ⟨ρ, F, T, L, E, Out.mono (Out.bind h) ?_⟩
  rintro r ρ1 H1 F1 ⟨E1, S1, h1⟩ v R E1' re new
  obtain ⟨z, hz, h2⟩ := of_bind h1
  dsimp only at hz
  cases hv : vw ρ1 r with
  | none => rw [hv] at hz; cases hz
  | some d =>
    rw [hv] at hz
    have V1 := Re.vw E1 (fun _ z => z) re hv
    cases d with
    | lst xs =>
      cases hz
      obtain ⟨a, ys, rfl, st, r'⟩ := V1.lst
      exact ⟨a, ys, rfl, .inl (.inl st), fun p n => PV.fin h2 E1 (Nw.ol n r'.reverse) S1.dom⟩
    | _ => cases hz
end
end Mp
namespace Mp
open PySem PySem.Spec PyProof.Rows L2
/-! # from the program's text to the own one, with the proof beside it -/
/-- what a text is read with: the slots, the scope, the defs, the constants, the names that are unbound at the top -/
structure TG0 where
  N : List Str
  sc : Scope
  fns : List (Str × Nat)
  cs : List (Str × Nat)
  nos : List Str
  /-- names of dicts that are handed on in a pair -/
  ds : List Str := []
def FnHyp (xt : XT) (X : Cx) (C : Ctx) (x : Str) (i : Nat) : Prop := ∃ (f : Addr) (fd : FuncData) (ps : List Str) (k : Nat), FnG X.prog X.w X.KK X.mg X.base (L2.CX X.prog X.w) k f fd ps (spF xt X.KK ps.length (C.cl i)) ∧ Room k X.A ∧ X.mg x = some (.ref f) ∧ PySem.W.keepIn X.KK (.ref f) = true ∧ Binds X.KK fd ps [] ∧
  (∀ args, args.length ≠ ps.length → C.cl i args = .stuck) ∧ (∀ args r a', C.cl i args = .ok (r, a') → isPk r = false)
def CsHyp (X : Cx) (C : Ctx) (x : Str) (i : Nat) : Prop := ∃ (v : V) (u : Value), X.mg x = some u ∧ RelV v u ∧ ∀ d, C.gl i = some d → Rp X.KK (fun _ => none) v d
structure HX (g : TG0) (xt : XT) (X : Cx) (W : WX) (C : Ctx) : Prop where
  calm : X.calm = true
  N : X.N = g.N
  nd : g.N.Nodup
  scl : ∀ x k, g.sc.names.lookup x = some k → X.env.scope.names.lookup x = some k ∨ (k = .free ∧ X.env.scope.names.lookup x = some .cell)
  hu : X.A.units + 66 < cLine
  no : ∀ x ∈ g.nos, X.mg x = none
  fns : ∀ p ∈ g.fns, FnHyp xt X C p.1 p.2
  cs : ∀ p ∈ g.cs, CsHyp X C p.1 p.2
  tk : Takes X W
  gd : X.A.guards = some []
  cel : ∀ x, g.sc.names.lookup x = some .cell → X.fn x = true
  rp : ∀ d s, C.rp d = some s → rpK d = some s
theorem relabel_look {c : Str → Bool} {x : Str} {k : NameKind} : ∀ {names : List (Str × NameKind)}, names.lookup x = some k →
    (names.map fun (n, k) => if (k == NameKind.free && c n) then (n, NameKind.cell) else (n, k)).lookup x = some k ∨ (k = .free ∧ (names.map fun (n, k) => if (k == NameKind.free && c n) then (n, NameKind.cell) else (n, k)).lookup x = some .cell)
  | [], h => by simp at h
  | (n, j) :: r, h => by
    rw [List.map_cons]
    dsimp only
    by_cases e : (x == n) = true
    · rw [List.lookup_cons, e] at h
      cases h
      by_cases q : (k == NameKind.free && c n) = true
      · rw [if_pos q]
        rw [Bool.and_eq_true] at q
        refine .inr ⟨by simpa using q.1, ?_⟩
        rw [List.lookup_cons, e]
      · rw [if_neg q]
        refine .inl ?_
        rw [List.lookup_cons, e]
    · have e' : (x == n) = false := by simpa using e
      rw [List.lookup_cons, e'] at h
      by_cases q : (j == NameKind.free && c n) = true
      · rw [if_pos q, List.lookup_cons, e']
        exact relabel_look h
      · rw [if_neg q, List.lookup_cons, e']
        exact relabel_look h
theorem HX.blk {g : TG0} {xt : XT} {X : Cx} {W : WX} {C : Ctx} (h : HX g xt X W C) (scope : Scope) (s : Shared) (H : Hp) (Ca : Addr) (cl : List (Str × Addr)) (fp : List Addr) : HX { g with sc := scope } xt (X.blk s H scope (compEnvC scope cl Ca X.env) fp) WF C where
  calm := h.calm
  N := h.N
  nd := h.nd
  scl := fun x k e => by
    have := relabel_look (c := fun n => X.env.scope.kind == .function && X.env.kindOf n == some .cell) (x := x) (k := k) (names := scope.names) e
    simpa [compEnvC, relabel, Bool.and_assoc] using this
  hu := h.hu
  no := h.no
  fns := h.fns
  cs := h.cs
  gd := h.gd
  tk := fun _ _ x => by
    obtain ⟨_, _, _, _, _, _, _, _, _, _, _, _, _, _, _, _, z⟩ := x
    exact z.elim
  cel := fun x e => by
    show (scope.names.lookup x == some .cell) = true
    have e : scope.names.lookup x = some .cell := e
    rw [e]; rfl
  rp := h.rp
structure HO (X : Cx) : Prop where
  own : PassesOwn (model X.prog X.w) X.A X.env X.xe
  kind : X.env.scope.kind = .function
def SE (g : TG0) (e : Expr) : Type := { a : Ex // ∀ xt X W C, HX g xt X W C → PE X e (tE xt X.KK W C a) }
def ST (g : TG0) (e : Expr) : Type := { a : Te // ∀ xt X W C, HX g xt X W C → PT X e (tT xt X.KK W C a) }
def SW (g : TG0) (e : Expr) : Type := { a : Te // ∀ xt X W C, HX g xt X W C → PW X e (tT xt X.KK W C a) }
def SI (g : TG0) (tg e : Expr) : Type := { a : Mp.It // ∀ xt X W C, HX g xt X W C → PI X tg e (tI xt X.KK W C a) }
def SA (g : TG0) (es : List Expr) : Type := { a : Exs // a.len = es.length ∧ ∀ xt X W C, HX g xt X W C → PA X es (tA xt X.KK W C a) }
def SF (g : TG0) (es : List Expr) : Type := { a : Exs // ∀ xt X W C, HX g xt X W C → PA X es (tF xt X.KK W C a) }
def SO (g : TG0) (e : Option Expr) : Type := { a : Exs // ∀ xt X W C, HX g xt X W C → PO X e (tO xt X.KK W C a) }
def SD (g : TG0) (ks : List (Option Expr)) (vs : List Expr) : Type := { a : List (List Nat) × Exs // ∀ xt X W C pos, HX g xt X W C → PPd xt W C X pos ks vs a.1 a.2 }
def SS (g : TG0) (s : Stmt) : Type := { a : Sm // ∀ xt X W C, HX g xt X W C → HO X → PS X s (tS xt X.KK W C a) }
def SSs (g : TG0) (s : List Stmt) : Type := { a : Sms // ∀ xt X W C, HX g xt X W C → HO X → PSs X s (tSs xt X.KK W C a) }
/-! ### small facts of the text -/
def notStar : Expr → Bool
  | .Starred .. => false
  | _ => true
def notSlice : Expr → Bool
  | .Slice .. => false
  | _ => true
def notComp : Expr → Bool
  | .ListComp .. => false
  | .SetComp .. => false
  | .DictComp .. => false
  | _ => true
def notTup : Expr → Bool
  | .Tuple .. => false
  | _ => true
def notSet : Expr → Bool
  | .Set .. => false
  | _ => true
/-- its truth is its value's -/
def plainTest : Expr → Bool
  | .UnaryOp .Not _ _ => false
  | .BoolOp .. => false
  | .IfExp .. => false
  | .Compare .. => false
  | _ => true
theorem star_ok {e : Expr} (h : notStar e = true) (es : List Expr) (env : PySem.Env) : starEach (e :: es) env = (false, eval e env) :: starEach es env := by
  cases e <;> first | rfl | cases h
theorem star_all : ∀ {es : List Expr}, es.all notStar = true → ∀ (pos : Pos) (env : PySem.Env), (backTo pos (starEach es env)).any (·.1) = false
  | [], _, _, _ => rfl
  | e :: es, h, pos, env => by
    rw [List.all_cons, Bool.and_eq_true] at h
    rw [star_ok h.1]
    show (false || (backTo pos (starEach es env)).any (·.1)) = false
    rw [star_all h.2]; rfl
theorem plainIx_ok {e : Expr} (h : notSlice e = true) : PlainIx e := fun o i => by
  cases e <;> first | rfl | cases h
theorem swaps_ok {e : Expr} (h : notComp e = true) (t : Option Expr) (l : Nat) (env : PySem.Env) : swapsWith e t l env = pure false := by
  cases e <;> first | rfl | cases h
theorem test_ok {e : Expr} (h : plainTest e = true) (env : PySem.Env) : ∀ whole, isTrue e env whole = (do let v ← whole; standAt e.pos; holding [v] (truthy v)) := fun whole => by
  cases e <;> first | rfl | (cases h; done) | skip
  rename_i op _ _
  cases op <;> first | rfl | cases h
theorem folded_ok {e : Expr} (h : notSet e = true) (env : PySem.Env) : ∀ x, foldedSetIterable e env x = pure x := fun x => by
  cases e <;> first | rfl | cases h
/-! ### names -/
structure LocN (g : TG0) (x : Str) (i : Nat) : Prop where
  ix : g.N[i]? = some x
  vis : Vis g.sc x
  d1 : (x == ("__debug__" : Str)) = false
  d2 : (x == ("__classdict__" : Str)) = false
def locN (g : TG0) (x : Str) : Option { i : Nat // LocN g x i } :=
  let i := g.N.idxOf x
  if h1 : g.N[i]? = some x then
    if h2 : g.sc.names.lookup x = some .local ∨ g.sc.names.lookup x = some .cell ∨ g.sc.names.lookup x = some .free then
      if h3 : (x == ("__debug__" : Str)) = false ∧ (x == ("__classdict__" : Str)) = false then some ⟨i, ⟨h1, h2, h3.1, h3.2⟩⟩ else none
    else none
  else none
/-- one that may be bound -/
structure BndN (g : TG0) (x : Str) (i : Nat) : Prop where
  ix : g.N[i]? = some x
  loc : Loc g.sc x
def bndN (g : TG0) (x : Str) : Option { i : Nat // BndN g x i } :=
  let i := g.N.idxOf x
  if h1 : g.N[i]? = some x then
    if h2 : g.sc.names.lookup x = some .local ∨ g.sc.names.lookup x = some .cell then some ⟨i, ⟨h1, h2⟩⟩ else none
  else none
structure GlbN (g : TG0) (x : Str) : Prop where
  gl : g.sc.names.lookup x = some .globalImplicit
  d1 : (x == ("__debug__" : Str)) = false
  nn : x ≠ "__name__"
def glbN (g : TG0) (x : Str) : Option (PLift (GlbN g x)) :=
  if h1 : g.sc.names.lookup x = some .globalImplicit then
    if h3 : (x == ("__debug__" : Str)) = false ∧ x ≠ "__name__" then some ⟨⟨h1, h3.1, h3.2⟩⟩ else none
  else none
def findP (x : Str) : (l : List (Str × Nat)) → Option { i : Nat // (x, i) ∈ l }
  | [] => none
  | (y, j) :: r => if h : y = x then some ⟨j, by rw [h]; exact List.mem_cons_self⟩ else
    match findP x r with
    | some ⟨i, hi⟩ => some ⟨i, List.mem_cons_of_mem _ hi⟩
    | none => none
section
variable {g : TG0} {xt : XT} {X : Cx} {W : WX} {C : Ctx} {x : Str} {i : Nat}
theorem HX.gl (h : HX g xt X W C) (n : GlbN g x) : Gl X x := by
  show X.env.scope.names.lookup x = _
  rcases h.scl _ _ n.gl with z | ⟨z, _⟩
  · exact z
  · cases z
theorem HX.vis (h : HX g xt X W C) (n : LocN g x i) : Vis X.env.scope x := by
  rcases n.vis with z | z | z
  · rcases h.scl _ _ z with z | ⟨z, _⟩
    · exact .inl z
    · cases z
  · rcases h.scl _ _ z with z | ⟨z, _⟩
    · exact .inr (.inl z)
    · cases z
  · rcases h.scl _ _ z with z | ⟨_, z⟩
    · exact .inr (.inr z)
    · exact .inr (.inl z)
theorem HX.ix (h : HX g xt X W C) (n : LocN g x i) : X.N[i]? = some x := by rw [h.N]; exact n.ix
theorem HX.ND (h : HX g xt X W C) : X.N.Nodup := by rw [h.N]; exact h.nd
theorem HX.bnd (h : HX g xt X W C) (n : BndN g x i) : X.N[i]? = some x ∧ Loc X.env.scope x ∧ (X.fn x = true ∨ X.env.scope.names.lookup x = some .local) := by
  rw [h.N]
  rcases n.loc with z | z
  · rcases h.scl _ _ z with w | ⟨w, _⟩
    · exact ⟨n.ix, .inl w, .inr w⟩
    · cases w
  · rcases h.scl _ _ z with w | ⟨w, _⟩
    · exact ⟨n.ix, .inr w, .inl (h.cel x z)⟩
    · cases w
end
def boOf : (o : Operator) → Option { b : Bo // b.op = o }
  | .Add => some ⟨.add, rfl⟩
  | .Sub => some ⟨.sub, rfl⟩
  | .Mult => some ⟨.mul, rfl⟩
  | .FloorDiv => some ⟨.fdiv, rfl⟩
  | .Mod => some ⟨.mod, rfl⟩
  | .Pow => some ⟨.pow, rfl⟩
  | _ => none
def coOf : (o : CmpOp) → { b : Co // b.op = o }
  | .Eq => ⟨.eq, rfl⟩
  | .NotEq => ⟨.ne, rfl⟩
  | .Lt => ⟨.lt, rfl⟩
  | .LtE => ⟨.le, rfl⟩
  | .Gt => ⟨.gt, rfl⟩
  | .GtE => ⟨.ge, rfl⟩
  | .Is => ⟨.is_, rfl⟩
  | .IsNot => ⟨.isnot, rfl⟩
  | .In => ⟨.in_, rfl⟩
  | .NotIn => ⟨.notin, rfl⟩
def bis : List Bi := [.len, .all, .any, .sum, .max, .min, .list, .tuple, .int]
theorem bi_boot (b : Bi) : bootBuiltins (b.nm : Str) = some b.val := by cases b <;> decide +kernel
def biOf (x : Str) : (l : List Bi) → Option { b : Bi // x = (b.nm : Str) }
  | [] => none
  | b :: r => if h : x = (b.nm : Str) then some ⟨b, h⟩ else biOf x r
def tys : List Ty := [.int, .bool, .str, .tuple, .list, .dict]
theorem ty_boot (b : Ty) : bootBuiltins (b.nm : Str) = some (.type b.nm) := by cases b <;> decide +kernel
def tyOf (x : Str) : (l : List Ty) → Option { b : Ty // x = (b.nm : Str) }
  | [] => none
  | b :: r => if h : x = (b.nm : Str) then some ⟨b, h⟩ else tyOf x r
/-- a name that is a builtin's here -/
structure NoN (g : TG0) (x : Str) : Prop extends GlbN g x where
  no : x ∈ g.nos
def noN (g : TG0) (x : Str) : Option (PLift (NoN g x)) :=
  match glbN g x with
  | some ⟨h⟩ => if h2 : x ∈ g.nos then some ⟨⟨h, h2⟩⟩ else none
  | none => none
theorem isi_boot : bootBuiltins ("isinstance" : Str) = some (.builtin "isinstance") := by decide +kernel
def TyNm0 (g : TG0) (x : Str) (t : Ty) : Prop := ∀ xt X W C, HX g xt X W C → TyNm X x t
def tyNm (g : TG0) (x : Str) : Option { t : Ty // TyNm0 g x t } :=
  match noN g x, tyOf x tys with
  | some ⟨n⟩, some ⟨t, e⟩ => some ⟨t, fun xt X W C h => ⟨h.gl n.toGlbN, h.no _ n.no, by rw [e]; exact ty_boot t, n.nn, n.d1⟩⟩
  | _, _ => none
/-- names in a row, classes -/
def tyNms (g : TG0) : (es : List Expr) → Option { p : List (Str × Pos) × List Ty // es = p.1.map (fun y => Expr.Name y.1 y.2) ∧ Paired (fun (y : Str × Pos) t => TyNm0 g y.1 t) p.1 p.2 }
  | [] => some ⟨([], []), rfl, .nil⟩
  | .Name x p :: es => match tyNm g x, tyNms g es with
    | some ⟨t, ht⟩, some ⟨q, e, hq⟩ => some ⟨((x, p) :: q.1, t :: q.2), by rw [e]; rfl, .cons ht hq⟩
    | _, _ => none
  | _ :: _ => none
/-- targets in a row -/
def bndNs (g : TG0) : (es : List Expr) → Option { p : List (Str × Pos) × List Nat // es = p.1.map (fun y => Expr.Name y.1 y.2) ∧ Paired (fun (y : Str × Pos) i => BndN g y.1 i) p.1 p.2 }
  | [] => some ⟨([], []), rfl, .nil⟩
  | .Name x p :: es => match bndN g x, bndNs g es with
    | some ⟨t, ht⟩, some ⟨q, e, hq⟩ => some ⟨((x, p) :: q.1, t :: q.2), by rw [e]; rfl, .cons ht hq⟩
    | _, _ => none
  | _ :: _ => none
theorem asg_names (env : PySem.Env) : ∀ {xs : List (Str × Pos)} {is : List Nat} {P : Str × Pos → Nat → Prop}, Paired P xs is → (assignEach (xs.map fun x => Expr.Name x.1 x.2) env).length = is.length ∧ (assignEach (xs.map fun x => Expr.Name x.1 x.2) env).findIdx? (·.1) = none
  | _, _, _, .nil => ⟨rfl, rfl⟩
  | x :: xs, i :: is, P, .cons h t => by
    obtain ⟨h1, h2⟩ := asg_names env t
    constructor
    · show (assignEach (xs.map fun x => Expr.Name x.1 x.2) env).length + 1 = is.length + 1
      rw [h1]
    · show List.findIdx? (·.1) ((false, assign (.Name x.1 x.2) env) :: assignEach (xs.map fun x => Expr.Name x.1 x.2) env) = none
      rw [List.findIdx?_cons]
      simp [h2]
/-- a target: a name, or names -/
def STg (g : TG0) (e : Expr) : Type := { a : Bool × List Nat // ∀ xt X W C, HX g xt X W C → PG X e (gTg X.KK a.1 a.2) }
def trTg (g : TG0) : (e : Expr) → Option (STg g e)
  | .Name x p => match bndN g x with
    | some ⟨i, h⟩ => some ⟨(false, [i]), fun xt X W C hx => pg_tgName hx.ND (hx.bnd h)⟩
    | none => none
  | .Tuple es k p => match bndNs g es with
    | some ⟨q, e, h⟩ => some ⟨(true, q.2), fun xt X W C hx => by
        subst e
        exact pg_tgTup hx.calm hx.ND (Paired.mapP h fun _ _ z => hx.bnd z) (asg_names _ h).1 (asg_names _ h).2⟩
    | none => none
  | _ => none
end Mp
namespace Mp
open PySem PySem.Spec PyProof.Rows L2
variable {g : TG0}
theorem ex_strC {xt : XT} {X : Cx} {W : WX} {C : Ctx} {x : Str} {j : Nat} {pos : Pos} (hx : sok x.cps.toList = true) : PE X (.Constant (.str x) j pos) (tE xt X.KK W C (.k (.str x.cps.toList))) := by
  have := ex_str (xt := xt) (X := X) (W := W) (C := C) (j := j) (pos := pos) hx
  have e : sOf x.cps.toList = x := by
    show (⟨x.cps.toList.toArray⟩ : Str) = x
    rw [Array.toArray_toList]
  rw [e] at this
  exact this
def mkC (x : Str) (j : Nat) (p : Pos) : Option (SE g (.Constant (.str x) j p)) :=
  if h : sok x.cps.toList = true then some ⟨.k (.str x.cps.toList), fun xt X W C _ => ex_strC h⟩ else none
def mkN (g : TG0) (x : Str) (p : Pos) : Option (SE g (.Name x p)) :=
  match locN g x with
  | some ⟨i, n⟩ => some ⟨.v i, fun xt X W C h => ex_v (h.ix n) (h.vis n) n.d1 n.d2⟩
  | none => match glbN g x, findP x g.cs with
    | some ⟨n⟩, some ⟨i, hi⟩ => some ⟨.g i, fun xt X W C h => let ⟨v, u, h1, h2, h3⟩ := h.cs _ hi; ex_g (d := .non) (h.gl n) h1 h2 n.d1 h3⟩
    | _, _ => none
def mkCall {x : Str} {p pos : Pos} {a : Expr} {as : List Expr} (n : GlbN g x) (r : SA g (a :: as)) : Option (SE g (.Call (.Name x p) (a :: as) [] pos)) :=
  if hs : (a :: as).all notStar = true then
    match findP x g.fns with
    | some ⟨i, hi⟩ => some ⟨.call i r.1, fun xt X W C h => by
        obtain ⟨f, fd, ps, k, F, hr, hm, hk, hb, h1, h2⟩ := h.fns _ hi
        rw [List.all_cons, Bool.and_eq_true] at hs
        exact ex_call F h.gd hr (h.gl n) hm hk hb h.tk h1 h2 (r.2.2 xt X W C h) n.d1 (star_ok hs.1 _ _) (star_all hs.2 _ _)⟩
    | none => if hn : x ∈ g.nos then
        match biOf x bis with
        | some ⟨b, e⟩ => some ⟨.bi b r.1, fun xt X W C h => by
            rw [List.all_cons, Bool.and_eq_true] at hs
            exact ex_bi b h.calm (h.gl n) (h.no _ hn) (by rw [e]; exact bi_boot b) (r.2.2 xt X W C h) n.nn n.d1 (star_ok hs.1 _ _) (star_all hs.2 _ _)⟩
        | none => none
      else none
  else none
def mkRpr {x : Str} {p pos : Pos} {a : Expr} (n : GlbN g x) (r : SE g a) : Option (SE g (.Call (.Name x p) [a] [] pos)) :=
  if hx : x = "repr" ∧ x ∈ g.nos ∧ notStar a = true then
    some ⟨.rpr r.1, fun xt X W C h => ex_rpr h.gd h.hu h.rp (h.gl n) (h.no _ hx.2.1) (by rw [hx.1]; exact rp_boot) n.nn n.d1 (r.2 xt X W C h) (star_ok hx.2.2 _ _)⟩
  else none
/-- list(zip(a, b)) -/
def mkLz {x y : Str} {p p2 q pos : Pos} {a b : Expr} (r : SF g [a, b]) : Option (SE g (.Call (.Name x p2) [.Call (.Name y p) [a, b] [] q] [] pos)) :=
  if hx : x = "list" ∧ y = "zip" ∧ notStar a = true ∧ ([b].all notStar = true) then
    match noN g x, noN g y with
    | some ⟨n1⟩, some ⟨n2⟩ => some ⟨.lz r.1, fun xt X W C h => by
        have a1 := h.gl n1.toGlbN
        have a2 := h.no _ n1.no
        have b1 := h.gl n2.toGlbN
        have b2 := h.no _ n2.no
        obtain ⟨e1, e2, e3, e4⟩ := hx
        subst e1 e2
        exact ex_lz b1 b2 a1 a2 (r.2 xt X W C h) h.calm (star_ok e3 _ _) (star_all e4 _ _) (star_ok rfl _ _)⟩
    | _, _ => none
  else none
/-- sorted(set(a)) -/
def mkSst {x y : Str} {p p2 q pos : Pos} {a : Expr} (r : SE g a) : Option (SE g (.Call (.Name x p2) [.Call (.Name y p) [a] [] q] [] pos)) :=
  if hx : x = "sorted" ∧ y = "set" ∧ notStar a = true then
    match noN g x, noN g y with
    | some ⟨n1⟩, some ⟨n2⟩ => some ⟨.sst r.1, fun xt X W C h => by
        have a1 := h.gl n1.toGlbN
        have a2 := h.no _ n1.no
        have b1 := h.gl n2.toGlbN
        have b2 := h.no _ n2.no
        obtain ⟨e1, e2, e3⟩ := hx
        subst e1 e2
        exact ex_sst a1 a2 b1 b2 h.calm (r.2 xt X W C h) (star_ok e3 _ _) (star_ok rfl _ _)⟩
    | _, _ => none
  else none
/-- len(set(a)) -/
def mkLset {x y : Str} {p p2 q pos : Pos} {a : Expr} (r : SE g a) : Option (SE g (.Call (.Name x p) [.Call (.Name y p2) [a] [] q] [] pos)) :=
  if hx : x = "len" ∧ y = "set" ∧ notStar a = true then
    match noN g x, noN g y with
    | some ⟨n1⟩, some ⟨n2⟩ => some ⟨.lset r.1, fun xt X W C h => by
        have a1 := h.gl n1.toGlbN
        have a2 := h.no _ n1.no
        have b1 := h.gl n2.toGlbN
        have b2 := h.no _ n2.no
        obtain ⟨e1, e2, e3⟩ := hx
        subst e1 e2
        exact ex_lset h.calm a1 a2 b1 b2 (r.2 xt X W C h) (star_ok e3 _ _)⟩
    | _, _ => none
  else none
/-- isinstance(a, T), isinstance(a, (T, ..)) -/
def mkIsi {x : Str} {p pos : Pos} {a b : Expr} (n : GlbN g x) (r : SE g a) : Option (SE g (.Call (.Name x p) [a, b] [] pos)) :=
  if hx : x = "isinstance" ∧ x ∈ g.nos ∧ notStar a = true then
    match b with
    | .Name y p2 => match tyNm g y with
      | some ⟨t, ht⟩ => some ⟨.isi r.1 [t], fun xt X W C h => ex_isi (h.gl n) (h.no _ hx.2.1) (by rw [hx.1]; exact isi_boot) n.nn n.d1 (ht xt X W C h) (r.2 xt X W C h) (star_ok hx.2.2 _ _)⟩
      | none => none
    | .Tuple es k p2 => match tyNms g es with
      | some ⟨q, e, hq⟩ => if hl : q.2.length ≤ 10 then some ⟨.isi r.1 q.2, fun xt X W C h => by
          subst e
          exact ex_isiT (h.gl n) (h.no _ hx.2.1) (by rw [hx.1]; exact isi_boot) n.nn n.d1 (Paired.mapP hq fun _ _ z => z xt X W C h) hl (r.2 xt X W C h) (star_ok hx.2.2 _ _)⟩
        else none
      | none => none
    | _ => none
  else none
def mkApp {x m : Str} {p apos cpos : Pos} {a : Expr} (r : SF g [a]) : Option (SE g (.Call (.Attribute (.Name x p) m apos) [a] [] cpos)) :=
  if hm : m = "append" ∧ (apos.endLine == cpos.line) = true ∧ notStar a = true then
    match locN g x with
    | some ⟨i, n⟩ => some ⟨.mu .append i r.1, fun xt X W C h => by
        have hs := star_ok hm.2.2 [] X.env
        have := ex_mu1 (cpos := cpos) .append rfl (h.ix n) (h.vis n) n.d1 n.d2 (r.2 xt X W C h) (p := p) rfl (by rw [hs]; rfl) hm.2.1 hs
        obtain ⟨hm1, _⟩ := hm
        subst hm1
        exact this⟩
    | none => none
  else none
def mkExt {x m : Str} {p apos cpos : Pos} {a : Expr} (r : SF g [a]) : Option (SE g (.Call (.Attribute (.Name x p) m apos) [a] [] cpos)) :=
  if hm : m = "extend" ∧ (apos.endLine == cpos.line) = true ∧ notStar a = true then
    match locN g x with
    | some ⟨i, n⟩ => some ⟨.mu .extend i r.1, fun xt X W C h => by
        have hs := star_ok hm.2.2 [] X.env
        have := ex_extend (cpos := cpos) (h.ix n) (h.vis n) n.d1 n.d2 (r.2 xt X W C h) (p := p) (by rw [hs]; rfl) hm.2.1 hs
        obtain ⟨hm1, _⟩ := hm
        subst hm1
        exact this⟩
    | none => none
  else none
def mkPop {x m : Str} {p apos cpos : Pos} {a : Expr} : SF g [a] → Option (SE g (.Call (.Attribute (.Name x p) m apos) [a] [] cpos))
  | ⟨.cons e1 .nil, hr⟩ =>
    if hm : m = "pop" ∧ (apos.endLine == cpos.line) = true ∧ notStar a = true then
      match locN g x with
      | some ⟨i, n⟩ => some ⟨.mu .pop i (.cons e1 .nil), fun xt X W C h => by
          have hs := star_ok hm.2.2 [] X.env
          have := ex_popAt (cpos := cpos) (h.ix n) (h.vis n) n.d1 n.d2 (hr xt X W C h) (p := p) (by rw [hs]; rfl) hm.2.1 hs
          obtain ⟨hm1, _⟩ := hm
          subst hm1
          exact this⟩
      | none => none
    else none
  | _ => none
def mkIndex {x m : Str} {p apos cpos : Pos} {a : Expr} (ro : SE g (.Name x p)) (r : SA g [a]) : Option (SE g (.Call (.Attribute (.Name x p) m apos) [a] [] cpos)) :=
  if hm : m = "index" ∧ (apos.endLine == cpos.line) = true ∧ notStar a = true then
    some ⟨.bm .index ro.1 r.1, fun xt X W C h => by
      have hs := star_ok hm.2.2 [] X.env
      have := ex_index (cpos := cpos) h.hu (ro.2 xt X W C h) (r.2.2 xt X W C h) rfl (by rw [hs]; rfl) hm.2.1 hs
      obtain ⟨hm1, _⟩ := hm
      subst hm1
      exact this⟩
  else none
def mkM0 {x m : Str} {p apos cpos : Pos} : Option (SE g (.Call (.Attribute (.Name x p) m apos) [] [] cpos)) :=
  if hl : (apos.endLine == cpos.line) = true then
    match locN g x with
    | some ⟨i, n⟩ =>
      if hm : m = "reverse" then some ⟨.mu .reverse i .nil, fun xt X W C h => by
        subst hm
        exact ex_reverse (h.ix n) (h.vis n) n.d1 n.d2 hl⟩
      else if hm : m = "clear" then some ⟨.mu .clear i .nil, fun xt X W C h => by
        subst hm
        exact ex_clear (h.ix n) (h.vis n) n.d1 n.d2 hl⟩
      else none
    | none => none
  else none
/-- o.m(e, f): what is seen of the text -/
theorem m2_of {X : Cx} {o e f : Expr} {m : Str} {apos cpos : Pos} (hb : attributeBase o m X.env (eval o X.env) = eval o X.env) (hl : (apos.endLine == cpos.line) = true) (he : notStar e = true) (hf : notStar f = true) : M2 X o m apos e f cpos := by
  have h1 := star_ok he [f] X.env
  have h2 := star_ok hf [] X.env
  exact ⟨hb, by rw [h1, h2]; rfl, hl, by rw [h1, h2]; rfl⟩
def mkGet {x m : Str} {p apos cpos : Pos} {a b : Expr} (ro : SE g (.Name x p)) (ra : SE g a) (rb : SE g b) : Option (SE g (.Call (.Attribute (.Name x p) m apos) [a, b] [] cpos)) :=
  if hm : m = "get" ∧ (apos.endLine == cpos.line) = true ∧ notStar a = true ∧ notStar b = true then
    some ⟨.dget ro.1 ra.1 rb.1, fun xt X W C h => by
      obtain ⟨e, h1, h2, h3⟩ := hm
      subst e
      exact ex_dget h.hu (ro.2 xt X W C h) (ra.2 xt X W C h) (rb.2 xt X W C h) (m2_of rfl h1 h2 h3)⟩
  else none
def mkSetd {x m : Str} {p apos cpos : Pos} {a b : Expr} (ra : SE g a) (rb : SE g b) : Option (SE g (.Call (.Attribute (.Name x p) m apos) [a, b] [] cpos)) :=
  if hm : m = "setdefault" ∧ (apos.endLine == cpos.line) = true ∧ notStar a = true ∧ notStar b = true then
    match locN g x with
    | some ⟨i, n⟩ => some ⟨.dsd i ra.1 rb.1, fun xt X W C h => by
        obtain ⟨e, h1, h2, h3⟩ := hm
        subst e
        exact ex_dsd h.hu (h.ix n) (h.vis n) n.d1 n.d2 (ra.2 xt X W C h) (rb.2 xt X W C h) (m2_of rfl h1 h2 h3)⟩
    | none => none
  else none
def mkPair {x : Str} {p pos : Pos} {k : Nat} {a : Expr} (r : SE g a) : Option (SE g (.Tuple [.Name x p, a] k pos)) :=
  if hs : notStar a = true then
    match locN g x with
    | some ⟨i, n⟩ => some ⟨.pr2 i r.1, fun xt X W C h => ex_pr2 (h.ix n) (h.vis n) n.d1 n.d2 (r.2 xt X W C h) (star_ok rfl _ _) (star_ok hs _ _)⟩
    | none => none
  else none
def mkCall0 {x : Str} {p pos : Pos} : Option (SE g (.Call (.Name x p) [] [] pos)) :=
  match glbN g x, findP x g.fns with
  | some ⟨n⟩, some ⟨i, hi⟩ => some ⟨.call i .nil, fun xt X W C h => by
      obtain ⟨f, fd, ps, k, F, hr, hm, hk, hb, h1, h2⟩ := h.fns _ hi
      exact ex_call0 F h.gd hr (h.gl n) hm hk hb h.tk h1 h2 n.d1⟩
  | _, _ => none
def mkBin {a b : Expr} {o : Operator} {pos : Pos} (ra : SE g a) (rb : SE g b) : Option (SE g (.BinOp a o b pos)) :=
  match boOf o with
  | some ⟨q, e⟩ => some ⟨.bin q ra.1 rb.1, fun xt X W C h => by
      subst e
      exact ex_bin q (ra.2 xt X W C h) (rb.2 xt X W C h)⟩
  | none => none
def mkCmp {a b : Expr} {o : CmpOp} {pos : Pos} (ra : SE g a) (rb : SE g b) : Option (SE g (.Compare a [o] [b] pos)) :=
  let q := coOf o
  if hm : behindInMarks q.1.op b = false then some ⟨.cmp q.1 ra.1 rb.1, fun xt X W C h => by
    have e := q.2
    have := ex_cmp (pos := pos) q.1 h.hu hm (ra.2 xt X W C h) (rb.2 xt X W C h)
    rw [e] at this
    exact this⟩
  else none
def mkCmpT {a b : Expr} {o : CmpOp} {pos : Pos} (ra : SE g a) (rb : SE g b) : Option (ST g (.Compare a [o] [b] pos)) :=
  let q := coOf o
  if hm : behindInMarks q.1.op b = false then some ⟨.e (.cmp q.1 ra.1 rb.1), fun xt X W C h => by
    have e := q.2
    have := te_cmp (pos := pos) q.1 h.hu hm (ra.2 xt X W C h) (rb.2 xt X W C h)
    rw [e] at this
    exact this⟩
  else none
def mkChain {a b c : Expr} {o o' : CmpOp} {pos : Pos} (ra : SE g a) (rb : SE g b) (rc : SE g c) : Option (SE g (.Compare a [o, o'] [b, c] pos)) :=
  let q := coOf o
  let q' := coOf o'
  if hm : lastMarks [q.1.op, q'.1.op] [b, c] = false then some ⟨.chain q.1 q'.1 ra.1 rb.1 rc.1, fun xt X W C h => by
    have e := q.2
    have e' := q'.2
    have := ex_chain (pos := pos) q.1 q'.1 h.hu hm (ra.2 xt X W C h) (rb.2 xt X W C h) (rc.2 xt X W C h)
    rw [e, e'] at this
    exact this⟩
  else none
def mkChainT {a b c : Expr} {o o' : CmpOp} {pos : Pos} (ra : SE g a) (rb : SE g b) (rc : SE g c) : Option (ST g (.Compare a [o, o'] [b, c] pos)) :=
  let q := coOf o
  let q' := coOf o'
  if hm : lastMarks [q.1.op, q'.1.op] [b, c] = false then some ⟨.e (.chain q.1 q'.1 ra.1 rb.1 rc.1), fun xt X W C h => by
    have e := q.2
    have e' := q'.2
    have := te_chain (pos := pos) q.1 q'.1 h.hu hm (ra.2 xt X W C h) (rb.2 xt X W C h) (rc.2 xt X W C h)
    rw [e, e'] at this
    exact this⟩
  else none
def mkIdx {a b : Expr} {pos : Pos} (ra : SE g a) (rb : SE g b) : Option (SE g (.Subscript a b pos)) :=
  if hs : notSlice b = true then some ⟨.idx ra.1 rb.1, fun xt X W C h => ex_idx h.hu (plainIx_ok hs) (ra.2 xt X W C h) (rb.2 xt X W C h)⟩ else none
/-- a comprehension's own names -/
def ownOf (N : List Str) (is : List Nat) : List (Str × Nat) := is.map fun i => (N.getD i ⟨#[]⟩, i)
theorem own_ix (N : List Str) (is : List Nat) : (ownOf N is).map (·.2) = is := by
  unfold ownOf
  rw [List.map_map]
  exact List.map_id is
theorem blk_g {xt : XT} {X : Cx} {W : WX} {C : Ctx} {scope : Scope} {own : List (Str × Nat)} (h : HX g xt X W C) (hb : blkC g.N g.sc scope own = true) : BlkOk X.N X.env.scope scope own := by
  have b := blkOk_by hb
  refine ⟨b.kind, b.uniq, fun p hp => by rw [h.N]; exact b.ix p hp, fun y hy e => ?_, fun y hy e => by rw [h.N]; exact b.own y hy e⟩
  rcases b.free y hy e with z | z
  · rcases h.scl _ _ z with w | ⟨w, _⟩
    · exact .inl w
    · cases w
  · rcases h.scl _ _ z with w | ⟨_, w⟩
    · exact .inr w
    · exact .inl w
/-- what a comprehension's parts are -/
structure LcP (g : TG0) (elt tg iter : Expr) (ifs : List Expr) (scope : Scope) where
  it : SI g tg iter
  t : STg { g with sc := scope } tg
  el : SE { g with sc := scope } elt
  cond : { a : Te // ∀ xt X W C, HX { g with sc := scope } xt X W C → PTs X ifs (tT xt X.KK W C a) }
  ok : blkC g.N g.sc scope (ownOf g.N t.1.2) = true
  ns : notSet iter = true
def mkLc {elt tg iter : Expr} {ifs : List Expr} {scope : Scope} {pos : Pos} (P : LcP g elt tg iter ifs scope) : SE g (.ListComp elt [⟨tg, iter, ifs, 0⟩] scope pos) :=
  ⟨.lc P.el.1 P.t.1.2 P.t.1.1 P.it.1 P.cond.1, fun xt X W C h => ex_lc h.calm h.ND (P.it.2 xt X W C h) (blk_g h P.ok) (own_ix _ _)
    (fun s H Ca cl fp => P.t.2 xt _ WF C (h.blk scope s H Ca cl fp)) (fun s H Ca cl fp => P.cond.2 xt _ WF C (h.blk scope s H Ca cl fp)) (fun s H Ca cl fp => P.el.2 xt _ WF C (h.blk scope s H Ca cl fp)) (folded_ok P.ns _)⟩
theorem ptsT {xt : XT} {X : Cx} {W : WX} {C : Ctx} : PTs X [] (tT xt X.KK W C .tt) := pts_no
mutual
def trE (g : TG0) : Nat → (e : Expr) → Option (SE g e)
  | 0, _ => none
  | n + 1, e => match e with
    | .Constant (.int i) j p => some ⟨.k (.int i), fun xt X W C _ => ex_int⟩
    | .Constant (.bool i) j p => some ⟨.k (.bl i), fun xt X W C _ => ex_bl⟩
    | .Constant .none j p => some ⟨.k .non, fun xt X W C _ => ex_non⟩
    | .Constant (.str x) j p => mkC x j p
    | .Name x p => mkN g x p
    | .Tuple [.Name x p1, a] k p => if x ∈ g.ds then
        (match trE g n a with
        | some r => mkPair r
        | none => none)
      else (match trF g n [.Name x p1, a] with
      | some r => some ⟨.tup r.1, fun xt X W C h => ex_tup (r.2 xt X W C h)⟩
      | none => none)
    | .Tuple es k p => match trF g n es with
      | some r => some ⟨.tup r.1, fun xt X W C h => ex_tup (r.2 xt X W C h)⟩
      | none => none
    | .List es p => match trF g n es with
      | some r => some ⟨.lst r.1, fun xt X W C h => ex_lst (r.2 xt X W C h)⟩
      | none => none
    | .Dict [] [] p => some ⟨.dcn, fun xt X W C h => ex_dcn⟩
    | .Dict [some a] [b] p => (match trD g n [some a] [b] with
      | some r => some ⟨.dct r.1.1 r.1.2, fun xt X W C h => ex_dct (r.2 xt X W C p h) rfl rfl (by simp) (by show 1 ≤ 15; omega)⟩
      | none => match trE g n a, trE g n b with
        | some ra, some rb => some ⟨.dc1 ra.1 rb.1, fun xt X W C h => ex_dc1 h.hu (ra.2 xt X W C h) (rb.2 xt X W C h)⟩
        | _, _ => none)
    | .Dict ks vs p => match trD g n ks vs with
      | some r => if hk : ks.all (·.isSome) = true ∧ ks.length = vs.length ∧ (ks.length = 0) = False ∧ ks.length ≤ 15 then
          some ⟨.dct r.1.1 r.1.2, fun xt X W C h => ex_dct (r.2 xt X W C p h) hk.1 hk.2.1 (fun z => by rw [z] at hk; simp at hk) hk.2.2.2⟩ else none
      | none => none
    | .BinOp a o b p => match trE g n a, trE g n b with
      | some ra, some rb => mkBin ra rb
      | _, _ => none
    | .UnaryOp .USub a p => match trE g n a with
      | some ra => some ⟨.neg ra.1, fun xt X W C h => ex_neg (ra.2 xt X W C h)⟩
      | none => none
    | .UnaryOp .Not a p => match trE g n a with
      | some ra => some ⟨.not ra.1, fun xt X W C h => ex_not (ra.2 xt X W C h)⟩
      | none => none
    | .BoolOp op [a] p => match trE g n a with
      | some ra => some ⟨ra.1, fun xt X W C h => ex_one (ra.2 xt X W C h)⟩
      | none => none
    | .BoolOp .And (a :: b :: r) p => match trE g n a, trE g n (.BoolOp .And (b :: r) p) with
      | some ra, some rb => some ⟨.and ra.1 rb.1, fun xt X W C h => ex_and (ra.2 xt X W C h) (rb.2 xt X W C h)⟩
      | _, _ => none
    | .BoolOp .Or (a :: b :: r) p => match trE g n a, trE g n (.BoolOp .Or (b :: r) p) with
      | some ra, some rb => some ⟨.or ra.1 rb.1, fun xt X W C h => ex_or (ra.2 xt X W C h) (rb.2 xt X W C h)⟩
      | _, _ => none
    | .Compare a [o] [b] p => match trE g n a, trE g n b with
      | some ra, some rb => mkCmp ra rb
      | _, _ => none
    | .Compare a [o, o'] [b, c] p => match trE g n a, trE g n b, trE g n c with
      | some ra, some rb, some rc => mkChain ra rb rc
      | _, _, _ => none
    | .IfExp c a b p => match trT g n c, trE g n a, trE g n b with
      | some rc, some ra, some rb => some ⟨.ite rc.1 ra.1 rb.1, fun xt X W C h => ex_ite (rc.2 xt X W C h) (ra.2 xt X W C h) (rb.2 xt X W C h)⟩
      | _, _, _ => none
    | .Subscript a (.Slice lo hi none p2) p => match trE g n a, trO g n lo, trO g n hi with
      | some ra, some rl, some rh => some ⟨.slc ra.1 rl.1 rh.1, fun xt X W C h => ex_slc (ra.2 xt X W C h) (rl.2 xt X W C h) (rh.2 xt X W C h)⟩
      | _, _, _ => none
    | .Subscript a (.Slice none none (some (.UnaryOp .USub (.Constant (.int 1) k p1) p2)) p3) p => match trE g n a with
      | some ra => some ⟨.rev ra.1, fun xt X W C h => ex_rev (ra.2 xt X W C h)⟩
      | none => none
    | .Subscript a b p => match trE g n a, trE g n b with
      | some ra, some rb => mkIdx ra rb
      | _, _ => none
    | .Call (.Name x p) [] [] pos => mkCall0
    | .Call (.Attribute (.Name x p) m apos) [] [] pos => mkM0
    | .Call (.Name x p) [a, b] [] pos => match glbN g x with
      | some ⟨hg⟩ => if x = "isinstance" then
          match trE g n a with
          | some ra => mkIsi hg ra
          | none => none
        else match trA g n [a, b] with
          | some r => mkCall hg r
          | none => none
      | none => none
    | .Call (.Name x p) [.Call (.Name y p2) [a] [] q] [] pos => if x = "len" ∧ y = "set" then
        (match trE g n a with
        | some r => mkLset r
        | none => none)
      else if x = "sorted" ∧ y = "set" then
        (match trE g n a with
        | some r => mkSst r
        | none => none)
      else match glbN g x, trA g n [.Call (.Name y p2) [a] [] q] with
        | some ⟨hg⟩, some r => if x = "repr" then
            (match trE g n (.Call (.Name y p2) [a] [] q) with
            | some ra => mkRpr hg ra
            | none => none)
          else mkCall hg r
        | _, _ => none
    | .Call (.Name x p) [.Call (.Name y p2) [a, b] [] q] [] pos => if x = "list" ∧ y = "zip" then
        (match trF g n [a, b] with
        | some r => mkLz r
        | none => none)
      else match glbN g x, trA g n [.Call (.Name y p2) [a, b] [] q] with
        | some ⟨hg⟩, some r => if x = "repr" then
            (match trE g n (.Call (.Name y p2) [a, b] [] q) with
            | some ra => mkRpr hg ra
            | none => none)
          else mkCall hg r
        | _, _ => none
    | .Call (.Name x p) [a] [] pos => match glbN g x with
      | some ⟨hg⟩ => if x = "repr" then
          match trE g n a with
          | some ra => mkRpr hg ra
          | none => none
        else match trA g n [a] with
          | some r => mkCall hg r
          | none => none
      | none => none
    | .Call (.Name x p) (a :: as) [] pos => match glbN g x, trA g n (a :: as) with
      | some ⟨hg⟩, some r => mkCall hg r
      | _, _ => none
    | .Call (.Attribute (.Name x p) m apos) [a, b] [] pos => (match trE g n a, trE g n b with
      | some ra, some rb => match mkSetd ra rb with
        | some z => some z
        | none => match mkN g x p with
          | some ro => mkGet ro ra rb
          | none => none
      | _, _ => none)
    | .Call (.Attribute (.Name x p) m apos) [a] [] pos => if m = "index" then (match mkN g x p, trA g n [a] with
        | some ro, some r => mkIndex ro r
        | _, _ => none) else match trF g n [a] with
      | some r => match mkApp r with
        | some z => some z
        | none => match mkExt r with
          | some z => some z
          | none => mkPop r
      | none => none
    | .ListComp elt [⟨tg, iter, ifs, 0⟩] scope p => match trL g n elt tg iter ifs scope with
      | some r => some (mkLc r)
      | none => none
    | _ => none
def trL (g : TG0) : Nat → (elt tg iter : Expr) → (ifs : List Expr) → (scope : Scope) → Option (LcP g elt tg iter ifs scope)
  | 0, _, _, _, _, _ => none
  | n + 1, elt, tg, iter, ifs, scope => match trI g n tg iter, trTg { g with sc := scope } tg, trE { g with sc := scope } n elt, trIf { g with sc := scope } n ifs with
    | some i, some t, some el, some c => if h : blkC g.N g.sc scope (ownOf g.N t.1.2) = true ∧ notSet iter = true then some ⟨i, t, el, c, h.1, h.2⟩ else none
    | _, _, _, _ => none
def trIf (g : TG0) : Nat → (ifs : List Expr) → Option { a : Te // ∀ xt X W C, HX g xt X W C → PTs X ifs (tT xt X.KK W C a) }
  | 0, _ => none
  | n + 1, es => match es with
    | [] => some ⟨.tt, fun xt X W C _ => pts_no⟩
    | [c] => match trT g n c with
      | some r => some ⟨r.1, fun xt X W C h => pts_if (r.2 xt X W C h)⟩
      | none => none
    | _ => none
def trT (g : TG0) : Nat → (e : Expr) → Option (ST g e)
  | 0, _ => none
  | n + 1, e => match e with
    | .UnaryOp .Not a p => match trT g n a with
      | some ra => some ⟨.not ra.1, fun xt X W C h => te_not (ra.2 xt X W C h)⟩
      | none => none
    | .BoolOp op es p => match trW g n (.BoolOp op es p) with
      | some r => some ⟨r.1, fun xt X W C h => (r.2 xt X W C h).pt⟩
      | none => none
    | .Compare a [o] [b] p => match trE g n a, trE g n b with
      | some ra, some rb => mkCmpT ra rb
      | _, _ => none
    | .Compare a [o, o'] [b, c] p => match trE g n a, trE g n b, trE g n c with
      | some ra, some rb, some rc => mkChainT ra rb rc
      | _, _, _ => none
    | e => if hp : plainTest e = true then
        match trE g n e with
        | some r => some ⟨.e r.1, fun xt X W C h => te_e (r.2 xt X W C h) (test_ok hp _)⟩
        | none => none
      else none
def trW (g : TG0) : Nat → (e : Expr) → Option (SW g e)
  | 0, _ => none
  | n + 1, e => match e with
    | .BoolOp .And [a] p => match trT g n a with
      | some ra => some ⟨ra.1, fun xt X W C h => tw_and1 (ra.2 xt X W C h)⟩
      | none => none
    | .BoolOp .Or [a] p => match trT g n a with
      | some ra => some ⟨ra.1, fun xt X W C h => tw_or1 (ra.2 xt X W C h)⟩
      | none => none
    | .BoolOp .And (a :: b :: r) p => match trT g n a, trW g n (.BoolOp .And (b :: r) p) with
      | some ra, some rb => some ⟨.and ra.1 rb.1, fun xt X W C h => tw_and (ra.2 xt X W C h) (rb.2 xt X W C h)⟩
      | _, _ => none
    | .BoolOp .Or (a :: b :: r) p => match trT g n a, trW g n (.BoolOp .Or (b :: r) p) with
      | some ra, some rb => some ⟨.or ra.1 rb.1, fun xt X W C h => tw_or (ra.2 xt X W C h) (rb.2 xt X W C h)⟩
      | _, _ => none
    | _ => none
def trA (g : TG0) : Nat → (es : List Expr) → Option (SA g es)
  | 0, _ => none
  | n + 1, es => match es with
    | [] => some ⟨.nil, rfl, fun xt X W C _ => ex_anil⟩
    | e :: es => match trE g n e, trA g n es with
      | some r, some q => if hs : notStar e = true then some ⟨.cons r.1 q.1, by show q.1.len + 1 = es.length + 1; rw [q.2.1], fun xt X W C h => ex_acons (r.2 xt X W C h) (q.2.2 xt X W C h) (star_ok hs _ _)⟩ else none
      | _, _ => none
def trF (g : TG0) : Nat → (es : List Expr) → Option (SF g es)
  | 0, _ => none
  | n + 1, es => match es with
    | [] => some ⟨.nil, fun xt X W C _ => ex_fnil⟩
    | e :: es => match trE g n e, trF g n es with
      | some r, some q => if hs : notStar e = true then some ⟨.cons r.1 q.1, fun xt X W C h => ex_fcons (r.2 xt X W C h) (q.2 xt X W C h) (star_ok hs _ _)⟩ else none
      | _, _ => none
def trO (g : TG0) : Nat → (e : Option Expr) → Option (SO g e)
  | 0, _ => none
  | n + 1, e => match e with
    | none => some ⟨.nil, fun xt X W C _ => eo_nil⟩
    | some e => match trE g n e with
      | some r => some ⟨.cons r.1 .nil, fun xt X W C h => eo_one (r.2 xt X W C h)⟩
      | none => none
def trD (g : TG0) : Nat → (ks : List (Option Expr)) → (vs : List Expr) → Option (SD g ks vs)
  | 0, _, _ => none
  | n + 1, ks, vs => match ks, vs with
    | [], [] => some ⟨([], .nil), fun xt X W C pos _ => ppd_nil⟩
    | some (.Constant (.str x) j p) :: ks, v :: vs => match trE g n v, trD g n ks vs with
      | some r, some q => some ⟨(x.cps.toList :: q.1.1, .cons r.1 q.1.2), fun xt X W C pos h => by
          have := ppd_cons (k := x.cps.toList) (j := j) (p := p) (r.2 xt X W C h) (q.2 xt X W C pos h)
          have e : sOf x.cps.toList = x := by
            show (⟨x.cps.toList.toArray⟩ : Str) = x
            rw [Array.toArray_toList]
          rw [e] at this
          exact this⟩
      | _, _ => none
    | _, _ => none
def trI (g : TG0) : Nat → (tg e : Expr) → Option (SI g tg e)
  | 0, _, _ => none
  | n + 1, tg, e => match e with
    | .Call (.Name x p) [a] [] pos => if hx : x = "range" ∧ notStar a = true then
        match noN g x, trA g n [a] with
        | some ⟨hn⟩, some r => some ⟨.range r.1, fun xt X W C h => by
            have h1 := h.gl hn.toGlbN
            have h2 := h.no _ hn.no
            have e := hx.1
            subst e
            exact ei_range1 r.2.1 h1 h2 (r.2.2 xt X W C h) (star_ok hx.2 _ _)⟩
        | _, _ => none
      else if hx2 : x = "enumerate" ∧ notStar a = true then
        match tg, noN g x, trF g n [a] with
        | .Tuple elts kk tpos, some ⟨hn⟩, some r => some ⟨.enum r.1, fun xt X W C h => by
            have h1 := h.gl hn.toGlbN
            have h2 := h.no _ hn.no
            have e := hx2.1
            subst e
            exact ei_enumE h1 h2 (r.2 xt X W C h) (star_ok hx2.2 _ _)⟩
        | _, _, _ => none
      else match trE g n (.Call (.Name x p) [a] [] pos) with
        | some r => some ⟨.e r.1, fun xt X W C h => ei_e (r.2 xt X W C h)⟩
        | none => none
    | .Call (.Name x p) [a, b] [] pos => if hx : x = "range" ∧ notStar a = true ∧ notStar b = true then
        match noN g x, trA g n [a, b] with
        | some ⟨hn⟩, some r => some ⟨.range r.1, fun xt X W C h => by
            have h1 := h.gl hn.toGlbN
            have h2 := h.no _ hn.no
            have e := hx.1
            subst e
            exact ei_range2 r.2.1 h1 h2 (r.2.2 xt X W C h) (by rw [star_ok hx.2.1, star_ok hx.2.2]; rfl) (star_ok hx.2.2 _ _)⟩
        | _, _ => none
      else if hx2 : x = "zip" ∧ notStar a = true ∧ notStar b = true then
        match tg, noN g x, trF g n [a, b] with
        | .Tuple elts kk tpos, some ⟨hn⟩, some r => some ⟨.zip r.1, fun xt X W C h => by
            have h1 := h.gl hn.toGlbN
            have h2 := h.no _ hn.no
            have e := hx2.1
            subst e
            exact ei_zip h1 h2 (r.2 xt X W C h) (star_ok hx2.2.1 _ _) (by rw [star_ok hx2.2.2]; rfl)⟩
        | _, _, _ => none
      else match trE g n (.Call (.Name x p) [a, b] [] pos) with
        | some r => some ⟨.e r.1, fun xt X W C h => ei_e (r.2 xt X W C h)⟩
        | none => none
    | .Call (.Name x p) [a, b, c] [] pos => if hx2 : x = "zip" ∧ notStar a = true ∧ notStar b = true ∧ notStar c = true then
        match tg, noN g x, trF g n [a, b, c] with
        | .Tuple elts kk tpos, some ⟨hn⟩, some r => some ⟨.zip3 r.1, fun xt X W C h => by
            have h1 := h.gl hn.toGlbN
            have h2 := h.no _ hn.no
            obtain ⟨e, ha, hb, hc⟩ := hx2
            subst e
            exact ei_zip3 h1 h2 (r.2 xt X W C h) (star_ok ha _ _) (by rw [star_ok hb, star_ok hc]; rfl)⟩
        | _, _, _ => none
      else match trE g n (.Call (.Name x p) [a, b, c] [] pos) with
        | some r => some ⟨.e r.1, fun xt X W C h => ei_e (r.2 xt X W C h)⟩
        | none => none
    | e => match trE g n e with
      | some r => some ⟨.e r.1, fun xt X W C h => ei_e (r.2 xt X W C h)⟩
      | none => none
end
end Mp
namespace Mp
open PySem PySem.Spec PyProof.Rows L2
variable {g : TG0}
theorem stores_tup {e : Expr} (h : notTup e = true) (es : List Expr) (k : Nat) (p : Pos) (env : PySem.Env) : swappedStores [.Tuple es k p] e env = pure none := by
  cases e <;> first | rfl | cases h
theorem sole_ok {e : Expr} (h : notComp e = true) (t : Expr) (l : Nat) (env : PySem.Env) : swapsWithSole [t] e l env = pure false := by
  rw [show swapsWithSole [t] e l env = swapsWith e (some t) l env from rfl]
  exact swaps_ok h _ _ _
theorem stores_sub (a i e : Expr) (p : Pos) (env : PySem.Env) : swappedStores [.Subscript a i p] e env = pure none := rfl
theorem assign_sub {i : Expr} (h : notSlice i = true) (o : Expr) (sp : Pos) (env : PySem.Env) : ∀ v, assign (.Subscript o i sp) env v = (do
      let ov ← holding [v] (eval o env)
      let iv ← holding [v, ov] (eval i env)
      standAt sp
      holding [v, ov, iv] (setItem ov iv v)
      release [v, ov, iv] []) := fun v => by
  cases i <;> first | rfl | cases h
def mkAsg {x : Str} {p pos : Pos} {e : Expr} (r : SE g e) : Option (SS g (.Assign [.Name x p] e pos)) :=
  if hs : notComp e = true then
    match bndN g x with
    | some ⟨i, n⟩ => some ⟨.asg i r.1, fun xt X W C h _ => es_asg h.ND (h.bnd n).1 (h.bnd n).2.1 (r.2 xt X W C h) (swaps_ok hs _ _ _) (h.bnd n).2.2⟩
    | none => none
  else none
def mkAsgLc {x : Str} {py spos pos : Pos} {elt tg iter : Expr} {ifs : List Expr} {scope : Scope} (P : LcP g elt tg iter ifs scope) : Option (SS g (.Assign [.Name x py] (.ListComp elt [⟨tg, iter, ifs, 0⟩] scope pos) spos)) :=
  if hs : g.sc.names.lookup x = some .local ∧ (py.line == pos.line) = true ∧ (scope.names.any fun (n, k) => n == x && (k == .local || k == .cell)) = false then
    match bndN g x with
    | some ⟨i, n⟩ => some ⟨.asg i (.lc P.el.1 P.t.1.2 P.t.1.1 P.it.1 P.cond.1), fun xt X W C h ho => by
        have hl : X.env.scope.names.lookup x = some .local := by
          rcases h.scl _ _ hs.1 with z | ⟨z, _⟩
          · exact z
          · cases z
        exact es_setLc h.calm h.ND (h.bnd n).1 hl (sw_true ho.kind hl hs.2.1 hs.2.2) (P.it.2 xt X W C h) (blk_g h P.ok) (own_ix _ _)
          (fun s H Ca cl fp => P.t.2 xt _ WF C (h.blk scope s H Ca cl fp)) (fun s H Ca cl fp => P.cond.2 xt _ WF C (h.blk scope s H Ca cl fp)) (fun s H Ca cl fp => P.el.2 xt _ WF C (h.blk scope s H Ca cl fp)) (folded_ok P.ns _)⟩
    | none => none
  else none
def mkAsgT {es : List Expr} {k : Nat} {p pos : Pos} {e : Expr} (r : SE g e) : Option (SS g (.Assign [.Tuple es k p] e pos)) :=
  if hs : notComp e = true ∧ notTup e = true then
    match bndNs g es with
    | some ⟨q, eq, hq⟩ => some ⟨.asgT q.2 r.1, fun xt X W C h _ => by
        subst eq
        exact es_asgT h.calm h.ND (Paired.mapP hq fun _ _ z => h.bnd z) (r.2 xt X W C h) (asg_names _ hq).1 (asg_names _ hq).2 (sole_ok hs.1 _ _ _) (stores_tup hs.2 _ _ _ _) rfl⟩
    | none => none
  else none
def mkSet {x : Str} {j e : Expr} {p sp pos : Pos} (rj : SE g j) (r : SE g e) : Option (SS g (.Assign [.Subscript (.Name x p) j sp] e pos)) :=
  if hs : notComp e = true ∧ notSlice j = true then
    match locN g x with
    | some ⟨i, n⟩ => some ⟨.setI i rj.1 r.1, fun xt X W C h _ => es_setI h.hu (h.ix n) (h.vis n) n.d1 n.d2 (rj.2 xt X W C h) (r.2 xt X W C h) (assign_sub hs.2 _ _ _) (sole_ok hs.1 _ _ _) (stores_sub _ _ _ _ _) rfl⟩
    | none => none
  else none
mutual
def trS (g : TG0) : Nat → (s : Stmt) → Option (SS g s)
  | 0, _ => none
  | n + 1, s => match trS0 g n s with
    | some r => some r
    | none => some ⟨.stk, fun xt X W C _ _ => es_stk⟩
def trS0 (g : TG0) : Nat → (s : Stmt) → Option (SS g s)
  | 0, _ => none
  | n + 1, s => match s with
    | .Pass p => some ⟨.pass, fun xt X W C h _ => es_pass⟩
    | .Break p => some ⟨.brk, fun xt X W C h _ => es_brk⟩
    | .Continue p => some ⟨.cont, fun xt X W C h _ => es_cont⟩
    | .Expr (.Constant (.str x) j p) p' => some ⟨.pass, fun xt X W C h _ => es_doc⟩
    | .Expr e p => match trE g n e with
      | some r => if hs : notComp e = true then some ⟨.ex r.1, fun xt X W C h _ => es_ex (r.2 xt X W C h) (swaps_ok hs _ _ _)⟩ else none
      | none => none
    | .Return none p => some ⟨.retN, fun xt X W C h _ => es_retN⟩
    | .Return (some e) p => match trE g n e with
      | some r => some ⟨.ret r.1, fun xt X W C h _ => es_ret (r.2 xt X W C h)⟩
      | none => none
    | .Assign [.Name x py] (.ListComp elt [⟨tg, iter, ifs, 0⟩] scope pos) spos => match trL g n elt tg iter ifs scope with
      | some r => mkAsgLc r
      | none => none
    | .Assign [.Name x p] e pos => match trE g n e with
      | some r => mkAsg r
      | none => none
    | .Assign [.Tuple es k p] e pos => match trE g n e with
      | some r => mkAsgT r
      | none => none
    | .Assign [.Subscript (.Name x p) j sp] e pos => match trE g n j, trE g n e with
      | some rj, some r => mkSet rj r
      | _, _ => none
    | .If c a b p => match trT g n c, trSs g n a, trSs g n b with
      | some rc, some ra, some rb => some ⟨.ifs rc.1 ra.1 rb.1, fun xt X W C h ho => es_if (rc.2 xt X W C h) (ra.2 xt X W C h ho) (rb.2 xt X W C h ho)⟩
      | _, _, _ => none
    | .For tg iter body [] p => match trTg g tg, trI g n tg iter, trSs g n body with
      | some t, some i, some b => if hs : notSet iter = true then some ⟨.for_ t.1.2 t.1.1 i.1 b.1, fun xt X W C h ho => es_for ho.own h.calm (i.2 xt X W C h) (t.2 xt X W C h) (b.2 xt X W C h ho) (folded_ok hs _)⟩ else none
      | _, _, _ => none
    | .While c body [] p => match trT g n c, trSs g n body with
      | some rc, some b => some ⟨.whl rc.1 b.1, fun xt X W C h ho => es_while ho.own (rc.2 xt X W C h) (b.2 xt X W C h ho)⟩
      | _, _ => none
    | _ => none
def trSs (g : TG0) : Nat → (s : List Stmt) → Option (SSs g s)
  | 0, _ => none
  | n + 1, s => match s with
    | [] => some ⟨.nil, fun xt X W C h _ => ess_nil⟩
    | s :: ss => match trS g n s, trSs g n ss with
      | some r, some q => some ⟨.cons r.1 q.1, fun xt X W C h ho => ess_cons (r.2 xt X W C h ho) (q.2 xt X W C h ho)⟩
      | _, _ => none
end
end Mp
namespace Mp
open PySem PySem.Spec PyProof.Rows L2
/-- a def: its name, its text, its parameters, its slots -/
structure DefI where
  x : Str
  st : Stmt
  ps : List Str
  N : List Str
  k : Nat
  ds : List Str := []
/-- a constant: its name, what it is, its number -/
structure CsI where
  x : Str
  d : D
  k : Nat
def fuel : Nat := 400
/-- a module: its defs, its constants, the names that are unbound at its top -/
structure Modl where
  defs : List DefI
  cs : List CsI
  nos : List Str
def Modl.look (M : Modl) (i : Nat) : Option DefI := M.defs.find? fun d => d.k == i
def Modl.lookC (M : Modl) (i : Nat) : Option CsI := M.cs.find? fun d => d.k == i
theorem look_mem {M : Modl} {i : Nat} {d : DefI} (h : M.look i = some d) : d ∈ M.defs := List.mem_of_find?_eq_some h
theorem lookC_mem {M : Modl} {i : Nat} {d : CsI} (h : M.lookC i = some d) : d ∈ M.cs := List.mem_of_find?_eq_some h
def Modl.fns (M : Modl) : List (Str × Nat) := M.defs.filterMap fun d => (M.look d.k).map fun d' => (d'.x, d.k)
def Modl.css (M : Modl) : List (Str × Nat) := M.cs.filterMap fun d => (M.lookC d.k).map fun d' => (d'.x, d.k)
theorem fns_at {M : Modl} {p : Str × Nat} (h : p ∈ M.fns) : ∃ d, M.look p.2 = some d ∧ d.x = p.1 := by
  obtain ⟨d, _, e⟩ := List.mem_filterMap.mp h
  cases q : M.look d.k with
  | none => rw [q] at e; cases e
  | some d' => rw [q] at e; cases e; exact ⟨d', q, rfl⟩
theorem css_at {M : Modl} {p : Str × Nat} (h : p ∈ M.css) : ∃ d, M.lookC p.2 = some d ∧ d.x = p.1 := by
  obtain ⟨d, _, e⟩ := List.mem_filterMap.mp h
  cases q : M.lookC d.k with
  | none => rw [q] at e; cases e
  | some d' => rw [q] at e; cases e; exact ⟨d', q, rfl⟩
def Modl.g (M : Modl) (d : DefI) : TG0 := ⟨d.N, defScope d.st, M.fns, M.css, M.nos, d.ds⟩
def Modl.fd (M : Modl) (d : DefI) : Option Fd := (trSs (M.g d) fuel (defBody d.st)).map fun r => ⟨d.ps.length, d.N.length, r.1⟩
def Modl.pg (M : Modl) : Pg := ⟨fun i => (M.look i).bind M.fd, fun i => (M.lookC i).map (·.d), rpK⟩
/-- a def's scope is as it must be -/
def fsC (N P : List Str) (sc : Scope) : Bool :=
  (match sc.kind with | .function => true | _ => false) && !sc.isCoroutine && !sc.isGenerator && decide N.Nodup && decide (N.take P.length = P) && (P.all fun x => decide (sc.names.lookup x = some .local) || decide (sc.names.lookup x = some .cell)) && (sc.names.all fun y => match y.2 with | .free => false | _ => true)
theorem fsC_ok {N P : List Str} {sc : Scope} (h : fsC N P sc = true) : FnScope N P sc := by
  unfold fsC at h
  simp only [Bool.and_eq_true, decide_eq_true_eq, Bool.not_eq_true', List.all_eq_true, Bool.or_eq_true] at h
  obtain ⟨⟨⟨⟨⟨⟨h1, h2⟩, h3⟩, h4⟩, h5⟩, h6⟩, h7⟩ := h
  refine ⟨?_, h2, h3, h4, h5, h6, fun y hy e => ?_⟩
  · split at h1
    · assumption
    · cases h1
  · have := h7 y hy
    rw [e] at this
    cases this
/-- what the top has written of a def, of a constant -/
structure DefAt (K : KW) (mg : Str → Option Value) (d : DefI) : Prop where
  at_ : ∃ f fd, Fun K d.x d.x d.st f fd ∧ mg d.x = some (.ref f) ∧ Binds K fd d.ps []
def CsAt (K : KW) (mg : Str → Option Value) (c : CsI) : Prop := ∃ (v : V) (u : Value), mg c.x = some u ∧ RelV v u ∧ Rp K (fun _ => none) v c.d
structure Top (M : Modl) (K : KW) (mg : Str → Option Value) : Prop where
  defs : ∀ d ∈ M.defs, DefAt K mg d ∧ fsC d.N d.ps (defScope d.st) = true
  cs : ∀ c ∈ M.cs, CsAt K mg c
  nos : ∀ x ∈ M.nos, mg x = none
/-! ### a call's frame -/
theorem keep_len : ∀ {as bs : List Sl}, as.length ≤ bs.length → (keepSh as bs).length = as.length
  | [], _, _ => by cases ‹List Sl› <;> rfl
  | a :: as, [], h => by simp at h
  | a :: as, b :: bs, h => by
    have := keep_len (as := as) (bs := bs) (by simpa using h)
    cases a <;> simp [keepSh, this]
theorem keep_at {i : Nat} : ∀ {as bs : List Sl}, as.length ≤ bs.length → ∀ {a : Sl}, as[i]? = some a → (isSh a = true → (keepSh as bs)[i]? = some a) ∧ (isSh a = false → (keepSh as bs)[i]? = bs[i]?)
  | [], _, _, a, h => by simp at h
  | a :: as, [], h, _, _ => by simp at h
  | x :: as, b :: bs, hl, a, h => by
    cases i with
    | zero =>
      have e : x = a := by simpa using h
      subst e
      cases x <;> simp [keepSh, isSh]
    | succ i =>
      have := keep_at (i := i) (as := as) (bs := bs) (by simpa using hl) (a := a) (by simpa using h)
      cases x <;> simpa [keepSh] using this
section
variable {K : KW} {vs : List V} {args : List Sl} {H H' : Hp} {F F' : Nat → FP} {T R : FP} {N : List Str} {ρ' : Env} {σ' : L2.St}
theorem start_get {i : Nat} {v : V} (h : (vs.map some)[i]? = some (some v)) : (L2.start N vs)[i]? = some (some v) := by
  unfold L2.start
  rw [List.getElem?_append_left (List.getElem?_eq_some_iff.mp h).1]
  exact h
theorem En.enter (E : En K noLk (vs.map some) args H F T) (hl : vs.length ≤ N.length) : En K noLk (L2.start N vs) (args ++ List.replicate (N.length - args.length) .un) H F T := by
  have l := E.len
  rw [List.length_map] at l
  refine ⟨?_, fun i s e => ?_, fun i a hi z => E.out i a ?_ z, E.dis, E.tdis, E.tl, E.lks⟩
  · unfold L2.start
    rw [List.length_append, List.length_append, List.length_map, List.length_replicate, List.length_replicate, l]
  · by_cases hi : i < args.length
    · rw [List.getElem?_append_left hi] at e
      exact (E.at_ i s e).imp id fun ⟨v, z1, z2⟩ => ⟨v, start_get z1, z2⟩
    · rw [List.getElem?_append_right (by omega)] at e
      refine .inl ⟨?_, fun a => E.out i a (by omega)⟩
      rw [List.getElem?_replicate] at e
      split at e
      · cases e; rfl
      · cases e
  · rw [List.length_append] at hi; omega
/-- the footprints that a caller sees behind -/
def exF (args : List Sl) (F' : Nat → FP) : Nat → FP := fun i => if args[i]?.map isSh = some false then F' i else fun _ => False
theorem exF_sub {args : List Sl} : ∀ i a, exF args F' i a → F' i a := fun i a z => by
  unfold exF at z
  split at z
  · exact z
  · exact z.elim
theorem En.exit (E : En K noLk (vs.map some) args H F T) (st : Stp (U F) H (U F') H') (E' : En K noLk σ' ρ' H' F' (fun a => T a ∨ R a)) (kp : Kept (wrOf args) (L2.start N vs) σ') (new : ∀ a, R a → U F a ∨ H a = Option.none) (hl : vs.length ≤ N.length) :
    En K noLk (vs.map some) (keepSh args ρ') H' (exF args F') (fun a => T a ∨ R a) := by
  have l := E.len
  rw [List.length_map] at l
  have l2 : args.length ≤ ρ'.length := by
    have e1 := E'.len
    have e2 := kp.len
    unfold L2.start at e2
    rw [List.length_append, List.length_map, List.length_replicate] at e2
    omega
  have sub : ∀ a, hS (exF args F') (fun a => T a ∨ R a) a → hS F' (fun a => T a ∨ R a) a := fun a z => z.imp (fun ⟨j, q⟩ => ⟨j, exF_sub j a q⟩) id
  refine ⟨by rw [List.length_map, keep_len l2]; exact l, fun i s e => ?_, fun i a hi z => ?_, fun i j a z1 z2 => E'.dis i j a (exF_sub i a z1) (exF_sub j a z2), fun a z ⟨i, w⟩ => E'.tdis a z ⟨i, exF_sub i a w⟩, E'.tl, E'.lks⟩
  · have hi : i < args.length := by
      have := (List.getElem?_eq_some_iff.mp e).1
      rw [keep_len l2] at this
      exact this
    have ea : args[i]? = some args[i] := List.getElem?_eq_getElem hi
    obtain ⟨k1, k2⟩ := keep_at l2 ea
    have hv : ∃ v, (vs.map some)[i]? = some (some v) := by
      have : i < vs.length := by omega
      exact ⟨vs[i], by rw [List.getElem?_map, List.getElem?_eq_getElem this]; rfl⟩
    cases hs : isSh args[i] with
    | true =>
      have eF : exF args F' i = fun _ => False := by
        unfold exF
        rw [ea, if_neg (by rw [Option.map_some, hs]; intro z; cases z)]
      rw [k1 hs] at e
      cases e
      rw [eF]
      cases q : args[i] with
      | sh d =>
        rcases E.at_ i _ ea with ⟨z, _⟩ | ⟨v, z1, z2⟩
        · rw [q] at z; cases z
        · rw [q] at z2
          generalize F i = G at z2
          cases z2 with | sh g =>
          exact .inr ⟨v, z1, .sh (Rp.mono (hid_anti sub) _ _ (Rp.step g (st.held new)))⟩
      | _ => rw [q] at hs; cases hs
    | false =>
      have eF : exF args F' i = F' i := by
        unfold exF
        rw [ea, if_pos (by rw [Option.map_some, hs])]
      rw [k2 hs] at e
      rw [eF]
      have hw : wrOf args i = false := by
        unfold wrOf
        rw [ea]
        exact hs
      obtain ⟨v0, hv0⟩ := hv
      refine (E'.at_ i s e).imp id fun ⟨v, z1, z2⟩ => ⟨v, ?_, z2.mono (hid_anti sub) fun _ _ _ z => z⟩
      rw [kp.at_ i hw, start_get hv0] at z1
      rw [hv0]
      exact z1
  · rw [keep_len l2] at hi
    unfold exF at z
    rw [List.getElem?_eq_none hi] at z
    exact z.elim
end
theorem callM_pk {P : Pg} {wf n i : Nat} {args a' : List Sl} {r : Sl} (h : callM P wf n i args = .ok (r, a')) : isPk r = false := by
  cases n with
  | zero => cases h
  | succ n =>
    simp only [callM] at h
    split at h
    · cases h
    · split at h
      · split at h
        · split at h
          · cases h
          · rename_i hp
            cases h
            exact Bool.eq_false_iff.mpr hp
        · cases h; rfl
        · cases h
        · cases h
      · cases h
theorem callM_len {P : Pg} {wf n i : Nat} {args : List Sl} {d : Fd} (hd : ∀ d', P.fn i = some d' → d'.np = d.np) (h : args.length ≠ d.np) : callM P wf n i args = .stuck := by
  cases n with
  | zero => rfl
  | succ n =>
    simp only [callM]
    split
    · rfl
    · rename_i d' e
      rw [if_neg fun z => h (z.1.trans (hd d' e))]
theorem fd_np {M : Modl} {i : Nat} {d : DefI} (hi : M.look i = some d) : ∀ d', M.pg.fn i = some d' → d'.np = d.ps.length ∧ d'.ns = d.N.length ∧ ∃ r, trSs (M.g d) fuel (defBody d.st) = some r ∧ d'.body = r.1 := fun d' h => by
  have h : (M.look i).bind M.fd = some d' := h
  rw [hi] at h
  have h : M.fd d = some d' := h
  unfold Modl.fd at h
  cases q : trSs (M.g d) fuel (defBody d.st) with
  | none => rw [q] at h; cases h
  | some r => rw [q] at h; cases h; exact ⟨rfl, rfl, r, rfl, rfl⟩
/-- levels below the defs (for what is made when an exception is raised) -/
def base0 : Nat := 4
section
variable {K : KW} {mg : Str → Option Value} {base : Heap} {xt : XT} {wf : Nat} {M : Modl}
/-- every def holds the own interpreter's promise -/
theorem all_ok (T : Top M K mg) : ∀ (n i : Nat) (d : DefI), M.look i = some d → ∀ (f : Addr) (fd : FuncData), Fun K d.x d.x d.st f fd → FnG K.pr K.wd K.fr mg base (L2.CX K.pr K.wd) (n + base0) f fd d.ps (spF xt K d.ps.length (callM M.pg wf n i))
  | 0, i, d, hi, f, fd, F => ⟨fun vs H Q E h => h.1, fun A outer s H args us vs Q E gd hr e0 hb r h => by
      obtain ⟨_, as, F', T', _, h⟩ := h
      exact h.elim⟩
  | n + 1, i, d, hi, f, fd, F => by
    have hT := T.defs d (look_mem hi)
    have S := fsC_ok hT.2
    rw [show n + 1 + base0 = (n + base0) + 1 from by omega]
    refine fn_g F S (fun vs H Q E h => h.1) (fun cdv A outer s H vs Q E gd hr h => ?_)
    obtain ⟨hlen, args, F0, T0, E0, h⟩ := h
    have la := E0.len
    rw [List.length_map] at la
    simp only [callM] at h
    cases hfn : M.pg.fn i with
    | none => rw [hfn] at h; exact h.elim
    | some d' =>
      rw [hfn] at h
      obtain ⟨e1, e2, r, hr', e3⟩ := fd_np hi d' hfn
      dsimp only at h
      by_cases hc : args.length = d'.np ∧ args.any isPk = false ∧ d'.np ≤ d'.ns
      · rw [if_pos hc] at h
        have hN : vs.length ≤ d.N.length := by omega
        rw [e3, e2, ← hc.1] at h
        refine ⟨tSs xt K (fun cls d _ H => E cls d H) ⟨callM M.pg wf n, M.pg.gl, wrOf args, wf, M.pg.rp⟩ r.1, ?_, ?_⟩
        · refine r.2 xt _ (fun cls d _ H => E cls d H) ⟨callM M.pg wf n, M.pg.gl, wrOf args, wf, M.pg.rp⟩ ⟨rfl, rfl, S.nd, fun x k e => .inl e, ?_, T.nos, fun p hp => ?_, fun p hp => ?_, takes_of rfl rfl rfl rfl, gd, fun _ _ => rfl, fun _ _ e => e⟩ ⟨passes_of rfl, S.kind⟩
          · have := hr.un
            show (A.deeper _).units + 66 < cLine
            omega
          · obtain ⟨d2, q, ex⟩ := fns_at hp
            · obtain ⟨⟨f2, fd2, F2, m2, b2⟩, _⟩ := T.defs d2 (look_mem q)
              refine ⟨f2, fd2, d2.ps, n + base0, all_ok T n p.2 d2 q f2 fd2 F2, hr, by rw [← ex]; exact m2, F2.kp, b2, fun args hl => ?_, fun args r a' e => callM_pk e⟩
              exact callM_len (d := ⟨d2.ps.length, 0, .nil⟩) (fun d3 h3 => (fd_np q d3 h3).1) hl
          · obtain ⟨c, q, ex⟩ := css_at hp
            · obtain ⟨v, u, h1, h2, h3⟩ := T.cs c (lookC_mem q)
              refine ⟨v, u, by rw [← ex]; exact h1, h2, fun d e => ?_⟩
              have e : (M.lookC p.2).map (·.d) = some d := e
              rw [q] at e
              cases e
              exact h3
        · refine ⟨_, F0, T0, noLk, E0.enter hN, ?_⟩
          cases hx : exSs ⟨callM M.pg wf n, M.pg.gl, wrOf args, wf, M.pg.rp⟩ r.1 (args ++ List.replicate (d.N.length - args.length) .un) with
          | stuck => rw [hx] at h; exact h.elim
          | exc c ds ρ' =>
            rw [hx] at h
            intro σ' cls dd H' F' E' st kp x
            have E3 := E0.exit (R := fun _ => False) st E'.none kp (fun _ z => z.elim) hN
            exact h cls dd H' _ (E3.drop fun _ _ _ z => by cases z) ⟨st.keep, st.dom, fun a ⟨j, z⟩ => st.sub a ⟨j, exF_sub j a z⟩⟩ (x.anti fun a z => z.imp (fun ⟨j, q⟩ => ⟨j, exF_sub j a q⟩) id)
          | ok z =>
            obtain ⟨fl, ρ'⟩ := z
            rw [hx] at h
            intro σ' H' F' E' st kp
            have st' : Stp (U F0) H (U (exF args F')) H' := ⟨st.keep, st.dom, fun a ⟨j, z⟩ => st.sub a ⟨j, exF_sub j a z⟩⟩
            cases fl with
            | bk => exact h.elim
            | ct => exact h.elim
            | nx =>
              obtain ⟨_, h⟩ := h
              have E3 := E0.exit (R := fun _ => False) st E'.none kp (fun _ z => z.elim) hN
              exact h .non H' _ (fun _ => False) E3 (Re.of (.sh .non) fun _ z => z.elim) st' fun _ z => z.elim
            | rt s2 =>
              intro v R E2 re new
              dsimp only at h
              by_cases hp : isPk s2 = true
              · rw [if_pos hp] at h; exact h.elim
              · rw [if_neg hp] at h
                obtain ⟨_, h⟩ := h
                have E3 := E0.exit st E2 kp new hN
                have np : ∀ j, s2 ≠ .pk j := fun j z => hp (by rw [z]; rfl)
                obtain ⟨g, dj⟩ := re.own np
                have sub : ∀ a, hS (exF args F') T0 a → hS F' T0 a := fun a z => z.imp (fun ⟨j, q⟩ => ⟨j, exF_sub j a q⟩) id
                exact h v H' _ R E3 (Re.of (g.mono (hid_anti fun a z => z.imp (sub a) id) fun _ _ _ z => z) fun a z w => dj a z (sub a w)) st' new
      · rw [if_neg hc] at h; exact h.elim
end
end Mp
namespace Mp
open PySem PySem.Spec PyProof.Rows L2
section
variable {P : Program} {w : World} {K : PySem.W.Frag} {mg : Str → Option Value} {h : Heap}
theorem def_at {d : DefI} {f : Addr} {oc kV dc pm cd ct : Value} {od an : Option Addr} {sl : Array (Option Value)} (X : K.In h) (G : h.Ns mainGlobals mg) (a : PySem.W.nsIn K mainGlobals d.x = some (some (.ref f)))
    (l : K.lookup f = some ⟨oc, od, .func (PySem.W.fnOf d.x d.x (defArgs d.st) (defBody d.st) (defScope d.st) .none kV dc pm an cd ct), sl⟩) (c : PySem.W.codeIn K cd d.x = true) (k : PySem.W.keepIn K (.ref f) = true)
    (b : ∀ (kV doc pm : Value) (an : Option Addr) (cdv ct : Value) (us : List Value), us.length = d.ps.length → bindArgs (PySem.W.fnOf d.x d.x (defArgs d.st) (defBody d.st) (defScope d.st) .none kV doc pm an cdv ct) ⟨us, []⟩ = pure (d.ps.zip us)) : DefAt ⟨K, P, w⟩ mg d :=
  have F := fun_mk (st := d.st) l c k
  ⟨f, _, F, PySem.W.mg_of X G a, F.binds b⟩
theorem cs_at {x : Str} {d : D} {k : Nat} {u : Value} {v : V} (X : K.In h) (G : h.Ns mainGlobals mg) (a : PySem.W.nsIn K mainGlobals x = some (some u)) (r : RelV v u) (g : Rp ⟨K, P, w⟩ (fun _ => none) v d) : CsAt ⟨K, P, w⟩ mg ⟨x, d, k⟩ := ⟨v, u, PySem.W.mg_of X G a, r, g⟩
theorem tup_at {x : Str} {ds : List D} {k : Nat} {ad : Addr} {od : Option Addr} {its : Array Value} {n : Nat} {sl : Array (Option Value)} {xs : List V} (X : K.In h) (G : h.Ns mainGlobals mg) (a : PySem.W.nsIn K mainGlobals x = some (some (.ref ad)))
    (l : K.lookup ad = some ⟨.type "tuple", od, .seq its n, sl⟩) (s : its.size ≤ sizeLine) (r : Vals xs its.toList) (g : Rps ⟨K, P, w⟩ (fun _ => none) xs ds) : CsAt ⟨K, P, w⟩ mg ⟨x, .tup ds, k⟩ :=
  ⟨.ref ad, .ref ad, PySem.W.mg_of X G a, rfl, .tup (.inr ⟨_, its, n, l, rfl, rfl, s, r⟩) g⟩
theorem no_at {x : Str} (X : K.In h) (G : h.Ns mainGlobals mg) (a : PySem.W.nsIn K mainGlobals x = some none) : mg x = none := PySem.W.mg_none_of X G a
/-- the law's def, for the head -/
theorem law_at {M : Modl} (T : Top M ⟨K, P, w⟩ mg) {i : Nat} {d : DefI} {fa : Addr} {x : Str} {n wf : Nat} (hi : M.look i = some d) (hx : d.ps = [x]) (hfa : mg d.x = some (.ref fa))
    (b : ∀ (kV doc pm : Value) (an : Option Addr) (cdv ct : Value) (u : Value), bindArgs (PySem.W.fnOf d.x d.x (defArgs d.st) (defBody d.st) (defScope d.st) .none kV doc pm an cdv ct) ⟨[u], []⟩ = pure [(x, u)]) :
    ∃ fd : FuncData, (∀ (s : Shared) (u : Value), BindsTo s fd ⟨[u], []⟩ [(x, u)]) ∧ ∀ base : Heap, K.In base → base.Ns mainGlobals mg → FnG P w K mg base (L2.CX P w) (n + base0) fa fd [x] (spF (fun _ => none) ⟨K, P, w⟩ 1 (callM M.pg wf n i)) := by
  obtain ⟨⟨f, fd, F, m, _⟩, _⟩ := T.defs d (look_mem hi)
  have ef : f = fa := by
    rw [m] at hfa
    exact Value.ref.inj (Option.some.inj hfa)
  subst ef
  refine ⟨fd, fun s u => ?_, fun base _ _ => ?_⟩
  · obtain ⟨oc, od, kV, doc, pm, an, cdv, ct, osl, rfl, lk, hcd⟩ := F.ex
    exact .of_eq (b kV doc pm an cdv ct u)
  · have := all_ok (base := base) (xt := fun _ => none) (wf := wf) T n i d hi f fd F
    rw [hx] at this
    exact this
theorem rps_ints' {K : KW} {H : Hp} : ∀ ns : List Int, Rps K H (ns.map V.int) (ns.map D.int)
  | [] => .nil
  | n :: ns => .cons (.int n) (rps_ints' ns)
/-- the law's end: the own interpreter's run gives True -/
theorem law_sp {M : Modl} {i n wf : Nat} {H : Hp} {a : Addr} {ns : List Int} (hSq : SqL K H a (ns.map V.int)) (h : ∃ a', callM M.pg wf n i [.sh (.kl (ns.map D.int))] = .ok (.sh (.bl true), a')) :
    spF (fun _ => none) ⟨K, P, w⟩ 1 (callM M.pg wf n i) [.ref a] H (fun v _ => v = .bl true) fun _ _ _ => False := by
  obtain ⟨a', e⟩ := h
  refine ⟨rfl, [.sh (.kl (ns.map D.int))], fun _ _ => False, fun _ => False, ⟨rfl, fun j s e => ?_, fun _ _ _ z => z, fun _ _ _ z => z.elim, fun _ z => z.elim, fun _ z => z.elim, fun _ _ _ z => by cases z⟩, ?_⟩
  · cases j with
    | zero =>
      cases e
      have eh : hid (hS (fun _ _ => False) fun _ => False) H = H := by
        funext b
        unfold hid
        rw [if_neg]
        rintro (⟨_, z⟩ | z)
        · exact z
        · exact z
      rw [eh]
      exact .inr ⟨_, rfl, .sh (.kl hSq (rps_ints' ns))⟩
    | succ j => simp at e
  · rw [e]
    refine ⟨rfl, fun v H' F' R E re st new => ?_⟩
    have g := (re.own (by intro j z; cases z)).1
    cases g with | sh g => cases g; rfl
theorem cx_no {outer : List PySem.Env} {H : Hp} {s : Shared} {e : Value} {s' : Shared} (h : L2.CX P w outer H s (fun _ _ _ => False) e s') : False := by
  obtain ⟨_, _, _, _, _, _, _, _, _, _, _, _, z⟩ := h
  exact z
end
end Mp
namespace Mp
/-- a run ends well, and with what -/
def Y {α : Type} (r : Z α) (P : α → Prop) : Prop := ∃ a, r = .ok a ∧ P a
theorem Y.ok {α : Type} {a : α} {P : α → Prop} (h : P a) : Y (.ok a) P := ⟨a, rfl, h⟩
theorem Y.bind {α β : Type} {r : Z α} {f : α → Z β} {P : β → Prop} (h : Y r fun a => Y (f a) P) : Y (r.bind f) P := by
  obtain ⟨a, rfl, h⟩ := h
  exact h
theorem Y.of {α : Type} {o : Option α} {P : α → Prop} {a : α} (e : o = some a) (h : P a) : Y (Z.of o) P := ⟨a, by rw [e]; rfl, h⟩
theorem Y.mono {α : Type} {r : Z α} {P Q : α → Prop} (h : Y r P) (k : ∀ a, P a → Q a) : Y r Q := by
  obtain ⟨a, e, p⟩ := h
  exact ⟨a, e, k a p⟩
@[simp] theorem bind_ok_eq {α β : Type} (a : α) (f : α → Z β) : (Z.ok a).bind f = f a := rfl
@[simp ↓] theorem bind_ok_pre {α β : Type} (a : α) (f : α → Z β) : (Z.ok a).bind f = f a := rfl
@[simp ↓] theorem of_pre {α β : Type} (a : α) (f : α → Z β) : (Z.of (some a)).bind f = f a := rfl
@[simp] theorem of_some {α : Type} (a : α) : Z.of (some a) = .ok a := rfl
theorem fmod_pos (a : Int) {m : Int} (h : 0 < m) : 0 ≤ a.fmod m ∧ a.fmod m < m := by
  rw [Int.fmod_eq_emod_of_nonneg _ (by omega)]
  exact ⟨Int.emod_nonneg _ (by omega), Int.emod_lt_of_pos _ h⟩
theorem fdiv_pos {a m : Int} (h : 0 < m) (ha : 0 ≤ a) : 0 ≤ a.fdiv m := by
  rw [Int.fdiv_eq_ediv_of_nonneg _ (by omega)]
  exact Int.ediv_nonneg ha (by omega)
@[simp] theorem get0 (s : Sl) (ρ : Env) : Env.get (s :: ρ) 0 = s := rfl
@[simp] theorem get1 (a s : Sl) (ρ : Env) : Env.get (a :: s :: ρ) 1 = s := rfl
@[simp] theorem get2 (a b s : Sl) (ρ : Env) : Env.get (a :: b :: s :: ρ) 2 = s := rfl
@[simp] theorem get3 (a b c s : Sl) (ρ : Env) : Env.get (a :: b :: c :: s :: ρ) 3 = s := rfl
@[simp] theorem get4 (a b c d s : Sl) (ρ : Env) : Env.get (a :: b :: c :: d :: s :: ρ) 4 = s := rfl
@[simp] theorem get5 (a b c d e s : Sl) (ρ : Env) : Env.get (a :: b :: c :: d :: e :: s :: ρ) 5 = s := rfl
@[simp] theorem get6 (a b c d e f s : Sl) (ρ : Env) : Env.get (a :: b :: c :: d :: e :: f :: s :: ρ) 6 = s := rfl
@[simp] theorem get7 (a b c d e f g s : Sl) (ρ : Env) : Env.get (a :: b :: c :: d :: e :: f :: g :: s :: ρ) 7 = s := rfl
/-- a for's turns: I by the turn, before each; nothing leaves -/
theorem for_run {bd : D → Env → Option Env} {body : Env → Z (Fl × Env)} (I : Nat → Env → Prop) : ∀ (ds : List D) (k : Nat) (ρ : Env), I k ρ →
    (∀ i d ρ, ds[i]? = some d → I (k + i) ρ → ∃ ρ1, bd d ρ = some ρ1 ∧ Y (body ρ1) fun r => (r.1 = .nx ∨ r.1 = .ct) ∧ I (k + i + 1) r.2) → Y (forL bd body ds ρ) fun r => r.1 = .nx ∧ I (k + ds.length) r.2
  | [], k, ρ, h, _ => ⟨_, rfl, rfl, h⟩
  | d :: ds, k, ρ, h, step => by
    obtain ⟨ρ1, e1, ⟨fl, ρ2⟩, e2, hf, h2⟩ := step 0 d ρ rfl h
    have ih := for_run I ds (k + 1) ρ2 h2 fun i d' ρ' hi h' => by
      have := step (i + 1) d' ρ' (by simpa using hi) (by rw [show k + (i + 1) = k + 1 + i from by omega]; exact h')
      rw [show k + (i + 1) = k + 1 + i from by omega] at this
      exact this
    simp only [forL, e1, of_some, bind_ok_eq, e2]
    rw [show k + (d :: ds).length = k + 1 + ds.length from by simp; omega]
    rcases hf with rfl | rfl
    · exact ih
    · exact ih
/-- a comprehension's turns: f what is taken -/
theorem lc_run {wp : Env → Env} {bd : D → Env → Option Env} {cd : Env → Z (Bool × Env)} {el : Env → Z (D × Env)} (I : Env → Prop) (f : D → Option D) : ∀ (ds : List D) (ρ : Env) (acc : List D), I ρ → acc.length + ds.length ≤ LIM →
    (∀ d ∈ ds, ∀ ρ, I ρ → ∃ ρ1 ρ2 b, bd d (wp ρ) = some ρ1 ∧ cd ρ1 = .ok (b, ρ2) ∧ ((b = true ∧ ∃ v ρ3, f d = some v ∧ el ρ2 = .ok (v, ρ3) ∧ I ρ3) ∨ (b = false ∧ f d = none ∧ I ρ2))) →
    ∃ ρ', lcL wp bd cd el ds ρ acc = .ok (acc ++ ds.filterMap f, ρ') ∧ I ρ'
  | [], ρ, acc, h, _, _ => ⟨ρ, by simp [lcL], h⟩
  | d :: ds, ρ, acc, h, hl, step => by
    simp only [List.length_cons] at hl
    obtain ⟨ρ1, ρ2, b, e1, e2, ⟨rfl, v, ρ3, e3, e4, h3⟩ | ⟨rfl, e3, h3⟩⟩ := step d List.mem_cons_self ρ h
    · obtain ⟨ρ', e5, h5⟩ := lc_run I f ds ρ3 (acc ++ [v]) h3 (by simp; omega) fun d' hd => step d' (List.mem_cons_of_mem _ hd)
      refine ⟨ρ', ?_, h5⟩
      simp only [lcL, e1, of_some, bind_ok_eq, e2, if_true, e4]
      rw [if_pos (show acc.length < LIM by omega), e5, List.filterMap_cons, e3]
      simp
    · obtain ⟨ρ', e5, h5⟩ := lc_run I f ds ρ2 acc h3 (by omega) fun d' hd => step d' (List.mem_cons_of_mem _ hd)
      refine ⟨ρ', ?_, h5⟩
      simp only [lcL, e1, of_some, bind_ok_eq, e2, Bool.false_eq_true, if_false]
      rw [e5, List.filterMap_cons, e3]
theorem eqvs_nil (xs : List D) : D.eqvs xs [] = xs.isEmpty := by cases xs <;> rfl
/-- a comprehension -/
theorem lc_ev {C : Ctx} {elt : Ex} {tg : List Nat} {tup : Bool} {it : It} {cond : Te} {ρ ρ1 : Env} {ds : List D} {lk : List Nat} (I : Env → Prop) (f : D → Option D) (h1 : evI C it ρ = .ok ((ds, lk), ρ1)) (h2 : noOwn ρ1 tg = true) (hI : I ρ1) (hl : ds.length ≤ LIM)
    (step : ∀ d ∈ ds, ∀ ρ, I ρ → ∃ ρ1 ρ2 b, bindT tg tup d (wipeE ρ tg) = some ρ1 ∧ evT C cond ρ1 = .ok (b, ρ2) ∧ ((b = true ∧ ∃ q ρ3 v ρ4, evE C elt ρ2 = .ok (q, ρ3) ∧ fz q ρ3 = some (v, ρ4) ∧ f d = some v ∧ I ρ4) ∨ (b = false ∧ f d = none ∧ I ρ2))) :
    ∃ ρe, evE C (.lc elt tg tup it cond) ρ = .ok (.ol (ds.filterMap f), unlock lk (giveBack ρ1 ρe tg)) ∧ I ρe := by
  obtain ⟨ρe, e, hI'⟩ := lc_run (wp := fun ρ => wipeE ρ tg) (bd := bindT tg tup) (cd := fun ρ => (evT C cond ρ).hard) (el := fun ρ => ((evE C elt ρ).bind fun q => Z.of (fz q.1 q.2)).hard) I f ds ρ1 [] hI (by simpa using hl) fun d hd ρ hρ => by
    obtain ⟨ρ1, ρ2, b, e1, e2, ⟨hb, q, ρ3, v, ρ4, e3, e4, e5, h5⟩ | ⟨hb, e5, h5⟩⟩ := step d hd ρ hρ
    · exact ⟨ρ1, ρ2, b, e1, by rw [e2]; rfl, .inl ⟨hb, v, ρ4, e5, by rw [e3, bind_ok_eq, e4]; rfl, h5⟩⟩
    · exact ⟨ρ1, ρ2, b, e1, by rw [e2]; rfl, .inr ⟨hb, e5, h5⟩⟩
  refine ⟨ρe, ?_, hI'⟩
  rw [evE, h1, bind_ok_eq]
  dsimp only
  rw [if_pos h2, e]
  rfl
/-- range(n) -/
theorem range_ev {C : Ctx} {es : Exs} {ρ ρ' : Env} {N : Int} (h : evA C es ρ = .ok ([.sh (.int N)], ρ')) (b1 : N < 2 ^ 62) (b2 : -(2 ^ 62) ≤ N) : evI C (.range es) ρ = .ok ((rangeL 0 N, []), ρ') := by
  rw [evI, h, bind_ok_eq]
  show (Z.of (rangeF [.int N])).bind _ = _
  have : rangeF [.int N] = some (rangeL 0 N) := if_pos ⟨b1, b2⟩
  rw [this]
  rfl
/-- a for -/
theorem for_ev {C : Ctx} {tg : List Nat} {tup : Bool} {it : It} {body : Sms} {ρ ρ1 : Env} {ds : List D} {lk : List Nat} (I : Nat → Env → Prop) (h1 : evI C it ρ = .ok ((ds, lk), ρ1)) (hw : tg.all C.wr = true) (hI : I 0 ρ1)
    (step : ∀ i d ρ, ds[i]? = some d → I i ρ → ∃ ρ1, bindT tg tup d ρ = some ρ1 ∧ Y (exSs C body ρ1) fun r => (r.1 = .nx ∨ r.1 = .ct) ∧ I (i + 1) r.2) :
    ∃ ρe, exS C (.for_ tg tup it body) ρ = .ok (.nx, unlock lk ρe) ∧ I ds.length ρe := by
  obtain ⟨⟨fl, ρe⟩, e, hf, hI'⟩ := for_run (bd := bindW C.wr tg tup) (body := exSs C body) I ds 0 ρ1 hI fun i d ρ hd hρ => by
    rw [Nat.zero_add] at hρ ⊢
    obtain ⟨ρ2, e1, h2⟩ := step i d ρ hd hρ
    exact ⟨ρ2, by unfold bindW; rw [if_pos hw]; exact e1, h2⟩
  dsimp only at hf hI'
  subst hf
  rw [Nat.zero_add] at hI'
  refine ⟨ρe, ?_, hI'⟩
  rw [exS, h1, bind_ok_eq]
  dsimp only
  rw [e]
  rfl
theorem Y.of_eq {α : Type} {r : Z α} {a : α} {P : α → Prop} (e : r = .ok a) (h : P a) : Y r P := ⟨a, e, h⟩
/-- statements in a row -/
theorem Y.cons {C : Ctx} {s : Sm} {ss : Sms} {ρ ρ1 : Env} {P : Fl × Env → Prop} (e : exS C s ρ = .ok (.nx, ρ1)) (h : Y (exSs C ss ρ1) P) : Y (exSs C (.cons s ss) ρ) P := by
  rw [exSs, e]
  exact h
/-- a call, by its body -/
theorem call_run {P : Pg} {wf n f : Nat} {args out : List Sl} {d : Fd} {s : Sl} (hf : P.fn f = some d) (h1 : args.length = d.np) (h2 : args.any isPk = false) (h3 : d.np ≤ d.ns)
    (hb : ∀ C : Ctx, C.cl = callM P wf n → C.gl = P.gl → C.wr = wrOf args → C.wf = wf → C.rp = P.rp → Y (exSs C d.body (args ++ List.replicate (d.ns - d.np) .un)) fun r => r.1 = .rt s ∧ keepSh args r.2 = out) (hs : isPk s = false) : callM P wf (n + 1) f args = .ok (s, out) := by
  obtain ⟨⟨fl, ρ⟩, e, e1, e2⟩ := hb ⟨callM P wf n, P.gl, wrOf args, wf, P.rp⟩ rfl rfl rfl rfl rfl
  dsimp only at e1 e2
  subst e1 e2
  simp only [callM, hf]
  rw [if_pos ⟨h1, h2, h3⟩, e]
  dsimp only
  rw [hs]
  rfl
theorem call_Y {P : Pg} {wf n f : Nat} {args : List Sl} {d : Fd} {Q : Sl → List Sl → Prop} (hf : P.fn f = some d) (h1 : args.length = d.np) (h2 : args.any isPk = false) (h3 : d.np ≤ d.ns)
    (hb : ∀ C : Ctx, C.cl = callM P wf n → C.gl = P.gl → C.wr = wrOf args → C.wf = wf → C.rp = P.rp → Y (exSs C d.body (args ++ List.replicate (d.ns - d.np) .un)) fun r => ∃ s, r.1 = .rt s ∧ isPk s = false ∧ Q s (keepSh args r.2)) : Y (callM P wf (n + 1) f args) fun r => Q r.1 r.2 := by
  obtain ⟨⟨fl, ρ⟩, e, s, e1, e2, q⟩ := hb ⟨callM P wf n, P.gl, wrOf args, wf, P.rp⟩ rfl rfl rfl rfl rfl
  dsimp only at e1 q
  subst e1
  refine ⟨(s, keepSh args ρ), ?_, q⟩
  simp only [callM, hf]
  rw [if_pos ⟨h1, h2, h3⟩, e]
  dsimp only
  rw [e2]
  rfl
end Mp
namespace Mp
/-- what comes behind a statement -/
def Kc (C : Ctx) (ss : Sms) (Q : Fl × Env → Prop) : Fl × Env → Prop := fun r => match r.1 with
  | .nx => Y (exSs C ss r.2) Q
  | f => Q (f, r.2)
theorem Y_st (C : Ctx) (s : Sm) (ss : Sms) (ρ : Env) (Q : Fl × Env → Prop) : Y (exSs C (.cons s ss) ρ) Q = Y (exS C s ρ) (Kc C ss Q) := by
  refine propext ⟨fun ⟨a, e, q⟩ => ?_, fun ⟨a, e, q⟩ => ?_⟩
  · rw [exSs] at e
    cases h : exS C s ρ with
    | stuck => rw [h] at e; cases e
    | exc c ds ρ' => rw [h] at e; cases e
    | ok r =>
      rw [h, bind_ok_eq] at e
      obtain ⟨f, ρ'⟩ := r
      refine ⟨_, rfl, ?_⟩
      cases f with
      | nx => exact ⟨a, e, q⟩
      | bk => cases e; exact q
      | ct => cases e; exact q
      | rt s => cases e; exact q
  · obtain ⟨f, ρ'⟩ := a
    cases f with
    | nx =>
      obtain ⟨b, e2, q2⟩ := q
      exact ⟨b, by rw [exSs, e, bind_ok_eq]; exact e2, q2⟩
    | bk => exact ⟨_, by rw [exSs, e, bind_ok_eq], q⟩
    | ct => exact ⟨_, by rw [exSs, e, bind_ok_eq], q⟩
    | rt s => exact ⟨_, by rw [exSs, e, bind_ok_eq], q⟩
theorem Kc_nx (C : Ctx) (ss : Sms) (ρ : Env) (Q : Fl × Env → Prop) : Kc C ss Q (.nx, ρ) = Y (exSs C ss ρ) Q := rfl
theorem Kc_rt (C : Ctx) (ss : Sms) (ρ : Env) (s : Sl) (Q : Fl × Env → Prop) : Kc C ss Q (.rt s, ρ) = Q (.rt s, ρ) := rfl
theorem Kc_bk (C : Ctx) (ss : Sms) (ρ : Env) (Q : Fl × Env → Prop) : Kc C ss Q (.bk, ρ) = Q (.bk, ρ) := rfl
theorem Kc_ct (C : Ctx) (ss : Sms) (ρ : Env) (Q : Fl × Env → Prop) : Kc C ss Q (.ct, ρ) = Q (.ct, ρ) := rfl
theorem Y_ok {α : Type} (a : α) (Q : α → Prop) : Y (.ok a) Q = Q a := propext ⟨fun ⟨b, e, q⟩ => by cases e; exact q, fun q => ⟨a, rfl, q⟩⟩
theorem Y_nil (C : Ctx) (ρ : Env) (Q : Fl × Env → Prop) : Y (exSs C .nil ρ) Q = Q (.nx, ρ) := by rw [exSs, Y_ok]
theorem Y_ite {α : Type} (p : Prop) [Decidable p] (a b : Z α) (Q : α → Prop) : Y (if p then a else b) Q = if p then Y a Q else Y b Q := by split <;> rfl
@[simp] theorem gets0 (s : Sl) (ρ : Env) : (s :: ρ : Env).set 0 = fun t => t :: ρ := rfl
theorem getS (s : Sl) (ρ : Env) (i : Nat) : Env.get (s :: ρ) (i + 1) = Env.get ρ i := rfl
@[simp] theorem get8 (a b c d e f g i s : Sl) (ρ : Env) : Env.get (a :: b :: c :: d :: e :: f :: g :: i :: s :: ρ) 8 = s := rfl
@[simp] theorem get9 (a b c d e f g i j s : Sl) (ρ : Env) : Env.get (a :: b :: c :: d :: e :: f :: g :: i :: j :: s :: ρ) 9 = s := rfl
@[simp] theorem get10 (a b c d e f g i j k s : Sl) (ρ : Env) : Env.get (a :: b :: c :: d :: e :: f :: g :: i :: j :: k :: s :: ρ) 10 = s := rfl
@[simp] theorem get11 (a b c d e f g i j k l s : Sl) (ρ : Env) : Env.get (a :: b :: c :: d :: e :: f :: g :: i :: j :: k :: l :: s :: ρ) 11 = s := rfl
@[simp] theorem get12 (a b c d e f g i j k l m s : Sl) (ρ : Env) : Env.get (a :: b :: c :: d :: e :: f :: g :: i :: j :: k :: l :: m :: s :: ρ) 12 = s := rfl
theorem ev_k (C : Ctx) (c : D) (ρ : Env) : evE C (.k c) ρ = (.ok (.sh c, ρ)) := by (conv => lhs; rw [evE]); try rfl
theorem ev_v (C : Ctx) (i : Nat) (ρ : Env) : evE C (.v i) ρ = (match ρ.get i with
    | .un => .stuck
    | .pk _ => .stuck
    | .sh d => .ok (.sh d, ρ)
    | _ => .ok (.pk i, ρ)) := by (conv => lhs; rw [evE]); try rfl
theorem ev_g (C : Ctx) (i : Nat) (ρ : Env) : evE C (.g i) ρ = (match C.gl i with
    | some d => .ok (.sh d, ρ)
    | none => .stuck) := by (conv => lhs; rw [evE]); try rfl
theorem ev_fr (C : Ctx) (a : Ex) (ρ : Env) : evE C (.fr a) ρ = ((evE C a ρ).bind fun r => (Z.of (fz r.1 r.2)).bind fun q => .ok (.sh q.1, q.2)) := by (conv => lhs; rw [evE]); try rfl
theorem ev_tup (C : Ctx) (es : Exs) (ρ : Env) : evE C (.tup es) ρ = ((evF C es ρ).bind fun r => if r.1.length ≤ LIM then .ok (.sh (.tup r.1), r.2) else .stuck) := by (conv => lhs; rw [evE]); try rfl
theorem ev_lst (C : Ctx) (es : Exs) (ρ : Env) : evE C (.lst es) ρ = ((evF C es ρ).bind fun r => if r.1.length ≤ LIM then .ok (.ol r.1, r.2) else .stuck) := by (conv => lhs; rw [evE]); try rfl
theorem ev_dct (C : Ctx) (ks : List (List Nat)) (vs : Exs) (ρ : Env) : evE C (.dct ks vs) ρ = ((evF C vs ρ).bind fun r => if ks.length = r.1.length ∧ ks.length ≤ 15 ∧ ks.Nodup then .ok (.od (ks.zip r.1), r.2) else .stuck) := by (conv => lhs; rw [evE]); try rfl
theorem ev_bin (C : Ctx) (o : Bo) (a : Ex) (b : Ex) (ρ : Env) : evE C (.bin o a b) ρ = ((evE C a ρ).bind fun r => (evE C b r.2).bind fun q => (Z.of (binS o q.2 r.1 q.1)).bind fun z => .ok (z, q.2)) := by (conv => lhs; rw [evE]); try rfl
theorem ev_neg (C : Ctx) (a : Ex) (ρ : Env) : evE C (.neg a) ρ = ((evE C a ρ).bind fun r => (Z.of (intOf r.1)).bind fun i => .ok (.sh (.int (-i)), r.2)) := by (conv => lhs; rw [evE]); try rfl
theorem ev_not (C : Ctx) (a : Ex) (ρ : Env) : evE C (.not a) ρ = ((evE C a ρ).bind fun r => (tru r).bind fun q => .ok (.sh (.bl (!q.1)), q.2)) := by (conv => lhs; rw [evE]); try rfl
theorem ev_and (C : Ctx) (a : Ex) (b : Ex) (ρ : Env) : evE C (.and a b) ρ = ((evE C a ρ).bind fun r => (Z.of (blOf r.1)).bind fun c => if c then evE C b r.2 else .ok (.sh (.bl false), r.2)) := by (conv => lhs; rw [evE]); try rfl
theorem ev_or (C : Ctx) (a : Ex) (b : Ex) (ρ : Env) : evE C (.or a b) ρ = ((evE C a ρ).bind fun r => (Z.of (blOf r.1)).bind fun c => if c then .ok (.sh (.bl true), r.2) else evE C b r.2) := by (conv => lhs; rw [evE]); try rfl
theorem ev_cmp (C : Ctx) (o : Co) (a : Ex) (b : Ex) (ρ : Env) : evE C (.cmp o a b) ρ = ((evE C a ρ).bind fun r => (evE C b r.2).bind fun q => (Z.of (cmpS o q.2 r.1 q.1)).bind fun z => .ok (.sh (.bl z), q.2)) := by (conv => lhs; rw [evE]); try rfl
theorem ev_chain (C : Ctx) (o : Co) (o' : Co) (a : Ex) (b : Ex) (c : Ex) (ρ : Env) : evE C (.chain o o' a b c) ρ = ((evE C a ρ).bind fun r => (evE C b r.2).bind fun q => (Z.of (cmpV o q.2 r.1 q.1)).bind fun z =>
    if z then (evE C c q.2).bind fun p => (Z.of (cmpV o' p.2 q.1 p.1)).bind fun z => .ok (.sh (.bl z), p.2) else .ok (.sh (.bl false), q.2)) := by (conv => lhs; rw [evE]); try rfl
theorem ev_ite (C : Ctx) (c : Te) (a : Ex) (b : Ex) (ρ : Env) : evE C (.ite c a b) ρ = ((evT C c ρ).bind fun r => if r.1 then evE C a r.2 else evE C b r.2) := by (conv => lhs; rw [evE]); try rfl
theorem ev_idx (C : Ctx) (a : Ex) (i : Ex) (ρ : Env) : evE C (.idx a i) ρ = ((evE C a ρ).bind fun r => (evE C i r.2).bind fun q => (Z.of (idxS q.2 r.1 q.1)).bind fun d => .ok (.sh d, q.2)) := by (conv => lhs; rw [evE]); try rfl
theorem ev_slc (C : Ctx) (a : Ex) (lo : Exs) (hi : Exs) (ρ : Env) : evE C (.slc a lo hi) ρ = ((evE C a ρ).bind fun r => (evO C lo r.2).bind fun l => (evO C hi l.2).bind fun h => (Z.of (slcS h.2 r.1 l.1 h.1)).bind fun z => .ok (z, h.2)) := by (conv => lhs; rw [evE]); try rfl
theorem ev_call (C : Ctx) (f : Nat) (es : Exs) (ρ : Env) : evE C (.call f es) ρ = ((evA C es ρ).bind fun r => if nodup (pks r.1) then
      (match C.cl f (r.1.map (argS r.2)) with
      | .ok q => .ok (q.1, argsBack r.1 q.2 r.2)
      | .exc c ds ss => .exc c ds (argsBack r.1 ss r.2)
      | .stuck => .stuck)
    else .stuck) := by (conv => lhs; rw [evE]); try rfl
theorem ev_bi (C : Ctx) (b : Bi) (es : Exs) (ρ : Env) : evE C (.bi b es) ρ = ((evA C es ρ).bind fun r => (Z.of (biS b r.2 r.1)).bind fun z => .ok (z, r.2)) := by (conv => lhs; rw [evE]); try rfl
theorem ev_bm (C : Ctx) (m : Bm) (a : Ex) (es : Exs) (ρ : Env) : evE C (.bm m a es) ρ = ((evE C a ρ).bind fun r => if bmT m (vw r.2 r.1) = true then (evA C es r.2).bind fun q => (Z.of (bmS m q.2 r.1 q.1)).bind fun z => .ok (z, q.2) else .stuck) := by (conv => lhs; rw [evE]); try rfl
theorem ev_mu (C : Ctx) (m : Mu) (i : Nat) (es : Exs) (ρ : Env) : evE C (.mu m i es) ρ = (if (match ρ.get i with | .ol _ => true | _ => false) then
      (evF C es ρ).bind fun r => (Z.of (muF m (r.2.get i) r.1)).bind fun z => .ok (.sh z.1, r.2.set i z.2)
    else .stuck) := by (conv => lhs; rw [evE]); try rfl
theorem ev_isi (C : Ctx) (a : Ex) (ts : List Ty) (ρ : Env) : evE C (.isi a ts) ρ = ((evE C a ρ).bind fun r => (Z.of ((vw r.2 r.1).bind D.noK)).bind fun d => .ok (.sh (.bl (ts.any (isTy d))), r.2)) := by (conv => lhs; rw [evE]); try rfl
theorem ev_rpr (C : Ctx) (a : Ex) (ρ : Env) : evE C (.rpr a) ρ = ((evE C a ρ).bind fun r => (Z.of ((vw r.2 r.1).bind C.rp)).bind fun s => .ok (.sh (.str s), r.2)) := by (conv => lhs; rw [evE]); try rfl
theorem ev_lset (C : Ctx) (a : Ex) (ρ : Env) : evE C (.lset a) ρ = ((evE C a ρ).bind fun r => (Z.of ((vw r.2 r.1).bind lsetF)).bind fun k => .ok (.sh (.int k), r.2)) := by (conv => lhs; rw [evE]); try rfl
theorem ev_dcn (C : Ctx) (ρ : Env) : evE C .dcn ρ = (.ok (.dn [], ρ)) := by (conv => lhs; rw [evE]); try rfl
theorem ev_dc1 (C : Ctx) (k v : Ex) (ρ : Env) : evE C (.dc1 k v) ρ = ((evE C k ρ).bind fun r => (Z.of (fz r.1 r.2)).bind fun q => if keyOk [] q.1 = true then (evE C v q.2).bind fun s => (Z.of (fz s.1 s.2)).bind fun p => .ok (.dn [(q.1, p.1)], p.2) else .stuck) := by (conv => lhs; rw [evE]); try rfl
theorem ev_dget (C : Ctx) (a k x : Ex) (ρ : Env) : evE C (.dget a k x) ρ = ((evE C a ρ).bind fun r => if isDn (res r.2 r.1) = true then
      (evE C k r.2).bind fun q => (evE C x q.2).bind fun p => (Z.of (fz p.1 p.2)).bind fun z => (Z.of (dgetN z.2 r.1 q.1 z.1)).bind fun d => .ok (.sh d, z.2)
    else if isOd (res r.2 r.1) = true then
      (evE C k r.2).bind fun q => (evE C x q.2).bind fun p => (Z.of (fz p.1 p.2)).bind fun z => (Z.of (dgetO z.2 r.1 q.1 z.1)).bind fun d => .ok (.sh d, z.2)
    else .stuck) := by (conv => lhs; rw [evE]); try rfl
theorem ev_dsd (C : Ctx) (i : Nat) (k x : Ex) (ρ : Env) : evE C (.dsd i k x) ρ = (if isDn (ρ.get i) = true then
      (evE C k ρ).bind fun q => (Z.of (fz q.1 q.2)).bind fun q => (evE C x q.2).bind fun p => (Z.of (fz p.1 p.2)).bind fun z => (Z.of (dsdS (z.2.get i) q.1 z.1)).bind fun w => .ok (.sh w.1, z.2.set i w.2)
    else .stuck) := by (conv => lhs; rw [evE]); try rfl
theorem ev_pr2 (C : Ctx) (i : Nat) (e : Ex) (ρ : Env) : evE C (.pr2 i e) ρ = (if isDn (ρ.get i) = true ∧ C.wr i = true then
      (evE C e ρ).bind fun r => (Z.of (fz r.1 r.2)).bind fun q => (match q.2.get i with
      | .dn kvs => .ok (.td kvs q.1, q.2.set i .un)
      | _ => .stuck)
    else .stuck) := by (conv => lhs; rw [evE]); try rfl
theorem ev_lz (C : Ctx) (es : Exs) (ρ : Env) : evE C (.lz es) ρ = ((evF C es ρ).bind fun r => (Z.of (zipF r.1)).bind fun z => if z.length ≤ LIM then .ok (.ol z, r.2) else .stuck) := by (conv => lhs; rw [evE]); try rfl
theorem ev_sst (C : Ctx) (a : Ex) (ρ : Env) : evE C (.sst a) ρ = ((evE C a ρ).bind fun r => (Z.of ((vw r.2 r.1).bind sstF)).bind fun z => .ok (.ol z, r.2)) := by (conv => lhs; rw [evE]); try rfl
theorem ev_rev (C : Ctx) (a : Ex) (ρ : Env) : evE C (.rev a) ρ = ((evE C a ρ).bind fun r => (Z.of ((vw r.2 r.1).bind revF)).bind fun z => .ok (z, r.2)) := by (conv => lhs; rw [evE]); try rfl
theorem ex_ret_ (C : Ctx) (e : Ex) (ρ : Env) : exS C (.ret e) ρ = ((evE C e ρ).bind fun r => (Z.of (retS C.wr r.1 r.2)).bind fun q => .ok (.rt q.1, q.2)) := by rw [exS]
theorem ex_retN_ (C : Ctx)  (ρ : Env) : exS C (.retN) ρ = (.ok (.rt (.sh .non), ρ)) := by rw [exS]
theorem ex_asg_ (C : Ctx) (i : Nat) (e : Ex) (ρ : Env) : exS C (.asg i e) ρ = ((evE C e ρ).bind fun r => (Z.of (asgS C.wr i r.1 r.2)).bind fun ρ' => .ok (.nx, ρ')) := by rw [exS]
theorem ex_asgT_ (C : Ctx) (is : List Nat) (e : Ex) (ρ : Env) : exS C (.asgT is e) ρ = ((evE C e ρ).bind fun r => (Z.of (asgTS C.wr is r.1 r.2)).bind fun ρ' => .ok (.nx, ρ')) := by rw [exS]
theorem ex_setI_ (C : Ctx) (i : Nat) (j : Ex) (e : Ex) (ρ : Env) : exS C (.setI i j e) ρ = ((evE C e ρ).bind fun r => (Z.of (fz r.1 r.2)).bind fun q => if isOD (q.2.get i) = true then (evE C j q.2).bind fun p =>
    (Z.of ((vw p.2 p.1).bind fun d => setIF (p.2.get i) d q.1)).bind fun z => .ok (.nx, p.2.set i z) else .stuck) := by rw [exS]
theorem ex_ex_ (C : Ctx) (e : Ex) (ρ : Env) : exS C (.ex e) ρ = ((evE C e ρ).bind fun r => .ok (.nx, r.2)) := by rw [exS]
theorem ex_ifs_ (C : Ctx) (c : Te) (a : Sms) (b : Sms) (ρ : Env) : exS C (.ifs c a b) ρ = ((evT C c ρ).bind fun r => if r.1 then exSs C a r.2 else exSs C b r.2) := by rw [exS]
theorem ex_pass_ (C : Ctx)  (ρ : Env) : exS C (.pass) ρ = (.ok (.nx, ρ)) := by rw [exS]
theorem ex_brk_ (C : Ctx)  (ρ : Env) : exS C (.brk) ρ = (.ok (.bk, ρ)) := by rw [exS]
theorem ex_cont_ (C : Ctx)  (ρ : Env) : exS C (.cont) ρ = (.ok (.ct, ρ)) := by rw [exS]
/-- what a loop's turn gives -/
def Turn (I : Nat → Env → Prop) (i : Nat) : Fl × Env → Prop := fun r => (r.1 = .nx ∨ r.1 = .ct) ∧ I (i + 1) r.2
/-- a for, with what comes behind -/
theorem for_Y {C : Ctx} {tg : List Nat} {tup : Bool} {it : It} {body : Sms} {ρ ρ1 : Env} {ds : List D} {lk : List Nat} {Q : Fl × Env → Prop} (I : Nat → Env → Prop) (h1 : evI C it ρ = .ok ((ds, lk), ρ1)) (hw : tg.all C.wr = true) (hI : I 0 ρ1)
    (step : ∀ i d ρ, ds[i]? = some d → I i ρ → ∃ ρ1, bindT tg tup d ρ = some ρ1 ∧ Y (exSs C body ρ1) (Turn I i)) (hQ : ∀ ρe, I ds.length ρe → Q (.nx, unlock lk ρe)) : Y (exS C (.for_ tg tup it body) ρ) Q := by
  obtain ⟨ρe, e, h⟩ := for_ev I h1 hw hI step
  exact ⟨_, e, hQ ρe h⟩
/-- a comprehension's turns, by what is gathered -/
theorem lc_runA {wp : Env → Env} {bd : D → Env → Option Env} {cd : Env → Z (Bool × Env)} {el : Env → Z (D × Env)} (I : Nat → Env → List D → Prop) : ∀ (ds : List D) (k : Nat) (ρ : Env) (acc : List D), I k ρ acc → acc.length + ds.length ≤ LIM →
    (∀ i d ρ acc, ds[i]? = some d → I (k + i) ρ acc → ∃ ρ1 ρ2 b, bd d (wp ρ) = some ρ1 ∧ cd ρ1 = .ok (b, ρ2) ∧ ((b = true ∧ ∃ v ρ3, el ρ2 = .ok (v, ρ3) ∧ I (k + i + 1) ρ3 (acc ++ [v])) ∨ (b = false ∧ I (k + i + 1) ρ2 acc))) →
    ∃ ρ' vs, lcL wp bd cd el ds ρ acc = .ok (vs, ρ') ∧ I (k + ds.length) ρ' vs
  | [], k, ρ, acc, h, _, _ => ⟨ρ, acc, by simp [lcL], h⟩
  | d :: ds, k, ρ, acc, h, hl, step => by
    simp only [List.length_cons] at hl
    have go : ∀ ρ acc, I (k + 1) ρ acc → acc.length + ds.length ≤ LIM → ∃ ρ' vs, lcL wp bd cd el ds ρ acc = .ok (vs, ρ') ∧ I (k + (d :: ds).length) ρ' vs := fun ρ acc h hl => by
      rw [show k + (d :: ds).length = k + 1 + ds.length from by simp; omega]
      refine lc_runA I ds (k + 1) ρ acc h hl fun i d' ρ' acc' hi h' => ?_
      have := step (i + 1) d' ρ' acc' (by simpa using hi) (by rw [show k + (i + 1) = k + 1 + i from by omega]; exact h')
      rw [show k + (i + 1) = k + 1 + i from by omega] at this
      exact this
    obtain ⟨ρ1, ρ2, b, e1, e2, ⟨rfl, v, ρ3, e3, h3⟩ | ⟨rfl, h3⟩⟩ := step 0 d ρ acc rfl h
    · obtain ⟨ρ', vs, e5, h5⟩ := go ρ3 (acc ++ [v]) h3 (by simp; omega)
      refine ⟨ρ', vs, ?_, h5⟩
      simp only [lcL, e1, of_some, bind_ok_eq, e2, if_true, e3]
      rw [if_pos (show acc.length < LIM by omega), e5]
    · obtain ⟨ρ', vs, e5, h5⟩ := go ρ2 acc h3 (by omega)
      refine ⟨ρ', vs, ?_, h5⟩
      simp only [lcL, e1, of_some, bind_ok_eq, e2, Bool.false_eq_true, if_false]
      rw [e5]
theorem lc_evA {C : Ctx} {elt : Ex} {tg : List Nat} {tup : Bool} {it : It} {cond : Te} {ρ ρ1 : Env} {ds : List D} {lk : List Nat} (I : Nat → Env → List D → Prop) (h1 : evI C it ρ = .ok ((ds, lk), ρ1)) (h2 : noOwn ρ1 tg = true) (hI : I 0 ρ1 []) (hl : ds.length ≤ LIM)
    (step : ∀ i d ρ acc, ds[i]? = some d → I i ρ acc → ∃ ρ1 ρ2 b, bindT tg tup d (wipeE ρ tg) = some ρ1 ∧ evT C cond ρ1 = .ok (b, ρ2) ∧ ((b = true ∧ ∃ q ρ3 v ρ4, evE C elt ρ2 = .ok (q, ρ3) ∧ fz q ρ3 = some (v, ρ4) ∧ I (i + 1) ρ4 (acc ++ [v])) ∨ (b = false ∧ I (i + 1) ρ2 acc))) :
    ∃ ρe vs, evE C (.lc elt tg tup it cond) ρ = .ok (.ol vs, unlock lk (giveBack ρ1 ρe tg)) ∧ I ds.length ρe vs := by
  obtain ⟨ρe, vs, e, hI'⟩ := lc_runA (wp := fun ρ => wipeE ρ tg) (bd := bindT tg tup) (cd := fun ρ => (evT C cond ρ).hard) (el := fun ρ => ((evE C elt ρ).bind fun q => Z.of (fz q.1 q.2)).hard) I ds 0 ρ1 [] hI (by simpa using hl) fun i d ρ acc hd hρ => by
    rw [Nat.zero_add] at hρ ⊢
    obtain ⟨ρ1, ρ2, b, e1, e2, ⟨hb, q, ρ3, v, ρ4, e3, e4, h5⟩ | ⟨hb, h5⟩⟩ := step i d ρ acc hd hρ
    · exact ⟨ρ1, ρ2, b, e1, by rw [e2]; rfl, .inl ⟨hb, v, ρ4, by rw [e3, bind_ok_eq, e4]; rfl, h5⟩⟩
    · exact ⟨ρ1, ρ2, b, e1, by rw [e2]; rfl, .inr ⟨hb, h5⟩⟩
  rw [Nat.zero_add] at hI'
  refine ⟨ρe, vs, ?_, hI'⟩
  rw [evE, h1, bind_ok_eq]
  dsimp only
  rw [if_pos h2, e]
  rfl
theorem ev_binv {C : Ctx} {o : Bo} {a b : Ex} {ρ ρ1 ρ2 : Env} {x y z : Sl} (h1 : evE C a ρ = .ok (x, ρ1)) (h2 : evE C b ρ1 = .ok (y, ρ2)) (h3 : binS o ρ2 x y = some z) : evE C (.bin o a b) ρ = .ok (z, ρ2) := by
  rw [ev_bin, h1]
  show (evE C b ρ1).bind _ = _
  rw [h2]
  show (Z.of (binS o ρ2 x y)).bind _ = _
  rw [h3]
  rfl
theorem ev_tup1 {C : Ctx} {a : Ex} {ρ ρ1 : Env} {d : D} (h1 : evE C a ρ = .ok (.sh d, ρ1)) : evE C (.tup (.cons a .nil)) ρ = .ok (.sh (.tup [d]), ρ1) := by
  rw [ev_tup, evF, h1]
  simp [fz, evF, LIM]
theorem ev_idxv {C : Ctx} {a b : Ex} {ρ ρ1 ρ2 : Env} {x y : Sl} {d : D} (h1 : evE C a ρ = .ok (x, ρ1)) (h2 : evE C b ρ1 = .ok (y, ρ2)) (h3 : idxS ρ2 x y = some d) : evE C (.idx a b) ρ = .ok (.sh d, ρ2) := by
  rw [ev_idx, h1]
  show (evE C b ρ1).bind _ = _
  rw [h2]
  show (Z.of (idxS ρ2 x y)).bind _ = _
  rw [h3]
  rfl
theorem ex_asgv {C : Ctx} {i : Nat} {e : Ex} {ρ ρ1 : Env} {d : D} (h1 : evE C e ρ = .ok (.sh d, ρ1)) (hw : C.wr i = true) (hi : i < ρ1.length) : exS C (.asg i e) ρ = .ok (.nx, ρ1.set i (.sh d)) := by
  rw [ex_asg_, h1]
  show (Z.of (asgS C.wr i (.sh d) ρ1)).bind _ = _
  unfold asgS
  rw [if_pos ⟨hw, hi⟩]
  rfl
/-- a while, by the turns that are left -/
def TurnD (I : Nat → Env → Prop) (k : Nat) : Fl × Env → Prop := fun r => (r.1 = .nx ∨ r.1 = .ct) ∧ I k r.2
theorem whl_Y {C : Ctx} {c : Te} {body : Sms} {ρ : Env} {Q : Fl × Env → Prop} (I : Nat → Env → Prop) (n : Nat) (hn : n < C.wf) (hI : I n ρ)
    (step : ∀ k ρ, I (k + 1) ρ → ∃ ρ1, evT C c ρ = .ok (true, ρ1) ∧ Y (exSs C body ρ1) (TurnD I k)) (stop : ∀ ρ, I 0 ρ → ∃ ρ1, evT C c ρ = .ok (false, ρ1) ∧ Q (.nx, ρ1)) : Y (exS C (.whl c body) ρ) Q := by
  have run : ∀ (n fuel : Nat) (ρ : Env), n < fuel → I n ρ → Y (whlL (evT C c) (exSs C body) fuel ρ) Q := by
    intro n
    induction n with
    | zero =>
      intro fuel ρ hf hI
      obtain ⟨f, rfl⟩ : ∃ f, fuel = f + 1 := ⟨fuel - 1, by omega⟩
      obtain ⟨ρ1, e, q⟩ := stop ρ hI
      refine ⟨_, ?_, q⟩
      simp [whlL, e]
    | succ n ih =>
      intro fuel ρ hf hI
      obtain ⟨f, rfl⟩ : ∃ f, fuel = f + 1 := ⟨fuel - 1, by omega⟩
      obtain ⟨ρ1, e, ⟨fl, ρ2⟩, e2, hfl, h2⟩ := step n ρ hI
      obtain ⟨r, e3, q⟩ := ih f ρ2 (by omega) h2
      refine ⟨r, ?_, q⟩
      dsimp only at hfl
      rcases hfl with rfl | rfl <;> simp [whlL, e, e2, e3]
  obtain ⟨r, e, q⟩ := run n C.wf ρ hn hI
  exact ⟨r, by rw [exS]; exact e, q⟩
/-- what a turn of a searching loop gives: it goes on, or it leaves -/
def Seek (I : Nat → Env → Prop) (Q : Fl × Env → Prop) (lk : List Nat) (i : Nat) : Fl × Env → Prop := fun r => ((r.1 = .nx ∨ r.1 = .ct) ∧ I (i + 1) r.2) ∨ ∃ s, r.1 = .rt s ∧ Q (.rt s, unlock lk r.2)
theorem for_find {C : Ctx} {tg : List Nat} {tup : Bool} {it : It} {body : Sms} {ρ ρ1 : Env} {ds : List D} {lk : List Nat} {Q : Fl × Env → Prop} (I : Nat → Env → Prop) (h1 : evI C it ρ = .ok ((ds, lk), ρ1)) (hw : tg.all C.wr = true) (hI : I 0 ρ1)
    (step : ∀ i d ρ, ds[i]? = some d → I i ρ → ∃ ρ1, bindT tg tup d ρ = some ρ1 ∧ Y (exSs C body ρ1) (Seek I Q lk i)) (hQ : ∀ ρe, I ds.length ρe → Q (.nx, unlock lk ρe)) : Y (exS C (.for_ tg tup it body) ρ) Q := by
  have run : ∀ (ds' : List D) (k : Nat) (ρ : Env), (∀ i d, ds'[i]? = some d → ds[k + i]? = some d) → k + ds'.length = ds.length → I k ρ → Y (forL (bindW C.wr tg tup) (exSs C body) ds' ρ) fun r => Q (r.1, unlock lk r.2) := by
    intro ds'
    induction ds' with
    | nil =>
      intro k ρ _ hl hI
      refine ⟨(.nx, ρ), rfl, hQ ρ ?_⟩
      simp only [List.length_nil] at hl
      rw [← hl]
      exact hI
    | cons d ds' ih =>
      intro k ρ hd hl hI
      obtain ⟨ρ2, e1, r, e2, h2⟩ := step k d ρ (by have := hd 0 d rfl; simpa using this) hI
      have eb : bindW C.wr tg tup d ρ = some ρ2 := by unfold bindW; rw [if_pos hw]; exact e1
      obtain ⟨fl, ρ3⟩ := r
      rcases h2 with ⟨hf, h2⟩ | ⟨s, hf, h2⟩
      · have := ih (k + 1) ρ3 (fun i d' hi => by have := hd (i + 1) d' (by simpa using hi); rw [show k + 1 + i = k + (i + 1) from by omega]; exact this) (by simp at hl; omega) h2
        obtain ⟨r, e3, h3⟩ := this
        refine ⟨r, ?_, h3⟩
        dsimp only at hf
        rcases hf with rfl | rfl <;> simp only [forL, eb, of_some, bind_ok_eq, e2] <;> exact e3
      · dsimp only at hf
        subst hf
        refine ⟨(.rt s, ρ3), ?_, h2⟩
        simp only [forL, eb, of_some, bind_ok_eq, e2]
  obtain ⟨⟨fl, ρe⟩, e, h⟩ := run ds 0 ρ1 (fun i d h => by rw [Nat.zero_add]; exact h) (by omega) hI
  refine ⟨(fl, unlock lk ρe), ?_, h⟩
  rw [exS, h1, bind_ok_eq]
  dsimp only
  rw [e]
  rfl
/-- a call, by what its body leaves -/
theorem call_by {P : Pg} {wf n f : Nat} {args : List Sl} {d : Fd} {Q : Sl × List Sl → Prop} (B : Fl × Env → Prop) (hf : P.fn f = some d) (h1 : args.length = d.np) (h2 : args.any isPk = false) (h3 : d.np ≤ d.ns)
    (hb : ∀ C : Ctx, C.cl = callM P wf n → C.gl = P.gl → C.wr = wrOf args → C.wf = wf → C.rp = P.rp → Y (exSs C d.body (args ++ List.replicate (d.ns - d.np) .un)) B)
    (hB : ∀ r, B r → ∃ s ρ, r = (.rt s, ρ) ∧ isPk s = false ∧ Q (s, keepSh args ρ)) : Y (callM P wf (n + 1) f args) Q := by
  have := call_Y (Q := fun s a => Q (s, a)) hf h1 h2 h3 fun C c1 c2 c3 c4 c5 => (hb C c1 c2 c3 c4 c5).mono fun r hr => by
    obtain ⟨s, ρ, rfl, q1, q2⟩ := hB r hr
    exact ⟨s, rfl, q1, q2⟩
  exact this
theorem envget_set {ρ : Env} {i : Nat} {s : Sl} (h : i < ρ.length) : Env.get (ρ.set i s) i = s := by
  unfold Env.get
  rw [List.getD_eq_getElem?_getD, List.getElem?_set_self h]
  rfl
theorem envset_get {ρ : Env} {i : Nat} (h : i < ρ.length) : ρ.set i (Env.get ρ i) = ρ := by
  unfold Env.get
  rw [List.getD_eq_getElem?_getD, List.getElem?_eq_getElem h]
  exact List.set_getElem_self h
/-- a comprehension whose item is computed and nothing else -/
theorem lc_pure {C : Ctx} {elt : Ex} {t : Nat} {it : It} {ρ : Env} {xs : List D} (f : D → D) (h1 : evI C it ρ = .ok ((xs, []), ρ)) (ht : t < ρ.length) (ho : isOwn (ρ.get t) = false) (hl : xs.length ≤ LIM)
    (he : ∀ d ∈ xs, evE C elt (ρ.set t (.sh d)) = .ok (.sh (f d), ρ.set t (.sh d))) : evE C (.lc elt [t] false it .tt) ρ = .ok (.ol (xs.map f), ρ) := by
  obtain ⟨ρe, e, z, rfl⟩ := lc_ev (C := C) (elt := elt) (tg := [t]) (tup := false) (it := it) (cond := .tt) (ρ := ρ) (ρ1 := ρ) (ds := xs) (lk := []) (fun ρ' => ∃ z, ρ' = ρ.set t z) (fun d => some (f d)) h1 (by simp [noOwn, ho]) ⟨ρ.get t, (envset_get ht).symm⟩ hl (by
    rintro d hd _ ⟨z, rfl⟩
    refine ⟨ρ.set t (.sh d), ρ.set t (.sh d), true, ?_, by rw [evT], .inl ⟨rfl, .sh (f d), ρ.set t (.sh d), f d, ρ.set t (.sh d), he d hd, rfl, rfl, _, rfl⟩⟩
    simp [bindT, setT, wipeE, List.set_set])
  have ef : ∀ xs : List D, xs.filterMap (fun d => some (f d)) = xs.map f := fun xs => by induction xs <;> simp [*]
  rw [e, ef]
  simp [unlock, giveBack, List.set_set, envset_get ht]
/-- .. with a test -/
theorem lc_filt {C : Ctx} {elt : Ex} {t : Nat} {it : It} {cond : Te} {ρ : Env} {xs : List D} (f : D → D) (p : D → Bool) (h1 : evI C it ρ = .ok ((xs, []), ρ)) (ht : t < ρ.length) (ho : isOwn (ρ.get t) = false) (hl : xs.length ≤ LIM)
    (hc : ∀ d ∈ xs, evT C cond (ρ.set t (.sh d)) = .ok (p d, ρ.set t (.sh d)))
    (he : ∀ d ∈ xs, p d = true → evE C elt (ρ.set t (.sh d)) = .ok (.sh (f d), ρ.set t (.sh d))) : evE C (.lc elt [t] false it cond) ρ = .ok (.ol ((xs.filter p).map f), ρ) := by
  obtain ⟨ρe, e, z, rfl⟩ := lc_ev (C := C) (elt := elt) (tg := [t]) (tup := false) (it := it) (cond := cond) (ρ := ρ) (ρ1 := ρ) (ds := xs) (lk := []) (fun ρ' => ∃ z, ρ' = ρ.set t z) (fun d => if p d then some (f d) else none) h1 (by simp [noOwn, ho]) ⟨ρ.get t, (envset_get ht).symm⟩ hl (by
    rintro d hd _ ⟨z, rfl⟩
    refine ⟨ρ.set t (.sh d), ρ.set t (.sh d), p d, by simp [bindT, setT, wipeE, List.set_set], hc d hd, ?_⟩
    cases q : p d with
    | true => exact .inl ⟨rfl, .sh (f d), ρ.set t (.sh d), f d, ρ.set t (.sh d), he d hd q, rfl, by simp, _, rfl⟩
    | false => exact .inr ⟨rfl, by simp, _, rfl⟩)
  have ef : ∀ xs : List D, xs.filterMap (fun d => if p d = true then some (f d) else none) = (xs.filter p).map f := fun xs => by
    induction xs with
    | nil => rfl
    | cons x xs ih =>
      rw [List.filterMap_cons, List.filter_cons]
      cases q : p x <;> simp [ih]
  rw [e, ef]
  simp [unlock, giveBack, List.set_set, envset_get ht]
/-- a loop that looks and leaves with s at the first that fails -/
theorem for_chk {C : Ctx} {t : Nat} {it : It} {body : Sms} {ρ ρ1 : Env} {xs : List D} {lk : List Nat} {Q : Fl × Env → Prop} (p : D → Bool) (s : Sl) (h1 : evI C it ρ = .ok ((xs, lk), ρ1)) (hw : C.wr t = true) (ht : t < ρ1.length)
    (hb : ∀ d ∈ xs, Y (exSs C body (ρ1.set t (.sh d))) fun r => r = (if p d then .nx else .rt s, ρ1.set t (.sh d)))
    (hQ : ∀ z, xs.all p = true → Q (.nx, unlock lk (ρ1.set t z))) (hR : ∀ z, xs.all p = false → Q (.rt s, unlock lk (ρ1.set t z))) : Y (exS C (.for_ [t] false it body) ρ) Q := by
  have run : ∀ xs : List D, (∀ d ∈ xs, Y (exSs C body (ρ1.set t (.sh d))) fun r => r = (if p d then .nx else .rt s, ρ1.set t (.sh d))) → ∀ z0, ∃ z, forL (bindW C.wr [t] false) (exSs C body) xs (ρ1.set t z0) = .ok (if xs.all p then .nx else .rt s, ρ1.set t z) := by
    intro xs
    induction xs with
    | nil => exact fun _ z0 => ⟨z0, rfl⟩
    | cons x xs ih =>
      intro hb z0
      have eb : bindW C.wr [t] false x (ρ1.set t z0) = some (ρ1.set t (.sh x)) := by
        simp [bindW, hw, bindT, setT, List.set_set]
      obtain ⟨r, e, rfl⟩ := hb x List.mem_cons_self
      cases q : p x with
      | true =>
        obtain ⟨z, e2⟩ := ih (fun d hd => hb d (List.mem_cons_of_mem _ hd)) (.sh x)
        refine ⟨z, ?_⟩
        simp only [forL, eb, of_some, bind_ok_eq, e, q, if_true, List.all_cons, Bool.true_and]
        exact e2
      | false =>
        refine ⟨.sh x, ?_⟩
        simp [forL, eb, e, q]
  obtain ⟨z, e⟩ := run xs hb (ρ1.get t)
  rw [envset_get ht] at e
  refine ⟨((if xs.all p then Fl.nx else .rt s), unlock lk (ρ1.set t z)), ?_, ?_⟩
  · rw [exS, h1, bind_ok_eq]
    dsimp only
    rw [e]
    rfl
  · cases q : xs.all p with
    | true => exact hQ z q
    | false => exact hR z q
theorem allB_map {p : D → Bool} : ∀ xs : List D, allB (xs.map fun d => .bl (p d)) = some (xs.map p)
  | [] => rfl
  | x :: xs => by simp [allB, allB_map xs]
theorem all_id {α : Type} (p : α → Bool) (xs : List α) : (xs.map p).all id = xs.all p := by
  rw [List.all_map]
  rfl
/-- all([..]): what the list is -/
theorem all_ev {C : Ctx} {elt : Ex} {t : Nat} {it : It} {ρ : Env} {xs : List D} (p : D → Bool) (h1 : evI C it ρ = .ok ((xs, []), ρ)) (ht : t < ρ.length) (ho : isOwn (ρ.get t) = false) (hl : xs.length ≤ LIM)
    (he : ∀ d ∈ xs, evE C elt (ρ.set t (.sh d)) = .ok (.sh (.bl (p d)), ρ.set t (.sh d))) : evE C (.lc elt [t] false it .tt) ρ = .ok (.ol (xs.map fun d => .bl (p d)), ρ) := lc_pure (fun d => .bl (p d)) h1 ht ho hl he
/-! ### data of bounded sizes, none from outside -/
mutual
def Bd (L : Nat) : D → Prop
  | .kl _ => False
  | .str s => s.length ≤ L
  | .tup xs => xs.length ≤ L ∧ Bds L xs
  | .lst xs => xs.length ≤ L ∧ Bds L xs
  | _ => True
def Bds (L : Nat) : List D → Prop
  | [] => True
  | x :: xs => Bd L x ∧ Bds L xs
end
theorem bds_iff {L : Nat} : ∀ {xs : List D}, Bds L xs ↔ ∀ x ∈ xs, Bd L x
  | [] => ⟨fun _ x h => (by cases h), fun _ => (by simp [Bds])⟩
  | x :: xs => by simp [Bds, bds_iff (xs := xs)]
mutual
theorem Bd.mono {L M : Nat} (h : L ≤ M) : ∀ d : D, Bd L d → Bd M d
  | .kl _, z => by simp [Bd] at z
  | .str s, z => by simp only [Bd] at z ⊢; omega
  | .tup xs, z => by simp only [Bd] at z ⊢; exact ⟨by omega, Bds.mono h xs z.2⟩
  | .lst xs, z => by simp only [Bd] at z ⊢; exact ⟨by omega, Bds.mono h xs z.2⟩
  | .non, _ => by simp [Bd]
  | .bl _, _ => by simp [Bd]
  | .int _, _ => by simp [Bd]
theorem Bds.mono {L M : Nat} (h : L ≤ M) : ∀ xs : List D, Bds L xs → Bds M xs
  | [], _ => by simp [Bds]
  | x :: xs, z => by simp only [Bds] at z ⊢; exact ⟨Bd.mono h x z.1, Bds.mono h xs z.2⟩
end
theorem Bds.sub {L : Nat} {xs ys : List D} (h : Bds L xs) (k : ∀ y ∈ ys, y ∈ xs) : Bds L ys := bds_iff.mpr fun y hy => bds_iff.mp h y (k y hy)
theorem Bds.app {L : Nat} {xs ys : List D} (h : Bds L xs) (k : Bds L ys) : Bds L (xs ++ ys) := bds_iff.mpr fun y hy => by
  rcases List.mem_append.mp hy with z | z
  · exact bds_iff.mp h y z
  · exact bds_iff.mp k y z
theorem Bds.at {L : Nat} {xs : List D} (h : Bds L xs) {i : Nat} {d : D} (e : xs[i]? = some d) : Bd L d := bds_iff.mp h d (List.mem_of_getElem? e)
theorem cut_mem {xs : List D} {lo hi : Option Int} : ∀ y ∈ cut xs lo hi, y ∈ xs := fun y hy => List.mem_of_mem_drop (List.mem_of_mem_take hy)
theorem cut_len {α : Type} {xs : List α} {lo hi : Option Int} : (cut xs lo hi).length ≤ xs.length := by
  unfold cut
  rw [List.length_take, List.length_drop]
  omega
theorem at_of {α : Type} (xs : List α) {r : Int} (h0 : 0 ≤ r) (h1 : r < xs.length) : ∃ c, atI xs r = some c ∧ xs[r.toNat]? = some c := by
  have hj : r.toNat < xs.length := by omega
  refine ⟨xs[r.toNat], ?_, List.getElem?_eq_getElem hj⟩
  simp [atI, ixN, h0, h1, hj]
@[simp] theorem at0 {α : Type} (x : α) (xs : List α) : atI (x :: xs) 0 = some x := by
  have e : ixN (x :: xs).length 0 = some 0 := by
    unfold ixN
    rw [if_pos (by decide), if_pos (by simp <;> omega)]
    rfl
  unfold atI
  rw [e]
  rfl
@[simp] theorem at1 {α : Type} (x y : α) (xs : List α) : atI (x :: y :: xs) 1 = some y := by
  have e : ixN (x :: y :: xs).length 1 = some 1 := by
    unfold ixN
    rw [if_pos (by decide), if_pos (by simp <;> omega)]
    rfl
  unfold atI
  rw [e]
  rfl
@[simp] theorem at2 {α : Type} (x y z : α) (xs : List α) : atI (x :: y :: z :: xs) 2 = some z := by
  have e : ixN (x :: y :: z :: xs).length 2 = some 2 := by
    unfold ixN
    rw [if_pos (by decide), if_pos (by simp <;> omega)]
    rfl
  unfold atI
  rw [e]
  rfl
theorem at_mem {α : Type} {xs : List α} {r : Int} {d : α} (h : atI xs r = some d) : d ∈ xs := by
  unfold atI at h
  cases e : ixN xs.length r with
  | none => rw [e] at h; cases h
  | some j => rw [e] at h; exact List.mem_of_getElem? h
theorem range_at {r : Int} {i : Nat} {d : D} (hd : (rangeL 0 r)[i]? = some d) : d = .int i := by
  unfold rangeL at hd
  rw [List.getElem?_map] at hd
  cases q : (List.range (r - 0).toNat)[i]? with
  | none => rw [q] at hd; cases hd
  | some k =>
    rw [q] at hd
    have := (List.getElem?_eq_some_iff.mp q).2
    simp at this
    subst this
    simpa using hd.symm
theorem range_lt {r : Int} {i : Nat} {d : D} (hd : (rangeL 0 r)[i]? = some d) : (i : Int) < r := by
  have := (List.getElem?_eq_some_iff.mp hd).1
  simp [rangeL] at this
  omega
theorem pow_ev (C : Ctx) (ρ : Env) (k : Nat) (h : (k : Int) ≤ 1000000) : evE C (.bin .pow (.k (.int 10)) (.k (.int k))) ρ = .ok (.sh (.int (10 ^ k)), ρ) := by
  have e : binF .pow (.int 10) (.int k) = some (.sh (.int (10 ^ k))) := by
    show (if (0 : Int) ≤ k ∧ (k : Int) ≤ 1000000 ∧ (10 : Int).natAbs < 2 ^ 64 then some (Sl.sh (.int ((10 : Int) ^ (k : Int).toNat))) else none) = _
    rw [if_pos ⟨by omega, h, by decide⟩, Int.toNat_natCast]
  rw [evE, evE, bind_ok_eq, evE, bind_ok_eq]
  show (Z.of (binF .pow (.int 10) (.int k))).bind _ = _
  rw [e]
  rfl
theorem rep_one {α : Type} (d : α) : ∀ k : Nat, rep k [d] = List.replicate k d
  | 0 => rfl
  | k + 1 => by
    have e : rep (k + 1) [d] = d :: rep k [d] := by simp [rep, List.replicate_succ]
    rw [e, rep_one d k, List.replicate_succ]
theorem mulL {ρ : Env} {d : D} {k : Nat} (hk : k < 1000) : binS .mul ρ (.ol [d]) (.sh (.int k)) = some (.ol (List.replicate k d)) := by
  have e : binF .mul (.lst [d]) (.int k) = if -(2 ^ 63) ≤ (k : Int) ∧ (k : Int) < 2 ^ 63 ∧ [d].length * (k : Int).toNat ≤ LIM then some (.ol (rep (k : Int).toNat [d])) else none := rfl
  simp only [binS, vw, see, res]
  rw [e, if_pos ⟨by omega, by omega, by simp [LIM]; omega⟩, Int.toNat_natCast, rep_one]
theorem mulT {ρ : Env} {d : D} {k : Nat} (hk : k < 1000) : binS .mul ρ (.sh (.tup [d])) (.sh (.int k)) = some (.sh (.tup (List.replicate k d))) := by
  have e : binF .mul (.tup [d]) (.int k) = if 1 ≤ [d].length ∧ [d].length ≤ 1000 ∧ (0 : Int) ≤ k ∧ (k : Int) ≤ 1000 then some (.sh (.tup (rep (k : Int).toNat [d]))) else none := rfl
  simp only [binS, vw, see, res]
  rw [e, if_pos ⟨by simp, by simp, by omega, by omega⟩, Int.toNat_natCast, rep_one]
/-- a while, by a measure -/
theorem whl_W {C : Ctx} {c : Te} {body : Sms} {ρ : Env} {Q : Fl × Env → Prop} (I : Nat → Env → Prop) (n : Nat) (hn : n < C.wf) (hI : I n ρ)
    (step : ∀ k ρ, I k ρ → ∃ (b : Bool) (ρ1 : Env), evT C c ρ = .ok (b, ρ1) ∧ (b = true → Y (exSs C body ρ1) fun r => ((r.1 = .nx ∨ r.1 = .ct) ∧ ∃ k', k' < k ∧ I k' r.2) ∨ ∃ s, r.1 = .rt s ∧ Q (.rt s, r.2)) ∧ (b = false → Q (.nx, ρ1))) : Y (exS C (.whl c body) ρ) Q := by
  have run : ∀ (n k fuel : Nat) (ρ : Env), k ≤ n → k < fuel → I k ρ → Y (whlL (evT C c) (exSs C body) fuel ρ) Q := by
    intro n
    induction n with
    | zero =>
      intro k fuel ρ hk hf hI
      obtain ⟨f, rfl⟩ : ∃ f, fuel = f + 1 := ⟨fuel - 1, by omega⟩
      obtain ⟨b, ρ1, e, s1, s0⟩ := step k ρ hI
      cases b with
      | false => exact ⟨_, by simp [whlL, e], s0 rfl⟩
      | true =>
        obtain ⟨⟨fl, ρ2⟩, e2, h2⟩ := s1 rfl
        rcases h2 with ⟨_, k', h3, _⟩ | ⟨s, hs, q⟩
        · omega
        · dsimp only at hs q
          subst hs
          exact ⟨_, by simp [whlL, e, e2], q⟩
    | succ n ih =>
      intro k fuel ρ hk hf hI
      obtain ⟨f, rfl⟩ : ∃ f, fuel = f + 1 := ⟨fuel - 1, by omega⟩
      obtain ⟨b, ρ1, e, s1, s0⟩ := step k ρ hI
      cases b with
      | false => exact ⟨_, by simp [whlL, e], s0 rfl⟩
      | true =>
        obtain ⟨⟨fl, ρ2⟩, e2, h2⟩ := s1 rfl
        rcases h2 with ⟨hfl, k', h3, h4⟩ | ⟨s, hs, q⟩
        · obtain ⟨r, e3, q⟩ := ih k' f ρ2 (by omega) (by omega) h4
          dsimp only at hfl
          refine ⟨r, ?_, q⟩
          rcases hfl with rfl | rfl <;> simp [whlL, e, e2, e3]
        · dsimp only at hs q
          subst hs
          exact ⟨_, by simp [whlL, e, e2], q⟩
  obtain ⟨r, e, q⟩ := run n n C.wf ρ (Nat.le_refl _) hn hI
  exact ⟨r, by rw [exS]; exact e, q⟩
end Mp
namespace Mp
namespace K40
open PySem PySem.Spec PyProof.Rows L2
def topS (i : Nat) : Stmt := PySem.Challenge.pw_surewatch_k40_rows_that_part.main.body.getD i (.Pass ⟨0, 0, 0, 0⟩)
def df0 : DefI := ⟨"happenings_of", topS 1, ["table"], ["table", "found", "name", "most", "k"], 24, []⟩
def df1 : DefI := ⟨"word_key", topS 3, ["word"], ["word"], 88, []⟩
def df2 : DefI := ⟨"pairs_behind", topS 4, ["nexts", "pair"], ["nexts", "pair"], 89, []⟩
def df3 : DefI := ⟨"parting", topS 5, ["table", "nexts", "words", "one", "other"], ["table", "nexts", "words", "one", "other", "rows", "line", "at", "pair", "happening", "behind"], 90, []⟩
def df4 : DefI := ⟨"_law_mix", topS 7, ["_law_cell", "_law_k"], ["_law_cell", "_law_k", "_law_by"], 66, []⟩
def df5 : DefI := ⟨"_law_feed", topS 8, ["_law_script", "_law_k"], ["_law_script", "_law_k", "_law_cell"], 67, []⟩
def df6 : DefI := ⟨"_law_take", topS 9, ["_law_feed_here", "_law_many"], ["_law_feed_here", "_law_many", "_law_found"], 68, []⟩
def df7 : DefI := ⟨"_law_table", topS 10, ["_law_feed_here"], ["_law_feed_here", "_law_pool", "_law_start", "_law_many", "_law_left", "_law_table_here", "_law_k", "_law_most"], 69, []⟩
def df8 : DefI := ⟨"_law_happenings", topS 11, ["_law_table_here"], ["_law_table_here", "_law_found", "_law_name", "_law_most", "_law_k"], 70, []⟩
def df9 : DefI := ⟨"_law_machine", topS 12, ["_law_feed_here", "_law_table_here", "_law_menu"], ["_law_feed_here", "_law_table_here", "_law_menu", "_law_many", "_law_wide", "_law_nexts", "_law_spot", "_law_marks", "_law_k"], 71, []⟩
def df10 : DefI := ⟨"_law_due", topS 13, ["_law_table_here", "_law_nexts", "_law_marks", "_law_one", "_law_other"], ["_law_table_here", "_law_nexts", "_law_marks", "_law_one", "_law_other", "_law_seen", "_law_fresh", "_law_later", "_law_pair", "_law_row", "_law_happening", "_law_first", "_law_second"], 91, []⟩
def df11 : DefI := ⟨"law", topS 14, ["_law_script"], ["_law_script", "_law_table_here", "_law_menus", "_law_k", "_law_kept", "_law_one", "_law_nexts", "_law_marks", "_law_other", "_law_found"], 0, []⟩
def mo : Modl := ⟨[df0, df1, df2, df3, df4, df5, df6, df7, df8, df9, df10, df11],
  [],
  ["bool", "int", "isinstance", "len", "list", "min", "range", "repr", "tuple", "zip"]⟩
theorem sc0 : fsC df0.N df0.ps (defScope df0.st) = true := by decide +kernel
theorem sc1 : fsC df1.N df1.ps (defScope df1.st) = true := by decide +kernel
theorem sc2 : fsC df2.N df2.ps (defScope df2.st) = true := by decide +kernel
theorem sc3 : fsC df3.N df3.ps (defScope df3.st) = true := by decide +kernel
theorem sc4 : fsC df4.N df4.ps (defScope df4.st) = true := by decide +kernel
theorem sc5 : fsC df5.N df5.ps (defScope df5.st) = true := by decide +kernel
theorem sc6 : fsC df6.N df6.ps (defScope df6.st) = true := by decide +kernel
theorem sc7 : fsC df7.N df7.ps (defScope df7.st) = true := by decide +kernel
theorem sc8 : fsC df8.N df8.ps (defScope df8.st) = true := by decide +kernel
theorem sc9 : fsC df9.N df9.ps (defScope df9.st) = true := by decide +kernel
theorem sc10 : fsC df10.N df10.ps (defScope df10.st) = true := by decide +kernel
theorem sc11 : fsC df11.N df11.ps (defScope df11.st) = true := by decide +kernel
theorem top_mk {K : PySem.W.Frag} {P : Program} {w : World} {mg : Str → Option Value} {h : Heap} (X : K.In h) (G : h.Ns mainGlobals mg)
  (d0 : DefAt ⟨K, P, w⟩ mg df0)
  (d1 : DefAt ⟨K, P, w⟩ mg df1)
  (d2 : DefAt ⟨K, P, w⟩ mg df2)
  (d3 : DefAt ⟨K, P, w⟩ mg df3)
  (d4 : DefAt ⟨K, P, w⟩ mg df4)
  (d5 : DefAt ⟨K, P, w⟩ mg df5)
  (d6 : DefAt ⟨K, P, w⟩ mg df6)
  (d7 : DefAt ⟨K, P, w⟩ mg df7)
  (d8 : DefAt ⟨K, P, w⟩ mg df8)
  (d9 : DefAt ⟨K, P, w⟩ mg df9)
  (d10 : DefAt ⟨K, P, w⟩ mg df10)
  (d11 : DefAt ⟨K, P, w⟩ mg df11)
  (z0 : PySem.W.nsIn K mainGlobals "bool" = some none)
  (z1 : PySem.W.nsIn K mainGlobals "int" = some none)
  (z2 : PySem.W.nsIn K mainGlobals "isinstance" = some none)
  (z3 : PySem.W.nsIn K mainGlobals "len" = some none)
  (z4 : PySem.W.nsIn K mainGlobals "list" = some none)
  (z5 : PySem.W.nsIn K mainGlobals "min" = some none)
  (z6 : PySem.W.nsIn K mainGlobals "range" = some none)
  (z7 : PySem.W.nsIn K mainGlobals "repr" = some none)
  (z8 : PySem.W.nsIn K mainGlobals "tuple" = some none)
  (z9 : PySem.W.nsIn K mainGlobals "zip" = some none)
  : Top mo ⟨K, P, w⟩ mg := by
  refine ⟨fun d hd => ?_, fun c hc => ?_, fun x hx => ?_⟩
  · simp only [mo, List.mem_cons, List.not_mem_nil, or_false] at hd
    rcases hd with rfl | rfl | rfl | rfl | rfl | rfl | rfl | rfl | rfl | rfl | rfl | rfl
    · exact ⟨d0, sc0⟩
    · exact ⟨d1, sc1⟩
    · exact ⟨d2, sc2⟩
    · exact ⟨d3, sc3⟩
    · exact ⟨d4, sc4⟩
    · exact ⟨d5, sc5⟩
    · exact ⟨d6, sc6⟩
    · exact ⟨d7, sc7⟩
    · exact ⟨d8, sc8⟩
    · exact ⟨d9, sc9⟩
    · exact ⟨d10, sc10⟩
    · exact ⟨d11, sc11⟩
  · simp [mo] at hc
  · simp only [mo, List.mem_cons, List.not_mem_nil, or_false] at hx
    rcases hx with rfl | rfl | rfl | rfl | rfl | rfl | rfl | rfl | rfl | rfl
    · exact no_at X G z0
    · exact no_at X G z1
    · exact no_at X G z2
    · exact no_at X G z3
    · exact no_at X G z4
    · exact no_at X G z5
    · exact no_at X G z6
    · exact no_at X G z7
    · exact no_at X G z8
    · exact no_at X G z9
end K40
end Mp
namespace Mp
/-! _law_mix(_law_cell, _law_k): 0=_law_cell 1=_law_k 2=_law_by -/
def S66_1 : Sm := (.ret (.bin .mod (.bin .mul (.bin .mod (.v 2) (.k (.int (2147483647)))) (.k (.int (69621)))) (.k (.int (2147483629)))))
def L66_1 : Sms := .cons S66_1 .nil
theorem t66_1 (C : Ctx) (ρ : Env) (Q : Fl × Env → Prop) : Y (exSs C L66_1 ρ) Q = Y (exS C S66_1 ρ) (Kc C .nil Q) := Y_st _ _ _ _ _
def S66_0 : Sm := (.asg 2 (.bin .add (.bin .add (.bin .mul (.bin .add (.bin .mod (.v 0) (.bin .pow (.k (.int (10))) (.k (.int (15))))) (.k (.int (1)))) (.k (.int (48271)))) (.bin .mul (.bin .mul (.v 1) (.v 1)) (.k (.int (16807))))) (.bin .mul (.v 1) (.k (.int (7919))))))
def L66_0 : Sms := .cons S66_0 L66_1
theorem t66_0 (C : Ctx) (ρ : Env) (Q : Fl × Env → Prop) : Y (exSs C L66_0 ρ) Q = Y (exS C S66_0 ρ) (Kc C L66_1 Q) := Y_st _ _ _ _ _
/-! _law_feed(_law_script, _law_k): 0=_law_script 1=_law_k 2=_law_cell -/
def S67_1a0 : Sm := (.asg 2 (.idx (.v 0) (.v 1)))
def L67_1a0 : Sms := .cons S67_1a0 .nil
theorem t67_1a0 (C : Ctx) (ρ : Env) (Q : Fl × Env → Prop) : Y (exSs C L67_1a0 ρ) Q = Y (exS C S67_1a0 ρ) (Kc C .nil Q) := Y_st _ _ _ _ _
def S67_1e0a0 : Sm := (.asg 2 (.call 66 (.cons (.idx (.v 0) (.bin .mod (.v 1) (.bi .len (.cons (.v 0) .nil)))) (.cons (.v 1) .nil))))
def L67_1e0a0 : Sms := .cons S67_1e0a0 .nil
theorem t67_1e0a0 (C : Ctx) (ρ : Env) (Q : Fl × Env → Prop) : Y (exSs C L67_1e0a0 ρ) Q = Y (exS C S67_1e0a0 ρ) (Kc C .nil Q) := Y_st _ _ _ _ _
def S67_1e0 : Sm := (.ifs (.e (.cmp .gt (.bi .len (.cons (.v 0) .nil)) (.k (.int (0))))) L67_1e0a0 .nil)
def L67_1e0 : Sms := .cons S67_1e0 .nil
theorem t67_1e0 (C : Ctx) (ρ : Env) (Q : Fl × Env → Prop) : Y (exSs C L67_1e0 ρ) Q = Y (exS C S67_1e0 ρ) (Kc C .nil Q) := Y_st _ _ _ _ _
def S67_2 : Sm := (.ret (.lst (.cons (.v 2) (.cons (.k (.int (0))) (.cons (.bin .mul (.bin .sub (.v 2) (.bin .pow (.k (.int (10))) (.k (.int (18))))) (.bi .int (.cons (.cmp .ge (.v 2) (.bin .pow (.k (.int (10))) (.k (.int (18))))) .nil))) .nil)))))
def L67_2 : Sms := .cons S67_2 .nil
theorem t67_2 (C : Ctx) (ρ : Env) (Q : Fl × Env → Prop) : Y (exSs C L67_2 ρ) Q = Y (exS C S67_2 ρ) (Kc C .nil Q) := Y_st _ _ _ _ _
def S67_1 : Sm := (.ifs (.e (.cmp .lt (.v 1) (.bi .len (.cons (.v 0) .nil)))) L67_1a0 L67_1e0)
def L67_1 : Sms := .cons S67_1 L67_2
theorem t67_1 (C : Ctx) (ρ : Env) (Q : Fl × Env → Prop) : Y (exSs C L67_1 ρ) Q = Y (exS C S67_1 ρ) (Kc C L67_2 Q) := Y_st _ _ _ _ _
def S67_0 : Sm := (.asg 2 (.bin .add (.bin .mul (.k (.int (7919))) (.v 1)) (.k (.int (1)))))
def L67_0 : Sms := .cons S67_0 L67_1
theorem t67_0 (C : Ctx) (ρ : Env) (Q : Fl × Env → Prop) : Y (exSs C L67_0 ρ) Q = Y (exS C S67_0 ρ) (Kc C L67_1 Q) := Y_st _ _ _ _ _
/-! _law_take(_law_feed_here, _law_many): 0=_law_feed_here 1=_law_many 2=_law_found -/
def S68_1a2 : Sm := (.ret (.v 2))
def L68_1a2 : Sms := .cons S68_1a2 .nil
theorem t68_1a2 (C : Ctx) (ρ : Env) (Q : Fl × Env → Prop) : Y (exSs C L68_1a2 ρ) Q = Y (exS C S68_1a2 ρ) (Kc C .nil Q) := Y_st _ _ _ _ _
def S68_1a1 : Sm := (.setI 0 (.k (.int (2))) (.bin .fdiv (.idx (.v 0) (.k (.int (2)))) (.v 1)))
def L68_1a1 : Sms := .cons S68_1a1 L68_1a2
theorem t68_1a1 (C : Ctx) (ρ : Env) (Q : Fl × Env → Prop) : Y (exSs C L68_1a1 ρ) Q = Y (exS C S68_1a1 ρ) (Kc C L68_1a2 Q) := Y_st _ _ _ _ _
def S68_1a0 : Sm := (.asg 2 (.bin .mod (.idx (.v 0) (.k (.int (2)))) (.v 1)))
def L68_1a0 : Sms := .cons S68_1a0 L68_1a1
theorem t68_1a0 (C : Ctx) (ρ : Env) (Q : Fl × Env → Prop) : Y (exSs C L68_1a0 ρ) Q = Y (exS C S68_1a0 ρ) (Kc C L68_1a1 Q) := Y_st _ _ _ _ _
def S68_2 : Sm := (.ret (.bin .mod (.bin .fdiv (.call 66 (.cons (.idx (.v 0) (.k (.int (0)))) (.cons (.idx (.v 0) (.k (.int (1)))) .nil))) (.k (.int (7)))) (.v 1)))
def L68_2 : Sms := .cons S68_2 .nil
theorem t68_2 (C : Ctx) (ρ : Env) (Q : Fl × Env → Prop) : Y (exSs C L68_2 ρ) Q = Y (exS C S68_2 ρ) (Kc C .nil Q) := Y_st _ _ _ _ _
def S68_1 : Sm := (.ifs (.e (.cmp .gt (.idx (.v 0) (.k (.int (2)))) (.k (.int (0))))) L68_1a0 .nil)
def L68_1 : Sms := .cons S68_1 L68_2
theorem t68_1 (C : Ctx) (ρ : Env) (Q : Fl × Env → Prop) : Y (exSs C L68_1 ρ) Q = Y (exS C S68_1 ρ) (Kc C L68_2 Q) := Y_st _ _ _ _ _
def S68_0 : Sm := (.setI 0 (.k (.int (1))) (.bin .add (.idx (.v 0) (.k (.int (1)))) (.k (.int (1)))))
def L68_0 : Sms := .cons S68_0 L68_1
theorem t68_0 (C : Ctx) (ρ : Env) (Q : Fl × Env → Prop) : Y (exSs C L68_0 ρ) Q = Y (exS C S68_0 ρ) (Kc C L68_1 Q) := Y_st _ _ _ _ _
structure HMix (P : Pg) : Prop where
  mix : P.fn 66 = some ⟨2, 3, L66_0⟩
structure HFeed (P : Pg) : Prop extends HMix P where
  feed : P.fn 67 = some ⟨2, 3, L67_0⟩
  take : P.fn 68 = some ⟨2, 3, L68_0⟩
/-- a feed, at most b turns -/
def Tf (xs : List D) (b : Int) : Prop := ∃ c l t : Int, xs = [.int c, .int t, .int l] ∧ 0 ≤ t ∧ t ≤ b
theorem Tf.mono {xs : List D} {b b' : Int} (h : Tf xs b) (k : b ≤ b') : Tf xs b' := by
  obtain ⟨c, l, t, e, h1, h2⟩ := h
  exact ⟨c, l, t, e, h1, by omega⟩
theorem q15 (C : Ctx) (ρ : Env) : evE C (.bin .pow (.k (.int 10)) (.k (.int 15))) ρ = .ok (.sh (.int 1000000000000000), ρ) := pow_ev C ρ 15 (by decide)
theorem q18 (C : Ctx) (ρ : Env) : evE C (.bin .pow (.k (.int 10)) (.k (.int 18))) ρ = .ok (.sh (.int 1000000000000000000), ρ) := pow_ev C ρ 18 (by decide)
def MixQ (a b : Sl) : Fl × Env → Prop := fun r => ∃ x z, r = (.rt (.sh (.int x)), [a, b, z])
theorem mix {P : Pg} (h : HMix P) (wf n : Nat) (c k : Int) (h0 : 0 ≤ k) (hk : k < 100000000000000000) : ∃ r, callM P wf (n + 1) 66 [.sh (.int c), .sh (.int k)] = .ok (.sh (.int r), [.sh (.int c), .sh (.int k)]) := by
  have : Y (callM P wf (n + 1) 66 [.sh (.int c), .sh (.int k)]) fun r => ∃ x, r = (.sh (.int x), [.sh (.int c), .sh (.int k)]) := by
    refine call_by (MixQ (.sh (.int c)) (.sh (.int k))) h.mix rfl rfl (by decide) (fun C c1 c2 c3 c4 c5 => ?_) (by rintro _ ⟨x, z, rfl⟩; exact ⟨_, _, rfl, rfl, x, rfl⟩)
    have s0 : small k = true := by unfold small; simp; omega
    have s1 : small 48271 = true := by decide
    have s2 : small 16807 = true := by decide
    have s3 : small 69621 = true := by decide
    have s4 : small 7919 = true := by decide
    simp [allB_map, all_id, allB, ev_k, ev_v, ev_g, ev_fr, ev_tup, ev_lst, ev_dct, ev_bin, ev_neg, ev_not, ev_and, ev_or, ev_cmp, ev_chain, ev_ite, ev_idx, ev_slc, ev_call, ev_bi, ev_bm, ev_mu, ev_isi, ev_rpr, ev_lset, ev_dcn, ev_dc1, ev_dget, ev_dsd, ev_pr2, ev_rev, asgTS, biD, isDn, isOd, hasD, dgetN, dsdS, revF, zip3F, ex_ret_, ex_retN_, ex_asg_, ex_asgT_, ex_setI_, ex_ex_, ex_ifs_, ex_pass_, ex_brk_, ex_cont_, evT, evA, evF, evI, evO, vw, see, res, tru, D.truth, cmpS, cmpV, cmpF, inF, retS, List.replicate, biS, vws, biF, keepSh, asgS, binS, binF, fz, idxS, idxF, intOf, blOf, slcS, slcF, D.noK, isTy, pks, nodup, argS, argsBack, Y_ok, Y_ite, Y_nil, Kc_nx, Kc_rt, Kc_bk, Kc_ct, setIF, isOD, lookS, putS, muF, lock, unlock, rangeF, bindT, setT, LIM, wrOf, isSh, bmS, bmF, bmT, zipF, itemsZ, enumF, ↓reduceIte, S66_1, t66_1, S66_0, t66_0, c3, ↓q15, s0, s1, s2, s3, s4]
    exact ⟨_, _, rfl⟩
  obtain ⟨_, e, x, rfl⟩ := this
  exact ⟨x, e⟩
theorem take {P : Pg} (h : HFeed P) (wf n : Nat) {xs : List D} {b : Int} (T : Tf xs b) (m : Int) (hm : 0 < m) (hm2 : m < 1073741824) (hb : b < 10000000000000000) : ∃ r xs', callM P wf (n + 2) 68 [.ol xs, .sh (.int m)] = .ok (.sh (.int r), [.ol xs', .sh (.int m)]) ∧ 0 ≤ r ∧ r < m ∧ Tf xs' (b + 1) := by
  obtain ⟨c, l, t, rfl, h1, h2⟩ := T
  have e1 : m ≠ 0 := by omega
  have e2 : m.natAbs < 1073741824 := by omega
  obtain ⟨q, e⟩ := mix h.toHMix wf n c (t + 1) (by omega) (by omega)
  have s1 : ∀ (x y z w : D), ([x, y, z] : List D).set 1 w = [x, w, z] := fun _ _ _ _ => rfl
  have i1 : ∀ (x y z : D), ixN ([x, y, z] : List D).length 1 = some 1 := fun _ _ _ => rfl
  have i2 : ixN 3 1 = some 1 := rfl
  have i3 : ixN 3 2 = some 2 := rfl
  by_cases hp : l > 0
  · obtain ⟨f1, f2⟩ := fmod_pos l hm
    refine ⟨l.fmod m, [.int c, .int (t + 1), .int (l.fdiv m)], call_run h.take rfl rfl (by decide) (fun C c1 c2 c3 c4 c5 => ?_) rfl, f1, f2, c, _, t + 1, rfl, by omega, by omega⟩
    simp [allB_map, all_id, allB, ev_k, ev_v, ev_g, ev_fr, ev_tup, ev_lst, ev_dct, ev_bin, ev_neg, ev_not, ev_and, ev_or, ev_cmp, ev_chain, ev_ite, ev_idx, ev_slc, ev_call, ev_bi, ev_bm, ev_mu, ev_isi, ev_rpr, ev_lset, ev_dcn, ev_dc1, ev_dget, ev_dsd, ev_pr2, ev_rev, asgTS, biD, isDn, isOd, hasD, dgetN, dsdS, revF, zip3F, ex_ret_, ex_retN_, ex_asg_, ex_asgT_, ex_setI_, ex_ex_, ex_ifs_, ex_pass_, ex_brk_, ex_cont_, evT, evA, evF, evI, evO, vw, see, res, tru, D.truth, cmpS, cmpV, cmpF, inF, retS, List.replicate, biS, vws, biF, keepSh, asgS, binS, binF, fz, idxS, idxF, intOf, blOf, slcS, slcF, D.noK, isTy, pks, nodup, argS, argsBack, Y_ok, Y_ite, Y_nil, Kc_nx, Kc_rt, Kc_bk, Kc_ct, setIF, isOD, lookS, putS, muF, lock, unlock, rangeF, bindT, setT, LIM, wrOf, isSh, bmS, bmF, bmT, zipF, itemsZ, enumF, ↓reduceIte, S68_1a2, t68_1a2, S68_1a1, t68_1a1, S68_1a0, t68_1a0, S68_2, t68_2, S68_1, t68_1, S68_0, t68_0, c1, c3, hp, e1, e2, i2, i3]
  · obtain ⟨f1, f2⟩ := fmod_pos (q.fdiv 7) hm
    refine ⟨(q.fdiv 7).fmod m, [.int c, .int (t + 1), .int l], call_run h.take rfl rfl (by decide) (fun C c1 c2 c3 c4 c5 => ?_) rfl, f1, f2, c, _, t + 1, rfl, by omega, by omega⟩
    simp [allB_map, all_id, allB, ev_k, ev_v, ev_g, ev_fr, ev_tup, ev_lst, ev_dct, ev_bin, ev_neg, ev_not, ev_and, ev_or, ev_cmp, ev_chain, ev_ite, ev_idx, ev_slc, ev_call, ev_bi, ev_bm, ev_mu, ev_isi, ev_rpr, ev_lset, ev_dcn, ev_dc1, ev_dget, ev_dsd, ev_pr2, ev_rev, asgTS, biD, isDn, isOd, hasD, dgetN, dsdS, revF, zip3F, ex_ret_, ex_retN_, ex_asg_, ex_asgT_, ex_setI_, ex_ex_, ex_ifs_, ex_pass_, ex_brk_, ex_cont_, evT, evA, evF, evI, evO, vw, see, res, tru, D.truth, cmpS, cmpV, cmpF, inF, retS, List.replicate, biS, vws, biF, keepSh, asgS, binS, binF, fz, idxS, idxF, intOf, blOf, slcS, slcF, D.noK, isTy, pks, nodup, argS, argsBack, Y_ok, Y_ite, Y_nil, Kc_nx, Kc_rt, Kc_bk, Kc_ct, setIF, isOD, lookS, putS, muF, lock, unlock, rangeF, bindT, setT, LIM, wrOf, isSh, bmS, bmF, bmT, zipF, itemsZ, enumF, ↓reduceIte, S68_1a2, t68_1a2, S68_1a1, t68_1a1, S68_1a0, t68_1a0, S68_2, t68_2, S68_1, t68_1, S68_0, t68_0, c1, c3, hp, e1, e2, i2, i3, e]
def FeedQ (a b : Sl) : Fl × Env → Prop := fun r => ∃ c l z, r = (.rt (.ol [.int c, .int 0, .int l]), [a, b, z])
theorem mk_feed {P : Pg} (h : HFeed P) (wf n : Nat) (ns : List Int) (k : Nat) (hk : k < 1000000) (hn : ns.length ≤ 63) : ∃ xs, callM P wf (n + 2) 67 [.sh (.kl (ns.map D.int)), .sh (.int k)] = .ok (.ol xs, [.sh (.kl (ns.map D.int)), .sh (.int k)]) ∧ Tf xs 0 := by
  have s7 : small 7919 = true := by decide
  have sb1 : small 1 = true := by decide
  have sb0 : small 0 = true := by decide
  have tail : ∀ (C : Ctx) (c3 : C.wr = wrOf [.sh (.kl (ns.map D.int)), .sh (.int k)]) (c : Int), Y (exSs C L67_2 [.sh (.kl (ns.map D.int)), .sh (.int k), .sh (.int c)]) (FeedQ (.sh (.kl (ns.map D.int))) (.sh (.int k))) := by
    intro C c3 c
    by_cases hc : 1000000000000000000 ≤ c
    · simp [allB_map, all_id, allB, ev_k, ev_v, ev_g, ev_fr, ev_tup, ev_lst, ev_dct, ev_bin, ev_neg, ev_not, ev_and, ev_or, ev_cmp, ev_chain, ev_ite, ev_idx, ev_slc, ev_call, ev_bi, ev_bm, ev_mu, ev_isi, ev_rpr, ev_lset, ev_dcn, ev_dc1, ev_dget, ev_dsd, ev_pr2, ev_rev, asgTS, biD, isDn, isOd, hasD, dgetN, dsdS, revF, zip3F, ex_ret_, ex_retN_, ex_asg_, ex_asgT_, ex_setI_, ex_ex_, ex_ifs_, ex_pass_, ex_brk_, ex_cont_, evT, evA, evF, evI, evO, vw, see, res, tru, D.truth, cmpS, cmpV, cmpF, inF, retS, List.replicate, biS, vws, biF, keepSh, asgS, binS, binF, fz, idxS, idxF, intOf, blOf, slcS, slcF, D.noK, isTy, pks, nodup, argS, argsBack, Y_ok, Y_ite, Y_nil, Kc_nx, Kc_rt, Kc_bk, Kc_ct, setIF, isOD, lookS, putS, muF, lock, unlock, rangeF, bindT, setT, LIM, wrOf, isSh, bmS, bmF, bmT, zipF, itemsZ, enumF, ↓reduceIte, S67_1a0, t67_1a0, S67_1e0a0, t67_1e0a0, S67_1e0, t67_1e0, S67_2, t67_2, S67_1, t67_1, S67_0, t67_0, c3, evF, ↓q18, hc, sb1]
      exact ⟨_, _, _, rfl⟩
    · simp [allB_map, all_id, allB, ev_k, ev_v, ev_g, ev_fr, ev_tup, ev_lst, ev_dct, ev_bin, ev_neg, ev_not, ev_and, ev_or, ev_cmp, ev_chain, ev_ite, ev_idx, ev_slc, ev_call, ev_bi, ev_bm, ev_mu, ev_isi, ev_rpr, ev_lset, ev_dcn, ev_dc1, ev_dget, ev_dsd, ev_pr2, ev_rev, asgTS, biD, isDn, isOd, hasD, dgetN, dsdS, revF, zip3F, ex_ret_, ex_retN_, ex_asg_, ex_asgT_, ex_setI_, ex_ex_, ex_ifs_, ex_pass_, ex_brk_, ex_cont_, evT, evA, evF, evI, evO, vw, see, res, tru, D.truth, cmpS, cmpV, cmpF, inF, retS, List.replicate, biS, vws, biF, keepSh, asgS, binS, binF, fz, idxS, idxF, intOf, blOf, slcS, slcF, D.noK, isTy, pks, nodup, argS, argsBack, Y_ok, Y_ite, Y_nil, Kc_nx, Kc_rt, Kc_bk, Kc_ct, setIF, isOD, lookS, putS, muF, lock, unlock, rangeF, bindT, setT, LIM, wrOf, isSh, bmS, bmF, bmT, zipF, itemsZ, enumF, ↓reduceIte, S67_1a0, t67_1a0, S67_1e0a0, t67_1e0a0, S67_1e0, t67_1e0, S67_2, t67_2, S67_1, t67_1, S67_0, t67_0, c3, evF, ↓q18, hc, sb0]
      exact ⟨_, _, _, rfl⟩
  have : Y (callM P wf (n + 2) 67 [.sh (.kl (ns.map D.int)), .sh (.int k)]) fun r => ∃ xs, r = (.ol xs, [.sh (.kl (ns.map D.int)), .sh (.int k)]) ∧ Tf xs 0 := by
    refine call_by (FeedQ (.sh (.kl (ns.map D.int))) (.sh (.int k))) h.feed rfl rfl (by decide) (fun C c1 c2 c3 c4 c5 => ?_) (by rintro _ ⟨c, l, z, rfl⟩; exact ⟨_, _, rfl, rfl, _, rfl, c, l, 0, rfl, by omega, by omega⟩)
    have T := tail C c3
    by_cases h1 : k < ns.length
    · have hx : atI (ns.map D.int) k = some (.int ns[k]) := by
        simp [atI, ixN, h1]
      simp [allB_map, all_id, allB, ev_k, ev_v, ev_g, ev_fr, ev_tup, ev_lst, ev_dct, ev_bin, ev_neg, ev_not, ev_and, ev_or, ev_cmp, ev_chain, ev_ite, ev_idx, ev_slc, ev_call, ev_bi, ev_bm, ev_mu, ev_isi, ev_rpr, ev_lset, ev_dcn, ev_dc1, ev_dget, ev_dsd, ev_pr2, ev_rev, asgTS, biD, isDn, isOd, hasD, dgetN, dsdS, revF, zip3F, ex_ret_, ex_retN_, ex_asg_, ex_asgT_, ex_setI_, ex_ex_, ex_ifs_, ex_pass_, ex_brk_, ex_cont_, evT, evA, evF, evI, evO, vw, see, res, tru, D.truth, cmpS, cmpV, cmpF, inF, retS, List.replicate, biS, vws, biF, keepSh, asgS, binS, binF, fz, idxS, idxF, intOf, blOf, slcS, slcF, D.noK, isTy, pks, nodup, argS, argsBack, Y_ok, Y_ite, Y_nil, Kc_nx, Kc_rt, Kc_bk, Kc_ct, setIF, isOD, lookS, putS, muF, lock, unlock, rangeF, bindT, setT, LIM, wrOf, isSh, bmS, bmF, bmT, zipF, itemsZ, enumF, ↓reduceIte, S67_0, t67_0, S67_1, t67_1, S67_1a0, t67_1a0, c1, c3, s7, h1, hx]
      exact T _
    · by_cases h0 : 0 < ns.length
      · have hp : 0 < (ns.length : Int) := by omega
        obtain ⟨f1, f2⟩ := fmod_pos (k : Int) hp
        have hi : ((k : Int).fmod ns.length).toNat < ns.length := by omega
        have hx : atI (ns.map D.int) ((k : Int).fmod ns.length) = some (.int ns[((k : Int).fmod ns.length).toNat]) := by
          simp [atI, ixN, f1, f2, hi]
        have hz : ¬ ns.length = 0 := by omega
        obtain ⟨q, e⟩ := mix h.toHMix wf n ns[((k : Int).fmod ns.length).toNat] k (by omega) (by omega)
        simp [allB_map, all_id, allB, ev_k, ev_v, ev_g, ev_fr, ev_tup, ev_lst, ev_dct, ev_bin, ev_neg, ev_not, ev_and, ev_or, ev_cmp, ev_chain, ev_ite, ev_idx, ev_slc, ev_call, ev_bi, ev_bm, ev_mu, ev_isi, ev_rpr, ev_lset, ev_dcn, ev_dc1, ev_dget, ev_dsd, ev_pr2, ev_rev, asgTS, biD, isDn, isOd, hasD, dgetN, dsdS, revF, zip3F, ex_ret_, ex_retN_, ex_asg_, ex_asgT_, ex_setI_, ex_ex_, ex_ifs_, ex_pass_, ex_brk_, ex_cont_, evT, evA, evF, evI, evO, vw, see, res, tru, D.truth, cmpS, cmpV, cmpF, inF, retS, List.replicate, biS, vws, biF, keepSh, asgS, binS, binF, fz, idxS, idxF, intOf, blOf, slcS, slcF, D.noK, isTy, pks, nodup, argS, argsBack, Y_ok, Y_ite, Y_nil, Kc_nx, Kc_rt, Kc_bk, Kc_ct, setIF, isOD, lookS, putS, muF, lock, unlock, rangeF, bindT, setT, LIM, wrOf, isSh, bmS, bmF, bmT, zipF, itemsZ, enumF, ↓reduceIte, S67_0, t67_0, S67_1, t67_1, S67_1e0, t67_1e0, S67_1e0a0, t67_1e0a0, c1, c3, s7, h1, h0, hx, hz, e]
        exact T _
      · simp [allB_map, all_id, allB, ev_k, ev_v, ev_g, ev_fr, ev_tup, ev_lst, ev_dct, ev_bin, ev_neg, ev_not, ev_and, ev_or, ev_cmp, ev_chain, ev_ite, ev_idx, ev_slc, ev_call, ev_bi, ev_bm, ev_mu, ev_isi, ev_rpr, ev_lset, ev_dcn, ev_dc1, ev_dget, ev_dsd, ev_pr2, ev_rev, asgTS, biD, isDn, isOd, hasD, dgetN, dsdS, revF, zip3F, ex_ret_, ex_retN_, ex_asg_, ex_asgT_, ex_setI_, ex_ex_, ex_ifs_, ex_pass_, ex_brk_, ex_cont_, evT, evA, evF, evI, evO, vw, see, res, tru, D.truth, cmpS, cmpV, cmpF, inF, retS, List.replicate, biS, vws, biF, keepSh, asgS, binS, binF, fz, idxS, idxF, intOf, blOf, slcS, slcF, D.noK, isTy, pks, nodup, argS, argsBack, Y_ok, Y_ite, Y_nil, Kc_nx, Kc_rt, Kc_bk, Kc_ct, setIF, isOD, lookS, putS, muF, lock, unlock, rangeF, bindT, setT, LIM, wrOf, isSh, bmS, bmF, bmT, zipF, itemsZ, enumF, ↓reduceIte, S67_0, t67_0, S67_1, t67_1, S67_1e0, t67_1e0, c1, c3, s7, h1, h0]
        exact T _
  obtain ⟨_, e, xs, rfl, T⟩ := this
  exact ⟨xs, e, T⟩
end Mp
namespace Mp
/-! happenings_of(table): 0=table 1=found 2=name 3=most 4=k -/
def S24_1b0 : Sm := (.ex (.mu .extend 1 (.cons (.lc (.tup (.cons (.v 2) (.cons (.v 4) .nil))) [4] false (.range (.cons (.bin .add (.v 3) (.k (.int (1)))) .nil)) .tt) .nil)))
def L24_1b0 : Sms := .cons S24_1b0 .nil
theorem t24_1b0 (C : Ctx) (ρ : Env) (Q : Fl × Env → Prop) : Y (exSs C L24_1b0 ρ) Q = Y (exS C S24_1b0 ρ) (Kc C .nil Q) := Y_st _ _ _ _ _
def S24_2 : Sm := (.ret (.v 1))
def L24_2 : Sms := .cons S24_2 .nil
theorem t24_2 (C : Ctx) (ρ : Env) (Q : Fl × Env → Prop) : Y (exSs C L24_2 ρ) Q = Y (exS C S24_2 ρ) (Kc C .nil Q) := Y_st _ _ _ _ _
def S24_1 : Sm := (.for_ [2, 3] true (.e (.v 0)) L24_1b0)
def L24_1 : Sms := .cons S24_1 L24_2
theorem t24_1 (C : Ctx) (ρ : Env) (Q : Fl × Env → Prop) : Y (exSs C L24_1 ρ) Q = Y (exS C S24_1 ρ) (Kc C L24_2 Q) := Y_st _ _ _ _ _
def S24_0 : Sm := (.asg 1 (.lst .nil))
def L24_0 : Sms := .cons S24_0 L24_1
theorem t24_0 (C : Ctx) (ρ : Env) (Q : Fl × Env → Prop) : Y (exSs C L24_0 ρ) Q = Y (exS C S24_0 ρ) (Kc C L24_1 Q) := Y_st _ _ _ _ _
/-! is_spot(thing, many): 0=thing 1=many -/
def S61_0 : Sm := (.ret (.and (.isi (.v 0) [.int]) (.and (.not (.isi (.v 0) [.bool])) (.chain .le .lt (.k (.int (0))) (.v 0) (.v 1)))))
def L61_0 : Sms := .cons S61_0 .nil
theorem t61_0 (C : Ctx) (ρ : Env) (Q : Fl × Env → Prop) : Y (exSs C L61_0 ρ) Q = Y (exS C S61_0 ρ) (Kc C .nil Q) := Y_st _ _ _ _ _
/-! is_machine(table, thing): 0=table 1=thing 2=wide 3=row 4=nexts 5=words 6=part 7=one -/
def S62_0a0 : Sm := (.ret (.k (.bl false)))
def L62_0a0 : Sms := .cons S62_0a0 .nil
theorem t62_0a0 (C : Ctx) (ρ : Env) (Q : Fl × Env → Prop) : Y (exSs C L62_0a0 ρ) Q = Y (exS C S62_0a0 ρ) (Kc C .nil Q) := Y_st _ _ _ _ _
def S62_2a0 : Sm := (.ret (.k (.bl false)))
def L62_2a0 : Sms := .cons S62_2a0 .nil
theorem t62_2a0 (C : Ctx) (ρ : Env) (Q : Fl × Env → Prop) : Y (exSs C L62_2a0 ρ) Q = Y (exS C S62_2a0 ρ) (Kc C .nil Q) := Y_st _ _ _ _ _
def S62_4b0a0 : Sm := (.ret (.k (.bl false)))
def L62_4b0a0 : Sms := .cons S62_4b0a0 .nil
theorem t62_4b0a0 (C : Ctx) (ρ : Env) (Q : Fl × Env → Prop) : Y (exSs C L62_4b0a0 ρ) Q = Y (exS C S62_4b0a0 ρ) (Kc C .nil Q) := Y_st _ _ _ _ _
def S62_4b0 : Sm := (.ifs (.or (.not (.e (.isi (.v 3) [.tuple]))) (.or (.e (.cmp .ne (.bi .len (.cons (.v 3) .nil)) (.v 2))) (.not (.e (.bi .all (.cons (.lc (.call 61 (.cons (.v 7) (.cons (.bi .len (.cons (.v 4) .nil)) .nil))) [7] false (.e (.v 3)) .tt) .nil)))))) L62_4b0a0 .nil)
def L62_4b0 : Sms := .cons S62_4b0 .nil
theorem t62_4b0 (C : Ctx) (ρ : Env) (Q : Fl × Env → Prop) : Y (exSs C L62_4b0 ρ) Q = Y (exS C S62_4b0 ρ) (Kc C .nil Q) := Y_st _ _ _ _ _
def S62_5 : Sm := (.ret (.k (.bl true)))
def L62_5 : Sms := .cons S62_5 .nil
theorem t62_5 (C : Ctx) (ρ : Env) (Q : Fl × Env → Prop) : Y (exSs C L62_5 ρ) Q = Y (exS C S62_5 ρ) (Kc C .nil Q) := Y_st _ _ _ _ _
def S62_4 : Sm := (.for_ [3] false (.e (.v 4)) L62_4b0)
def L62_4 : Sms := .cons S62_4 L62_5
theorem t62_4 (C : Ctx) (ρ : Env) (Q : Fl × Env → Prop) : Y (exSs C L62_4 ρ) Q = Y (exS C S62_4 ρ) (Kc C L62_5 Q) := Y_st _ _ _ _ _
def S62_3 : Sm := (.asg 2 (.bi .len (.cons (.call 24 (.cons (.v 0) .nil)) .nil)))
def L62_3 : Sms := .cons S62_3 L62_4
theorem t62_3 (C : Ctx) (ρ : Env) (Q : Fl × Env → Prop) : Y (exSs C L62_3 ρ) Q = Y (exS C S62_3 ρ) (Kc C L62_4 Q) := Y_st _ _ _ _ _
def S62_2 : Sm := (.ifs (.or (.e (.cmp .eq (.bi .len (.cons (.v 4) .nil)) (.k (.int (0))))) (.e (.cmp .ne (.bi .len (.cons (.v 5) .nil)) (.bi .len (.cons (.v 4) .nil))))) L62_2a0 .nil)
def L62_2 : Sms := .cons S62_2 L62_3
theorem t62_2 (C : Ctx) (ρ : Env) (Q : Fl × Env → Prop) : Y (exSs C L62_2 ρ) Q = Y (exS C S62_2 ρ) (Kc C L62_3 Q) := Y_st _ _ _ _ _
def S62_1 : Sm := (.asgT [4, 5] (.v 1))
def L62_1 : Sms := .cons S62_1 L62_2
theorem t62_1 (C : Ctx) (ρ : Env) (Q : Fl × Env → Prop) : Y (exSs C L62_1 ρ) Q = Y (exS C S62_1 ρ) (Kc C L62_2 Q) := Y_st _ _ _ _ _
def S62_0 : Sm := (.ifs (.or (.not (.e (.isi (.v 1) [.tuple]))) (.or (.e (.cmp .ne (.bi .len (.cons (.v 1) .nil)) (.k (.int (2))))) (.not (.e (.bi .all (.cons (.lc (.isi (.v 6) [.tuple]) [6] false (.e (.v 1)) .tt) .nil)))))) L62_0a0 .nil)
def L62_0 : Sms := .cons S62_0 L62_1
theorem t62_0 (C : Ctx) (ρ : Env) (Q : Fl × Env → Prop) : Y (exSs C L62_0 ρ) Q = Y (exS C S62_0 ρ) (Kc C L62_1 Q) := Y_st _ _ _ _ _
/-! is_judge(table, thing): 0=table 1=thing 2=end -/
def S63_0 : Sm := (.ret (.and (.call 62 (.cons (.v 0) (.cons (.v 1) .nil))) (.bi .all (.cons (.lc (.isi (.v 2) [.bool]) [2] false (.e (.idx (.v 1) (.k (.int (1))))) .tt) .nil))))
def L63_0 : Sms := .cons S63_0 .nil
theorem t63_0 (C : Ctx) (ρ : Env) (Q : Fl × Env → Prop) : Y (exSs C L63_0 ρ) Q = Y (exS C S63_0 ρ) (Kc C .nil Q) := Y_st _ _ _ _ _
/-! is_watcher(table, thing): 0=table 1=thing 2=one -/
def S64_0 : Sm := (.ret (.and (.call 62 (.cons (.v 0) (.cons (.v 1) .nil))) (.bi .all (.cons (.lc (.and (.isi (.v 2) [.str]) (.cmp .in_ (.v 2) (.g 65))) [2] false (.e (.idx (.v 1) (.k (.int (1))))) .tt) .nil))))
def L64_0 : Sms := .cons S64_0 .nil
theorem t64_0 (C : Ctx) (ρ : Env) (Q : Fl × Env → Prop) : Y (exSs C L64_0 ρ) Q = Y (exS C S64_0 ρ) (Kc C .nil Q) := Y_st _ _ _ _ _
structure HHaps (P : Pg) : Prop where
  haps : P.fn 24 = some ⟨1, 5, L24_0⟩
structure HMach (P : Pg) : Prop extends HHaps P where
  is_spot : P.fn 61 = some ⟨2, 2, L61_0⟩
  is_machine : P.fn 62 = some ⟨2, 8, L62_0⟩
structure HJudge (P : Pg) : Prop extends HMach P where
  is_judge : P.fn 63 = some ⟨2, 3, L63_0⟩
structure HWatcher (P : Pg) : Prop extends HMach P where
  is_watcher : P.fn 64 = some ⟨2, 3, L64_0⟩
  cVERDICTS : P.gl 65 = some (.tup [.str [121, 101, 115], .str [110, 111], .str [111, 112, 101, 110]])
/-! ### tables -/
abbrev Tab := List (List Nat × Int)
def pairD (p : List Nat × Int) : D := .tup [.str p.1, .int p.2]
def tabD (t : Tab) : D := .tup (t.map pairD)
def hapsOf (t : Tab) : List (List Nat × Int) := t.flatMap fun p => (List.range (p.2 + 1).toNat).map fun (k : Nat) => (p.1, (k : Int))
def hapsD (t : Tab) : List D := (hapsOf t).map pairD
/-- a table of few names and small marks -/
def SmallT (t : Tab) : Prop := t.length ≤ 10 ∧ ∀ p ∈ t, 0 ≤ p.2 ∧ p.2 ≤ 10 ∧ p.1.length ≤ 8
theorem hapsD_cons (p : List Nat × Int) (t : Tab) : hapsD (p :: t) = (rangeL 0 (p.2 + 1)).map (fun d => .tup [.str p.1, d]) ++ hapsD t := by
  unfold hapsD hapsOf rangeL
  rw [List.flatMap_cons, List.map_append, List.map_map, List.map_map]
  congr 1
  rw [show p.2 + 1 - 0 = p.2 + 1 from by omega]
  refine List.map_congr_left fun k _ => ?_
  show D.tup [.str p.1, .int (k : Int)] = .tup [.str p.1, .int (0 + (k : Int))]
  rw [Int.zero_add]
theorem hapsD_snoc (t : Tab) (p : List Nat × Int) : hapsD (t ++ [p]) = hapsD t ++ (rangeL 0 (p.2 + 1)).map (fun d => .tup [.str p.1, d]) := by
  induction t with
  | nil => rw [List.nil_append, hapsD_cons]; show _ ++ [] = [] ++ _; simp
  | cons q t ih => rw [List.cons_append, hapsD_cons, ih, hapsD_cons, List.append_assoc]
theorem rangeL_len (r : Int) : (rangeL 0 r).length = r.toNat := by simp [rangeL]
theorem hapsD_len {t : Tab} (h : ∀ p ∈ t, 0 ≤ p.2 ∧ p.2 ≤ 10 ∧ p.1.length ≤ 8) : (hapsD t).length ≤ 11 * t.length := by
  induction t with
  | nil => exact Nat.le_refl _
  | cons p t ih =>
    have := h p List.mem_cons_self
    have := ih fun q hq => h q (List.mem_cons_of_mem _ hq)
    rw [hapsD_cons, List.length_append, List.length_map, rangeL_len, List.length_cons]
    omega
def HapsQ (t : Tab) : Fl × Env → Prop := fun r => ∃ a b c, r = (.rt (.ol (hapsD t)), [.sh (tabD t), .un, a, b, c])
theorem haps_at {P : Pg} {i : Nat} (hi : P.fn i = some ⟨1, 5, L24_0⟩) (wf n : Nat) (t : Tab) (ht : SmallT t) : callM P wf (n + 1) i [.sh (tabD t)] = .ok (.ol (hapsD t), [.sh (tabD t)]) := by
  have : Y (callM P wf (n + 1) i [.sh (tabD t)]) fun r => r = (.ol (hapsD t), [.sh (tabD t)]) := by
    refine call_by (HapsQ t) hi rfl rfl (by decide) (fun C c1 c2 c3 c4 c5 => ?_) (by rintro _ ⟨a, b, c, rfl⟩; exact ⟨_, _, rfl, rfl, rfl⟩)
    show Y (exSs C L24_0 [.sh (tabD t), .un, .un, .un, .un]) _
    rw [t24_0]
    simp [allB_map, all_id, allB, ev_k, ev_v, ev_g, ev_fr, ev_tup, ev_lst, ev_dct, ev_bin, ev_neg, ev_not, ev_and, ev_or, ev_cmp, ev_chain, ev_ite, ev_idx, ev_slc, ev_call, ev_bi, ev_bm, ev_mu, ev_isi, ev_rpr, ev_lset, ev_dcn, ev_dc1, ev_dget, ev_dsd, ev_pr2, ev_rev, asgTS, biD, isDn, isOd, hasD, dgetN, dsdS, revF, zip3F, ex_ret_, ex_retN_, ex_asg_, ex_asgT_, ex_setI_, ex_ex_, ex_ifs_, ex_pass_, ex_brk_, ex_cont_, evT, evA, evF, evI, evO, vw, see, res, tru, D.truth, cmpS, cmpV, cmpF, inF, retS, List.replicate, biS, vws, biF, keepSh, asgS, binS, binF, fz, idxS, idxF, intOf, blOf, slcS, slcF, D.noK, isTy, pks, nodup, argS, argsBack, Y_ok, Y_ite, Y_nil, Kc_nx, Kc_rt, Kc_bk, Kc_ct, setIF, isOD, lookS, putS, muF, lock, unlock, rangeF, bindT, setT, LIM, wrOf, isSh, bmS, bmF, bmT, zipF, itemsZ, enumF, ↓reduceIte, S24_0, evF, c3]
    rw [t24_1]
    refine for_Y (lk := []) (ds := t.map pairD) (ρ1 := [.sh (tabD t), .ol [], .un, .un, .un]) (fun i ρ => ∃ a b c, ρ = [.sh (tabD t), .ol (hapsD (t.take i)), a, b, c] ∧ isOwn c = false) ?_ ?_ ⟨_, _, _, rfl, rfl⟩ ?_ ?_
    · simp [evI, evE, lock, tabD]
    · simp [c3, wrOf]
    · rintro i d ρ hd ⟨a, b, c, rfl, hc⟩
      rw [List.getElem?_map] at hd
      cases hp : t[i]? with
      | none => rw [hp] at hd; cases hd
      | some p =>
        rw [hp] at hd
        cases hd
        have hm := ht.2 p (List.mem_of_getElem? hp)
        refine ⟨[.sh (tabD t), .ol (hapsD (t.take i)), .sh (.str p.1), .sh (.int p.2), c], rfl, ?_⟩
        have e := lc_pure (C := C) (elt := .tup (.cons (.v 2) (.cons (.v 4) .nil))) (t := 4) (it := .range (.cons (.bin .add (.v 3) (.k (.int (1)))) .nil)) (ρ := [.sh (tabD t), .ol (hapsD (t.take i)), .sh (.str p.1), .sh (.int p.2), c]) (xs := rangeL 0 (p.2 + 1)) (fun d => .tup [.str p.1, d])
          (range_ev (by simp [allB_map, all_id, allB, ev_k, ev_v, ev_g, ev_fr, ev_tup, ev_lst, ev_dct, ev_bin, ev_neg, ev_not, ev_and, ev_or, ev_cmp, ev_chain, ev_ite, ev_idx, ev_slc, ev_call, ev_bi, ev_bm, ev_mu, ev_isi, ev_rpr, ev_lset, ev_dcn, ev_dc1, ev_dget, ev_dsd, ev_pr2, ev_rev, asgTS, biD, isDn, isOd, hasD, dgetN, dsdS, revF, zip3F, ex_ret_, ex_retN_, ex_asg_, ex_asgT_, ex_setI_, ex_ex_, ex_ifs_, ex_pass_, ex_brk_, ex_cont_, evT, evA, evF, evI, evO, vw, see, res, tru, D.truth, cmpS, cmpV, cmpF, inF, retS, List.replicate, biS, vws, biF, keepSh, asgS, binS, binF, fz, idxS, idxF, intOf, blOf, slcS, slcF, D.noK, isTy, pks, nodup, argS, argsBack, Y_ok, Y_ite, Y_nil, Kc_nx, Kc_rt, Kc_bk, Kc_ct, setIF, isOD, lookS, putS, muF, lock, unlock, rangeF, bindT, setT, LIM, wrOf, isSh, bmS, bmF, bmT, zipF, itemsZ, enumF, ↓reduceIte]) (by omega) (by omega)) (by simp) hc (by rw [rangeL_len]; simp [LIM]; omega) (fun d hd => by simp [allB_map, all_id, allB, ev_k, ev_v, ev_g, ev_fr, ev_tup, ev_lst, ev_dct, ev_bin, ev_neg, ev_not, ev_and, ev_or, ev_cmp, ev_chain, ev_ite, ev_idx, ev_slc, ev_call, ev_bi, ev_bm, ev_mu, ev_isi, ev_rpr, ev_lset, ev_dcn, ev_dc1, ev_dget, ev_dsd, ev_pr2, ev_rev, asgTS, biD, isDn, isOd, hasD, dgetN, dsdS, revF, zip3F, ex_ret_, ex_retN_, ex_asg_, ex_asgT_, ex_setI_, ex_ex_, ex_ifs_, ex_pass_, ex_brk_, ex_cont_, evT, evA, evF, evI, evO, vw, see, res, tru, D.truth, cmpS, cmpV, cmpF, inF, retS, List.replicate, biS, vws, biF, keepSh, asgS, binS, binF, fz, idxS, idxF, intOf, blOf, slcS, slcF, D.noK, isTy, pks, nodup, argS, argsBack, Y_ok, Y_ite, Y_nil, Kc_nx, Kc_rt, Kc_bk, Kc_ct, setIF, isOD, lookS, putS, muF, lock, unlock, rangeF, bindT, setT, LIM, wrOf, isSh, bmS, bmF, bmT, zipF, itemsZ, enumF, ↓reduceIte, evF])
        have hl := hapsD_len (t := t.take i) fun q hq => ht.2 q (List.mem_of_mem_take hq)
        have hl1 : (t.take i).length ≤ 10 := Nat.le_trans (List.length_take_le' _ _) ht.1
        have hl2 : (hapsD (t.take i)).length + (p.2 + 1).toNat ≤ 16777216 := by omega
        have et : t.take (i + 1) = t.take i ++ [p] := by rw [List.take_add_one, hp]; rfl
        rw [t24_1b0]
        simp [allB_map, all_id, allB, ev_k, ev_v, ev_g, ev_fr, ev_tup, ev_lst, ev_dct, ev_bin, ev_neg, ev_not, ev_and, ev_or, ev_cmp, ev_chain, ev_ite, ev_idx, ev_slc, ev_call, ev_bi, ev_bm, ev_mu, ev_isi, ev_rpr, ev_lset, ev_dcn, ev_dc1, ev_dget, ev_dsd, ev_pr2, ev_rev, asgTS, biD, isDn, isOd, hasD, dgetN, dsdS, revF, zip3F, ex_ret_, ex_retN_, ex_asg_, ex_asgT_, ex_setI_, ex_ex_, ex_ifs_, ex_pass_, ex_brk_, ex_cont_, evT, evA, evF, evI, evO, vw, see, res, tru, D.truth, cmpS, cmpV, cmpF, inF, retS, List.replicate, biS, vws, biF, keepSh, asgS, binS, binF, fz, idxS, idxF, intOf, blOf, slcS, slcF, D.noK, isTy, pks, nodup, argS, argsBack, Y_ok, Y_ite, Y_nil, Kc_nx, Kc_rt, Kc_bk, Kc_ct, setIF, isOD, lookS, putS, muF, lock, unlock, rangeF, bindT, setT, LIM, wrOf, isSh, bmS, bmF, bmT, zipF, itemsZ, enumF, ↓reduceIte, S24_1b0, evF, e, rangeL_len, hl2]
        exact ⟨.inl rfl, _, _, _, by rw [et, hapsD_snoc], hc⟩
    · rintro _ ⟨a, b, c, rfl, hc⟩
      rw [List.length_map, List.take_length]
      simp [allB_map, all_id, allB, ev_k, ev_v, ev_g, ev_fr, ev_tup, ev_lst, ev_dct, ev_bin, ev_neg, ev_not, ev_and, ev_or, ev_cmp, ev_chain, ev_ite, ev_idx, ev_slc, ev_call, ev_bi, ev_bm, ev_mu, ev_isi, ev_rpr, ev_lset, ev_dcn, ev_dc1, ev_dget, ev_dsd, ev_pr2, ev_rev, asgTS, biD, isDn, isOd, hasD, dgetN, dsdS, revF, zip3F, ex_ret_, ex_retN_, ex_asg_, ex_asgT_, ex_setI_, ex_ex_, ex_ifs_, ex_pass_, ex_brk_, ex_cont_, evT, evA, evF, evI, evO, vw, see, res, tru, D.truth, cmpS, cmpV, cmpF, inF, retS, List.replicate, biS, vws, biF, keepSh, asgS, binS, binF, fz, idxS, idxF, intOf, blOf, slcS, slcF, D.noK, isTy, pks, nodup, argS, argsBack, Y_ok, Y_ite, Y_nil, Kc_nx, Kc_rt, Kc_bk, Kc_ct, setIF, isOD, lookS, putS, muF, lock, unlock, rangeF, bindT, setT, LIM, wrOf, isSh, bmS, bmF, bmT, zipF, itemsZ, enumF, ↓reduceIte, t24_2, S24_2, c3]
      exact ⟨_, _, _, rfl⟩
  obtain ⟨_, e, rfl⟩ := this
  exact e
theorem pair_dep (p : List Nat × Int) : D.dep (pairD p) = 1 := rfl
theorem pairs_dep : ∀ l : List (List Nat × Int), D.deps (l.map pairD) ≤ 1
  | [] => by simp [D.deps]
  | p :: l => by
    have := pairs_dep l
    simp only [List.map_cons, D.deps, pair_dep]
    omega
/-! ### machines -/
def spotB (n : Nat) : D → Bool
  | .int i => decide (0 ≤ i) && decide (i < n)
  | _ => false
theorem is_spot {P : Pg} (h : HMach P) (wf n : Nat) (d : D) (hd : ∀ xs, d ≠ .kl xs) (m : Nat) : callM P wf (n + 1) 61 [.sh d, .sh (.int m)] = .ok (.sh (.bl (spotB m d)), [.sh d, .sh (.int m)]) := by
  refine call_run h.is_spot rfl rfl (by decide) (fun C c1 c2 c3 c4 c5 => ?_) rfl
  cases d with
  | kl xs => exact (hd xs rfl).elim
  | int i =>
    by_cases h1 : 0 ≤ i
    · simp [allB_map, all_id, allB, ev_k, ev_v, ev_g, ev_fr, ev_tup, ev_lst, ev_dct, ev_bin, ev_neg, ev_not, ev_and, ev_or, ev_cmp, ev_chain, ev_ite, ev_idx, ev_slc, ev_call, ev_bi, ev_bm, ev_mu, ev_isi, ev_rpr, ev_lset, ev_dcn, ev_dc1, ev_dget, ev_dsd, ev_pr2, ev_rev, asgTS, biD, isDn, isOd, hasD, dgetN, dsdS, revF, zip3F, ex_ret_, ex_retN_, ex_asg_, ex_asgT_, ex_setI_, ex_ex_, ex_ifs_, ex_pass_, ex_brk_, ex_cont_, evT, evA, evF, evI, evO, vw, see, res, tru, D.truth, cmpS, cmpV, cmpF, inF, retS, List.replicate, biS, vws, biF, keepSh, asgS, binS, binF, fz, idxS, idxF, intOf, blOf, slcS, slcF, D.noK, isTy, pks, nodup, argS, argsBack, Y_ok, Y_ite, Y_nil, Kc_nx, Kc_rt, Kc_bk, Kc_ct, setIF, isOD, lookS, putS, muF, lock, unlock, rangeF, bindT, setT, LIM, wrOf, isSh, bmS, bmF, bmT, zipF, itemsZ, enumF, ↓reduceIte, S61_0, t61_0, spotB, h1]
    · simp [allB_map, all_id, allB, ev_k, ev_v, ev_g, ev_fr, ev_tup, ev_lst, ev_dct, ev_bin, ev_neg, ev_not, ev_and, ev_or, ev_cmp, ev_chain, ev_ite, ev_idx, ev_slc, ev_call, ev_bi, ev_bm, ev_mu, ev_isi, ev_rpr, ev_lset, ev_dcn, ev_dc1, ev_dget, ev_dsd, ev_pr2, ev_rev, asgTS, biD, isDn, isOd, hasD, dgetN, dsdS, revF, zip3F, ex_ret_, ex_retN_, ex_asg_, ex_asgT_, ex_setI_, ex_ex_, ex_ifs_, ex_pass_, ex_brk_, ex_cont_, evT, evA, evF, evI, evO, vw, see, res, tru, D.truth, cmpS, cmpV, cmpF, inF, retS, List.replicate, biS, vws, biF, keepSh, asgS, binS, binF, fz, idxS, idxF, intOf, blOf, slcS, slcF, D.noK, isTy, pks, nodup, argS, argsBack, Y_ok, Y_ite, Y_nil, Kc_nx, Kc_rt, Kc_bk, Kc_ct, setIF, isOD, lookS, putS, muF, lock, unlock, rangeF, bindT, setT, LIM, wrOf, isSh, bmS, bmF, bmT, zipF, itemsZ, enumF, ↓reduceIte, S61_0, t61_0, spotB, h1]
  | _ => simp [allB_map, all_id, allB, ev_k, ev_v, ev_g, ev_fr, ev_tup, ev_lst, ev_dct, ev_bin, ev_neg, ev_not, ev_and, ev_or, ev_cmp, ev_chain, ev_ite, ev_idx, ev_slc, ev_call, ev_bi, ev_bm, ev_mu, ev_isi, ev_rpr, ev_lset, ev_dcn, ev_dc1, ev_dget, ev_dsd, ev_pr2, ev_rev, asgTS, biD, isDn, isOd, hasD, dgetN, dsdS, revF, zip3F, ex_ret_, ex_retN_, ex_asg_, ex_asgT_, ex_setI_, ex_ex_, ex_ifs_, ex_pass_, ex_brk_, ex_cont_, evT, evA, evF, evI, evO, vw, see, res, tru, D.truth, cmpS, cmpV, cmpF, inF, retS, List.replicate, biS, vws, biF, keepSh, asgS, binS, binF, fz, idxS, idxF, intOf, blOf, slcS, slcF, D.noK, isTy, pks, nodup, argS, argsBack, Y_ok, Y_ite, Y_nil, Kc_nx, Kc_rt, Kc_bk, Kc_ct, setIF, isOD, lookS, putS, muF, lock, unlock, rangeF, bindT, setT, LIM, wrOf, isSh, bmS, bmF, bmT, zipF, itemsZ, enumF, ↓reduceIte, S61_0, t61_0, spotB]
def rowB (n wide : Nat) : D → Bool
  | .tup os => decide (os.length = wide) && os.all (spotB n)
  | _ => false
def isTup : D → Bool
  | .tup _ => true
  | _ => false
def machB (wide : Nat) : D → Bool
  | .tup [.tup ns, .tup ws] => decide (ns.length ≠ 0) && decide (ws.length = ns.length) && ns.all (rowB ns.length wide)
  | _ => false
theorem Bd.nokl {L : Nat} {d : D} (h : Bd L d) : ∀ xs, d ≠ .kl xs := fun xs e => by subst e; simp [Bd] at h
theorem noKl_of {d : D} (h : ∀ xs, d ≠ .kl xs) : D.noK d = some d := by
  cases d with
  | kl xs => exact (h xs rfl).elim
  | _ => rfl
theorem isTy_tup (d : D) : isTy d .tuple = isTup d := by cases d <;> rfl
/-- one row's look -/
theorem row_turn {P : Pg} (h : HMach P) (wf n : Nat) {C : Ctx} (c1 : C.cl = callM P wf (n + 1)) {x0 x1 x6 x7 : Sl} {ns ws : List D} {wide L : Nat} {d : D} (hd : Bd L d) (hL : L ≤ 1000000) (ho : isOwn x7 = false) :
    Y (exSs C L62_4b0 [x0, x1, .sh (.int wide), .sh d, .sh (.tup ns), .sh (.tup ws), x6, x7]) fun r => r = (if rowB ns.length wide d then .nx else .rt (.sh (.bl false)), [x0, x1, .sh (.int wide), .sh d, .sh (.tup ns), .sh (.tup ws), x6, x7]) := by
  cases d with
  | kl xs => simp [Bd] at hd
  | tup os =>
    simp only [Bd] at hd
    have e := all_ev (C := C) (elt := .call 61 (.cons (.v 7) (.cons (.bi .len (.cons (.v 4) .nil)) .nil))) (t := 7) (it := .e (.v 3)) (ρ := [x0, x1, .sh (.int wide), .sh (.tup os), .sh (.tup ns), .sh (.tup ws), x6, x7]) (xs := os) (spotB ns.length)
      (by simp [allB_map, all_id, allB, ev_k, ev_v, ev_g, ev_fr, ev_tup, ev_lst, ev_dct, ev_bin, ev_neg, ev_not, ev_and, ev_or, ev_cmp, ev_chain, ev_ite, ev_idx, ev_slc, ev_call, ev_bi, ev_bm, ev_mu, ev_isi, ev_rpr, ev_lset, ev_dcn, ev_dc1, ev_dget, ev_dsd, ev_pr2, ev_rev, asgTS, biD, isDn, isOd, hasD, dgetN, dsdS, revF, zip3F, ex_ret_, ex_retN_, ex_asg_, ex_asgT_, ex_setI_, ex_ex_, ex_ifs_, ex_pass_, ex_brk_, ex_cont_, evT, evA, evF, evI, evO, vw, see, res, tru, D.truth, cmpS, cmpV, cmpF, inF, retS, List.replicate, biS, vws, biF, keepSh, asgS, binS, binF, fz, idxS, idxF, intOf, blOf, slcS, slcF, D.noK, isTy, pks, nodup, argS, argsBack, Y_ok, Y_ite, Y_nil, Kc_nx, Kc_rt, Kc_bk, Kc_ct, setIF, isOD, lookS, putS, muF, lock, unlock, rangeF, bindT, setT, LIM, wrOf, isSh, bmS, bmF, bmT, zipF, itemsZ, enumF, ↓reduceIte]) (by simp) ho (by simp [LIM]; omega) (fun d hd2 => by
        have e := is_spot h wf n d (Bd.nokl (bds_iff.mp hd.2 d hd2)) ns.length
        simp [allB_map, all_id, allB, ev_k, ev_v, ev_g, ev_fr, ev_tup, ev_lst, ev_dct, ev_bin, ev_neg, ev_not, ev_and, ev_or, ev_cmp, ev_chain, ev_ite, ev_idx, ev_slc, ev_call, ev_bi, ev_bm, ev_mu, ev_isi, ev_rpr, ev_lset, ev_dcn, ev_dc1, ev_dget, ev_dsd, ev_pr2, ev_rev, asgTS, biD, isDn, isOd, hasD, dgetN, dsdS, revF, zip3F, ex_ret_, ex_retN_, ex_asg_, ex_asgT_, ex_setI_, ex_ex_, ex_ifs_, ex_pass_, ex_brk_, ex_cont_, evT, evA, evF, evI, evO, vw, see, res, tru, D.truth, cmpS, cmpV, cmpF, inF, retS, List.replicate, biS, vws, biF, keepSh, asgS, binS, binF, fz, idxS, idxF, intOf, blOf, slcS, slcF, D.noK, isTy, pks, nodup, argS, argsBack, Y_ok, Y_ite, Y_nil, Kc_nx, Kc_rt, Kc_bk, Kc_ct, setIF, isOD, lookS, putS, muF, lock, unlock, rangeF, bindT, setT, LIM, wrOf, isSh, bmS, bmF, bmT, zipF, itemsZ, enumF, ↓reduceIte, c1, e])
    by_cases h1 : os.length = wide
    · cases q : os.all (spotB ns.length) with
      | true =>
        simp [allB_map, all_id, allB, ev_k, ev_v, ev_g, ev_fr, ev_tup, ev_lst, ev_dct, ev_bin, ev_neg, ev_not, ev_and, ev_or, ev_cmp, ev_chain, ev_ite, ev_idx, ev_slc, ev_call, ev_bi, ev_bm, ev_mu, ev_isi, ev_rpr, ev_lset, ev_dcn, ev_dc1, ev_dget, ev_dsd, ev_pr2, ev_rev, asgTS, biD, isDn, isOd, hasD, dgetN, dsdS, revF, zip3F, ex_ret_, ex_retN_, ex_asg_, ex_asgT_, ex_setI_, ex_ex_, ex_ifs_, ex_pass_, ex_brk_, ex_cont_, evT, evA, evF, evI, evO, vw, see, res, tru, D.truth, cmpS, cmpV, cmpF, inF, retS, List.replicate, biS, vws, biF, keepSh, asgS, binS, binF, fz, idxS, idxF, intOf, blOf, slcS, slcF, D.noK, isTy, pks, nodup, argS, argsBack, Y_ok, Y_ite, Y_nil, Kc_nx, Kc_rt, Kc_bk, Kc_ct, setIF, isOD, lookS, putS, muF, lock, unlock, rangeF, bindT, setT, LIM, wrOf, isSh, bmS, bmF, bmT, zipF, itemsZ, enumF, ↓reduceIte, t62_4b0, S62_4b0, D.dep, D.eqv, h1, e, rowB, q, -List.all_eq_true, -List.all_eq_false]
      | false =>
        simp [allB_map, all_id, allB, ev_k, ev_v, ev_g, ev_fr, ev_tup, ev_lst, ev_dct, ev_bin, ev_neg, ev_not, ev_and, ev_or, ev_cmp, ev_chain, ev_ite, ev_idx, ev_slc, ev_call, ev_bi, ev_bm, ev_mu, ev_isi, ev_rpr, ev_lset, ev_dcn, ev_dc1, ev_dget, ev_dsd, ev_pr2, ev_rev, asgTS, biD, isDn, isOd, hasD, dgetN, dsdS, revF, zip3F, ex_ret_, ex_retN_, ex_asg_, ex_asgT_, ex_setI_, ex_ex_, ex_ifs_, ex_pass_, ex_brk_, ex_cont_, evT, evA, evF, evI, evO, vw, see, res, tru, D.truth, cmpS, cmpV, cmpF, inF, retS, List.replicate, biS, vws, biF, keepSh, asgS, binS, binF, fz, idxS, idxF, intOf, blOf, slcS, slcF, D.noK, isTy, pks, nodup, argS, argsBack, Y_ok, Y_ite, Y_nil, Kc_nx, Kc_rt, Kc_bk, Kc_ct, setIF, isOD, lookS, putS, muF, lock, unlock, rangeF, bindT, setT, LIM, wrOf, isSh, bmS, bmF, bmT, zipF, itemsZ, enumF, ↓reduceIte, t62_4b0, S62_4b0, t62_4b0a0, S62_4b0a0, D.dep, D.eqv, h1, e, rowB, q, -List.all_eq_true, -List.all_eq_false]
    · have h1' : ¬ ((os.length : Int) = wide) := by omega
      simp [allB_map, all_id, allB, ev_k, ev_v, ev_g, ev_fr, ev_tup, ev_lst, ev_dct, ev_bin, ev_neg, ev_not, ev_and, ev_or, ev_cmp, ev_chain, ev_ite, ev_idx, ev_slc, ev_call, ev_bi, ev_bm, ev_mu, ev_isi, ev_rpr, ev_lset, ev_dcn, ev_dc1, ev_dget, ev_dsd, ev_pr2, ev_rev, asgTS, biD, isDn, isOd, hasD, dgetN, dsdS, revF, zip3F, ex_ret_, ex_retN_, ex_asg_, ex_asgT_, ex_setI_, ex_ex_, ex_ifs_, ex_pass_, ex_brk_, ex_cont_, evT, evA, evF, evI, evO, vw, see, res, tru, D.truth, cmpS, cmpV, cmpF, inF, retS, List.replicate, biS, vws, biF, keepSh, asgS, binS, binF, fz, idxS, idxF, intOf, blOf, slcS, slcF, D.noK, isTy, pks, nodup, argS, argsBack, Y_ok, Y_ite, Y_nil, Kc_nx, Kc_rt, Kc_bk, Kc_ct, setIF, isOD, lookS, putS, muF, lock, unlock, rangeF, bindT, setT, LIM, wrOf, isSh, bmS, bmF, bmT, zipF, itemsZ, enumF, ↓reduceIte, t62_4b0, S62_4b0, t62_4b0a0, S62_4b0a0, D.dep, D.eqv, h1, h1', rowB]
  | _ => simp [allB_map, all_id, allB, ev_k, ev_v, ev_g, ev_fr, ev_tup, ev_lst, ev_dct, ev_bin, ev_neg, ev_not, ev_and, ev_or, ev_cmp, ev_chain, ev_ite, ev_idx, ev_slc, ev_call, ev_bi, ev_bm, ev_mu, ev_isi, ev_rpr, ev_lset, ev_dcn, ev_dc1, ev_dget, ev_dsd, ev_pr2, ev_rev, asgTS, biD, isDn, isOd, hasD, dgetN, dsdS, revF, zip3F, ex_ret_, ex_retN_, ex_asg_, ex_asgT_, ex_setI_, ex_ex_, ex_ifs_, ex_pass_, ex_brk_, ex_cont_, evT, evA, evF, evI, evO, vw, see, res, tru, D.truth, cmpS, cmpV, cmpF, inF, retS, List.replicate, biS, vws, biF, keepSh, asgS, binS, binF, fz, idxS, idxF, intOf, blOf, slcS, slcF, D.noK, isTy, pks, nodup, argS, argsBack, Y_ok, Y_ite, Y_nil, Kc_nx, Kc_rt, Kc_bk, Kc_ct, setIF, isOD, lookS, putS, muF, lock, unlock, rangeF, bindT, setT, LIM, wrOf, isSh, bmS, bmF, bmT, zipF, itemsZ, enumF, ↓reduceIte, t62_4b0, S62_4b0, t62_4b0a0, S62_4b0a0, rowB]
def MachQ (a b : Sl) (c : Bool) : Fl × Env → Prop := fun r => ∃ ρ, r = (.rt (.sh (.bl c)), a :: b :: ρ)
theorem is_machine {P : Pg} (h : HMach P) (wf n : Nat) (t : Tab) (ht : SmallT t) {L : Nat} (hL : L ≤ 1000000) (d : D) (hd : Bd L d) : callM P wf (n + 2) 62 [.sh (tabD t), .sh d] = .ok (.sh (.bl (machB (hapsD t).length d)), [.sh (tabD t), .sh d]) := by
  have : Y (callM P wf (n + 2) 62 [.sh (tabD t), .sh d]) fun r => r = (.sh (.bl (machB (hapsD t).length d)), [.sh (tabD t), .sh d]) := by
    refine call_by (MachQ (.sh (tabD t)) (.sh d) (machB (hapsD t).length d)) h.is_machine rfl rfl (by decide) (fun C c1 c2 c3 c4 c5 => ?_) (by rintro _ ⟨ρ, rfl⟩; exact ⟨_, _, rfl, rfl, by simp [keepSh]⟩)
    show Y (exSs C L62_0 [.sh (tabD t), .sh d, .un, .un, .un, .un, .un, .un]) _
    have out : ∀ ρ : Env, machB (hapsD t).length d = false → MachQ (.sh (tabD t)) (.sh d) (machB (hapsD t).length d) (.rt (.sh (.bl false)), .sh (tabD t) :: .sh d :: ρ) := fun ρ e => ⟨ρ, by rw [e]⟩
    cases d with
    | kl xs => simp [Bd] at hd
    | tup ps =>
      simp only [Bd] at hd
      by_cases h2 : ps.length = 2
      · obtain ⟨a, b, rfl⟩ : ∃ a b, ps = [a, b] := by
          match ps, h2 with
          | [a, b], _ => exact ⟨a, b, rfl⟩
        have ha : Bd L a := hd.2.1
        have hb : Bd L b := hd.2.2.1
        have e := all_ev (C := C) (elt := .isi (.v 6) [.tuple]) (t := 6) (it := .e (.v 1)) (ρ := [.sh (tabD t), .sh (.tup [a, b]), .un, .un, .un, .un, .un, .un]) (xs := [a, b]) isTup
          (by simp [allB_map, all_id, allB, ev_k, ev_v, ev_g, ev_fr, ev_tup, ev_lst, ev_dct, ev_bin, ev_neg, ev_not, ev_and, ev_or, ev_cmp, ev_chain, ev_ite, ev_idx, ev_slc, ev_call, ev_bi, ev_bm, ev_mu, ev_isi, ev_rpr, ev_lset, ev_dcn, ev_dc1, ev_dget, ev_dsd, ev_pr2, ev_rev, asgTS, biD, isDn, isOd, hasD, dgetN, dsdS, revF, zip3F, ex_ret_, ex_retN_, ex_asg_, ex_asgT_, ex_setI_, ex_ex_, ex_ifs_, ex_pass_, ex_brk_, ex_cont_, evT, evA, evF, evI, evO, vw, see, res, tru, D.truth, cmpS, cmpV, cmpF, inF, retS, List.replicate, biS, vws, biF, keepSh, asgS, binS, binF, fz, idxS, idxF, intOf, blOf, slcS, slcF, D.noK, isTy, pks, nodup, argS, argsBack, Y_ok, Y_ite, Y_nil, Kc_nx, Kc_rt, Kc_bk, Kc_ct, setIF, isOD, lookS, putS, muF, lock, unlock, rangeF, bindT, setT, LIM, wrOf, isSh, bmS, bmF, bmT, zipF, itemsZ, enumF, ↓reduceIte]) (by simp) rfl (by simp [LIM]) (fun d hd2 => by
            have hn : ∀ xs, d ≠ .kl xs := Bd.nokl (bds_iff.mp hd.2 d hd2)
            have e1 := noKl_of hn
            have e2 := isTy_tup d
            cases d <;> simp [allB_map, all_id, allB, ev_k, ev_v, ev_g, ev_fr, ev_tup, ev_lst, ev_dct, ev_bin, ev_neg, ev_not, ev_and, ev_or, ev_cmp, ev_chain, ev_ite, ev_idx, ev_slc, ev_call, ev_bi, ev_bm, ev_mu, ev_isi, ev_rpr, ev_lset, ev_dcn, ev_dc1, ev_dget, ev_dsd, ev_pr2, ev_rev, asgTS, biD, isDn, isOd, hasD, dgetN, dsdS, revF, zip3F, ex_ret_, ex_retN_, ex_asg_, ex_asgT_, ex_setI_, ex_ex_, ex_ifs_, ex_pass_, ex_brk_, ex_cont_, evT, evA, evF, evI, evO, vw, see, res, tru, D.truth, cmpS, cmpV, cmpF, inF, retS, List.replicate, biS, vws, biF, keepSh, asgS, binS, binF, fz, idxS, idxF, intOf, blOf, slcS, slcF, D.noK, isTy, pks, nodup, argS, argsBack, Y_ok, Y_ite, Y_nil, Kc_nx, Kc_rt, Kc_bk, Kc_ct, setIF, isOD, lookS, putS, muF, lock, unlock, rangeF, bindT, setT, LIM, wrOf, isSh, bmS, bmF, bmT, zipF, itemsZ, enumF, ↓reduceIte, isTup] at e1 ⊢)
        by_cases hab : isTup a = true ∧ isTup b = true
        · obtain ⟨ns, rfl⟩ : ∃ ns, a = .tup ns := by
            cases a with
            | tup ns => exact ⟨ns, rfl⟩
            | _ => exact absurd hab.1 (by simp [isTup])
          obtain ⟨ws, rfl⟩ : ∃ ws, b = .tup ws := by
            cases b with
            | tup ws => exact ⟨ws, rfl⟩
            | _ => exact absurd hab.2 (by simp [isTup])
          simp only [Bd] at ha hb
          have ea : ([D.tup ns, .tup ws] : List D).all isTup = true := rfl
          by_cases hn : ns.length = 0
          · have en : ns = [] := List.length_eq_zero_iff.mp hn
            subst en
            simp [allB_map, all_id, allB, ev_k, ev_v, ev_g, ev_fr, ev_tup, ev_lst, ev_dct, ev_bin, ev_neg, ev_not, ev_and, ev_or, ev_cmp, ev_chain, ev_ite, ev_idx, ev_slc, ev_call, ev_bi, ev_bm, ev_mu, ev_isi, ev_rpr, ev_lset, ev_dcn, ev_dc1, ev_dget, ev_dsd, ev_pr2, ev_rev, asgTS, biD, isDn, isOd, hasD, dgetN, dsdS, revF, zip3F, ex_ret_, ex_retN_, ex_asg_, ex_asgT_, ex_setI_, ex_ex_, ex_ifs_, ex_pass_, ex_brk_, ex_cont_, evT, evA, evF, evI, evO, vw, see, res, tru, D.truth, cmpS, cmpV, cmpF, inF, retS, List.replicate, biS, vws, biF, keepSh, asgS, binS, binF, fz, idxS, idxF, intOf, blOf, slcS, slcF, D.noK, isTy, pks, nodup, argS, argsBack, Y_ok, Y_ite, Y_nil, Kc_nx, Kc_rt, Kc_bk, Kc_ct, setIF, isOD, lookS, putS, muF, lock, unlock, rangeF, bindT, setT, LIM, wrOf, isSh, bmS, bmF, bmT, zipF, itemsZ, enumF, ↓reduceIte, t62_0, S62_0, t62_1, S62_1, t62_2, S62_2, t62_2a0, S62_2a0, D.dep, D.eqv, e, isTup, c3, bindW]
            exact out _ rfl
          · by_cases hw : ws.length = ns.length
            · have e2 := haps_at h.haps wf n t ht
              have hlt := hapsD_len ht.2
              have ht1 := ht.1
              simp [allB_map, all_id, allB, ev_k, ev_v, ev_g, ev_fr, ev_tup, ev_lst, ev_dct, ev_bin, ev_neg, ev_not, ev_and, ev_or, ev_cmp, ev_chain, ev_ite, ev_idx, ev_slc, ev_call, ev_bi, ev_bm, ev_mu, ev_isi, ev_rpr, ev_lset, ev_dcn, ev_dc1, ev_dget, ev_dsd, ev_pr2, ev_rev, asgTS, biD, isDn, isOd, hasD, dgetN, dsdS, revF, zip3F, ex_ret_, ex_retN_, ex_asg_, ex_asgT_, ex_setI_, ex_ex_, ex_ifs_, ex_pass_, ex_brk_, ex_cont_, evT, evA, evF, evI, evO, vw, see, res, tru, D.truth, cmpS, cmpV, cmpF, inF, retS, List.replicate, biS, vws, biF, keepSh, asgS, binS, binF, fz, idxS, idxF, intOf, blOf, slcS, slcF, D.noK, isTy, pks, nodup, argS, argsBack, Y_ok, Y_ite, Y_nil, Kc_nx, Kc_rt, Kc_bk, Kc_ct, setIF, isOD, lookS, putS, muF, lock, unlock, rangeF, bindT, setT, LIM, wrOf, isSh, bmS, bmF, bmT, zipF, itemsZ, enumF, ↓reduceIte, t62_0, S62_0, t62_1, S62_1, t62_2, S62_2, t62_3, S62_3, D.dep, D.eqv, e, isTup, c3, bindW, hn, hw, c1, e2]
              rw [t62_4]
              have em : machB (hapsD t).length (.tup [.tup ns, .tup ws]) = ns.all (rowB ns.length (hapsD t).length) := by
                simp [machB, hw, hn]
              refine for_chk (lk := []) (xs := ns) (ρ1 := [.sh (tabD t), .sh (.tup [.tup ns, .tup ws]), .sh (.int (hapsD t).length), .un, .sh (.tup ns), .sh (.tup ws), .un, .un]) (rowB ns.length (hapsD t).length) (.sh (.bl false)) (by simp [evI, evE, lock]) (by simp [c3, wrOf]) (by simp) (fun d hd2 => ?_) (fun z hz => ?_) (fun z hz => ?_)
              · exact row_turn h wf n c1 (bds_iff.mp ha.2 d hd2) hL rfl
              · simp [allB_map, all_id, allB, ev_k, ev_v, ev_g, ev_fr, ev_tup, ev_lst, ev_dct, ev_bin, ev_neg, ev_not, ev_and, ev_or, ev_cmp, ev_chain, ev_ite, ev_idx, ev_slc, ev_call, ev_bi, ev_bm, ev_mu, ev_isi, ev_rpr, ev_lset, ev_dcn, ev_dc1, ev_dget, ev_dsd, ev_pr2, ev_rev, asgTS, biD, isDn, isOd, hasD, dgetN, dsdS, revF, zip3F, ex_ret_, ex_retN_, ex_asg_, ex_asgT_, ex_setI_, ex_ex_, ex_ifs_, ex_pass_, ex_brk_, ex_cont_, evT, evA, evF, evI, evO, vw, see, res, tru, D.truth, cmpS, cmpV, cmpF, inF, retS, List.replicate, biS, vws, biF, keepSh, asgS, binS, binF, fz, idxS, idxF, intOf, blOf, slcS, slcF, D.noK, isTy, pks, nodup, argS, argsBack, Y_ok, Y_ite, Y_nil, Kc_nx, Kc_rt, Kc_bk, Kc_ct, setIF, isOD, lookS, putS, muF, lock, unlock, rangeF, bindT, setT, LIM, wrOf, isSh, bmS, bmF, bmT, zipF, itemsZ, enumF, ↓reduceIte, t62_5, S62_5]
                exact ⟨_, by rw [em, hz]⟩
              · exact ⟨_, by rw [em, hz]; rfl⟩
            · have hw' : ¬ ((ws.length : Int) = ns.length) := by omega
              simp [allB_map, all_id, allB, ev_k, ev_v, ev_g, ev_fr, ev_tup, ev_lst, ev_dct, ev_bin, ev_neg, ev_not, ev_and, ev_or, ev_cmp, ev_chain, ev_ite, ev_idx, ev_slc, ev_call, ev_bi, ev_bm, ev_mu, ev_isi, ev_rpr, ev_lset, ev_dcn, ev_dc1, ev_dget, ev_dsd, ev_pr2, ev_rev, asgTS, biD, isDn, isOd, hasD, dgetN, dsdS, revF, zip3F, ex_ret_, ex_retN_, ex_asg_, ex_asgT_, ex_setI_, ex_ex_, ex_ifs_, ex_pass_, ex_brk_, ex_cont_, evT, evA, evF, evI, evO, vw, see, res, tru, D.truth, cmpS, cmpV, cmpF, inF, retS, List.replicate, biS, vws, biF, keepSh, asgS, binS, binF, fz, idxS, idxF, intOf, blOf, slcS, slcF, D.noK, isTy, pks, nodup, argS, argsBack, Y_ok, Y_ite, Y_nil, Kc_nx, Kc_rt, Kc_bk, Kc_ct, setIF, isOD, lookS, putS, muF, lock, unlock, rangeF, bindT, setT, LIM, wrOf, isSh, bmS, bmF, bmT, zipF, itemsZ, enumF, ↓reduceIte, t62_0, S62_0, t62_1, S62_1, t62_2, S62_2, t62_2a0, S62_2a0, D.dep, D.eqv, e, isTup, c3, bindW, hn, hw']
              exact out _ (by simp [machB, hw])
        · have ea : ([a, b] : List D).all isTup = false := by
            simp
            intro q
            exact Bool.eq_false_iff.mpr fun z => hab ⟨q, z⟩
          have em : machB (hapsD t).length (.tup [a, b]) = false := by
            cases a with
            | tup ns => cases b with
              | tup ws => exact absurd ⟨rfl, rfl⟩ hab
              | _ => rfl
            | _ => rfl
          cases qa : isTup a with
          | true => cases qb : isTup b with
            | true => exact absurd ⟨qa, qb⟩ hab
            | false =>
              simp [allB_map, all_id, allB, ev_k, ev_v, ev_g, ev_fr, ev_tup, ev_lst, ev_dct, ev_bin, ev_neg, ev_not, ev_and, ev_or, ev_cmp, ev_chain, ev_ite, ev_idx, ev_slc, ev_call, ev_bi, ev_bm, ev_mu, ev_isi, ev_rpr, ev_lset, ev_dcn, ev_dc1, ev_dget, ev_dsd, ev_pr2, ev_rev, asgTS, biD, isDn, isOd, hasD, dgetN, dsdS, revF, zip3F, ex_ret_, ex_retN_, ex_asg_, ex_asgT_, ex_setI_, ex_ex_, ex_ifs_, ex_pass_, ex_brk_, ex_cont_, evT, evA, evF, evI, evO, vw, see, res, tru, D.truth, cmpS, cmpV, cmpF, inF, retS, List.replicate, biS, vws, biF, keepSh, asgS, binS, binF, fz, idxS, idxF, intOf, blOf, slcS, slcF, D.noK, isTy, pks, nodup, argS, argsBack, Y_ok, Y_ite, Y_nil, Kc_nx, Kc_rt, Kc_bk, Kc_ct, setIF, isOD, lookS, putS, muF, lock, unlock, rangeF, bindT, setT, LIM, wrOf, isSh, bmS, bmF, bmT, zipF, itemsZ, enumF, ↓reduceIte, t62_0, S62_0, t62_0a0, S62_0a0, D.dep, D.eqv, e, qa, qb]
              exact out _ em
          | false =>
            simp [allB_map, all_id, allB, ev_k, ev_v, ev_g, ev_fr, ev_tup, ev_lst, ev_dct, ev_bin, ev_neg, ev_not, ev_and, ev_or, ev_cmp, ev_chain, ev_ite, ev_idx, ev_slc, ev_call, ev_bi, ev_bm, ev_mu, ev_isi, ev_rpr, ev_lset, ev_dcn, ev_dc1, ev_dget, ev_dsd, ev_pr2, ev_rev, asgTS, biD, isDn, isOd, hasD, dgetN, dsdS, revF, zip3F, ex_ret_, ex_retN_, ex_asg_, ex_asgT_, ex_setI_, ex_ex_, ex_ifs_, ex_pass_, ex_brk_, ex_cont_, evT, evA, evF, evI, evO, vw, see, res, tru, D.truth, cmpS, cmpV, cmpF, inF, retS, List.replicate, biS, vws, biF, keepSh, asgS, binS, binF, fz, idxS, idxF, intOf, blOf, slcS, slcF, D.noK, isTy, pks, nodup, argS, argsBack, Y_ok, Y_ite, Y_nil, Kc_nx, Kc_rt, Kc_bk, Kc_ct, setIF, isOD, lookS, putS, muF, lock, unlock, rangeF, bindT, setT, LIM, wrOf, isSh, bmS, bmF, bmT, zipF, itemsZ, enumF, ↓reduceIte, t62_0, S62_0, t62_0a0, S62_0a0, D.dep, D.eqv, e, qa]
            exact out _ em
      · have h2' : ¬ ((ps.length : Int) = 2) := by omega
        have em : machB (hapsD t).length (.tup ps) = false := by
          match ps, h2 with
          | [], _ => rfl
          | [a], _ => cases a <;> rfl
          | a :: b :: c :: r, _ => cases a <;> (try rfl) <;> cases b <;> rfl
        simp [allB_map, all_id, allB, ev_k, ev_v, ev_g, ev_fr, ev_tup, ev_lst, ev_dct, ev_bin, ev_neg, ev_not, ev_and, ev_or, ev_cmp, ev_chain, ev_ite, ev_idx, ev_slc, ev_call, ev_bi, ev_bm, ev_mu, ev_isi, ev_rpr, ev_lset, ev_dcn, ev_dc1, ev_dget, ev_dsd, ev_pr2, ev_rev, asgTS, biD, isDn, isOd, hasD, dgetN, dsdS, revF, zip3F, ex_ret_, ex_retN_, ex_asg_, ex_asgT_, ex_setI_, ex_ex_, ex_ifs_, ex_pass_, ex_brk_, ex_cont_, evT, evA, evF, evI, evO, vw, see, res, tru, D.truth, cmpS, cmpV, cmpF, inF, retS, List.replicate, biS, vws, biF, keepSh, asgS, binS, binF, fz, idxS, idxF, intOf, blOf, slcS, slcF, D.noK, isTy, pks, nodup, argS, argsBack, Y_ok, Y_ite, Y_nil, Kc_nx, Kc_rt, Kc_bk, Kc_ct, setIF, isOD, lookS, putS, muF, lock, unlock, rangeF, bindT, setT, LIM, wrOf, isSh, bmS, bmF, bmT, zipF, itemsZ, enumF, ↓reduceIte, t62_0, S62_0, t62_0a0, S62_0a0, D.dep, D.eqv, h2']
        exact out _ em
    | _ =>
      simp [allB_map, all_id, allB, ev_k, ev_v, ev_g, ev_fr, ev_tup, ev_lst, ev_dct, ev_bin, ev_neg, ev_not, ev_and, ev_or, ev_cmp, ev_chain, ev_ite, ev_idx, ev_slc, ev_call, ev_bi, ev_bm, ev_mu, ev_isi, ev_rpr, ev_lset, ev_dcn, ev_dc1, ev_dget, ev_dsd, ev_pr2, ev_rev, asgTS, biD, isDn, isOd, hasD, dgetN, dsdS, revF, zip3F, ex_ret_, ex_retN_, ex_asg_, ex_asgT_, ex_setI_, ex_ex_, ex_ifs_, ex_pass_, ex_brk_, ex_cont_, evT, evA, evF, evI, evO, vw, see, res, tru, D.truth, cmpS, cmpV, cmpF, inF, retS, List.replicate, biS, vws, biF, keepSh, asgS, binS, binF, fz, idxS, idxF, intOf, blOf, slcS, slcF, D.noK, isTy, pks, nodup, argS, argsBack, Y_ok, Y_ite, Y_nil, Kc_nx, Kc_rt, Kc_bk, Kc_ct, setIF, isOD, lookS, putS, muF, lock, unlock, rangeF, bindT, setT, LIM, wrOf, isSh, bmS, bmF, bmT, zipF, itemsZ, enumF, ↓reduceIte, t62_0, S62_0, t62_0a0, S62_0a0]
      exact out _ rfl
  obtain ⟨_, e, rfl⟩ := this
  exact e
def truthB : D → Bool
  | .bl _ => true
  | _ => false
def verdB : D → Bool
  | .str s => decide (s = [121, 101, 115] ∨ s = [110, 111] ∨ s = [111, 112, 101, 110])
  | _ => false
def endsOf : D → List D
  | .tup [_, .tup ws] => ws
  | _ => []
theorem mach_form {wide : Nat} {d : D} (h : machB wide d = true) : ∃ ns ws, d = .tup [.tup ns, .tup ws] := by
  unfold machB at h
  split at h
  · exact ⟨_, _, rfl⟩
  · cases h
theorem is_judge {P : Pg} (h : HJudge P) (wf n : Nat) (t : Tab) (ht : SmallT t) {L : Nat} (hL : L ≤ 1000000) (d : D) (hd : Bd L d) : callM P wf (n + 3) 63 [.sh (tabD t), .sh d] = .ok (.sh (.bl (machB (hapsD t).length d && (endsOf d).all truthB)), [.sh (tabD t), .sh d]) := by
  refine call_run h.is_judge rfl rfl (by decide) (fun C c1 c2 c3 c4 c5 => ?_) rfl
  have e := is_machine h.toHMach wf n t ht hL d hd
  cases q : machB (hapsD t).length d with
  | false =>
    rw [q] at e
    simp [allB_map, all_id, allB, ev_k, ev_v, ev_g, ev_fr, ev_tup, ev_lst, ev_dct, ev_bin, ev_neg, ev_not, ev_and, ev_or, ev_cmp, ev_chain, ev_ite, ev_idx, ev_slc, ev_call, ev_bi, ev_bm, ev_mu, ev_isi, ev_rpr, ev_lset, ev_dcn, ev_dc1, ev_dget, ev_dsd, ev_pr2, ev_rev, asgTS, biD, isDn, isOd, hasD, dgetN, dsdS, revF, zip3F, ex_ret_, ex_retN_, ex_asg_, ex_asgT_, ex_setI_, ex_ex_, ex_ifs_, ex_pass_, ex_brk_, ex_cont_, evT, evA, evF, evI, evO, vw, see, res, tru, D.truth, cmpS, cmpV, cmpF, inF, retS, List.replicate, biS, vws, biF, keepSh, asgS, binS, binF, fz, idxS, idxF, intOf, blOf, slcS, slcF, D.noK, isTy, pks, nodup, argS, argsBack, Y_ok, Y_ite, Y_nil, Kc_nx, Kc_rt, Kc_bk, Kc_ct, setIF, isOD, lookS, putS, muF, lock, unlock, rangeF, bindT, setT, LIM, wrOf, isSh, bmS, bmF, bmT, zipF, itemsZ, enumF, ↓reduceIte, S63_0, t63_0, c1, e]
  | true =>
    rw [q] at e
    obtain ⟨ns, ws, rfl⟩ := mach_form q
    have hw : Bd L (.tup ws) := hd.2.2.1
    have e2 := all_ev (C := C) (elt := .isi (.v 2) [.bool]) (t := 2) (it := .e (.idx (.v 1) (.k (.int (1))))) (ρ := [.sh (tabD t), .sh (.tup [.tup ns, .tup ws]), .un]) (xs := ws) truthB
      (by simp [allB_map, all_id, allB, ev_k, ev_v, ev_g, ev_fr, ev_tup, ev_lst, ev_dct, ev_bin, ev_neg, ev_not, ev_and, ev_or, ev_cmp, ev_chain, ev_ite, ev_idx, ev_slc, ev_call, ev_bi, ev_bm, ev_mu, ev_isi, ev_rpr, ev_lset, ev_dcn, ev_dc1, ev_dget, ev_dsd, ev_pr2, ev_rev, asgTS, biD, isDn, isOd, hasD, dgetN, dsdS, revF, zip3F, ex_ret_, ex_retN_, ex_asg_, ex_asgT_, ex_setI_, ex_ex_, ex_ifs_, ex_pass_, ex_brk_, ex_cont_, evT, evA, evF, evI, evO, vw, see, res, tru, D.truth, cmpS, cmpV, cmpF, inF, retS, List.replicate, biS, vws, biF, keepSh, asgS, binS, binF, fz, idxS, idxF, intOf, blOf, slcS, slcF, D.noK, isTy, pks, nodup, argS, argsBack, Y_ok, Y_ite, Y_nil, Kc_nx, Kc_rt, Kc_bk, Kc_ct, setIF, isOD, lookS, putS, muF, lock, unlock, rangeF, bindT, setT, LIM, wrOf, isSh, bmS, bmF, bmT, zipF, itemsZ, enumF, ↓reduceIte]) (by simp) rfl (by have := hw.1; simp [LIM]; omega) (fun d hd2 => by
        have hn : ∀ xs, d ≠ .kl xs := Bd.nokl (bds_iff.mp hw.2 d hd2)
        cases d <;> simp [allB_map, all_id, allB, ev_k, ev_v, ev_g, ev_fr, ev_tup, ev_lst, ev_dct, ev_bin, ev_neg, ev_not, ev_and, ev_or, ev_cmp, ev_chain, ev_ite, ev_idx, ev_slc, ev_call, ev_bi, ev_bm, ev_mu, ev_isi, ev_rpr, ev_lset, ev_dcn, ev_dc1, ev_dget, ev_dsd, ev_pr2, ev_rev, asgTS, biD, isDn, isOd, hasD, dgetN, dsdS, revF, zip3F, ex_ret_, ex_retN_, ex_asg_, ex_asgT_, ex_setI_, ex_ex_, ex_ifs_, ex_pass_, ex_brk_, ex_cont_, evT, evA, evF, evI, evO, vw, see, res, tru, D.truth, cmpS, cmpV, cmpF, inF, retS, List.replicate, biS, vws, biF, keepSh, asgS, binS, binF, fz, idxS, idxF, intOf, blOf, slcS, slcF, D.noK, isTy, pks, nodup, argS, argsBack, Y_ok, Y_ite, Y_nil, Kc_nx, Kc_rt, Kc_bk, Kc_ct, setIF, isOD, lookS, putS, muF, lock, unlock, rangeF, bindT, setT, LIM, wrOf, isSh, bmS, bmF, bmT, zipF, itemsZ, enumF, ↓reduceIte, truthB] at hn ⊢)
    simp [allB_map, all_id, allB, ev_k, ev_v, ev_g, ev_fr, ev_tup, ev_lst, ev_dct, ev_bin, ev_neg, ev_not, ev_and, ev_or, ev_cmp, ev_chain, ev_ite, ev_idx, ev_slc, ev_call, ev_bi, ev_bm, ev_mu, ev_isi, ev_rpr, ev_lset, ev_dcn, ev_dc1, ev_dget, ev_dsd, ev_pr2, ev_rev, asgTS, biD, isDn, isOd, hasD, dgetN, dsdS, revF, zip3F, ex_ret_, ex_retN_, ex_asg_, ex_asgT_, ex_setI_, ex_ex_, ex_ifs_, ex_pass_, ex_brk_, ex_cont_, evT, evA, evF, evI, evO, vw, see, res, tru, D.truth, cmpS, cmpV, cmpF, inF, retS, List.replicate, biS, vws, biF, keepSh, asgS, binS, binF, fz, idxS, idxF, intOf, blOf, slcS, slcF, D.noK, isTy, pks, nodup, argS, argsBack, Y_ok, Y_ite, Y_nil, Kc_nx, Kc_rt, Kc_bk, Kc_ct, setIF, isOD, lookS, putS, muF, lock, unlock, rangeF, bindT, setT, LIM, wrOf, isSh, bmS, bmF, bmT, zipF, itemsZ, enumF, ↓reduceIte, S63_0, t63_0, c1, e, e2, endsOf]
theorem is_watcher {P : Pg} (h : HWatcher P) (wf n : Nat) (t : Tab) (ht : SmallT t) {L : Nat} (hL : L ≤ 1000000) (d : D) (hd : Bd L d) : callM P wf (n + 3) 64 [.sh (tabD t), .sh d] = .ok (.sh (.bl (machB (hapsD t).length d && (endsOf d).all verdB)), [.sh (tabD t), .sh d]) := by
  refine call_run h.is_watcher rfl rfl (by decide) (fun C c1 c2 c3 c4 c5 => ?_) rfl
  have g := h.cVERDICTS
  rw [← c2] at g
  have e := is_machine h.toHMach wf n t ht hL d hd
  cases q : machB (hapsD t).length d with
  | false =>
    rw [q] at e
    simp [allB_map, all_id, allB, ev_k, ev_v, ev_g, ev_fr, ev_tup, ev_lst, ev_dct, ev_bin, ev_neg, ev_not, ev_and, ev_or, ev_cmp, ev_chain, ev_ite, ev_idx, ev_slc, ev_call, ev_bi, ev_bm, ev_mu, ev_isi, ev_rpr, ev_lset, ev_dcn, ev_dc1, ev_dget, ev_dsd, ev_pr2, ev_rev, asgTS, biD, isDn, isOd, hasD, dgetN, dsdS, revF, zip3F, ex_ret_, ex_retN_, ex_asg_, ex_asgT_, ex_setI_, ex_ex_, ex_ifs_, ex_pass_, ex_brk_, ex_cont_, evT, evA, evF, evI, evO, vw, see, res, tru, D.truth, cmpS, cmpV, cmpF, inF, retS, List.replicate, biS, vws, biF, keepSh, asgS, binS, binF, fz, idxS, idxF, intOf, blOf, slcS, slcF, D.noK, isTy, pks, nodup, argS, argsBack, Y_ok, Y_ite, Y_nil, Kc_nx, Kc_rt, Kc_bk, Kc_ct, setIF, isOD, lookS, putS, muF, lock, unlock, rangeF, bindT, setT, LIM, wrOf, isSh, bmS, bmF, bmT, zipF, itemsZ, enumF, ↓reduceIte, S64_0, t64_0, c1, e]
  | true =>
    rw [q] at e
    obtain ⟨ns, ws, rfl⟩ := mach_form q
    have hw : Bd L (.tup ws) := hd.2.2.1
    have e2 := all_ev (C := C) (elt := .and (.isi (.v 2) [.str]) (.cmp .in_ (.v 2) (.g 65))) (t := 2) (it := .e (.idx (.v 1) (.k (.int (1))))) (ρ := [.sh (tabD t), .sh (.tup [.tup ns, .tup ws]), .un]) (xs := ws) verdB
      (by simp [allB_map, all_id, allB, ev_k, ev_v, ev_g, ev_fr, ev_tup, ev_lst, ev_dct, ev_bin, ev_neg, ev_not, ev_and, ev_or, ev_cmp, ev_chain, ev_ite, ev_idx, ev_slc, ev_call, ev_bi, ev_bm, ev_mu, ev_isi, ev_rpr, ev_lset, ev_dcn, ev_dc1, ev_dget, ev_dsd, ev_pr2, ev_rev, asgTS, biD, isDn, isOd, hasD, dgetN, dsdS, revF, zip3F, ex_ret_, ex_retN_, ex_asg_, ex_asgT_, ex_setI_, ex_ex_, ex_ifs_, ex_pass_, ex_brk_, ex_cont_, evT, evA, evF, evI, evO, vw, see, res, tru, D.truth, cmpS, cmpV, cmpF, inF, retS, List.replicate, biS, vws, biF, keepSh, asgS, binS, binF, fz, idxS, idxF, intOf, blOf, slcS, slcF, D.noK, isTy, pks, nodup, argS, argsBack, Y_ok, Y_ite, Y_nil, Kc_nx, Kc_rt, Kc_bk, Kc_ct, setIF, isOD, lookS, putS, muF, lock, unlock, rangeF, bindT, setT, LIM, wrOf, isSh, bmS, bmF, bmT, zipF, itemsZ, enumF, ↓reduceIte]) (by simp) rfl (by have := hw.1; simp [LIM]; omega) (fun d hd2 => by
        have hn : ∀ xs, d ≠ .kl xs := Bd.nokl (bds_iff.mp hw.2 d hd2)
        cases d with
        | kl xs => exact (hn xs rfl).elim
        | str s =>
          simp [allB_map, all_id, allB, ev_k, ev_v, ev_g, ev_fr, ev_tup, ev_lst, ev_dct, ev_bin, ev_neg, ev_not, ev_and, ev_or, ev_cmp, ev_chain, ev_ite, ev_idx, ev_slc, ev_call, ev_bi, ev_bm, ev_mu, ev_isi, ev_rpr, ev_lset, ev_dcn, ev_dc1, ev_dget, ev_dsd, ev_pr2, ev_rev, asgTS, biD, isDn, isOd, hasD, dgetN, dsdS, revF, zip3F, ex_ret_, ex_retN_, ex_asg_, ex_asgT_, ex_setI_, ex_ex_, ex_ifs_, ex_pass_, ex_brk_, ex_cont_, evT, evA, evF, evI, evO, vw, see, res, tru, D.truth, cmpS, cmpV, cmpF, inF, retS, List.replicate, biS, vws, biF, keepSh, asgS, binS, binF, fz, idxS, idxF, intOf, blOf, slcS, slcF, D.noK, isTy, pks, nodup, argS, argsBack, Y_ok, Y_ite, Y_nil, Kc_nx, Kc_rt, Kc_bk, Kc_ct, setIF, isOD, lookS, putS, muF, lock, unlock, rangeF, bindT, setT, LIM, wrOf, isSh, bmS, bmF, bmT, zipF, itemsZ, enumF, ↓reduceIte, verdB, g, D.dep, D.eqv]
          rw [Bool.eq_iff_iff]
          simp only [Bool.or_eq_true, beq_iff_eq, decide_eq_true_eq]
          exact ⟨fun z => by rcases z with z | z | z <;> simp [← z], fun z => by rcases z with rfl | rfl | rfl <;> simp⟩
        | _ => simp [allB_map, all_id, allB, ev_k, ev_v, ev_g, ev_fr, ev_tup, ev_lst, ev_dct, ev_bin, ev_neg, ev_not, ev_and, ev_or, ev_cmp, ev_chain, ev_ite, ev_idx, ev_slc, ev_call, ev_bi, ev_bm, ev_mu, ev_isi, ev_rpr, ev_lset, ev_dcn, ev_dc1, ev_dget, ev_dsd, ev_pr2, ev_rev, asgTS, biD, isDn, isOd, hasD, dgetN, dsdS, revF, zip3F, ex_ret_, ex_retN_, ex_asg_, ex_asgT_, ex_setI_, ex_ex_, ex_ifs_, ex_pass_, ex_brk_, ex_cont_, evT, evA, evF, evI, evO, vw, see, res, tru, D.truth, cmpS, cmpV, cmpF, inF, retS, List.replicate, biS, vws, biF, keepSh, asgS, binS, binF, fz, idxS, idxF, intOf, blOf, slcS, slcF, D.noK, isTy, pks, nodup, argS, argsBack, Y_ok, Y_ite, Y_nil, Kc_nx, Kc_rt, Kc_bk, Kc_ct, setIF, isOD, lookS, putS, muF, lock, unlock, rangeF, bindT, setT, LIM, wrOf, isSh, bmS, bmF, bmT, zipF, itemsZ, enumF, ↓reduceIte, verdB])
    simp [allB_map, all_id, allB, ev_k, ev_v, ev_g, ev_fr, ev_tup, ev_lst, ev_dct, ev_bin, ev_neg, ev_not, ev_and, ev_or, ev_cmp, ev_chain, ev_ite, ev_idx, ev_slc, ev_call, ev_bi, ev_bm, ev_mu, ev_isi, ev_rpr, ev_lset, ev_dcn, ev_dc1, ev_dget, ev_dsd, ev_pr2, ev_rev, asgTS, biD, isDn, isOd, hasD, dgetN, dsdS, revF, zip3F, ex_ret_, ex_retN_, ex_asg_, ex_asgT_, ex_setI_, ex_ex_, ex_ifs_, ex_pass_, ex_brk_, ex_cont_, evT, evA, evF, evI, evO, vw, see, res, tru, D.truth, cmpS, cmpV, cmpF, inF, retS, List.replicate, biS, vws, biF, keepSh, asgS, binS, binF, fz, idxS, idxF, intOf, blOf, slcS, slcF, D.noK, isTy, pks, nodup, argS, argsBack, Y_ok, Y_ite, Y_nil, Kc_nx, Kc_rt, Kc_bk, Kc_ct, setIF, isOD, lookS, putS, muF, lock, unlock, rangeF, bindT, setT, LIM, wrOf, isSh, bmS, bmF, bmT, zipF, itemsZ, enumF, ↓reduceIte, S64_0, t64_0, c1, e, e2, endsOf]
end Mp
namespace Mp
/-! _law_table(_law_feed_here): 0=_law_feed_here 1=_law_pool 2=_law_start 3=_law_many 4=_law_left 5=_law_table_here 6=_law_k 7=_law_most -/
def S69_5b2 : Sm := (.asg 4 (.bin .sub (.bin .sub (.v 4) (.v 7)) (.k (.int (1)))))
def L69_5b2 : Sms := .cons S69_5b2 .nil
theorem t69_5b2 (C : Ctx) (ρ : Env) (Q : Fl × Env → Prop) : Y (exSs C L69_5b2 ρ) Q = Y (exS C S69_5b2 ρ) (Kc C .nil Q) := Y_st _ _ _ _ _
def S69_5b1 : Sm := (.ex (.mu .append 5 (.cons (.tup (.cons (.idx (.v 1) (.bin .mod (.bin .add (.v 2) (.v 6)) (.k (.int (9))))) (.cons (.v 7) .nil))) .nil)))
def L69_5b1 : Sms := .cons S69_5b1 L69_5b2
theorem t69_5b1 (C : Ctx) (ρ : Env) (Q : Fl × Env → Prop) : Y (exSs C L69_5b1 ρ) Q = Y (exS C S69_5b1 ρ) (Kc C L69_5b2 Q) := Y_st _ _ _ _ _
def S69_5b0 : Sm := (.asg 7 (.bi .min (.cons (.call 68 (.cons (.v 0) (.cons (.k (.int (3))) .nil))) (.cons (.bin .add (.bin .sub (.v 4) (.v 3)) (.v 6)) .nil))))
def L69_5b0 : Sms := .cons S69_5b0 L69_5b1
theorem t69_5b0 (C : Ctx) (ρ : Env) (Q : Fl × Env → Prop) : Y (exSs C L69_5b0 ρ) Q = Y (exS C S69_5b0 ρ) (Kc C L69_5b1 Q) := Y_st _ _ _ _ _
def S69_6 : Sm := (.ret (.bi .tuple (.cons (.v 5) .nil)))
def L69_6 : Sms := .cons S69_6 .nil
theorem t69_6 (C : Ctx) (ρ : Env) (Q : Fl × Env → Prop) : Y (exSs C L69_6 ρ) Q = Y (exS C S69_6 ρ) (Kc C .nil Q) := Y_st _ _ _ _ _
def S69_5 : Sm := (.for_ [6] false (.range (.cons (.v 3) .nil)) L69_5b0)
def L69_5 : Sms := .cons S69_5 L69_6
theorem t69_5 (C : Ctx) (ρ : Env) (Q : Fl × Env → Prop) : Y (exSs C L69_5 ρ) Q = Y (exS C S69_5 ρ) (Kc C L69_6 Q) := Y_st _ _ _ _ _
def S69_4 : Sm := (.asg 5 (.lst .nil))
def L69_4 : Sms := .cons S69_4 L69_5
theorem t69_4 (C : Ctx) (ρ : Env) (Q : Fl × Env → Prop) : Y (exSs C L69_4 ρ) Q = Y (exS C S69_4 ρ) (Kc C L69_5 Q) := Y_st _ _ _ _ _
def S69_3 : Sm := (.asg 4 (.k (.int (5))))
def L69_3 : Sms := .cons S69_3 L69_4
theorem t69_3 (C : Ctx) (ρ : Env) (Q : Fl × Env → Prop) : Y (exSs C L69_3 ρ) Q = Y (exS C S69_3 ρ) (Kc C L69_4 Q) := Y_st _ _ _ _ _
def S69_2 : Sm := (.asg 3 (.idx (.lst (.cons (.k (.int (1))) (.cons (.k (.int (2))) (.cons (.k (.int (2))) (.cons (.k (.int (3))) .nil))))) (.call 68 (.cons (.v 0) (.cons (.k (.int (4))) .nil)))))
def L69_2 : Sms := .cons S69_2 L69_3
theorem t69_2 (C : Ctx) (ρ : Env) (Q : Fl × Env → Prop) : Y (exSs C L69_2 ρ) Q = Y (exS C S69_2 ρ) (Kc C L69_3 Q) := Y_st _ _ _ _ _
def S69_1 : Sm := (.asg 2 (.call 68 (.cons (.v 0) (.cons (.k (.int (9))) .nil))))
def L69_1 : Sms := .cons S69_1 L69_2
theorem t69_1 (C : Ctx) (ρ : Env) (Q : Fl × Env → Prop) : Y (exSs C L69_1 ρ) Q = Y (exS C S69_1 ρ) (Kc C L69_2 Q) := Y_st _ _ _ _ _
def S69_0 : Sm := (.asg 1 (.lst (.cons (.k (.str [97])) (.cons (.k (.str [97, 98])) (.cons (.k (.str [97, 98, 99])) (.cons (.k (.str [110, 111, 119])) (.cons (.k (.str [97, 110, 121])) (.cons (.k (.str [110, 97, 109, 101])) (.cons (.k (.str [108, 101, 115, 115])) (.cons (.k (.str [120])) (.cons (.k (.str [122, 122, 122, 122, 122, 122, 122, 122])) .nil)))))))))))
def L69_0 : Sms := .cons S69_0 L69_1
theorem t69_0 (C : Ctx) (ρ : Env) (Q : Fl × Env → Prop) : Y (exSs C L69_0 ρ) Q = Y (exS C S69_0 ρ) (Kc C L69_1 Q) := Y_st _ _ _ _ _
structure HTab37 (P : Pg) : Prop extends HFeed P where
  table : P.fn 69 = some ⟨1, 8, L69_0⟩
def poolL : List (List Nat) := [[97], [97, 98], [97, 98, 99], [110, 111, 119], [97, 110, 121], [110, 97, 109, 101], [108, 101, 115, 115], [120], [122, 122, 122, 122, 122, 122, 122, 122]]
def poolAt (s : Int) : List Nat := poolL.getD (s.fmod 9).toNat []
theorem atI_map {α β : Type} (f : α → β) (xs : List α) (r : Int) : atI (xs.map f) r = (atI xs r).map f := by
  unfold atI
  rw [List.length_map]
  cases z : ixN xs.length r with
  | none => rfl
  | some j => show (xs.map f)[j]? = (xs[j]?).map f; rw [List.getElem?_map]
theorem pool_at (s : Int) : atI (poolL.map D.str) (s.fmod 9) = some (.str (poolAt s)) := by
  obtain ⟨f1, f2⟩ := fmod_pos s (show (0 : Int) < 9 by decide)
  obtain ⟨c, e1, e2⟩ := at_of poolL f1 f2
  rw [atI_map, e1]
  unfold poolAt
  rw [List.getD_eq_getElem?_getD, e2]
  rfl
theorem poolAt_len (s : Int) : (poolAt s).length ≤ 8 := by
  obtain ⟨f1, f2⟩ := fmod_pos s (show (0 : Int) < 9 by decide)
  unfold poolAt
  have : ∀ k : Nat, k < 9 → (poolL.getD k []).length ≤ 8 := by decide
  exact this _ (by omega)
theorem pool_nodup : ∀ s : Nat, s < 9 → ((List.range 3).map fun j => poolL.getD ((s + j) % 9) []).Nodup := by decide
/-- a table that was drawn -/
structure TabOk (t : Tab) : Prop where
  ne : t ≠ []
  len : t.length ≤ 3
  most : ∀ p ∈ t, 0 ≤ p.2 ∧ p.2 ≤ 2 ∧ p.1.length ≤ 8
  nodup : (t.map (·.1)).Nodup
  sum : (hapsOf t).length ≤ 5
  names : ∀ p ∈ t, p.1 ∈ poolL
theorem poolAt_mem (s : Int) : poolAt s ∈ poolL := by
  obtain ⟨f1, f2⟩ := fmod_pos s (show (0 : Int) < 9 by decide)
  unfold poolAt
  have : ∀ k : Nat, k < 9 → poolL.getD k [] ∈ poolL := by decide
  exact this _ (by omega)
theorem TabOk.small {t : Tab} (h : TabOk t) : SmallT t := ⟨Nat.le_trans h.len (by decide), fun p hp => ⟨(h.most p hp).1, by have := (h.most p hp).2.1; omega, (h.most p hp).2.2⟩⟩
theorem hapsOf_snoc (t : Tab) (p : List Nat × Int) : (hapsOf (t ++ [p])).length = (hapsOf t).length + (p.2 + 1).toNat := by
  unfold hapsOf
  rw [List.flatMap_append, List.length_append]
  simp
def TabQ (b : Int) : Fl × Env → Prop := fun r => ∃ t fs ρ, r = (.rt (.sh (tabD t)), .ol fs :: ρ) ∧ TabOk t ∧ Tf fs b
theorem table_turn {P : Pg} (h : HTab37 P) (wf n : Nat) {C : Ctx} (c1 : C.cl = callM P wf (n + 2)) {fs : List D} {b : Int} (T : Tf fs b) (hb : b < 1000000) (w4 : C.wr 4 = true) (w7 : C.wr 7 = true) {start many left : Int} {k : Nat} {t : Tab} {z7 : Sl} (hs : 0 ≤ start) (hk : k < many) (hm : many ≤ 3) (hl : many - k ≤ left)
    (ht : t.length = k) {Q : Fl × Env → Prop} (hQ : ∀ m fs' z7, 0 ≤ m → m ≤ 2 → m ≤ left - many + k → Tf fs' (b + 1) → Q (.nx, [.ol fs', .ol (poolL.map .str), .sh (.int start), .sh (.int many), .sh (.int (left - m - 1)), .ol ((t ++ [(poolAt (start + k), m)]).map pairD), .sh (.int k), z7])) :
    Y (exSs C L69_5b0 [.ol fs, .ol (poolL.map .str), .sh (.int start), .sh (.int many), .sh (.int left), .ol (t.map pairD), .sh (.int k), z7]) Q := by
  obtain ⟨r, fs', e, r0, r1, T'⟩ := take h.toHFeed wf n T 3 (by decide) (by decide) (by omega)
  have ep := pool_at (start + k)
  simp only [poolL, List.map] at ep hQ ⊢
  have hl : t.length < 16777216 := by omega
  simp [t69_5b0, S69_5b0, t69_5b1, S69_5b1, t69_5b2, S69_5b2, allB_map, all_id, allB, ev_k, ev_v, ev_g, ev_fr, ev_tup, ev_lst, ev_dct, ev_bin, ev_neg, ev_not, ev_and, ev_or, ev_cmp, ev_chain, ev_ite, ev_idx, ev_slc, ev_call, ev_bi, ev_bm, ev_mu, ev_isi, ev_rpr, ev_lset, ev_dcn, ev_dc1, ev_dget, ev_dsd, ev_pr2, ev_rev, asgTS, biD, isDn, isOd, hasD, dgetN, dsdS, revF, zip3F, ex_ret_, ex_retN_, ex_asg_, ex_asgT_, ex_setI_, ex_ex_, ex_ifs_, ex_pass_, ex_brk_, ex_cont_, evT, evA, evF, evI, evO, vw, see, res, tru, D.truth, cmpS, cmpV, cmpF, inF, retS, List.replicate, biS, vws, biF, keepSh, asgS, binS, binF, fz, idxS, idxF, intOf, blOf, slcS, slcF, D.noK, isTy, pks, nodup, argS, argsBack, Y_ok, Y_ite, Y_nil, Kc_nx, Kc_rt, Kc_bk, Kc_ct, setIF, isOD, lookS, putS, muF, lock, unlock, rangeF, bindT, setT, LIM, wrOf, isSh, bmS, bmF, bmT, zipF, itemsZ, enumF, ↓reduceIte, c1, e, w4, w7, ep, evF, hl]
  have := hQ (if left - many + k < r then left - many + k else r) fs' (.sh (.int (if left - many + k < r then left - many + k else r))) (by split <;> omega) (by split <;> omega) (by split <;> omega) T'
  simpa [pairD] using this
theorem table {P : Pg} (h : HTab37 P) (wf n : Nat) {fs : List D} {b : Int} (T : Tf fs b) (hb : b < 900000) : ∃ t fs', callM P wf (n + 3) 69 [.ol fs] = .ok (.sh (tabD t), [.ol fs']) ∧ TabOk t ∧ Tf fs' (b + 5) := by
  have : Y (callM P wf (n + 3) 69 [.ol fs]) fun r => ∃ t fs', r = (.sh (tabD t), [.ol fs']) ∧ TabOk t ∧ Tf fs' (b + 5) := by
    refine call_by (TabQ (b + 5)) h.table rfl rfl (by decide) (fun C c1 c2 c3 c4 c5 => ?_) (by rintro _ ⟨t, fs, ρ, rfl, h1, h2⟩; exact ⟨_, _, rfl, rfl, t, fs, rfl, h1, h2⟩)
    show Y (exSs C L69_0 [.ol fs, .un, .un, .un, .un, .un, .un, .un]) _
    obtain ⟨start, f1, e1, s0, s1, T1⟩ := take h.toHFeed wf n T 9 (by decide) (by decide) (by omega)
    obtain ⟨r, f2, e2, r0, r1, T2⟩ := take h.toHFeed wf n T1 4 (by decide) (by decide) (by omega)
    obtain ⟨c, ec, ec2⟩ := at_of ([.int 1, .int 2, .int 2, .int 3] : List D) r0 r1
    obtain ⟨many, rfl, m1, m3⟩ : ∃ m : Int, c = .int m ∧ 1 ≤ m ∧ m ≤ 3 := by
      have := at_mem ec
      simp only [List.mem_cons, List.not_mem_nil, or_false] at this
      rcases this with rfl | rfl | rfl | rfl <;> exact ⟨_, rfl, by omega, by omega⟩
    simp [t69_0, S69_0, t69_1, S69_1, t69_2, S69_2, t69_3, S69_3, t69_4, S69_4, allB_map, all_id, allB, ev_k, ev_v, ev_g, ev_fr, ev_tup, ev_lst, ev_dct, ev_bin, ev_neg, ev_not, ev_and, ev_or, ev_cmp, ev_chain, ev_ite, ev_idx, ev_slc, ev_call, ev_bi, ev_bm, ev_mu, ev_isi, ev_rpr, ev_lset, ev_dcn, ev_dc1, ev_dget, ev_dsd, ev_pr2, ev_rev, asgTS, biD, isDn, isOd, hasD, dgetN, dsdS, revF, zip3F, ex_ret_, ex_retN_, ex_asg_, ex_asgT_, ex_setI_, ex_ex_, ex_ifs_, ex_pass_, ex_brk_, ex_cont_, evT, evA, evF, evI, evO, vw, see, res, tru, D.truth, cmpS, cmpV, cmpF, inF, retS, List.replicate, biS, vws, biF, keepSh, asgS, binS, binF, fz, idxS, idxF, intOf, blOf, slcS, slcF, D.noK, isTy, pks, nodup, argS, argsBack, Y_ok, Y_ite, Y_nil, Kc_nx, Kc_rt, Kc_bk, Kc_ct, setIF, isOD, lookS, putS, muF, lock, unlock, rangeF, bindT, setT, LIM, wrOf, isSh, bmS, bmF, bmT, zipF, itemsZ, enumF, ↓reduceIte, c1, c3, e1, e2, evF, ec]
    rw [t69_5]
    refine for_Y (lk := []) (ds := rangeL 0 many) (ρ1 := [.ol f2, .ol (poolL.map .str), .sh (.int start), .sh (.int many), .sh (.int 5), .ol [], .un, .un]) (fun k ρ => ∃ (t : Tab) (f : List D) (left : Int) (z6 z7 : Sl), ρ = [.ol f, .ol (poolL.map .str), .sh (.int start), .sh (.int many), .sh (.int left), .ol (t.map pairD), z6, z7] ∧ Tf f (b + 2 + k) ∧ t.length = k ∧ many - k ≤ left ∧ (∀ p ∈ t, 0 ≤ p.2 ∧ p.2 ≤ 2 ∧ p.1.length ≤ 8) ∧ t.map (·.1) = (List.range k).map (fun j : Nat => poolAt (start + j)) ∧ ((hapsOf t).length : Int) = 5 - left) ?_ ?_ ⟨[], f2, 5, .un, .un, rfl, T2.mono (by omega), rfl, by omega, fun p hp => (by cases hp), rfl, rfl⟩ ?_ ?_
    · exact range_ev (by simp [allB_map, all_id, allB, ev_k, ev_v, ev_g, ev_fr, ev_tup, ev_lst, ev_dct, ev_bin, ev_neg, ev_not, ev_and, ev_or, ev_cmp, ev_chain, ev_ite, ev_idx, ev_slc, ev_call, ev_bi, ev_bm, ev_mu, ev_isi, ev_rpr, ev_lset, ev_dcn, ev_dc1, ev_dget, ev_dsd, ev_pr2, ev_rev, asgTS, biD, isDn, isOd, hasD, dgetN, dsdS, revF, zip3F, ex_ret_, ex_retN_, ex_asg_, ex_asgT_, ex_setI_, ex_ex_, ex_ifs_, ex_pass_, ex_brk_, ex_cont_, evT, evA, evF, evI, evO, vw, see, res, tru, D.truth, cmpS, cmpV, cmpF, inF, retS, List.replicate, biS, vws, biF, keepSh, asgS, binS, binF, fz, idxS, idxF, intOf, blOf, slcS, slcF, D.noK, isTy, pks, nodup, argS, argsBack, Y_ok, Y_ite, Y_nil, Kc_nx, Kc_rt, Kc_bk, Kc_ct, setIF, isOD, lookS, putS, muF, lock, unlock, rangeF, bindT, setT, LIM, wrOf, isSh, bmS, bmF, bmT, zipF, itemsZ, enumF, ↓reduceIte, poolL]) (by omega) (by omega)
    · simp [c3, wrOf]
    · rintro k d ρ hd ⟨t, f, left, z6, z7, rfl, T3, hl, hleft, hm, hn, hsum⟩
      have hd' := range_at hd
      have hk := range_lt hd
      subst hd'
      refine ⟨[.ol f, .ol (poolL.map .str), .sh (.int start), .sh (.int many), .sh (.int left), .ol (t.map pairD), .sh (.int k), z7], rfl, ?_⟩
      refine table_turn h wf n c1 T3 (by omega) (by simp [c3, wrOf]) (by simp [c3, wrOf]) s0 hk m3 hleft hl ?_
      intro m f' z7 m0 m2 m4 T4
      refine ⟨.inl rfl, _, f', _, _, _, rfl, T4.mono (by omega), by simp [hl], by omega, ?_, ?_, ?_⟩
      · intro p hp
        rcases List.mem_append.mp hp with z | z
        · exact hm p z
        · simp at z
          subst z
          exact ⟨m0, m2, poolAt_len _⟩
      · rw [List.map_append, hn, List.range_succ, List.map_append]
        rfl
      · rw [hapsOf_snoc]
        show (((hapsOf t).length + (m + 1).toNat : Nat) : Int) = _
        omega
    · rintro _ ⟨t, f, left, z6, z7, rfl, T3, hl, hleft, hm, hn, hsum⟩
      have el : (rangeL 0 many).length = many.toNat := rangeL_len _
      rw [el] at T3 hl hleft hn
      simp [t69_6, S69_6, allB_map, all_id, allB, ev_k, ev_v, ev_g, ev_fr, ev_tup, ev_lst, ev_dct, ev_bin, ev_neg, ev_not, ev_and, ev_or, ev_cmp, ev_chain, ev_ite, ev_idx, ev_slc, ev_call, ev_bi, ev_bm, ev_mu, ev_isi, ev_rpr, ev_lset, ev_dcn, ev_dc1, ev_dget, ev_dsd, ev_pr2, ev_rev, asgTS, biD, isDn, isOd, hasD, dgetN, dsdS, revF, zip3F, ex_ret_, ex_retN_, ex_asg_, ex_asgT_, ex_setI_, ex_ex_, ex_ifs_, ex_pass_, ex_brk_, ex_cont_, evT, evA, evF, evI, evO, vw, see, res, tru, D.truth, cmpS, cmpV, cmpF, inF, retS, List.replicate, biS, vws, biF, keepSh, asgS, binS, binF, fz, idxS, idxF, intOf, blOf, slcS, slcF, D.noK, isTy, pks, nodup, argS, argsBack, Y_ok, Y_ite, Y_nil, Kc_nx, Kc_rt, Kc_bk, Kc_ct, setIF, isOD, lookS, putS, muF, lock, unlock, rangeF, bindT, setT, LIM, wrOf, isSh, bmS, bmF, bmT, zipF, itemsZ, enumF, ↓reduceIte, c3]
      refine ⟨t, f, _, rfl, ⟨?_, by omega, hm, ?_, by omega, fun p hp => ?_⟩, T3.mono (by omega)⟩
      · rintro rfl
        simp at hl
        omega
      · rw [hn]
        have := pool_nodup start.toNat (by omega)
        have e : (List.range many.toNat).map (fun j : Nat => poolAt (start + j)) = (List.range many.toNat).map fun j => poolL.getD ((start.toNat + j) % 9) [] := by
          refine List.map_congr_left fun j hj => ?_
          unfold poolAt
          congr 1
          rw [Int.fmod_eq_emod_of_nonneg _ (by decide)]
          omega
        rw [e]
        have h3 : (List.range many.toNat).Sublist (List.range 3) := List.range_sublist.mpr (by omega)
        exact this.sublist (h3.map _)
      · have : p.1 ∈ t.map (·.1) := List.mem_map.mpr ⟨p, hp, rfl⟩
        rw [hn] at this
        obtain ⟨j, _, e⟩ := List.mem_map.mp this
        rw [← e]
        exact poolAt_mem _
  obtain ⟨_, e, t, fs', rfl, h1, h2⟩ := this
  exact ⟨t, fs', e, h1, h2⟩
end Mp
namespace Mp
/-! _law_machine(_law_feed_here, _law_table_here, _law_menu): 0=_law_feed_here 1=_law_table_here 2=_law_menu 3=_law_many 4=_law_wide 5=_law_nexts 6=_law_spot 7=_law_marks 8=_law_k -/
def S71_3b0 : Sm := (.ex (.mu .append 5 (.cons (.bi .tuple (.cons (.lc (.call 68 (.cons (.v 0) (.cons (.v 3) .nil))) [8] false (.range (.cons (.v 4) .nil)) .tt) .nil)) .nil)))
def L71_3b0 : Sms := .cons S71_3b0 .nil
theorem t71_3b0 (C : Ctx) (ρ : Env) (Q : Fl × Env → Prop) : Y (exSs C L71_3b0 ρ) Q = Y (exS C S71_3b0 ρ) (Kc C .nil Q) := Y_st _ _ _ _ _
def S71_5a0 : Sm := (.asg 7 (.bin .mul (.lst (.cons (.idx (.v 2) (.k (.int (0)))) .nil)) (.v 3)))
def L71_5a0 : Sms := .cons S71_5a0 .nil
theorem t71_5a0 (C : Ctx) (ρ : Env) (Q : Fl × Env → Prop) : Y (exSs C L71_5a0 ρ) Q = Y (exS C S71_5a0 ρ) (Kc C .nil Q) := Y_st _ _ _ _ _
def S71_6 : Sm := (.ret (.tup (.cons (.bi .tuple (.cons (.v 5) .nil)) (.cons (.bi .tuple (.cons (.v 7) .nil)) .nil))))
def L71_6 : Sms := .cons S71_6 .nil
theorem t71_6 (C : Ctx) (ρ : Env) (Q : Fl × Env → Prop) : Y (exSs C L71_6 ρ) Q = Y (exS C S71_6 ρ) (Kc C .nil Q) := Y_st _ _ _ _ _
def S71_5 : Sm := (.ifs (.e (.cmp .eq (.call 68 (.cons (.v 0) (.cons (.k (.int (3))) .nil))) (.k (.int (0))))) L71_5a0 .nil)
def L71_5 : Sms := .cons S71_5 L71_6
theorem t71_5 (C : Ctx) (ρ : Env) (Q : Fl × Env → Prop) : Y (exSs C L71_5 ρ) Q = Y (exS C S71_5 ρ) (Kc C L71_6 Q) := Y_st _ _ _ _ _
def S71_4 : Sm := (.asg 7 (.lc (.idx (.v 2) (.call 68 (.cons (.v 0) (.cons (.bi .len (.cons (.v 2) .nil)) .nil)))) [6] false (.range (.cons (.v 3) .nil)) .tt))
def L71_4 : Sms := .cons S71_4 L71_5
theorem t71_4 (C : Ctx) (ρ : Env) (Q : Fl × Env → Prop) : Y (exSs C L71_4 ρ) Q = Y (exS C S71_4 ρ) (Kc C L71_5 Q) := Y_st _ _ _ _ _
def S71_3 : Sm := (.for_ [6] false (.range (.cons (.v 3) .nil)) L71_3b0)
def L71_3 : Sms := .cons S71_3 L71_4
theorem t71_3 (C : Ctx) (ρ : Env) (Q : Fl × Env → Prop) : Y (exSs C L71_3 ρ) Q = Y (exS C S71_3 ρ) (Kc C L71_4 Q) := Y_st _ _ _ _ _
def S71_2 : Sm := (.asg 5 (.lst .nil))
def L71_2 : Sms := .cons S71_2 L71_3
theorem t71_2 (C : Ctx) (ρ : Env) (Q : Fl × Env → Prop) : Y (exSs C L71_2 ρ) Q = Y (exS C S71_2 ρ) (Kc C L71_3 Q) := Y_st _ _ _ _ _
def S71_1 : Sm := (.asg 4 (.bi .len (.cons (.call 70 (.cons (.v 1) .nil)) .nil)))
def L71_1 : Sms := .cons S71_1 L71_2
theorem t71_1 (C : Ctx) (ρ : Env) (Q : Fl × Env → Prop) : Y (exSs C L71_1 ρ) Q = Y (exS C S71_1 ρ) (Kc C L71_2 Q) := Y_st _ _ _ _ _
def S71_0 : Sm := (.asg 3 (.bin .add (.k (.int (1))) (.call 68 (.cons (.v 0) (.cons (.k (.int (7))) .nil)))))
def L71_0 : Sms := .cons S71_0 L71_1
theorem t71_0 (C : Ctx) (ρ : Env) (Q : Fl × Env → Prop) : Y (exSs C L71_0 ρ) Q = Y (exS C S71_0 ρ) (Kc C L71_1 Q) := Y_st _ _ _ _ _
structure HMc (P : Pg) : Prop extends HTab37 P where
  law_haps : P.fn 70 = some ⟨1, 5, L24_0⟩
  machine : P.fn 71 = some ⟨3, 9, L71_0⟩
def rowD (r : List Int) : D := .tup (r.map .int)
/-- a machine: its nexts, its ends -/
def mcD (ns : List (List Int)) (ws : List D) : D := .tup [.tup (ns.map rowD), .tup ws]
structure McOk (wide : Nat) (ms : List D) (ns : List (List Int)) (ws : List D) : Prop where
  pos : 1 ≤ ns.length
  few : ns.length ≤ 7
  ends : ws.length = ns.length
  rows : ∀ r ∈ ns, r.length = wide ∧ ∀ o ∈ r, 0 ≤ o ∧ o < ns.length
  menu : ∀ w ∈ ws, w ∈ ms
/-- numbers drawn in a row -/
theorem mc_row {P : Pg} (h : HMc P) (wf n : Nat) {C : Ctx} (c1 : C.cl = callM P wf (n + 2)) {fs : List D} {b : Int} (T : Tf fs b) (hb : b < 100000) {x1 x2 x5 x6 x7 z8 : Sl} (ho : isOwn z8 = false) {many : Int} (hm : 0 < many) (hm2 : many < 100) {wide : Nat} (hw : wide ≤ 100) :
    ∃ (vs : List Int) (fs' : List D), evE C (.lc (.call 68 (.cons (.v 0) (.cons (.v 3) .nil))) [8] false (.range (.cons (.v 4) .nil)) .tt) [.ol fs, x1, x2, .sh (.int many), .sh (.int wide), x5, x6, x7, z8] = .ok (.ol (vs.map .int), [.ol fs', x1, x2, .sh (.int many), .sh (.int wide), x5, x6, x7, z8]) ∧ vs.length = wide ∧ (∀ o ∈ vs, 0 ≤ o ∧ o < many) ∧ Tf fs' (b + wide) := by
  obtain ⟨ρe, vs, e, fs', z, rfl, hz, T', js, rfl, hl, hv⟩ := lc_evA (C := C) (elt := .call 68 (.cons (.v 0) (.cons (.v 3) .nil))) (tg := [8]) (tup := false) (it := .range (.cons (.v 4) .nil)) (cond := .tt) (ρ := [.ol fs, x1, x2, .sh (.int many), .sh (.int wide), x5, x6, x7, z8]) (ρ1 := [.ol fs, x1, x2, .sh (.int many), .sh (.int wide), x5, x6, x7, z8]) (ds := rangeL 0 wide) (lk := [])
    (fun k ρ acc => ∃ fs z, ρ = [.ol fs, x1, x2, .sh (.int many), .sh (.int wide), x5, x6, x7, z] ∧ isOwn z = false ∧ Tf fs (b + k) ∧ ∃ js : List Int, acc = js.map .int ∧ js.length = k ∧ ∀ o ∈ js, 0 ≤ o ∧ o < many)
    (range_ev (by simp [allB_map, all_id, allB, ev_k, ev_v, ev_g, ev_fr, ev_tup, ev_lst, ev_dct, ev_bin, ev_neg, ev_not, ev_and, ev_or, ev_cmp, ev_chain, ev_ite, ev_idx, ev_slc, ev_call, ev_bi, ev_bm, ev_mu, ev_isi, ev_rpr, ev_lset, ev_dcn, ev_dc1, ev_dget, ev_dsd, ev_pr2, ev_rev, asgTS, biD, isDn, isOd, hasD, dgetN, dsdS, revF, zip3F, ex_ret_, ex_retN_, ex_asg_, ex_asgT_, ex_setI_, ex_ex_, ex_ifs_, ex_pass_, ex_brk_, ex_cont_, evT, evA, evF, evI, evO, vw, see, res, tru, D.truth, cmpS, cmpV, cmpF, inF, retS, List.replicate, biS, vws, biF, keepSh, asgS, binS, binF, fz, idxS, idxF, intOf, blOf, slcS, slcF, D.noK, isTy, pks, nodup, argS, argsBack, Y_ok, Y_ite, Y_nil, Kc_nx, Kc_rt, Kc_bk, Kc_ct, setIF, isOD, lookS, putS, muF, lock, unlock, rangeF, bindT, setT, LIM, wrOf, isSh, bmS, bmF, bmT, zipF, itemsZ, enumF, ↓reduceIte]) (by omega) (by omega)) (by simp [noOwn, ho]) ⟨_, _, rfl, ho, T.mono (by omega), [], rfl, rfl, fun o ho => (by cases ho)⟩ (by rw [rangeL_len]; simp [LIM]; omega) (by
      rintro k d ρ acc hd ⟨fs, z, rfl, hz, T, js, rfl, hl, hv⟩
      have hk := range_lt hd
      obtain ⟨r, fs', e, r0, r1, T'⟩ := take h.toHFeed wf n T many hm (by omega) (by omega)
      refine ⟨[.ol fs, x1, x2, .sh (.int many), .sh (.int wide), x5, x6, x7, .sh d], _, true, rfl, rfl, .inl ⟨rfl, .sh (.int r), [.ol fs', x1, x2, .sh (.int many), .sh (.int wide), x5, x6, x7, .sh d], _, _, ?_, rfl, fs', _, rfl, rfl, T'.mono (by omega), js ++ [r], by simp, by simp [hl], fun o ho => ?_⟩⟩
      · simp [allB_map, all_id, allB, ev_k, ev_v, ev_g, ev_fr, ev_tup, ev_lst, ev_dct, ev_bin, ev_neg, ev_not, ev_and, ev_or, ev_cmp, ev_chain, ev_ite, ev_idx, ev_slc, ev_call, ev_bi, ev_bm, ev_mu, ev_isi, ev_rpr, ev_lset, ev_dcn, ev_dc1, ev_dget, ev_dsd, ev_pr2, ev_rev, asgTS, biD, isDn, isOd, hasD, dgetN, dsdS, revF, zip3F, ex_ret_, ex_retN_, ex_asg_, ex_asgT_, ex_setI_, ex_ex_, ex_ifs_, ex_pass_, ex_brk_, ex_cont_, evT, evA, evF, evI, evO, vw, see, res, tru, D.truth, cmpS, cmpV, cmpF, inF, retS, List.replicate, biS, vws, biF, keepSh, asgS, binS, binF, fz, idxS, idxF, intOf, blOf, slcS, slcF, D.noK, isTy, pks, nodup, argS, argsBack, Y_ok, Y_ite, Y_nil, Kc_nx, Kc_rt, Kc_bk, Kc_ct, setIF, isOD, lookS, putS, muF, lock, unlock, rangeF, bindT, setT, LIM, wrOf, isSh, bmS, bmF, bmT, zipF, itemsZ, enumF, ↓reduceIte, c1, e]
      · rcases List.mem_append.mp ho with z | z
        · exact hv o z
        · simp at z; subst z; exact ⟨r0, r1⟩)
  rw [rangeL_len] at T' hl
  have ew : ((wide : Int)).toNat = wide := by omega
  rw [ew] at T' hl
  exact ⟨js, fs', by rw [e]; rfl, hl, hv, T'⟩
/-- the menu, as it stands in a slot -/
def Menu (M : Sl) (ms : List D) : Prop := M = .sh (.lst ms) ∨ M = .ol ms
/-- marks drawn in a row -/
theorem mc_marks {P : Pg} (h : HMc P) (wf n : Nat) {C : Ctx} (c1 : C.cl = callM P wf (n + 2)) {fs : List D} {b : Int} (T : Tf fs b) (hb : b < 100000) {x1 x4 x5 x7 x8 z6 M : Sl} (ho : isOwn z6 = false) {many : Nat} (hm : 0 < many) (hm2 : many < 100) {ms : List D} (hM : Menu M ms) (h1 : 0 < ms.length) (h2 : ms.length ≤ 10) :
    ∃ vs fs', evE C (.lc (.idx (.v 2) (.call 68 (.cons (.v 0) (.cons (.bi .len (.cons (.v 2) .nil)) .nil)))) [6] false (.range (.cons (.v 3) .nil)) .tt) [.ol fs, x1, M, .sh (.int many), x4, x5, z6, x7, x8] = .ok (.ol vs, [.ol fs', x1, M, .sh (.int many), x4, x5, z6, x7, x8]) ∧ vs.length = many ∧ (∀ w ∈ vs, w ∈ ms) ∧ Tf fs' (b + many) := by
  obtain ⟨ρe, vs, e, fs', z, rfl, hz, T', hl, hv⟩ := lc_evA (C := C) (elt := .idx (.v 2) (.call 68 (.cons (.v 0) (.cons (.bi .len (.cons (.v 2) .nil)) .nil)))) (tg := [6]) (tup := false) (it := .range (.cons (.v 3) .nil)) (cond := .tt) (ρ := [.ol fs, x1, M, .sh (.int many), x4, x5, z6, x7, x8]) (ρ1 := [.ol fs, x1, M, .sh (.int many), x4, x5, z6, x7, x8]) (ds := rangeL 0 many) (lk := [])
    (fun k ρ acc => ∃ fs z, ρ = [.ol fs, x1, M, .sh (.int many), x4, x5, z, x7, x8] ∧ isOwn z = false ∧ Tf fs (b + k) ∧ acc.length = k ∧ ∀ w ∈ acc, w ∈ ms)
    (range_ev (by simp [allB_map, all_id, allB, ev_k, ev_v, ev_g, ev_fr, ev_tup, ev_lst, ev_dct, ev_bin, ev_neg, ev_not, ev_and, ev_or, ev_cmp, ev_chain, ev_ite, ev_idx, ev_slc, ev_call, ev_bi, ev_bm, ev_mu, ev_isi, ev_rpr, ev_lset, ev_dcn, ev_dc1, ev_dget, ev_dsd, ev_pr2, ev_rev, asgTS, biD, isDn, isOd, hasD, dgetN, dsdS, revF, zip3F, ex_ret_, ex_retN_, ex_asg_, ex_asgT_, ex_setI_, ex_ex_, ex_ifs_, ex_pass_, ex_brk_, ex_cont_, evT, evA, evF, evI, evO, vw, see, res, tru, D.truth, cmpS, cmpV, cmpF, inF, retS, List.replicate, biS, vws, biF, keepSh, asgS, binS, binF, fz, idxS, idxF, intOf, blOf, slcS, slcF, D.noK, isTy, pks, nodup, argS, argsBack, Y_ok, Y_ite, Y_nil, Kc_nx, Kc_rt, Kc_bk, Kc_ct, setIF, isOD, lookS, putS, muF, lock, unlock, rangeF, bindT, setT, LIM, wrOf, isSh, bmS, bmF, bmT, zipF, itemsZ, enumF, ↓reduceIte]) (by omega) (by omega)) (by simp [noOwn, ho]) ⟨_, _, rfl, ho, T.mono (by omega), rfl, fun w hw => (by cases hw)⟩ (by rw [rangeL_len]; simp [LIM]; omega) (by
      rintro k d ρ acc hd ⟨fs, z, rfl, hz, T, hl, hv⟩
      have hk := range_lt hd
      obtain ⟨r, fs', e, r0, r1, T'⟩ := take h.toHFeed wf n T ms.length (by omega) (by omega) (by omega)
      obtain ⟨c, ec, _⟩ := at_of ms r0 r1
      refine ⟨[.ol fs, x1, M, .sh (.int many), x4, x5, .sh d, x7, x8], _, true, rfl, rfl, .inl ⟨rfl, .sh c, [.ol fs', x1, M, .sh (.int many), x4, x5, .sh d, x7, x8], _, _, ?_, rfl, fs', _, rfl, rfl, T'.mono (by omega), by simp [hl], fun w hw => ?_⟩⟩
      · rcases hM with rfl | rfl <;> simp [allB_map, all_id, allB, ev_k, ev_v, ev_g, ev_fr, ev_tup, ev_lst, ev_dct, ev_bin, ev_neg, ev_not, ev_and, ev_or, ev_cmp, ev_chain, ev_ite, ev_idx, ev_slc, ev_call, ev_bi, ev_bm, ev_mu, ev_isi, ev_rpr, ev_lset, ev_dcn, ev_dc1, ev_dget, ev_dsd, ev_pr2, ev_rev, asgTS, biD, isDn, isOd, hasD, dgetN, dsdS, revF, zip3F, ex_ret_, ex_retN_, ex_asg_, ex_asgT_, ex_setI_, ex_ex_, ex_ifs_, ex_pass_, ex_brk_, ex_cont_, evT, evA, evF, evI, evO, vw, see, res, tru, D.truth, cmpS, cmpV, cmpF, inF, retS, List.replicate, biS, vws, biF, keepSh, asgS, binS, binF, fz, idxS, idxF, intOf, blOf, slcS, slcF, D.noK, isTy, pks, nodup, argS, argsBack, Y_ok, Y_ite, Y_nil, Kc_nx, Kc_rt, Kc_bk, Kc_ct, setIF, isOD, lookS, putS, muF, lock, unlock, rangeF, bindT, setT, LIM, wrOf, isSh, bmS, bmF, bmT, zipF, itemsZ, enumF, ↓reduceIte, c1, e, ec]
      · rcases List.mem_append.mp hw with z | z
        · exact hv w z
        · simp at z; subst z; exact at_mem ec)
  rw [rangeL_len] at T' hl
  have ew : ((many : Int)).toNat = many := by omega
  rw [ew] at T' hl
  exact ⟨vs, fs', by rw [e]; rfl, hl, hv, T'⟩
theorem rep_mem {d : D} : ∀ k : Nat, (∀ w ∈ rep k [d], w = d) ∧ (rep k [d]).length = k
  | 0 => ⟨fun w hw => (by cases hw), rfl⟩
  | k + 1 => by
    obtain ⟨h1, h2⟩ := rep_mem (d := d) k
    have e : rep (k + 1) [d] = d :: rep k [d] := by simp [rep, List.replicate_succ]
    rw [e]
    refine ⟨fun w hw => ?_, by simp [h2]⟩
    rcases List.mem_cons.mp hw with z | z
    · exact z
    · exact h1 w z
theorem mul_rep {d : D} {k : Nat} (hk : k < 1000) : binF .mul (.lst [d]) (.int k) = some (.ol (rep k [d])) := by
  have e : binF .mul (.lst [d]) (.int k) = if -(2 ^ 63) ≤ (k : Int) ∧ (k : Int) < 2 ^ 63 ∧ [d].length * (k : Int).toNat ≤ LIM then some (.ol (rep (k : Int).toNat [d])) else none := rfl
  rw [e, if_pos ⟨by omega, by omega, by simp [LIM]; omega⟩, Int.toNat_natCast]
theorem mulS_rep {ρ : Env} {d : D} {k : Nat} (hk : k < 1000) : binS .mul ρ (.ol [d]) (.sh (.int k)) = some (.ol (rep k [d])) := by
  simp only [binS, vw, see, res]
  exact mul_rep hk
def McQ (b : Int) (x1 x2 : Sl) (wide : Nat) (ms : List D) : Fl × Env → Prop := fun r => ∃ ns ws fs ρ, r = (.rt (.sh (mcD ns ws)), .ol fs :: x1 :: x2 :: ρ) ∧ McOk wide ms ns ws ∧ Tf fs b
theorem mc_tail {P : Pg} (h : HMc P) (wf n : Nat) {C : Ctx} (c1 : C.cl = callM P wf (n + 2)) {f fs0 : List D} {rows : List (List Int)} {x1 : D} {M : Sl} {b : Int} (hb : b < 1000) {ms : List D} (hM : Menu M ms) (c3 : C.wr = wrOf [.ol fs0, .sh x1, M]) (h1 : 0 < ms.length) (h2 : ms.length ≤ 10) {many wide : Nat} (m1 : 1 ≤ many) (m7 : many ≤ 7) {z6 : Sl} (hz : isOwn z6 = false)
    (T2 : Tf f (b + 1 + 5 * many)) (hl : rows.length = many) (hr : ∀ r ∈ rows, r.length = wide ∧ ∀ o ∈ r, 0 ≤ o ∧ o < many) :
    Y (exSs C L71_4 [.ol f, .sh x1, M, .sh (.int many), .sh (.int wide), .ol (rows.map rowD), z6, .un, .un]) (McQ (b + 60) (.sh x1) M wide ms) := by
  obtain ⟨vs, f4, e4, l4, b4, T4⟩ := mc_marks h wf n c1 (x1 := .sh x1) (x4 := .sh (.int wide)) (x5 := .ol (rows.map rowD)) (x7 := .un) (x8 := .un) T2 (by omega) hz (many := many) (by omega) (by omega) hM h1 h2
  obtain ⟨r5, f5, e5, q0, q1, T5⟩ := take h.toHFeed wf n T4 3 (by decide) (by decide) (by omega)
  have rr : ∀ r ∈ rows, r.length = wide ∧ ∀ o ∈ r, 0 ≤ o ∧ o < (rows.length : Int) := by rw [hl]; exact hr
  have w7 : C.wr 7 = true := by rw [c3]; rfl
  by_cases h0 : r5 = 0
  · obtain ⟨m0, mr, rfl⟩ : ∃ m0 mr, ms = m0 :: mr := by
      cases ms with
      | nil => simp at h1
      | cons a b => exact ⟨a, b, rfl⟩
    obtain ⟨p1, p2⟩ := rep_mem (d := m0) many
    rw [t71_4]
    simp [S71_4, allB_map, all_id, allB, ev_k, ev_v, ev_g, ev_fr, ev_tup, ev_lst, ev_dct, ev_bin, ev_neg, ev_not, ev_and, ev_or, ev_cmp, ev_chain, ev_ite, ev_idx, ev_slc, ev_call, ev_bi, ev_bm, ev_mu, ev_isi, ev_rpr, ev_lset, ev_dcn, ev_dc1, ev_dget, ev_dsd, ev_pr2, ev_rev, asgTS, biD, isDn, isOd, hasD, dgetN, dsdS, revF, zip3F, ex_ret_, ex_retN_, ex_asg_, ex_asgT_, ex_setI_, ex_ex_, ex_ifs_, ex_pass_, ex_brk_, ex_cont_, evT, evA, evF, evI, evO, vw, see, res, tru, D.truth, cmpS, cmpV, cmpF, inF, retS, List.replicate, biS, vws, biF, keepSh, asgS, binS, binF, fz, idxS, idxF, intOf, blOf, slcS, slcF, D.noK, isTy, pks, nodup, argS, argsBack, Y_ok, Y_ite, Y_nil, Kc_nx, Kc_rt, Kc_bk, Kc_ct, setIF, isOD, lookS, putS, muF, lock, unlock, rangeF, bindT, setT, LIM, wrOf, isSh, bmS, bmF, bmT, zipF, itemsZ, enumF, ↓reduceIte, c1, w7, e4]
    rw [t71_5]
    simp [S71_5, allB_map, all_id, allB, ev_k, ev_v, ev_g, ev_fr, ev_tup, ev_lst, ev_dct, ev_bin, ev_neg, ev_not, ev_and, ev_or, ev_cmp, ev_chain, ev_ite, ev_idx, ev_slc, ev_call, ev_bi, ev_bm, ev_mu, ev_isi, ev_rpr, ev_lset, ev_dcn, ev_dc1, ev_dget, ev_dsd, ev_pr2, ev_rev, asgTS, biD, isDn, isOd, hasD, dgetN, dsdS, revF, zip3F, ex_ret_, ex_retN_, ex_asg_, ex_asgT_, ex_setI_, ex_ex_, ex_ifs_, ex_pass_, ex_brk_, ex_cont_, evT, evA, evF, evI, evO, vw, see, res, tru, D.truth, cmpS, cmpV, cmpF, inF, retS, List.replicate, biS, vws, biF, keepSh, asgS, binS, binF, fz, idxS, idxF, intOf, blOf, slcS, slcF, D.noK, isTy, pks, nodup, argS, argsBack, Y_ok, Y_ite, Y_nil, Kc_nx, Kc_rt, Kc_bk, Kc_ct, setIF, isOD, lookS, putS, muF, lock, unlock, rangeF, bindT, setT, LIM, wrOf, isSh, bmS, bmF, bmT, zipF, itemsZ, enumF, ↓reduceIte, c1, e5, h0, D.dep, D.eqv]
    rw [t71_5a0]
    have st : exS C S71_5a0 [.ol f5, .sh x1, M, .sh (.int many), .sh (.int wide), .ol (rows.map rowD), z6, .ol vs, .un] = .ok (.nx, [.ol f5, .sh x1, M, .sh (.int many), .sh (.int wide), .ol (rows.map rowD), z6, .ol (rep many [m0]), .un]) := by
      have ev : evE C (.bin .mul (.lst (.cons (.idx (.v 2) (.k (.int (0)))) .nil)) (.v 3)) [.ol f5, .sh x1, M, .sh (.int many), .sh (.int wide), .ol (rows.map rowD), z6, .ol vs, .un] = .ok (.ol (rep many [m0]), [.ol f5, .sh x1, M, .sh (.int many), .sh (.int wide), .ol (rows.map rowD), z6, .ol vs, .un]) := by
        have e1 : evE C (.lst (.cons (.idx (.v 2) (.k (.int (0)))) .nil)) [.ol f5, .sh x1, M, .sh (.int many), .sh (.int wide), .ol (rows.map rowD), z6, .ol vs, .un] = .ok (.ol [m0], [.ol f5, .sh x1, M, .sh (.int many), .sh (.int wide), .ol (rows.map rowD), z6, .ol vs, .un]) := by
          rcases hM with rfl | rfl <;> simp [allB_map, all_id, allB, ev_k, ev_v, ev_g, ev_fr, ev_tup, ev_lst, ev_dct, ev_bin, ev_neg, ev_not, ev_and, ev_or, ev_cmp, ev_chain, ev_ite, ev_idx, ev_slc, ev_call, ev_bi, ev_bm, ev_mu, ev_isi, ev_rpr, ev_lset, ev_dcn, ev_dc1, ev_dget, ev_dsd, ev_pr2, ev_rev, asgTS, biD, isDn, isOd, hasD, dgetN, dsdS, revF, zip3F, ex_ret_, ex_retN_, ex_asg_, ex_asgT_, ex_setI_, ex_ex_, ex_ifs_, ex_pass_, ex_brk_, ex_cont_, evT, evA, evF, evI, evO, vw, see, res, tru, D.truth, cmpS, cmpV, cmpF, inF, retS, List.replicate, biS, vws, biF, keepSh, asgS, binS, binF, fz, idxS, idxF, intOf, blOf, slcS, slcF, D.noK, isTy, pks, nodup, argS, argsBack, Y_ok, Y_ite, Y_nil, Kc_nx, Kc_rt, Kc_bk, Kc_ct, setIF, isOD, lookS, putS, muF, lock, unlock, rangeF, bindT, setT, LIM, wrOf, isSh, bmS, bmF, bmT, zipF, itemsZ, enumF, ↓reduceIte, evF]
        exact ev_binv e1 (by simp [ev_v]) (mulS_rep (by omega))
      rw [S71_5a0, ex_asg_, ev]
      simp [asgS, w7]
    rw [st, Y_ok, Kc_nx, Y_nil, Kc_nx, t71_6]
    simp [S71_6, allB_map, all_id, allB, ev_k, ev_v, ev_g, ev_fr, ev_tup, ev_lst, ev_dct, ev_bin, ev_neg, ev_not, ev_and, ev_or, ev_cmp, ev_chain, ev_ite, ev_idx, ev_slc, ev_call, ev_bi, ev_bm, ev_mu, ev_isi, ev_rpr, ev_lset, ev_dcn, ev_dc1, ev_dget, ev_dsd, ev_pr2, ev_rev, asgTS, biD, isDn, isOd, hasD, dgetN, dsdS, revF, zip3F, ex_ret_, ex_retN_, ex_asg_, ex_asgT_, ex_setI_, ex_ex_, ex_ifs_, ex_pass_, ex_brk_, ex_cont_, evT, evA, evF, evI, evO, vw, see, res, tru, D.truth, cmpS, cmpV, cmpF, inF, retS, List.replicate, biS, vws, biF, keepSh, asgS, binS, binF, fz, idxS, idxF, intOf, blOf, slcS, slcF, D.noK, isTy, pks, nodup, argS, argsBack, Y_ok, Y_ite, Y_nil, Kc_nx, Kc_rt, Kc_bk, Kc_ct, setIF, isOD, lookS, putS, muF, lock, unlock, rangeF, bindT, setT, LIM, wrOf, isSh, bmS, bmF, bmT, zipF, itemsZ, enumF, ↓reduceIte, evF]
    exact ⟨rows, rep many [m0], f5, _, rfl, ⟨by omega, by omega, by omega, rr, fun w hw => by rw [p1 w hw]; exact List.mem_cons_self⟩, T5.mono (by omega)⟩
  · rw [t71_4]
    simp [S71_4, allB_map, all_id, allB, ev_k, ev_v, ev_g, ev_fr, ev_tup, ev_lst, ev_dct, ev_bin, ev_neg, ev_not, ev_and, ev_or, ev_cmp, ev_chain, ev_ite, ev_idx, ev_slc, ev_call, ev_bi, ev_bm, ev_mu, ev_isi, ev_rpr, ev_lset, ev_dcn, ev_dc1, ev_dget, ev_dsd, ev_pr2, ev_rev, asgTS, biD, isDn, isOd, hasD, dgetN, dsdS, revF, zip3F, ex_ret_, ex_retN_, ex_asg_, ex_asgT_, ex_setI_, ex_ex_, ex_ifs_, ex_pass_, ex_brk_, ex_cont_, evT, evA, evF, evI, evO, vw, see, res, tru, D.truth, cmpS, cmpV, cmpF, inF, retS, List.replicate, biS, vws, biF, keepSh, asgS, binS, binF, fz, idxS, idxF, intOf, blOf, slcS, slcF, D.noK, isTy, pks, nodup, argS, argsBack, Y_ok, Y_ite, Y_nil, Kc_nx, Kc_rt, Kc_bk, Kc_ct, setIF, isOD, lookS, putS, muF, lock, unlock, rangeF, bindT, setT, LIM, wrOf, isSh, bmS, bmF, bmT, zipF, itemsZ, enumF, ↓reduceIte, c1, w7, e4]
    rw [t71_5]
    simp [S71_5, allB_map, all_id, allB, ev_k, ev_v, ev_g, ev_fr, ev_tup, ev_lst, ev_dct, ev_bin, ev_neg, ev_not, ev_and, ev_or, ev_cmp, ev_chain, ev_ite, ev_idx, ev_slc, ev_call, ev_bi, ev_bm, ev_mu, ev_isi, ev_rpr, ev_lset, ev_dcn, ev_dc1, ev_dget, ev_dsd, ev_pr2, ev_rev, asgTS, biD, isDn, isOd, hasD, dgetN, dsdS, revF, zip3F, ex_ret_, ex_retN_, ex_asg_, ex_asgT_, ex_setI_, ex_ex_, ex_ifs_, ex_pass_, ex_brk_, ex_cont_, evT, evA, evF, evI, evO, vw, see, res, tru, D.truth, cmpS, cmpV, cmpF, inF, retS, List.replicate, biS, vws, biF, keepSh, asgS, binS, binF, fz, idxS, idxF, intOf, blOf, slcS, slcF, D.noK, isTy, pks, nodup, argS, argsBack, Y_ok, Y_ite, Y_nil, Kc_nx, Kc_rt, Kc_bk, Kc_ct, setIF, isOD, lookS, putS, muF, lock, unlock, rangeF, bindT, setT, LIM, wrOf, isSh, bmS, bmF, bmT, zipF, itemsZ, enumF, ↓reduceIte, c1, e5, h0, D.dep, D.eqv]
    rw [t71_6]
    simp [S71_6, allB_map, all_id, allB, ev_k, ev_v, ev_g, ev_fr, ev_tup, ev_lst, ev_dct, ev_bin, ev_neg, ev_not, ev_and, ev_or, ev_cmp, ev_chain, ev_ite, ev_idx, ev_slc, ev_call, ev_bi, ev_bm, ev_mu, ev_isi, ev_rpr, ev_lset, ev_dcn, ev_dc1, ev_dget, ev_dsd, ev_pr2, ev_rev, asgTS, biD, isDn, isOd, hasD, dgetN, dsdS, revF, zip3F, ex_ret_, ex_retN_, ex_asg_, ex_asgT_, ex_setI_, ex_ex_, ex_ifs_, ex_pass_, ex_brk_, ex_cont_, evT, evA, evF, evI, evO, vw, see, res, tru, D.truth, cmpS, cmpV, cmpF, inF, retS, List.replicate, biS, vws, biF, keepSh, asgS, binS, binF, fz, idxS, idxF, intOf, blOf, slcS, slcF, D.noK, isTy, pks, nodup, argS, argsBack, Y_ok, Y_ite, Y_nil, Kc_nx, Kc_rt, Kc_bk, Kc_ct, setIF, isOD, lookS, putS, muF, lock, unlock, rangeF, bindT, setT, LIM, wrOf, isSh, bmS, bmF, bmT, zipF, itemsZ, enumF, ↓reduceIte, evF]
    exact ⟨rows, vs, f5, _, rfl, ⟨by omega, by omega, by omega, rr, b4⟩, T5.mono (by omega)⟩
theorem machine {P : Pg} (h : HMc P) (wf n : Nat) {fs : List D} {b : Int} (T : Tf fs b) (hb : b < 1000) {t : Tab} (ht : TabOk t) {M : Sl} {ms : List D} (hM : Menu M ms) (h1 : 0 < ms.length) (h2 : ms.length ≤ 10) :
    ∃ ns ws fs', callM P wf (n + 3) 71 [.ol fs, .sh (tabD t), M] = .ok (.sh (mcD ns ws), [.ol fs', .sh (tabD t), M]) ∧ McOk (hapsD t).length ms ns ws ∧ Tf fs' (b + 60) := by
  have : Y (callM P wf (n + 3) 71 [.ol fs, .sh (tabD t), M]) fun r => ∃ ns ws fs', r = (.sh (mcD ns ws), [.ol fs', .sh (tabD t), M]) ∧ McOk (hapsD t).length ms ns ws ∧ Tf fs' (b + 60) := by
    refine call_by (McQ (b + 60) (.sh (tabD t)) M (hapsD t).length ms) h.machine rfl (by rcases hM with rfl | rfl <;> rfl) (by decide) (fun C c1 c2 c3 c4 c5 => ?_) (by
      rintro _ ⟨ns, ws, fs, ρ, rfl, q1, q2⟩
      exact ⟨_, _, rfl, rfl, ns, ws, fs, by rcases hM with rfl | rfl <;> simp [keepSh], q1, q2⟩)
    show Y (exSs C L71_0 [.ol fs, .sh (tabD t), M, .un, .un, .un, .un, .un, .un]) _
    obtain ⟨r, f1, e1, r0, r1, T1⟩ := take h.toHFeed wf n T 7 (by decide) (by decide) (by omega)
    have e2 := haps_at h.law_haps wf (n + 1) t ht.small
    have hwide : (hapsD t).length ≤ 5 := by unfold hapsD; rw [List.length_map]; exact ht.sum
    generalize hW : (hapsD t).length = wide at *
    obtain ⟨many, em⟩ : ∃ k : Nat, 1 + r = k := ⟨(1 + r).toNat, by omega⟩
    have w3 : C.wr 3 = true := by rw [c3]; rfl
    have w4 : C.wr 4 = true := by rw [c3]; rfl
    have w5 : C.wr 5 = true := by rw [c3]; rfl
    have w6 : C.wr 6 = true := by rw [c3]; rfl
    rw [t71_0]
    simp [S71_0, allB_map, all_id, allB, ev_k, ev_v, ev_g, ev_fr, ev_tup, ev_lst, ev_dct, ev_bin, ev_neg, ev_not, ev_and, ev_or, ev_cmp, ev_chain, ev_ite, ev_idx, ev_slc, ev_call, ev_bi, ev_bm, ev_mu, ev_isi, ev_rpr, ev_lset, ev_dcn, ev_dc1, ev_dget, ev_dsd, ev_pr2, ev_rev, asgTS, biD, isDn, isOd, hasD, dgetN, dsdS, revF, zip3F, ex_ret_, ex_retN_, ex_asg_, ex_asgT_, ex_setI_, ex_ex_, ex_ifs_, ex_pass_, ex_brk_, ex_cont_, evT, evA, evF, evI, evO, vw, see, res, tru, D.truth, cmpS, cmpV, cmpF, inF, retS, List.replicate, biS, vws, biF, keepSh, asgS, binS, binF, fz, idxS, idxF, intOf, blOf, slcS, slcF, D.noK, isTy, pks, nodup, argS, argsBack, Y_ok, Y_ite, Y_nil, Kc_nx, Kc_rt, Kc_bk, Kc_ct, setIF, isOD, lookS, putS, muF, lock, unlock, rangeF, bindT, setT, LIM, wrOf, isSh, bmS, bmF, bmT, zipF, itemsZ, enumF, ↓reduceIte, c1, w3, e1, em]
    rw [t71_1]
    simp [S71_1, allB_map, all_id, allB, ev_k, ev_v, ev_g, ev_fr, ev_tup, ev_lst, ev_dct, ev_bin, ev_neg, ev_not, ev_and, ev_or, ev_cmp, ev_chain, ev_ite, ev_idx, ev_slc, ev_call, ev_bi, ev_bm, ev_mu, ev_isi, ev_rpr, ev_lset, ev_dcn, ev_dc1, ev_dget, ev_dsd, ev_pr2, ev_rev, asgTS, biD, isDn, isOd, hasD, dgetN, dsdS, revF, zip3F, ex_ret_, ex_retN_, ex_asg_, ex_asgT_, ex_setI_, ex_ex_, ex_ifs_, ex_pass_, ex_brk_, ex_cont_, evT, evA, evF, evI, evO, vw, see, res, tru, D.truth, cmpS, cmpV, cmpF, inF, retS, List.replicate, biS, vws, biF, keepSh, asgS, binS, binF, fz, idxS, idxF, intOf, blOf, slcS, slcF, D.noK, isTy, pks, nodup, argS, argsBack, Y_ok, Y_ite, Y_nil, Kc_nx, Kc_rt, Kc_bk, Kc_ct, setIF, isOD, lookS, putS, muF, lock, unlock, rangeF, bindT, setT, LIM, wrOf, isSh, bmS, bmF, bmT, zipF, itemsZ, enumF, ↓reduceIte, c1, w4, e2, hW]
    rw [t71_2]
    simp [S71_2, allB_map, all_id, allB, ev_k, ev_v, ev_g, ev_fr, ev_tup, ev_lst, ev_dct, ev_bin, ev_neg, ev_not, ev_and, ev_or, ev_cmp, ev_chain, ev_ite, ev_idx, ev_slc, ev_call, ev_bi, ev_bm, ev_mu, ev_isi, ev_rpr, ev_lset, ev_dcn, ev_dc1, ev_dget, ev_dsd, ev_pr2, ev_rev, asgTS, biD, isDn, isOd, hasD, dgetN, dsdS, revF, zip3F, ex_ret_, ex_retN_, ex_asg_, ex_asgT_, ex_setI_, ex_ex_, ex_ifs_, ex_pass_, ex_brk_, ex_cont_, evT, evA, evF, evI, evO, vw, see, res, tru, D.truth, cmpS, cmpV, cmpF, inF, retS, List.replicate, biS, vws, biF, keepSh, asgS, binS, binF, fz, idxS, idxF, intOf, blOf, slcS, slcF, D.noK, isTy, pks, nodup, argS, argsBack, Y_ok, Y_ite, Y_nil, Kc_nx, Kc_rt, Kc_bk, Kc_ct, setIF, isOD, lookS, putS, muF, lock, unlock, rangeF, bindT, setT, LIM, wrOf, isSh, bmS, bmF, bmT, zipF, itemsZ, enumF, ↓reduceIte, w5, evF]
    rw [t71_3]
    refine for_Y (lk := []) (ds := rangeL 0 many) (ρ1 := [.ol f1, .sh (tabD t), M, .sh (.int many), .sh (.int wide), .ol [], .un, .un, .un]) (fun k ρ => ∃ (f : List D) (rows : List (List Int)) (z6 : Sl), ρ = [.ol f, .sh (tabD t), M, .sh (.int many), .sh (.int wide), .ol (rows.map rowD), z6, .un, .un] ∧ isOwn z6 = false ∧ Tf f (b + 1 + 5 * k) ∧ rows.length = k ∧ ∀ r ∈ rows, r.length = wide ∧ ∀ o ∈ r, 0 ≤ o ∧ o < (many : Int)) ?_ ?_ ⟨f1, [], .un, rfl, rfl, T1.mono (by omega), rfl, fun q hq => (by cases hq)⟩ ?_ ?_
    · exact range_ev (by simp [allB_map, all_id, allB, ev_k, ev_v, ev_g, ev_fr, ev_tup, ev_lst, ev_dct, ev_bin, ev_neg, ev_not, ev_and, ev_or, ev_cmp, ev_chain, ev_ite, ev_idx, ev_slc, ev_call, ev_bi, ev_bm, ev_mu, ev_isi, ev_rpr, ev_lset, ev_dcn, ev_dc1, ev_dget, ev_dsd, ev_pr2, ev_rev, asgTS, biD, isDn, isOd, hasD, dgetN, dsdS, revF, zip3F, ex_ret_, ex_retN_, ex_asg_, ex_asgT_, ex_setI_, ex_ex_, ex_ifs_, ex_pass_, ex_brk_, ex_cont_, evT, evA, evF, evI, evO, vw, see, res, tru, D.truth, cmpS, cmpV, cmpF, inF, retS, List.replicate, biS, vws, biF, keepSh, asgS, binS, binF, fz, idxS, idxF, intOf, blOf, slcS, slcF, D.noK, isTy, pks, nodup, argS, argsBack, Y_ok, Y_ite, Y_nil, Kc_nx, Kc_rt, Kc_bk, Kc_ct, setIF, isOD, lookS, putS, muF, lock, unlock, rangeF, bindT, setT, LIM, wrOf, isSh, bmS, bmF, bmT, zipF, itemsZ, enumF, ↓reduceIte]) (by omega) (by omega)
    · simp [w6]
    · rintro k d ρ hd ⟨f, rows, z6, rfl, hz, T2, hl, hb1⟩
      have hk := range_lt hd
      refine ⟨[.ol f, .sh (tabD t), M, .sh (.int many), .sh (.int wide), .ol (rows.map rowD), .sh d, .un, .un], rfl, ?_⟩
      obtain ⟨vs, f3, e3, l3, b3, T3⟩ := mc_row h wf n c1 (x1 := .sh (tabD t)) (x2 := M) (x5 := .ol (rows.map rowD)) (x6 := .sh d) (x7 := .un) (z8 := .un) T2 (by omega) rfl (many := many) (by omega) (by omega) (wide := wide) (by omega)
      have hr : rows.length < 16777216 := by omega
      generalize hI : (fun (k : Nat) (ρ : Env) => ∃ (f : List D) (rows : List (List Int)) (z6 : Sl), ρ = [.ol f, .sh (tabD t), M, .sh (.int many), .sh (.int wide), .ol (rows.map rowD), z6, .un, .un] ∧ isOwn z6 = false ∧ Tf f (b + 1 + 5 * k) ∧ rows.length = k ∧ ∀ r ∈ rows, r.length = wide ∧ ∀ o ∈ r, 0 ≤ o ∧ o < (many : Int)) = I
      rw [t71_3b0]
      simp [S71_3b0, allB_map, all_id, allB, ev_k, ev_v, ev_g, ev_fr, ev_tup, ev_lst, ev_dct, ev_bin, ev_neg, ev_not, ev_and, ev_or, ev_cmp, ev_chain, ev_ite, ev_idx, ev_slc, ev_call, ev_bi, ev_bm, ev_mu, ev_isi, ev_rpr, ev_lset, ev_dcn, ev_dc1, ev_dget, ev_dsd, ev_pr2, ev_rev, asgTS, biD, isDn, isOd, hasD, dgetN, dsdS, revF, zip3F, ex_ret_, ex_retN_, ex_asg_, ex_asgT_, ex_setI_, ex_ex_, ex_ifs_, ex_pass_, ex_brk_, ex_cont_, evT, evA, evF, evI, evO, vw, see, res, tru, D.truth, cmpS, cmpV, cmpF, inF, retS, List.replicate, biS, vws, biF, keepSh, asgS, binS, binF, fz, idxS, idxF, intOf, blOf, slcS, slcF, D.noK, isTy, pks, nodup, argS, argsBack, Y_ok, Y_ite, Y_nil, Kc_nx, Kc_rt, Kc_bk, Kc_ct, setIF, isOD, lookS, putS, muF, lock, unlock, rangeF, bindT, setT, LIM, wrOf, isSh, bmS, bmF, bmT, zipF, itemsZ, enumF, ↓reduceIte, e3, evF, hr]
      subst hI
      refine ⟨.inl rfl, f3, rows ++ [vs], .sh d, ?_, rfl, T3.mono (by omega), by simp [hl], fun q hq => ?_⟩
      · rw [List.map_append]; rfl
      rcases List.mem_append.mp hq with z | z
      · exact hb1 q z
      · simp at z
        subst z
        exact ⟨l3, b3⟩
    · rintro _ ⟨f, rows, z6, rfl, hz, T2, hl, hb1⟩
      have el : (rangeL 0 (many : Int)).length = many := by rw [rangeL_len]; omega
      rw [el] at T2 hl
      exact mc_tail h wf n c1 hb hM c3 h1 h2 (by omega) (by omega) hz T2 hl hb1
  obtain ⟨_, e, ns, ws, fs', rfl, q1, q2⟩ := this
  exact ⟨ns, ws, fs', e, q1, q2⟩
end Mp
namespace Mp
/-! ### rows found by going through spots in a line (plain) -/
abbrev Fr := List (Option (List D))
def fD : Option (List D) → D
  | none => .non
  | some r => .tup r
def rowOf (F : Fr) (s : Nat) : List D := (F.getD s none).getD []
def one (s : Nat) (x : Fr × List Nat) (p : D × Nat) : Fr × List Nat := if (x.1.getD p.2 none).isNone then (x.1.set p.2 (some (rowOf x.1 s ++ [p.1])), x.2 ++ [p.2]) else x
def many (s : Nat) (ps : List (D × Nat)) (x : Fr × List Nat) : Fr × List Nat := ps.foldl (one s) x
def nones (F : Fr) : Nat := F.countP (·.isNone)
theorem one_app (s : Nat) (F : Fr) (A B : List Nat) (p : D × Nat) : one s (F, A ++ B) p = ((one s (F, B) p).1, A ++ (one s (F, B) p).2) := by
  unfold one
  split <;> simp
theorem many_app (s : Nat) : ∀ (ps : List (D × Nat)) (F : Fr) (A B : List Nat), many s ps (F, A ++ B) = ((many s ps (F, B)).1, A ++ (many s ps (F, B)).2)
  | [], F, A, B => rfl
  | p :: ps, F, A, B => by
    show many s ps (one s (F, A ++ B) p) = ((many s ps (one s (F, B) p)).1, A ++ (many s ps (one s (F, B) p)).2)
    rw [one_app, many_app s ps]
theorem nones_set {F : Fr} {i : Nat} {r : List D} (h : i < F.length) (hn : (F.getD i none).isNone = true) : nones (F.set i (some r)) + 1 = nones F := by
  unfold nones
  induction F generalizing i with
  | nil => simp at h
  | cons a F ih =>
    cases i with
    | zero =>
      have : a.isNone = true := hn
      rw [List.set_cons_zero, List.countP_cons, List.countP_cons, this]
      simp
    | succ i =>
      have := ih (i := i) (by simpa using h) hn
      rw [List.set_cons_succ, List.countP_cons, List.countP_cons]
      omega
theorem getD_set_self {F : Fr} {i : Nat} {a : Option (List D)} (h : i < F.length) : (F.set i a).getD i none = a := by
  rw [List.getD_eq_getElem?_getD, List.getElem?_set_self h]
  rfl
theorem getD_set_ne {F : Fr} {i j : Nat} {a : Option (List D)} (h : i ≠ j) : (F.set i a).getD j none = F.getD j none := by
  rw [List.getD_eq_getElem?_getD, List.getElem?_set_ne h, ← List.getD_eq_getElem?_getD]
/-- what stands while spots are gone through -/
structure BOk (hs : List D) (N : Nat) (F : Fr) : Prop where
  len : F.length = N
  row : ∀ (i : Nat) (r : List D), F.getD i none = some r → r.length + nones F < N ∧ ∀ d ∈ r, d ∈ hs
/-- spots that were come to -/
def Seen (F : Fr) (q : List Nat) : Prop := ∀ s ∈ q, s < F.length ∧ (F.getD s none).isSome = true
theorem one_ok {hs : List D} {N s : Nat} {F : Fr} {q : List Nat} {p : D × Nat} (h : BOk hs N F) (hp : p.2 < N) (hd : p.1 ∈ hs) (hs' : (F.getD s none).isSome = true) :
    BOk hs N (one s (F, q) p).1 ∧ (one s (F, q) p).2.length + nones (one s (F, q) p).1 = q.length + nones F ∧ (∀ i, (F.getD i none).isSome = true → ((one s (F, q) p).1.getD i none).isSome = true) ∧ (Seen F q → Seen (one s (F, q) p).1 (one s (F, q) p).2) := by
  unfold one
  dsimp only
  by_cases hn : (F.getD p.2 none).isNone = true
  · rw [if_pos hn]
    dsimp only
    have hl : p.2 < F.length := by rw [h.len]; exact hp
    have hc := nones_set (r := rowOf F s ++ [p.1]) hl hn
    obtain ⟨r, er⟩ : ∃ r, F.getD s none = some r := Option.isSome_iff_exists.mp hs'
    obtain ⟨b1, b2⟩ := h.row s r er
    have eo : rowOf F s = r := by unfold rowOf; rw [er]; rfl
    have keep : ∀ i, (F.getD i none).isSome = true → ((F.set p.2 (some (rowOf F s ++ [p.1]))).getD i none).isSome = true := fun i hi => by
      by_cases e : p.2 = i
      · subst e
        rw [getD_set_self hl]
        rfl
      · rw [getD_set_ne e]
        exact hi
    refine ⟨⟨by rw [List.length_set]; exact h.len, fun i r' hr' => ?_⟩, by rw [List.length_append]; show q.length + 1 + _ = _; omega, keep, fun hq x hx => ?_⟩
    · by_cases e : p.2 = i
      · subst e
        rw [getD_set_self hl] at hr'
        cases hr'
        rw [eo]
        refine ⟨by rw [List.length_append]; rw [eo] at hc; show r.length + 1 + _ < _; omega, fun d hd' => ?_⟩
        rcases List.mem_append.mp hd' with z | z
        · exact b2 d z
        · simp at z; rw [z]; exact hd
      · rw [getD_set_ne e] at hr'
        obtain ⟨c1, c2⟩ := h.row i r' hr'
        exact ⟨by omega, c2⟩
    · rw [List.length_set]
      rcases List.mem_append.mp hx with z | z
      · exact ⟨(hq x z).1, keep x (hq x z).2⟩
      · simp at z
        subst z
        exact ⟨hl, by rw [getD_set_self hl]; rfl⟩
  · rw [if_neg hn]
    exact ⟨h, rfl, fun i hi => hi, fun hq => hq⟩
theorem many_ok {hs : List D} {N s : Nat} : ∀ (ps : List (D × Nat)) {F : Fr} {q : List Nat}, BOk hs N F → (∀ p ∈ ps, p.2 < N ∧ p.1 ∈ hs) → (F.getD s none).isSome = true →
    BOk hs N (many s ps (F, q)).1 ∧ (many s ps (F, q)).2.length + nones (many s ps (F, q)).1 = q.length + nones F ∧ (∀ i, (F.getD i none).isSome = true → ((many s ps (F, q)).1.getD i none).isSome = true) ∧ (Seen F q → Seen (many s ps (F, q)).1 (many s ps (F, q)).2)
  | [], F, q, h, _, _ => ⟨h, rfl, fun i hi => hi, fun hq => hq⟩
  | p :: ps, F, q, h, hp, hs' => by
    obtain ⟨p1, p2⟩ := hp p List.mem_cons_self
    obtain ⟨a1, a2, a3, a4⟩ := one_ok (q := q) h p1 p2 hs'
    obtain ⟨b1, b2, b3, b4⟩ := many_ok ps (F := (one s (F, q) p).1) (q := (one s (F, q) p).2) a1 (fun x hx => hp x (List.mem_cons_of_mem _ hx)) (a3 s hs')
    exact ⟨b1, by rw [← a2]; exact b2, fun i hi => b3 i (a3 i hi), fun hq => b4 (a4 hq)⟩
/-- one spot's happenings and nexts -/
def psOf (hs : List D) (nx : List (List Nat)) (s : Nat) : List (D × Nat) := hs.zip (nx.getD s [])
/-- through the whole line -/
def goes (hs : List D) (nx : List (List Nat)) : Nat → Fr → List Nat → Fr
  | 0, F, _ => F
  | _ + 1, F, [] => F
  | n + 1, F, s :: q => goes hs nx n (many s (psOf hs nx s) (F, [])).1 (q ++ (many s (psOf hs nx s) (F, [])).2)
def Rn (hs : List D) (nx : List (List Nat)) (F : Fr) (q : List Nat) : Fr := goes hs nx (q.length + nones F) F q
structure NxOk (nx : List (List Nat)) (N : Nat) : Prop where
  len : nx.length = N
  row : ∀ r ∈ nx, ∀ o ∈ r, o < N
theorem ps_ok {hs : List D} {nx : List (List Nat)} {N : Nat} (h : NxOk nx N) (s : Nat) : ∀ p ∈ psOf hs nx s, p.2 < N ∧ p.1 ∈ hs := by
  rintro ⟨d, o⟩ hp
  obtain ⟨h1, h2⟩ := List.of_mem_zip hp
  refine ⟨?_, h1⟩
  by_cases hk : s < nx.length
  · rw [List.getD_eq_getElem?_getD, List.getElem?_eq_getElem hk] at h2
    exact h.row _ (List.getElem_mem hk) o h2
  · rw [List.getD_eq_getElem?_getD, List.getElem?_eq_none (by omega)] at h2
    cases h2
theorem Rn_cons {hs : List D} {nx : List (List Nat)} {N : Nat} (hn : NxOk nx N) {F : Fr} {s : Nat} {q : List Nat} (h : BOk hs N F) (hq : Seen F (s :: q)) :
    Rn hs nx F (s :: q) = Rn hs nx (many s (psOf hs nx s) (F, [])).1 (q ++ (many s (psOf hs nx s) (F, [])).2) := by
  obtain ⟨_, a2, _, _⟩ := many_ok (psOf hs nx s) (q := []) h (ps_ok hn s) (hq s List.mem_cons_self).2
  unfold Rn
  have e : (s :: q).length + nones F = (q ++ (many s (psOf hs nx s) (F, [])).2).length + nones (many s (psOf hs nx s) (F, [])).1 + 1 := by
    rw [List.length_append, List.length_cons]
    have a2 : _ = 0 + nones F := a2
    omega
  rw [e]
  rfl
theorem Rn_nil {hs : List D} {nx : List (List Nat)} {F : Fr} : Rn hs nx F [] = F := by
  unfold Rn
  cases ([] : List Nat).length + nones F <;> rfl
theorem Rn_ok {hs : List D} {nx : List (List Nat)} {N : Nat} (hn : NxOk nx N) : ∀ (m : Nat) (F : Fr) (q : List Nat), q.length + nones F = m → BOk hs N F → Seen F q → BOk hs N (Rn hs nx F q)
  | 0, F, q, e, h, hq => by
    have : q = [] := List.length_eq_zero_iff.mp (by omega)
    subst this
    rw [Rn_nil]
    exact h
  | m + 1, F, [], e, h, hq => by rw [Rn_nil]; exact h
  | m + 1, F, s :: q, e, h, hq => by
    obtain ⟨a1, a2, a3, a4⟩ := many_ok (psOf hs nx s) (q := []) h (ps_ok hn s) (hq s List.mem_cons_self).2
    rw [Rn_cons hn h hq]
    refine Rn_ok hn m _ _ ?_ a1 ?_
    · rw [List.length_append]
      rw [List.length_cons] at e
      have a2 : _ = 0 + nones F := a2
      omega
    · intro x hx
      rcases List.mem_append.mp hx with z | z
      · obtain ⟨y1, y2⟩ := hq x (List.mem_cons_of_mem _ z)
        exact ⟨by rw [a1.len, ← h.len]; exact y1, a3 x y2⟩
      · exact a4 (fun y hy => by cases hy) x z
def first0 (N : Nat) : Fr := (List.replicate N none).set 0 (some [])
theorem first0_ok {hs : List D} {N : Nat} (h : 0 < N) : BOk hs N (first0 N) ∧ Seen (first0 N) [0] ∧ nones (first0 N) < N := by
  obtain ⟨n, rfl⟩ : ∃ n, N = n + 1 := ⟨N - 1, by omega⟩
  have e : first0 (n + 1) = some [] :: List.replicate n none := rfl
  have hc : nones (some [] :: List.replicate n (none : Option (List D))) = n := by
    unfold nones
    rw [List.countP_cons, List.countP_replicate]
    rfl
  rw [e]
  refine ⟨⟨by simp, fun i r hr => ?_⟩, fun s hs => ?_, by rw [hc]; omega⟩
  · cases i with
    | zero =>
      cases hr
      rw [hc]
      exact ⟨by show 0 + n < n + 1; omega, fun d hd => by cases hd⟩
    | succ i =>
      rw [List.getD_eq_getElem?_getD, List.getElem?_cons_succ, List.getElem?_replicate] at hr
      split at hr <;> cases hr
  · simp at hs
    subst hs
    exact ⟨by simp, rfl⟩
end Mp
namespace Mp
/-! first_rows(table, nexts): 0=table 1=nexts 2=found 3=line 4=at 5=spot 6=happening 7=other -/
def S86_4b1b0a1 : Sm := (.ex (.mu .append 3 (.cons (.v 7) .nil)))
def L86_4b1b0a1 : Sms := .cons S86_4b1b0a1 .nil
theorem t86_4b1b0a1 (C : Ctx) (ρ : Env) (Q : Fl × Env → Prop) : Y (exSs C L86_4b1b0a1 ρ) Q = Y (exS C S86_4b1b0a1 ρ) (Kc C .nil Q) := Y_st _ _ _ _ _
def S86_4b1b0a0 : Sm := (.setI 2 (.v 7) (.bin .add (.idx (.v 2) (.v 5)) (.tup (.cons (.v 6) .nil))))
def L86_4b1b0a0 : Sms := .cons S86_4b1b0a0 L86_4b1b0a1
theorem t86_4b1b0a0 (C : Ctx) (ρ : Env) (Q : Fl × Env → Prop) : Y (exSs C L86_4b1b0a0 ρ) Q = Y (exS C S86_4b1b0a0 ρ) (Kc C L86_4b1b0a1 Q) := Y_st _ _ _ _ _
def S86_4b1b0 : Sm := (.ifs (.e (.cmp .is_ (.idx (.v 2) (.v 7)) (.k .non))) L86_4b1b0a0 .nil)
def L86_4b1b0 : Sms := .cons S86_4b1b0 .nil
theorem t86_4b1b0 (C : Ctx) (ρ : Env) (Q : Fl × Env → Prop) : Y (exSs C L86_4b1b0 ρ) Q = Y (exS C S86_4b1b0 ρ) (Kc C .nil Q) := Y_st _ _ _ _ _
def S86_4b2 : Sm := (.asg 4 (.bin .add (.v 4) (.k (.int (1)))))
def L86_4b2 : Sms := .cons S86_4b2 .nil
theorem t86_4b2 (C : Ctx) (ρ : Env) (Q : Fl × Env → Prop) : Y (exSs C L86_4b2 ρ) Q = Y (exS C S86_4b2 ρ) (Kc C .nil Q) := Y_st _ _ _ _ _
def S86_4b1 : Sm := (.for_ [6, 7] true (.zip (.cons (.call 24 (.cons (.v 0) .nil)) (.cons (.idx (.v 1) (.v 5)) .nil))) L86_4b1b0)
def L86_4b1 : Sms := .cons S86_4b1 L86_4b2
theorem t86_4b1 (C : Ctx) (ρ : Env) (Q : Fl × Env → Prop) : Y (exSs C L86_4b1 ρ) Q = Y (exS C S86_4b1 ρ) (Kc C L86_4b2 Q) := Y_st _ _ _ _ _
def S86_4b0 : Sm := (.asg 5 (.idx (.v 3) (.v 4)))
def L86_4b0 : Sms := .cons S86_4b0 L86_4b1
theorem t86_4b0 (C : Ctx) (ρ : Env) (Q : Fl × Env → Prop) : Y (exSs C L86_4b0 ρ) Q = Y (exS C S86_4b0 ρ) (Kc C L86_4b1 Q) := Y_st _ _ _ _ _
def S86_5 : Sm := (.ret (.v 2))
def L86_5 : Sms := .cons S86_5 .nil
theorem t86_5 (C : Ctx) (ρ : Env) (Q : Fl × Env → Prop) : Y (exSs C L86_5 ρ) Q = Y (exS C S86_5 ρ) (Kc C .nil Q) := Y_st _ _ _ _ _
def S86_4 : Sm := (.whl (.e (.cmp .lt (.v 4) (.bi .len (.cons (.v 3) .nil)))) L86_4b0)
def L86_4 : Sms := .cons S86_4 L86_5
theorem t86_4 (C : Ctx) (ρ : Env) (Q : Fl × Env → Prop) : Y (exSs C L86_4 ρ) Q = Y (exS C S86_4 ρ) (Kc C L86_5 Q) := Y_st _ _ _ _ _
def S86_3 : Sm := (.asg 4 (.k (.int (0))))
def L86_3 : Sms := .cons S86_3 L86_4
theorem t86_3 (C : Ctx) (ρ : Env) (Q : Fl × Env → Prop) : Y (exSs C L86_3 ρ) Q = Y (exS C S86_3 ρ) (Kc C L86_4 Q) := Y_st _ _ _ _ _
def S86_2 : Sm := (.asg 3 (.lst (.cons (.k (.int (0))) .nil)))
def L86_2 : Sms := .cons S86_2 L86_3
theorem t86_2 (C : Ctx) (ρ : Env) (Q : Fl × Env → Prop) : Y (exSs C L86_2 ρ) Q = Y (exS C S86_2 ρ) (Kc C L86_3 Q) := Y_st _ _ _ _ _
def S86_1 : Sm := (.setI 2 (.k (.int (0))) (.tup .nil))
def L86_1 : Sms := .cons S86_1 L86_2
theorem t86_1 (C : Ctx) (ρ : Env) (Q : Fl × Env → Prop) : Y (exSs C L86_1 ρ) Q = Y (exS C S86_1 ρ) (Kc C L86_2 Q) := Y_st _ _ _ _ _
def S86_0 : Sm := (.asg 2 (.lc (.k .non) [5] false (.e (.v 1)) .tt))
def L86_0 : Sms := .cons S86_0 L86_1
theorem t86_0 (C : Ctx) (ρ : Env) (Q : Fl × Env → Prop) : Y (exSs C L86_0 ρ) Q = Y (exS C S86_0 ρ) (Kc C L86_1 Q) := Y_st _ _ _ _ _
/-! _law_due(_law_table_here, _law_nexts): 0=_law_table_here 1=_law_nexts 2=_law_found 3=_law_fresh 4=_law_later 5=_law_spot 6=_law_happening 7=_law_other -/
def S87_3b1b0b0a1 : Sm := (.ex (.mu .append 4 (.cons (.v 7) .nil)))
def L87_3b1b0b0a1 : Sms := .cons S87_3b1b0b0a1 .nil
theorem t87_3b1b0b0a1 (C : Ctx) (ρ : Env) (Q : Fl × Env → Prop) : Y (exSs C L87_3b1b0b0a1 ρ) Q = Y (exS C S87_3b1b0b0a1 ρ) (Kc C .nil Q) := Y_st _ _ _ _ _
def S87_3b1b0b0a0 : Sm := (.setI 2 (.v 7) (.bin .add (.idx (.v 2) (.v 5)) (.tup (.cons (.v 6) .nil))))
def L87_3b1b0b0a0 : Sms := .cons S87_3b1b0b0a0 L87_3b1b0b0a1
theorem t87_3b1b0b0a0 (C : Ctx) (ρ : Env) (Q : Fl × Env → Prop) : Y (exSs C L87_3b1b0b0a0 ρ) Q = Y (exS C S87_3b1b0b0a0 ρ) (Kc C L87_3b1b0b0a1 Q) := Y_st _ _ _ _ _
def S87_3b1b0b0 : Sm := (.ifs (.e (.cmp .is_ (.idx (.v 2) (.v 7)) (.k .non))) L87_3b1b0b0a0 .nil)
def L87_3b1b0b0 : Sms := .cons S87_3b1b0b0 .nil
theorem t87_3b1b0b0 (C : Ctx) (ρ : Env) (Q : Fl × Env → Prop) : Y (exSs C L87_3b1b0b0 ρ) Q = Y (exS C S87_3b1b0b0 ρ) (Kc C .nil Q) := Y_st _ _ _ _ _
def S87_3b1b0 : Sm := (.for_ [6, 7] true (.zip (.cons (.call 70 (.cons (.v 0) .nil)) (.cons (.idx (.v 1) (.v 5)) .nil))) L87_3b1b0b0)
def L87_3b1b0 : Sms := .cons S87_3b1b0 .nil
theorem t87_3b1b0 (C : Ctx) (ρ : Env) (Q : Fl × Env → Prop) : Y (exSs C L87_3b1b0 ρ) Q = Y (exS C S87_3b1b0 ρ) (Kc C .nil Q) := Y_st _ _ _ _ _
def S87_3b2 : Sm := (.asg 3 (.v 4))
def L87_3b2 : Sms := .cons S87_3b2 .nil
theorem t87_3b2 (C : Ctx) (ρ : Env) (Q : Fl × Env → Prop) : Y (exSs C L87_3b2 ρ) Q = Y (exS C S87_3b2 ρ) (Kc C .nil Q) := Y_st _ _ _ _ _
def S87_3b1 : Sm := (.for_ [5] false (.e (.v 3)) L87_3b1b0)
def L87_3b1 : Sms := .cons S87_3b1 L87_3b2
theorem t87_3b1 (C : Ctx) (ρ : Env) (Q : Fl × Env → Prop) : Y (exSs C L87_3b1 ρ) Q = Y (exS C S87_3b1 ρ) (Kc C L87_3b2 Q) := Y_st _ _ _ _ _
def S87_3b0 : Sm := (.asg 4 (.lst .nil))
def L87_3b0 : Sms := .cons S87_3b0 L87_3b1
theorem t87_3b0 (C : Ctx) (ρ : Env) (Q : Fl × Env → Prop) : Y (exSs C L87_3b0 ρ) Q = Y (exS C S87_3b0 ρ) (Kc C L87_3b1 Q) := Y_st _ _ _ _ _
def S87_4 : Sm := (.ret (.v 2))
def L87_4 : Sms := .cons S87_4 .nil
theorem t87_4 (C : Ctx) (ρ : Env) (Q : Fl × Env → Prop) : Y (exSs C L87_4 ρ) Q = Y (exS C S87_4 ρ) (Kc C .nil Q) := Y_st _ _ _ _ _
def S87_3 : Sm := (.whl (.e (.cmp .ne (.v 3) (.lst .nil))) L87_3b0)
def L87_3 : Sms := .cons S87_3 L87_4
theorem t87_3 (C : Ctx) (ρ : Env) (Q : Fl × Env → Prop) : Y (exSs C L87_3 ρ) Q = Y (exS C S87_3 ρ) (Kc C L87_4 Q) := Y_st _ _ _ _ _
def S87_2 : Sm := (.asg 3 (.lst (.cons (.k (.int (0))) .nil)))
def L87_2 : Sms := .cons S87_2 L87_3
theorem t87_2 (C : Ctx) (ρ : Env) (Q : Fl × Env → Prop) : Y (exSs C L87_2 ρ) Q = Y (exS C S87_2 ρ) (Kc C L87_3 Q) := Y_st _ _ _ _ _
def S87_1 : Sm := (.setI 2 (.k (.int (0))) (.tup .nil))
def L87_1 : Sms := .cons S87_1 L87_2
theorem t87_1 (C : Ctx) (ρ : Env) (Q : Fl × Env → Prop) : Y (exSs C L87_1 ρ) Q = Y (exS C S87_1 ρ) (Kc C L87_2 Q) := Y_st _ _ _ _ _
def S87_0 : Sm := (.asg 2 (.bin .mul (.lst (.cons (.k .non) .nil)) (.bi .len (.cons (.v 1) .nil))))
def L87_0 : Sms := .cons S87_0 L87_1
theorem t87_0 (C : Ctx) (ρ : Env) (Q : Fl × Env → Prop) : Y (exSs C L87_0 ρ) Q = Y (exS C S87_0 ρ) (Kc C L87_1 Q) := Y_st _ _ _ _ _
structure HFirst (P : Pg) : Prop where
  haps : P.fn 24 = some ⟨1, 5, L24_0⟩
  first_rows : P.fn 86 = some ⟨2, 8, L86_0⟩
structure HDue39 (P : Pg) : Prop where
  law_haps : P.fn 70 = some ⟨1, 5, L24_0⟩
  due : P.fn 87 = some ⟨2, 8, L87_0⟩
def nD (r : List Nat) : D := .tup (r.map fun (k : Nat) => .int k)
def nxD (nx : List (List Nat)) : D := .tup (nx.map nD)
def fL (F : Fr) : List D := F.map fD
theorem natI {α : Type} {xs : List α} {k : Nat} {x : α} (h : xs[k]? = some x) : atI xs (k : Int) = some x := by
  have hk := (List.getElem?_eq_some_iff.mp h).1
  have e : ixN xs.length (k : Int) = some k := by
    unfold ixN
    rw [if_pos (by omega), if_pos (by omega)]
    rfl
  unfold atI
  rw [e]
  exact h
theorem natX {n k : Nat} (h : k < n) : ixN n (k : Int) = some k := by
  unfold ixN
  rw [if_pos (by omega), if_pos (by omega)]
  rfl
theorem fL_at {F : Fr} {k : Nat} (h : k < F.length) : atI (fL F) (k : Int) = some (fD (F.getD k none)) := by
  refine natI ?_
  unfold fL
  rw [List.getElem?_map, List.getElem?_eq_getElem h, List.getD_eq_getElem?_getD, List.getElem?_eq_getElem h]
  rfl
theorem fL_len (F : Fr) : (fL F).length = F.length := by unfold fL; rw [List.length_map]
theorem fL_set (F : Fr) (k : Nat) (r : List D) : (fL F).set k (.tup r) = fL (F.set k (some r)) := by unfold fL; rw [List.map_set]; rfl
theorem nx_at {nx : List (List Nat)} {k : Nat} (h : k < nx.length) : atI (nx.map nD) (k : Int) = some (nD (nx.getD k [])) := by
  refine natI ?_
  rw [List.getElem?_map, List.getElem?_eq_getElem h, List.getD_eq_getElem?_getD, List.getElem?_eq_getElem h]
  rfl
def nL (q : List Nat) : List D := q.map fun (k : Nat) => .int k
theorem nL_at {q : List Nat} {k s : Nat} (h : q[k]? = some s) : atI (nL q) (k : Int) = some (.int s) := by
  refine natI ?_
  unfold nL
  rw [List.getElem?_map, h]
  rfl
theorem nL_len (q : List Nat) : (nL q).length = q.length := by unfold nL; rw [List.length_map]
theorem nL_app (q : List Nat) (s : Nat) : nL q ++ [.int s] = nL (q ++ [s]) := by unfold nL; rw [List.map_append]; rfl
theorem ps_at {hs : List D} {r : List Nat} {i : Nat} {d : D} (h : (List.zipWith pairF hs (r.map fun (k : Nat) => D.int k))[i]? = some d) : ∃ x o, (hs.zip r)[i]? = some (x, o) ∧ d = .tup [x, .int o] := by
  rw [List.getElem?_zipWith, List.getElem?_map] at h
  cases ha : hs[i]? with
  | none => rw [ha] at h; cases h
  | some x =>
    cases hb : r[i]? with
    | none => rw [ha, hb] at h; cases h
    | some o =>
      rw [ha, hb] at h
      cases h
      exact ⟨x, o, by rw [List.getElem?_zip_eq_some]; exact ⟨ha, hb⟩, rfl⟩
theorem many_snoc (s : Nat) (ps : List (D × Nat)) (p : D × Nat) (x : Fr × List Nat) : many s (ps ++ [p]) x = one s (many s ps x) p := by unfold many; rw [List.foldl_append]; rfl
theorem take_ps {ps : List (D × Nat)} {i : Nat} {p : D × Nat} (h : ps[i]? = some p) : ps.take (i + 1) = ps.take i ++ [p] := by rw [List.take_add_one, h]; rfl
/-- what the turn of a happening does, on the found and the line -/
theorem first_turn {C : Ctx} {a b z4 : Sl} {hs : List D} {N s o : Nat} {x : D} {F : Fr} {q : List Nat} (h : BOk hs N F) (hN : N ≤ 100) (hq : q.length ≤ 1000) (ho : o < N) (hs' : (F.getD s none).isSome = true) (hsN : s < N) {Q : Fl × Env → Prop}
    (hQ : Q (.nx, [a, b, .ol (fL (one s (F, q) (x, o)).1), .ol (nL (one s (F, q) (x, o)).2), z4, .sh (.int s), .sh x, .sh (.int o)])) :
    Y (exSs C L86_4b1b0 [a, b, .ol (fL F), .ol (nL q), z4, .sh (.int s), .sh x, .sh (.int o)]) Q := by
  have eo := fL_at (F := F) (k := o) (by rw [h.len]; exact ho)
  have es := fL_at (F := F) (k := s) (by rw [h.len]; exact hsN)
  obtain ⟨r, er⟩ : ∃ r, F.getD s none = some r := Option.isSome_iff_exists.mp hs'
  rw [er] at es
  have eix : ixN (fL F).length (o : Int) = some o := natX (by rw [fL_len, h.len]; exact ho)
  have lr := (h.row s r er).1
  have er2 : rowOf F s = r := by unfold rowOf; rw [er]; rfl
  unfold one at hQ
  dsimp only at hQ
  rw [t86_4b1b0]
  cases e : F.getD o none with
  | some r' =>
    rw [e] at eo hQ
    simp [S86_4b1b0, allB_map, all_id, allB, ev_k, ev_v, ev_g, ev_fr, ev_tup, ev_lst, ev_dct, ev_bin, ev_neg, ev_not, ev_and, ev_or, ev_cmp, ev_chain, ev_ite, ev_idx, ev_slc, ev_call, ev_bi, ev_bm, ev_mu, ev_isi, ev_rpr, ev_lset, ev_dcn, ev_dc1, ev_dget, ev_dsd, ev_pr2, ev_rev, asgTS, biD, isDn, isOd, hasD, dgetN, dsdS, revF, zip3F, ex_ret_, ex_retN_, ex_asg_, ex_asgT_, ex_setI_, ex_ex_, ex_ifs_, ex_pass_, ex_brk_, ex_cont_, evT, evA, evF, evI, evO, vw, see, res, tru, D.truth, cmpS, cmpV, cmpF, inF, retS, List.replicate, biS, vws, biF, keepSh, asgS, binS, binF, fz, idxS, idxF, intOf, blOf, slcS, slcF, D.noK, isTy, pks, nodup, argS, argsBack, Y_ok, Y_ite, Y_nil, Kc_nx, Kc_rt, Kc_bk, Kc_ct, setIF, isOD, lookS, putS, muF, lock, unlock, rangeF, bindT, setT, LIM, wrOf, isSh, bmS, bmF, bmT, zipF, itemsZ, enumF, ↓reduceIte, eo, fD]
    simpa using hQ
  | none =>
    rw [e] at eo hQ
    simp only [Option.isNone_none, if_true, er2] at hQ
    have lr2 : r.length + 1 ≤ 16777216 := by omega
    have lq : (nL q).length < 16777216 := by rw [nL_len]; omega
    simp [S86_4b1b0, allB_map, all_id, allB, ev_k, ev_v, ev_g, ev_fr, ev_tup, ev_lst, ev_dct, ev_bin, ev_neg, ev_not, ev_and, ev_or, ev_cmp, ev_chain, ev_ite, ev_idx, ev_slc, ev_call, ev_bi, ev_bm, ev_mu, ev_isi, ev_rpr, ev_lset, ev_dcn, ev_dc1, ev_dget, ev_dsd, ev_pr2, ev_rev, asgTS, biD, isDn, isOd, hasD, dgetN, dsdS, revF, zip3F, ex_ret_, ex_retN_, ex_asg_, ex_asgT_, ex_setI_, ex_ex_, ex_ifs_, ex_pass_, ex_brk_, ex_cont_, evT, evA, evF, evI, evO, vw, see, res, tru, D.truth, cmpS, cmpV, cmpF, inF, retS, List.replicate, biS, vws, biF, keepSh, asgS, binS, binF, fz, idxS, idxF, intOf, blOf, slcS, slcF, D.noK, isTy, pks, nodup, argS, argsBack, Y_ok, Y_ite, Y_nil, Kc_nx, Kc_rt, Kc_bk, Kc_ct, setIF, isOD, lookS, putS, muF, lock, unlock, rangeF, bindT, setT, LIM, wrOf, isSh, bmS, bmF, bmT, zipF, itemsZ, enumF, ↓reduceIte, eo, fD]
    rw [t86_4b1b0a0]
    have e3 : evE C (.bin .add (.idx (.v 2) (.v 5)) (.tup (.cons (.v 6) .nil))) [a, b, .ol (fL F), .ol (nL q), z4, .sh (.int s), .sh x, .sh (.int o)] = .ok (.sh (.tup (r ++ [x])), [a, b, .ol (fL F), .ol (nL q), z4, .sh (.int s), .sh x, .sh (.int o)]) := by
      refine ev_binv (ev_idxv (by simp only [ev_v, get2]; rfl) (by simp only [ev_v, get5]; rfl) (by simp only [idxS, vw, see, res, get2, idxF, es, fD]; rfl)) (ev_tup1 (d := x) (by simp only [ev_v, get6])) ?_
      simp only [binS, vw, see, res, binF]
      rw [if_pos (show r.length + [x].length ≤ LIM from lr2)]
    have st1 : exS C S86_4b1b0a0 [a, b, .ol (fL F), .ol (nL q), z4, .sh (.int s), .sh x, .sh (.int o)] = .ok (.nx, [a, b, .ol (fL (F.set o (some (r ++ [x])))), .ol (nL q), z4, .sh (.int s), .sh x, .sh (.int o)]) := by
      rw [S86_4b1b0a0, ex_setI_, e3, ← fL_set]
      simp only [bind_ok_eq, fz, of_some, get2, isOD, if_true, ev_v, get7, vw, see, res, Option.bind_some, setIF, eix, Option.map_some, List.set]
    rw [st1, Y_ok, Kc_nx, t86_4b1b0a1]
    simp [S86_4b1b0a1, allB_map, all_id, allB, ev_k, ev_v, ev_g, ev_fr, ev_tup, ev_lst, ev_dct, ev_bin, ev_neg, ev_not, ev_and, ev_or, ev_cmp, ev_chain, ev_ite, ev_idx, ev_slc, ev_call, ev_bi, ev_bm, ev_mu, ev_isi, ev_rpr, ev_lset, ev_dcn, ev_dc1, ev_dget, ev_dsd, ev_pr2, ev_rev, asgTS, biD, isDn, isOd, hasD, dgetN, dsdS, revF, zip3F, ex_ret_, ex_retN_, ex_asg_, ex_asgT_, ex_setI_, ex_ex_, ex_ifs_, ex_pass_, ex_brk_, ex_cont_, evT, evA, evF, evI, evO, vw, see, res, tru, D.truth, cmpS, cmpV, cmpF, inF, retS, List.replicate, biS, vws, biF, keepSh, asgS, binS, binF, fz, idxS, idxF, intOf, blOf, slcS, slcF, D.noK, isTy, pks, nodup, argS, argsBack, Y_ok, Y_ite, Y_nil, Kc_nx, Kc_rt, Kc_bk, Kc_ct, setIF, isOD, lookS, putS, muF, lock, unlock, rangeF, bindT, setT, LIM, wrOf, isSh, bmS, bmF, bmT, zipF, itemsZ, enumF, ↓reduceIte, evF, lq]
    rw [nL_app]
    exact hQ
/-- .. and the law's one -/
theorem due_turn {C : Ctx} {a b z3 : Sl} {hs : List D} {N s o : Nat} {x : D} {F : Fr} {q : List Nat} (h : BOk hs N F) (hN : N ≤ 100) (hq : q.length ≤ 1000) (ho : o < N) (hs' : (F.getD s none).isSome = true) (hsN : s < N) {Q : Fl × Env → Prop}
    (hQ : Q (.nx, [a, b, .ol (fL (one s (F, q) (x, o)).1), z3, .ol (nL (one s (F, q) (x, o)).2), .sh (.int s), .sh x, .sh (.int o)])) :
    Y (exSs C L87_3b1b0b0 [a, b, .ol (fL F), z3, .ol (nL q), .sh (.int s), .sh x, .sh (.int o)]) Q := by
  have eo := fL_at (F := F) (k := o) (by rw [h.len]; exact ho)
  have es := fL_at (F := F) (k := s) (by rw [h.len]; exact hsN)
  obtain ⟨r, er⟩ : ∃ r, F.getD s none = some r := Option.isSome_iff_exists.mp hs'
  rw [er] at es
  have eix : ixN (fL F).length (o : Int) = some o := natX (by rw [fL_len, h.len]; exact ho)
  have lr := (h.row s r er).1
  have er2 : rowOf F s = r := by unfold rowOf; rw [er]; rfl
  unfold one at hQ
  dsimp only at hQ
  rw [t87_3b1b0b0]
  cases e : F.getD o none with
  | some r' =>
    rw [e] at eo hQ
    simp [S87_3b1b0b0, allB_map, all_id, allB, ev_k, ev_v, ev_g, ev_fr, ev_tup, ev_lst, ev_dct, ev_bin, ev_neg, ev_not, ev_and, ev_or, ev_cmp, ev_chain, ev_ite, ev_idx, ev_slc, ev_call, ev_bi, ev_bm, ev_mu, ev_isi, ev_rpr, ev_lset, ev_dcn, ev_dc1, ev_dget, ev_dsd, ev_pr2, ev_rev, asgTS, biD, isDn, isOd, hasD, dgetN, dsdS, revF, zip3F, ex_ret_, ex_retN_, ex_asg_, ex_asgT_, ex_setI_, ex_ex_, ex_ifs_, ex_pass_, ex_brk_, ex_cont_, evT, evA, evF, evI, evO, vw, see, res, tru, D.truth, cmpS, cmpV, cmpF, inF, retS, List.replicate, biS, vws, biF, keepSh, asgS, binS, binF, fz, idxS, idxF, intOf, blOf, slcS, slcF, D.noK, isTy, pks, nodup, argS, argsBack, Y_ok, Y_ite, Y_nil, Kc_nx, Kc_rt, Kc_bk, Kc_ct, setIF, isOD, lookS, putS, muF, lock, unlock, rangeF, bindT, setT, LIM, wrOf, isSh, bmS, bmF, bmT, zipF, itemsZ, enumF, ↓reduceIte, eo, fD]
    simpa using hQ
  | none =>
    rw [e] at eo hQ
    simp only [Option.isNone_none, if_true, er2] at hQ
    have lr2 : r.length + 1 ≤ 16777216 := by omega
    have lq : (nL q).length < 16777216 := by rw [nL_len]; omega
    simp [S87_3b1b0b0, allB_map, all_id, allB, ev_k, ev_v, ev_g, ev_fr, ev_tup, ev_lst, ev_dct, ev_bin, ev_neg, ev_not, ev_and, ev_or, ev_cmp, ev_chain, ev_ite, ev_idx, ev_slc, ev_call, ev_bi, ev_bm, ev_mu, ev_isi, ev_rpr, ev_lset, ev_dcn, ev_dc1, ev_dget, ev_dsd, ev_pr2, ev_rev, asgTS, biD, isDn, isOd, hasD, dgetN, dsdS, revF, zip3F, ex_ret_, ex_retN_, ex_asg_, ex_asgT_, ex_setI_, ex_ex_, ex_ifs_, ex_pass_, ex_brk_, ex_cont_, evT, evA, evF, evI, evO, vw, see, res, tru, D.truth, cmpS, cmpV, cmpF, inF, retS, List.replicate, biS, vws, biF, keepSh, asgS, binS, binF, fz, idxS, idxF, intOf, blOf, slcS, slcF, D.noK, isTy, pks, nodup, argS, argsBack, Y_ok, Y_ite, Y_nil, Kc_nx, Kc_rt, Kc_bk, Kc_ct, setIF, isOD, lookS, putS, muF, lock, unlock, rangeF, bindT, setT, LIM, wrOf, isSh, bmS, bmF, bmT, zipF, itemsZ, enumF, ↓reduceIte, eo, fD]
    rw [t87_3b1b0b0a0]
    have e3 : evE C (.bin .add (.idx (.v 2) (.v 5)) (.tup (.cons (.v 6) .nil))) [a, b, .ol (fL F), z3, .ol (nL q), .sh (.int s), .sh x, .sh (.int o)] = .ok (.sh (.tup (r ++ [x])), [a, b, .ol (fL F), z3, .ol (nL q), .sh (.int s), .sh x, .sh (.int o)]) := by
      refine ev_binv (ev_idxv (by simp only [ev_v, get2]; rfl) (by simp only [ev_v, get5]; rfl) (by simp only [idxS, vw, see, res, get2, idxF, es, fD]; rfl)) (ev_tup1 (d := x) (by simp only [ev_v, get6])) ?_
      simp only [binS, vw, see, res, binF]
      rw [if_pos (show r.length + [x].length ≤ LIM from lr2)]
    have st1 : exS C S87_3b1b0b0a0 [a, b, .ol (fL F), z3, .ol (nL q), .sh (.int s), .sh x, .sh (.int o)] = .ok (.nx, [a, b, .ol (fL (F.set o (some (r ++ [x])))), z3, .ol (nL q), .sh (.int s), .sh x, .sh (.int o)]) := by
      rw [S87_3b1b0b0a0, ex_setI_, e3, ← fL_set]
      simp only [bind_ok_eq, fz, of_some, get2, isOD, if_true, ev_v, get7, vw, see, res, Option.bind_some, setIF, eix, Option.map_some, List.set]
    rw [st1, Y_ok, Kc_nx, t87_3b1b0b0a1]
    simp [S87_3b1b0b0a1, allB_map, all_id, allB, ev_k, ev_v, ev_g, ev_fr, ev_tup, ev_lst, ev_dct, ev_bin, ev_neg, ev_not, ev_and, ev_or, ev_cmp, ev_chain, ev_ite, ev_idx, ev_slc, ev_call, ev_bi, ev_bm, ev_mu, ev_isi, ev_rpr, ev_lset, ev_dcn, ev_dc1, ev_dget, ev_dsd, ev_pr2, ev_rev, asgTS, biD, isDn, isOd, hasD, dgetN, dsdS, revF, zip3F, ex_ret_, ex_retN_, ex_asg_, ex_asgT_, ex_setI_, ex_ex_, ex_ifs_, ex_pass_, ex_brk_, ex_cont_, evT, evA, evF, evI, evO, vw, see, res, tru, D.truth, cmpS, cmpV, cmpF, inF, retS, List.replicate, biS, vws, biF, keepSh, asgS, binS, binF, fz, idxS, idxF, intOf, blOf, slcS, slcF, D.noK, isTy, pks, nodup, argS, argsBack, Y_ok, Y_ite, Y_nil, Kc_nx, Kc_rt, Kc_bk, Kc_ct, setIF, isOD, lookS, putS, muF, lock, unlock, rangeF, bindT, setT, LIM, wrOf, isSh, bmS, bmF, bmT, zipF, itemsZ, enumF, ↓reduceIte, evF, lq]
    rw [nL_app]
    exact hQ
end Mp
namespace Mp
theorem zip_ev {C : Ctx} {i j : Nat} {f : Nat} {ρ : Env} {t : Tab} {nx : List (List Nat)} {s : Nat} (g0 : ρ.get 0 = .sh (tabD t)) (g1 : ρ.get 1 = .sh (nxD nx)) (g5 : ρ.get 5 = .sh (.int s)) (hs : s < nx.length) (he : C.cl f [.sh (tabD t)] = .ok (.ol (hapsD t), [.sh (tabD t)])) :
    evI C (.zip (.cons (.call f (.cons (.v 0) .nil)) (.cons (.idx (.v 1) (.v 5)) .nil))) ρ = .ok ((List.zipWith pairF (hapsD t) ((nx.getD s []).map fun (k : Nat) => D.int k), []), ρ) := by
  have en := nx_at hs
  have e1 : evE C (.idx (.v 1) (.v 5)) ρ = .ok (.sh (nD (nx.getD s [])), ρ) :=
    ev_idxv (by rw [ev_v, g1]) (by rw [ev_v, g5]) (by simp only [idxS, vw, see, res, idxF, nxD, en])
  have e0 : evE C (.call f (.cons (.v 0) .nil)) ρ = .ok (.ol (hapsD t), ρ) := by
    simp [ev_call, evA, ev_v, g0, pks, nodup, argS, argsBack, he]
  simp [evI, evF, e0, e1, fz, zipF, itemsZ, nD]
theorem first_spot {C : Ctx} {n : Nat} (w6 : C.wr 6 = true) (w7 : C.wr 7 = true) {t : Tab} {nx : List (List Nat)} {N s : Nat} {F : Fr} {q : List Nat} {z4 z6 z7 : Sl} (he : C.cl 24 [.sh (tabD t)] = .ok (.ol (hapsD t), [.sh (tabD t)])) (hn : NxOk nx N) (h : BOk (hapsD t) N F) (hN : N ≤ 100) (hq : q.length ≤ 200) (hs' : (F.getD s none).isSome = true) (hsN : s < N) {Q : Fl × Env → Prop}
    (hQ : ∀ z6 z7, Q (.nx, [.sh (tabD t), .sh (nxD nx), .ol (fL (many s (psOf (hapsD t) nx s) (F, q)).1), .ol (nL (many s (psOf (hapsD t) nx s) (F, q)).2), z4, .sh (.int s), z6, z7])) :
    Y (exS C S86_4b1 [.sh (tabD t), .sh (nxD nx), .ol (fL F), .ol (nL q), z4, .sh (.int s), z6, z7]) Q := by
  have hz := hn.len
  refine for_Y (lk := []) (ds := List.zipWith pairF (hapsD t) ((nx.getD s []).map fun (k : Nat) => D.int k)) (ρ1 := [.sh (tabD t), .sh (nxD nx), .ol (fL F), .ol (nL q), z4, .sh (.int s), z6, z7]) (fun k ρ => ∃ z6 z7, ρ = [.sh (tabD t), .sh (nxD nx), .ol (fL (many s ((psOf (hapsD t) nx s).take k) (F, q)).1), .ol (nL (many s ((psOf (hapsD t) nx s).take k) (F, q)).2), z4, .sh (.int s), z6, z7]) ?_ ?_ ⟨z6, z7, rfl⟩ ?_ ?_
  · exact zip_ev (i := 0) (j := 0) rfl rfl rfl (by omega) he
  · simp [w6, w7]
  · rintro k d ρ hd ⟨z6, z7, rfl⟩
    obtain ⟨x, o, hp, rfl⟩ := ps_at hd
    have hp : (psOf (hapsD t) nx s)[k]? = some (x, o) := hp
    have ok := fun p (hp : p ∈ psOf (hapsD t) nx s) => ps_ok hn s p hp
    obtain ⟨a1, a2, a3, a4⟩ := many_ok ((psOf (hapsD t) nx s).take k) (q := q) h (fun p hp => ok p (List.mem_of_mem_take hp)) hs'
    obtain ⟨p1, p2⟩ := ok _ (List.mem_of_getElem? hp)
    have nl : nones F ≤ N := by rw [← h.len]; exact List.countP_le_length
    have a5 := a3 s hs'
    refine ⟨[.sh (tabD t), .sh (nxD nx), .ol (fL (many s ((psOf (hapsD t) nx s).take k) (F, q)).1), .ol (nL (many s ((psOf (hapsD t) nx s).take k) (F, q)).2), z4, .sh (.int s), .sh x, .sh (.int o)], rfl, ?_⟩
    have eM : many s ((psOf (hapsD t) nx s).take (k + 1)) (F, q) = one s (many s ((psOf (hapsD t) nx s).take k) (F, q)) (x, o) := by rw [take_ps hp, many_snoc]
    generalize hM : many s ((psOf (hapsD t) nx s).take k) (F, q) = M at a1 a2 a3 a4 a5 eM ⊢
    refine first_turn a1 hN (by omega) p1 a5 hsN ⟨.inl rfl, .sh x, .sh (.int o), by rw [eM]⟩
  · rintro _ ⟨z6, z7, rfl⟩
    have el : (List.zipWith pairF (hapsD t) ((nx.getD s []).map fun (k : Nat) => D.int k)).length = (psOf (hapsD t) nx s).length := by unfold psOf; simp
    rw [el, List.take_length]
    exact hQ z6 z7
theorem due_spot {C : Ctx} {n : Nat} (w6 : C.wr 6 = true) (w7 : C.wr 7 = true) {t : Tab} {nx : List (List Nat)} {N s : Nat} {F : Fr} {q : List Nat} {z3 z6 z7 : Sl} (he : C.cl 70 [.sh (tabD t)] = .ok (.ol (hapsD t), [.sh (tabD t)])) (hn : NxOk nx N) (h : BOk (hapsD t) N F) (hN : N ≤ 100) (hq : q.length ≤ 200) (hs' : (F.getD s none).isSome = true) (hsN : s < N) {Q : Fl × Env → Prop}
    (hQ : ∀ z6 z7, Q (.nx, [.sh (tabD t), .sh (nxD nx), .ol (fL (many s (psOf (hapsD t) nx s) (F, q)).1), z3, .ol (nL (many s (psOf (hapsD t) nx s) (F, q)).2), .sh (.int s), z6, z7])) :
    Y (exS C S87_3b1b0 [.sh (tabD t), .sh (nxD nx), .ol (fL F), z3, .ol (nL q), .sh (.int s), z6, z7]) Q := by
  have hz := hn.len
  refine for_Y (lk := []) (ds := List.zipWith pairF (hapsD t) ((nx.getD s []).map fun (k : Nat) => D.int k)) (ρ1 := [.sh (tabD t), .sh (nxD nx), .ol (fL F), z3, .ol (nL q), .sh (.int s), z6, z7]) (fun k ρ => ∃ z6 z7, ρ = [.sh (tabD t), .sh (nxD nx), .ol (fL (many s ((psOf (hapsD t) nx s).take k) (F, q)).1), z3, .ol (nL (many s ((psOf (hapsD t) nx s).take k) (F, q)).2), .sh (.int s), z6, z7]) ?_ ?_ ⟨z6, z7, rfl⟩ ?_ ?_
  · exact zip_ev (i := 0) (j := 0) rfl rfl rfl (by omega) he
  · simp [w6, w7]
  · rintro k d ρ hd ⟨z6, z7, rfl⟩
    obtain ⟨x, o, hp, rfl⟩ := ps_at hd
    have hp : (psOf (hapsD t) nx s)[k]? = some (x, o) := hp
    have ok := fun p (hp : p ∈ psOf (hapsD t) nx s) => ps_ok hn s p hp
    obtain ⟨a1, a2, a3, a4⟩ := many_ok ((psOf (hapsD t) nx s).take k) (q := q) h (fun p hp => ok p (List.mem_of_mem_take hp)) hs'
    obtain ⟨p1, p2⟩ := ok _ (List.mem_of_getElem? hp)
    have nl : nones F ≤ N := by rw [← h.len]; exact List.countP_le_length
    have a5 := a3 s hs'
    refine ⟨[.sh (tabD t), .sh (nxD nx), .ol (fL (many s ((psOf (hapsD t) nx s).take k) (F, q)).1), z3, .ol (nL (many s ((psOf (hapsD t) nx s).take k) (F, q)).2), .sh (.int s), .sh x, .sh (.int o)], rfl, ?_⟩
    have eM : many s ((psOf (hapsD t) nx s).take (k + 1)) (F, q) = one s (many s ((psOf (hapsD t) nx s).take k) (F, q)) (x, o) := by rw [take_ps hp, many_snoc]
    generalize hM : many s ((psOf (hapsD t) nx s).take k) (F, q) = M at a1 a2 a3 a4 a5 eM ⊢
    refine due_turn a1 hN (by omega) p1 a5 hsN ⟨.inl rfl, .sh x, .sh (.int o), by rw [eM]⟩
  · rintro _ ⟨z6, z7, rfl⟩
    have el : (List.zipWith pairF (hapsD t) ((nx.getD s []).map fun (k : Nat) => D.int k)).length = (psOf (hapsD t) nx s).length := by unfold psOf; simp
    rw [el, List.take_length]
    exact hQ z6 z7
theorem fL_rep (N : Nat) : List.replicate N D.non = fL (List.replicate N none) := by unfold fL; rw [List.map_replicate]; rfl
theorem fL_first {N : Nat} (h : 0 < N) : (List.replicate N D.non).set 0 (.tup []) = fL (first0 N) := by rw [fL_rep, fL_set]; rfl
def FsQ (t : Tab) (nx : List (List Nat)) : Fl × Env → Prop := fun r => ∃ ρ, r = (.rt (.ol (fL (Rn (hapsD t) nx (first0 nx.length) [0]))), .sh (tabD t) :: .sh (nxD nx) :: ρ)
theorem first_rows39 {P : Pg} (h : HFirst P) (wf n : Nat) (hwf : 1000 ≤ wf) {t : Tab} (ht : SmallT t) {nx : List (List Nat)} {N : Nat} (hn : NxOk nx N) (hN : N ≤ 100) (h0 : 0 < N) :
    callM P wf (n + 2) 86 [.sh (tabD t), .sh (nxD nx)] = .ok (.ol (fL (Rn (hapsD t) nx (first0 nx.length) [0])), [.sh (tabD t), .sh (nxD nx)]) := by
  have : Y (callM P wf (n + 2) 86 [.sh (tabD t), .sh (nxD nx)]) fun r => r = (.ol (fL (Rn (hapsD t) nx (first0 nx.length) [0])), [.sh (tabD t), .sh (nxD nx)]) := by
    refine call_by (FsQ t nx) h.first_rows rfl rfl (by decide) (fun C c1 c2 c3 c4 c5 => ?_) (by rintro _ ⟨ρ, rfl⟩; exact ⟨_, _, rfl, rfl, by simp [keepSh]⟩)
    show Y (exSs C L86_0 [.sh (tabD t), .sh (nxD nx), .un, .un, .un, .un, .un, .un]) _
    have he := haps_at h.haps wf n t ht
    have he : C.cl 24 [.sh (tabD t)] = .ok (.ol (hapsD t), [.sh (tabD t)]) := by rw [c1]; exact he
    have hl := hn.len
    have w2 : C.wr 2 = true := by rw [c3]; rfl
    have w3 : C.wr 3 = true := by rw [c3]; rfl
    have w4 : C.wr 4 = true := by rw [c3]; rfl
    have w5 : C.wr 5 = true := by rw [c3]; rfl
    have w6 : C.wr 6 = true := by rw [c3]; rfl
    have w7 : C.wr 7 = true := by rw [c3]; rfl
    have e0 := lc_pure (C := C) (elt := .k .non) (t := 5) (it := .e (.v 1)) (ρ := [.sh (tabD t), .sh (nxD nx), .un, .un, .un, .un, .un, .un]) (xs := nx.map nD) (fun _ => .non) (by simp [evI, evE, lock, nxD]) (by simp) rfl (by simp [LIM]; omega) (fun d hd => by simp [ev_k])
    have ez : ((nx.map nD).map fun _ => D.non) = List.replicate nx.length D.non := by
      rw [List.map_map]
      exact List.eq_replicate_iff.mpr ⟨by simp, fun b hb => by obtain ⟨_, _, rfl⟩ := List.mem_map.mp hb; rfl⟩
    rw [ez] at e0
    have ix0 : ixN (List.replicate nx.length D.non).length 0 = some 0 := natX (k := 0) (by rw [List.length_replicate]; omega)
    obtain ⟨b1, b2, b3⟩ := first0_ok (hs := hapsD t) (N := nx.length) (by omega)
    rw [t86_0]
    simp [S86_0, allB_map, all_id, allB, ev_k, ev_v, ev_g, ev_fr, ev_tup, ev_lst, ev_dct, ev_bin, ev_neg, ev_not, ev_and, ev_or, ev_cmp, ev_chain, ev_ite, ev_idx, ev_slc, ev_call, ev_bi, ev_bm, ev_mu, ev_isi, ev_rpr, ev_lset, ev_dcn, ev_dc1, ev_dget, ev_dsd, ev_pr2, ev_rev, asgTS, biD, isDn, isOd, hasD, dgetN, dsdS, revF, zip3F, ex_ret_, ex_retN_, ex_asg_, ex_asgT_, ex_setI_, ex_ex_, ex_ifs_, ex_pass_, ex_brk_, ex_cont_, evT, evA, evF, evI, evO, vw, see, res, tru, D.truth, cmpS, cmpV, cmpF, inF, retS, List.replicate, biS, vws, biF, keepSh, asgS, binS, binF, fz, idxS, idxF, intOf, blOf, slcS, slcF, D.noK, isTy, pks, nodup, argS, argsBack, Y_ok, Y_ite, Y_nil, Kc_nx, Kc_rt, Kc_bk, Kc_ct, setIF, isOD, lookS, putS, muF, lock, unlock, rangeF, bindT, setT, LIM, wrOf, isSh, bmS, bmF, bmT, zipF, itemsZ, enumF, ↓reduceIte, w2, e0, -List.replicate]
    rw [t86_1]
    have st1 : exS C S86_1 [.sh (tabD t), .sh (nxD nx), .ol (List.replicate nx.length .non), .un, .un, .un, .un, .un] = .ok (.nx, [.sh (tabD t), .sh (nxD nx), .ol (fL (first0 nx.length)), .un, .un, .un, .un, .un]) := by
      have et : evE C (.tup .nil) [.sh (tabD t), .sh (nxD nx), .ol (List.replicate nx.length .non), .un, .un, .un, .un, .un] = .ok (.sh (.tup []), [.sh (tabD t), .sh (nxD nx), .ol (List.replicate nx.length .non), .un, .un, .un, .un, .un]) := by simp [ev_tup, evF, LIM]
      rw [S86_1, ex_setI_, ← fL_first (by omega), et]
      simp only [bind_ok_eq, fz, of_some, get2, isOD, if_true, ev_k, vw, see, res, Option.bind_some, setIF, ix0, Option.map_some, List.set]
    rw [st1, Y_ok, Kc_nx, t86_2]
    simp [S86_2, allB_map, all_id, allB, ev_k, ev_v, ev_g, ev_fr, ev_tup, ev_lst, ev_dct, ev_bin, ev_neg, ev_not, ev_and, ev_or, ev_cmp, ev_chain, ev_ite, ev_idx, ev_slc, ev_call, ev_bi, ev_bm, ev_mu, ev_isi, ev_rpr, ev_lset, ev_dcn, ev_dc1, ev_dget, ev_dsd, ev_pr2, ev_rev, asgTS, biD, isDn, isOd, hasD, dgetN, dsdS, revF, zip3F, ex_ret_, ex_retN_, ex_asg_, ex_asgT_, ex_setI_, ex_ex_, ex_ifs_, ex_pass_, ex_brk_, ex_cont_, evT, evA, evF, evI, evO, vw, see, res, tru, D.truth, cmpS, cmpV, cmpF, inF, retS, List.replicate, biS, vws, biF, keepSh, asgS, binS, binF, fz, idxS, idxF, intOf, blOf, slcS, slcF, D.noK, isTy, pks, nodup, argS, argsBack, Y_ok, Y_ite, Y_nil, Kc_nx, Kc_rt, Kc_bk, Kc_ct, setIF, isOD, lookS, putS, muF, lock, unlock, rangeF, bindT, setT, LIM, wrOf, isSh, bmS, bmF, bmT, zipF, itemsZ, enumF, ↓reduceIte, w3, evF]
    rw [t86_3]
    simp [S86_3, allB_map, all_id, allB, ev_k, ev_v, ev_g, ev_fr, ev_tup, ev_lst, ev_dct, ev_bin, ev_neg, ev_not, ev_and, ev_or, ev_cmp, ev_chain, ev_ite, ev_idx, ev_slc, ev_call, ev_bi, ev_bm, ev_mu, ev_isi, ev_rpr, ev_lset, ev_dcn, ev_dc1, ev_dget, ev_dsd, ev_pr2, ev_rev, asgTS, biD, isDn, isOd, hasD, dgetN, dsdS, revF, zip3F, ex_ret_, ex_retN_, ex_asg_, ex_asgT_, ex_setI_, ex_ex_, ex_ifs_, ex_pass_, ex_brk_, ex_cont_, evT, evA, evF, evI, evO, vw, see, res, tru, D.truth, cmpS, cmpV, cmpF, inF, retS, List.replicate, biS, vws, biF, keepSh, asgS, binS, binF, fz, idxS, idxF, intOf, blOf, slcS, slcF, D.noK, isTy, pks, nodup, argS, argsBack, Y_ok, Y_ite, Y_nil, Kc_nx, Kc_rt, Kc_bk, Kc_ct, setIF, isOD, lookS, putS, muF, lock, unlock, rangeF, bindT, setT, LIM, wrOf, isSh, bmS, bmF, bmT, zipF, itemsZ, enumF, ↓reduceIte, w4]
    rw [t86_4]
    refine whl_W (fun m ρ => ∃ (F : Fr) (q pre : List Nat) (z5 z6 z7 : Sl), ρ = [.sh (tabD t), .sh (nxD nx), .ol (fL F), .ol (nL (pre ++ q)), .sh (.int pre.length), z5, z6, z7] ∧ BOk (hapsD t) N F ∧ Seen F q ∧ m = q.length + nones F ∧ pre.length + m ≤ 101 ∧ Rn (hapsD t) nx F q = Rn (hapsD t) nx (first0 nx.length) [0]) (1 + nones (first0 nx.length)) (by rw [c4]; omega) ⟨first0 nx.length, [0], [], .un, .un, .un, rfl, by rw [← hl]; exact b1, b2, rfl, by simp; omega, rfl⟩ ?_
    rintro m ρ ⟨F, q, pre, z5, z6, z7, rfl, hB, hS, rfl, hm, hR⟩
    cases q with
    | nil =>
      refine ⟨false, [.sh (tabD t), .sh (nxD nx), .ol (fL F), .ol (nL (pre ++ [])), .sh (.int pre.length), z5, z6, z7], by simp [allB_map, all_id, allB, ev_k, ev_v, ev_g, ev_fr, ev_tup, ev_lst, ev_dct, ev_bin, ev_neg, ev_not, ev_and, ev_or, ev_cmp, ev_chain, ev_ite, ev_idx, ev_slc, ev_call, ev_bi, ev_bm, ev_mu, ev_isi, ev_rpr, ev_lset, ev_dcn, ev_dc1, ev_dget, ev_dsd, ev_pr2, ev_rev, asgTS, biD, isDn, isOd, hasD, dgetN, dsdS, revF, zip3F, ex_ret_, ex_retN_, ex_asg_, ex_asgT_, ex_setI_, ex_ex_, ex_ifs_, ex_pass_, ex_brk_, ex_cont_, evT, evA, evF, evI, evO, vw, see, res, tru, D.truth, cmpS, cmpV, cmpF, inF, retS, List.replicate, biS, vws, biF, keepSh, asgS, binS, binF, fz, idxS, idxF, intOf, blOf, slcS, slcF, D.noK, isTy, pks, nodup, argS, argsBack, Y_ok, Y_ite, Y_nil, Kc_nx, Kc_rt, Kc_bk, Kc_ct, setIF, isOD, lookS, putS, muF, lock, unlock, rangeF, bindT, setT, LIM, wrOf, isSh, bmS, bmF, bmT, zipF, itemsZ, enumF, ↓reduceIte, nL_len], fun z => (by cases z), fun _ => ?_⟩
      rw [Kc_nx, t86_5]
      rw [Rn_nil] at hR
      simp [S86_5, allB_map, all_id, allB, ev_k, ev_v, ev_g, ev_fr, ev_tup, ev_lst, ev_dct, ev_bin, ev_neg, ev_not, ev_and, ev_or, ev_cmp, ev_chain, ev_ite, ev_idx, ev_slc, ev_call, ev_bi, ev_bm, ev_mu, ev_isi, ev_rpr, ev_lset, ev_dcn, ev_dc1, ev_dget, ev_dsd, ev_pr2, ev_rev, asgTS, biD, isDn, isOd, hasD, dgetN, dsdS, revF, zip3F, ex_ret_, ex_retN_, ex_asg_, ex_asgT_, ex_setI_, ex_ex_, ex_ifs_, ex_pass_, ex_brk_, ex_cont_, evT, evA, evF, evI, evO, vw, see, res, tru, D.truth, cmpS, cmpV, cmpF, inF, retS, List.replicate, biS, vws, biF, keepSh, asgS, binS, binF, fz, idxS, idxF, intOf, blOf, slcS, slcF, D.noK, isTy, pks, nodup, argS, argsBack, Y_ok, Y_ite, Y_nil, Kc_nx, Kc_rt, Kc_bk, Kc_ct, setIF, isOD, lookS, putS, muF, lock, unlock, rangeF, bindT, setT, LIM, wrOf, isSh, bmS, bmF, bmT, zipF, itemsZ, enumF, ↓reduceIte, w2]
      exact ⟨_, by rw [hR]⟩
    | cons s q =>
      refine ⟨true, [.sh (tabD t), .sh (nxD nx), .ol (fL F), .ol (nL (pre ++ s :: q)), .sh (.int pre.length), z5, z6, z7], by simp [allB_map, all_id, allB, ev_k, ev_v, ev_g, ev_fr, ev_tup, ev_lst, ev_dct, ev_bin, ev_neg, ev_not, ev_and, ev_or, ev_cmp, ev_chain, ev_ite, ev_idx, ev_slc, ev_call, ev_bi, ev_bm, ev_mu, ev_isi, ev_rpr, ev_lset, ev_dcn, ev_dc1, ev_dget, ev_dsd, ev_pr2, ev_rev, asgTS, biD, isDn, isOd, hasD, dgetN, dsdS, revF, zip3F, ex_ret_, ex_retN_, ex_asg_, ex_asgT_, ex_setI_, ex_ex_, ex_ifs_, ex_pass_, ex_brk_, ex_cont_, evT, evA, evF, evI, evO, vw, see, res, tru, D.truth, cmpS, cmpV, cmpF, inF, retS, List.replicate, biS, vws, biF, keepSh, asgS, binS, binF, fz, idxS, idxF, intOf, blOf, slcS, slcF, D.noK, isTy, pks, nodup, argS, argsBack, Y_ok, Y_ite, Y_nil, Kc_nx, Kc_rt, Kc_bk, Kc_ct, setIF, isOD, lookS, putS, muF, lock, unlock, rangeF, bindT, setT, LIM, wrOf, isSh, bmS, bmF, bmT, zipF, itemsZ, enumF, ↓reduceIte, nL_len]; omega, fun _ => ?_, fun z => (by cases z)⟩
      have es : atI (nL (pre ++ s :: q)) (pre.length : Int) = some (.int s) := nL_at (by simp)
      obtain ⟨hs1, hs2⟩ := hS s List.mem_cons_self
      obtain ⟨a1, a2, a3, a4⟩ := many_ok (psOf (hapsD t) nx s) (q := []) hB (ps_ok hn s) hs2
      have a2 : (many s (psOf (hapsD t) nx s) (F, [])).2.length + nones (many s (psOf (hapsD t) nx s) (F, [])).1 = 0 + nones F := a2
      have eap := many_app s (psOf (hapsD t) nx s) F (pre ++ s :: q) []
      rw [List.append_nil] at eap
      rw [Rn_cons hn hB hS] at hR
      have hm : pre.length + (q.length + 1 + nones F) ≤ 101 := hm
      have st0 : exS C S86_4b0 [.sh (tabD t), .sh (nxD nx), .ol (fL F), .ol (nL (pre ++ s :: q)), .sh (.int pre.length), z5, z6, z7] = .ok (.nx, [.sh (tabD t), .sh (nxD nx), .ol (fL F), .ol (nL (pre ++ s :: q)), .sh (.int pre.length), .sh (.int s), z6, z7]) := by
        simp [S86_4b0, allB_map, all_id, allB, ev_k, ev_v, ev_g, ev_fr, ev_tup, ev_lst, ev_dct, ev_bin, ev_neg, ev_not, ev_and, ev_or, ev_cmp, ev_chain, ev_ite, ev_idx, ev_slc, ev_call, ev_bi, ev_bm, ev_mu, ev_isi, ev_rpr, ev_lset, ev_dcn, ev_dc1, ev_dget, ev_dsd, ev_pr2, ev_rev, asgTS, biD, isDn, isOd, hasD, dgetN, dsdS, revF, zip3F, ex_ret_, ex_retN_, ex_asg_, ex_asgT_, ex_setI_, ex_ex_, ex_ifs_, ex_pass_, ex_brk_, ex_cont_, evT, evA, evF, evI, evO, vw, see, res, tru, D.truth, cmpS, cmpV, cmpF, inF, retS, List.replicate, biS, vws, biF, keepSh, asgS, binS, binF, fz, idxS, idxF, intOf, blOf, slcS, slcF, D.noK, isTy, pks, nodup, argS, argsBack, Y_ok, Y_ite, Y_nil, Kc_nx, Kc_rt, Kc_bk, Kc_ct, setIF, isOD, lookS, putS, muF, lock, unlock, rangeF, bindT, setT, LIM, wrOf, isSh, bmS, bmF, bmT, zipF, itemsZ, enumF, ↓reduceIte, w5, es]
      rw [t86_4b0, st0, Y_ok, Kc_nx, t86_4b1]
      refine first_spot (n := n) w6 w7 he hn hB hN (by simp; omega) hs2 (by rw [← hB.len]; exact hs1) fun z6 z7 => ?_
      rw [eap, Kc_nx, t86_4b2]
      generalize hM : many s (psOf (hapsD t) nx s) (F, []) = M at *
      have st : exS C S86_4b2 [.sh (tabD t), .sh (nxD nx), .ol (fL M.1), .ol (nL ((pre ++ s :: q) ++ M.2)), .sh (.int pre.length), .sh (.int s), z6, z7] = .ok (.nx, [.sh (tabD t), .sh (nxD nx), .ol (fL M.1), .ol (nL ((pre ++ s :: q) ++ M.2)), .sh (.int (pre.length + 1)), .sh (.int s), z6, z7]) := by
        simp [S86_4b2, allB_map, all_id, allB, ev_k, ev_v, ev_g, ev_fr, ev_tup, ev_lst, ev_dct, ev_bin, ev_neg, ev_not, ev_and, ev_or, ev_cmp, ev_chain, ev_ite, ev_idx, ev_slc, ev_call, ev_bi, ev_bm, ev_mu, ev_isi, ev_rpr, ev_lset, ev_dcn, ev_dc1, ev_dget, ev_dsd, ev_pr2, ev_rev, asgTS, biD, isDn, isOd, hasD, dgetN, dsdS, revF, zip3F, ex_ret_, ex_retN_, ex_asg_, ex_asgT_, ex_setI_, ex_ex_, ex_ifs_, ex_pass_, ex_brk_, ex_cont_, evT, evA, evF, evI, evO, vw, see, res, tru, D.truth, cmpS, cmpV, cmpF, inF, retS, List.replicate, biS, vws, biF, keepSh, asgS, binS, binF, fz, idxS, idxF, intOf, blOf, slcS, slcF, D.noK, isTy, pks, nodup, argS, argsBack, Y_ok, Y_ite, Y_nil, Kc_nx, Kc_rt, Kc_bk, Kc_ct, setIF, isOD, lookS, putS, muF, lock, unlock, rangeF, bindT, setT, LIM, wrOf, isSh, bmS, bmF, bmT, zipF, itemsZ, enumF, ↓reduceIte, w4]
      rw [st, Y_ok, Kc_nx, Y_nil]
      refine .inl ⟨.inl rfl, (q ++ M.2).length + nones M.1, by rw [List.length_append, List.length_cons]; omega, M.1, q ++ M.2, pre ++ [s], .sh (.int s), z6, z7, by simp, a1, ?_, rfl, by simp; omega, hR⟩
      intro x hx
      rcases List.mem_append.mp hx with z | z
      · obtain ⟨y1, y2⟩ := hS x (List.mem_cons_of_mem _ z)
        exact ⟨by rw [a1.len, ← hB.len]; exact y1, a3 x y2⟩
      · exact a4 (fun y hy => by cases hy) x z
  obtain ⟨_, e, rfl⟩ := this
  exact e
end Mp
namespace Mp
/-! # numbers as met; classes; the least machine: plain -/
/-- the place of the first like one -/
def fix (x : D) (xs : List D) : Option Nat := xs.findIdx? fun y => D.eqv y x
/-- for each its number, as met -/
def num (seen : List D) : List D → List Nat
  | [] => []
  | x :: r => match fix x seen with
    | some i => i :: num seen r
    | none => seen.length :: num (seen ++ [x]) r
/-- what was seen behind all -/
def seenB (seen : List D) : List D → List D
  | [] => seen
  | x :: r => match fix x seen with
    | some _ => seenB seen r
    | none => seenB (seen ++ [x]) r
theorem num_len : ∀ (xs seen : List D), (num seen xs).length = xs.length
  | [], _ => rfl
  | x :: r, seen => by
    unfold num
    cases fix x seen <;> simp [num_len r]
theorem num_snoc : ∀ (xs seen : List D) (x : D), num seen (xs ++ [x]) = num seen xs ++ [(fix x (seenB seen xs)).getD (seenB seen xs).length]
  | [], seen, x => by
    simp only [List.nil_append, num, seenB]
    cases h : fix x seen <;> simp [num]
  | y :: r, seen, x => by
    rw [List.cons_append]
    simp only [num, seenB]
    cases h : fix y seen with
    | some i => simp [num_snoc r seen x]
    | none => simp [num_snoc r (seen ++ [y]) x]
theorem seenB_snoc : ∀ (xs seen : List D) (x : D), seenB seen (xs ++ [x]) = (match fix x (seenB seen xs) with | some _ => seenB seen xs | none => seenB seen xs ++ [x])
  | [], seen, x => by
    simp only [List.nil_append, seenB]
  | y :: r, seen, x => by
    rw [List.cons_append]
    simp only [seenB]
    cases h : fix y seen with
    | some i => exact seenB_snoc r seen x
    | none => exact seenB_snoc r (seen ++ [y]) x
theorem seenB_mem : ∀ (xs seen : List D) (d : D), d ∈ seenB seen xs → d ∈ seen ∨ d ∈ xs
  | [], seen, d, h => .inl h
  | y :: r, seen, d, h => by
    simp only [seenB] at h
    cases e : fix y seen with
    | some i =>
      rw [e] at h
      exact (seenB_mem r seen d h).imp id (List.mem_cons_of_mem _)
    | none =>
      rw [e] at h
      rcases seenB_mem r _ d h with z | z
      · rcases List.mem_append.mp z with z | z
        · exact .inl z
        · simp at z; subst z; exact .inr List.mem_cons_self
      · exact .inr (List.mem_cons_of_mem _ z)
theorem seenB_le : ∀ (xs seen : List D), (seenB seen xs).length ≤ seen.length + xs.length
  | [], seen => Nat.le_refl _
  | y :: r, seen => by
    simp only [seenB]
    cases e : fix y seen with
    | some i => have := seenB_le r seen; simp; omega
    | none => have := seenB_le r (seen ++ [y]); simp at this ⊢; omega
/-! ### eqv, an equivalence where a key of plain equality tells it -/
/-- keys that are told by a list of plain things: numbers alike just where keys are alike -/
structure Kd {α : Type} (f : α → D) : Prop where
  iff : ∀ a b, D.eqv (f a) (f b) = true ↔ a = b
/-- the numbers by plain equality -/
def numA {α : Type} [DecidableEq α] (seen : List α) : List α → List Nat
  | [] => []
  | x :: r => if x ∈ seen then seen.idxOf x :: numA seen r else seen.length :: numA (seen ++ [x]) r
theorem fix_map {α : Type} [DecidableEq α] {f : α → D} (K : Kd f) (x : α) (xs : List α) : fix (f x) (xs.map f) = if x ∈ xs then some (xs.idxOf x) else none := by
  unfold fix
  rw [List.findIdx?_map]
  have e : ((fun y => D.eqv y (f x)) ∘ f) = fun y => y == x := by
    funext y
    show D.eqv (f y) (f x) = (y == x)
    rw [Bool.eq_iff_iff, K.iff, beq_iff_eq]
  rw [e]
  by_cases h : x ∈ xs
  · rw [if_pos h, List.findIdx?_eq_some_iff_getElem]
    have hl := List.idxOf_lt_length_iff.mpr h
    refine ⟨hl, by simp, fun j hj => ?_⟩
    have := List.not_of_lt_findIdx hj
    simpa using this
  · rw [if_neg h, List.findIdx?_eq_none_iff]
    intro y hy
    simp only [beq_eq_false_iff_ne]
    exact fun e => h (e ▸ hy)
theorem num_map {α : Type} [DecidableEq α] {f : α → D} (K : Kd f) : ∀ (xs seen : List α), num (seen.map f) (xs.map f) = numA seen xs
  | [], _ => rfl
  | x :: r, seen => by
    rw [List.map_cons]
    unfold num numA
    rw [fix_map K]
    by_cases h : x ∈ seen
    · rw [if_pos h, if_pos h]
      simp [num_map K r seen]
    · rw [if_neg h, if_neg h]
      have := num_map K r (seen ++ [x])
      rw [List.map_append] at this
      simp only [List.length_map]
      rw [← this]
      rfl
section
variable {α : Type} [DecidableEq α]
theorem numA_len : ∀ (xs seen : List α), (numA seen xs).length = xs.length
  | [], _ => rfl
  | x :: r, seen => by
    unfold numA
    split <;> simp [numA_len r]
/-- all that were seen, as met -/
def uniqA (seen : List α) : List α → List α
  | [] => seen
  | x :: r => if x ∈ seen then uniqA seen r else uniqA (seen ++ [x]) r
theorem uniqA_pre : ∀ (xs seen : List α), ∃ t, uniqA seen xs = seen ++ t
  | [], seen => ⟨[], by simp [uniqA]⟩
  | x :: r, seen => by
    unfold uniqA
    split
    · exact uniqA_pre r seen
    · obtain ⟨t, e⟩ := uniqA_pre r (seen ++ [x])
      exact ⟨[x] ++ t, by rw [e, List.append_assoc]⟩
theorem idx_app {x : α} {s t : List α} (h : x ∈ s) : (s ++ t).idxOf x = s.idxOf x := by
  rw [List.idxOf_append, if_pos h]
theorem numA_eq : ∀ (xs seen : List α), numA seen xs = xs.map fun x => (uniqA seen xs).idxOf x
  | [], _ => rfl
  | x :: r, seen => by
    rw [List.map_cons]
    by_cases h : x ∈ seen
    · have e1 : numA seen (x :: r) = seen.idxOf x :: numA seen r := by rw [numA, if_pos h]
      have e2 : uniqA seen (x :: r) = uniqA seen r := by rw [uniqA, if_pos h]
      obtain ⟨t, e⟩ := uniqA_pre r seen
      rw [e1, e2, numA_eq r seen]
      congr 1
      rw [e, idx_app h]
    · have e1 : numA seen (x :: r) = seen.length :: numA (seen ++ [x]) r := by rw [numA, if_neg h]
      have e2 : uniqA seen (x :: r) = uniqA (seen ++ [x]) r := by rw [uniqA, if_neg h]
      obtain ⟨t, e⟩ := uniqA_pre r (seen ++ [x])
      rw [e1, e2, numA_eq r (seen ++ [x])]
      congr 1
      rw [e, idx_app (by simp), List.idxOf_append, if_neg h]
      simp
theorem uniqA_mem : ∀ (xs seen : List α) (x : α), x ∈ uniqA seen xs ↔ x ∈ seen ∨ x ∈ xs
  | [], seen, x => by simp [uniqA]
  | y :: r, seen, x => by
    unfold uniqA
    split
    · rename_i h
      rw [uniqA_mem r seen x, List.mem_cons]
      constructor
      · rintro (z | z)
        · exact .inl z
        · exact .inr (.inr z)
      · rintro (z | z | z)
        · exact .inl z
        · subst z; exact .inl h
        · exact .inr z
    · rw [uniqA_mem r _ x, List.mem_append, List.mem_singleton, List.mem_cons, or_assoc]
theorem uniqA_nodup : ∀ (xs seen : List α), seen.Nodup → (uniqA seen xs).Nodup
  | [], seen, h => h
  | y :: r, seen, h => by
    unfold uniqA
    split
    · exact uniqA_nodup r seen h
    · rename_i hn
      refine uniqA_nodup r _ ?_
      rw [List.nodup_append]
      exact ⟨h, by simp, fun a ha b hb e => by simp at hb; subst hb; subst e; exact hn ha⟩
theorem uniqA_map {β : Type} [DecidableEq β] (f : α → β) (hf : ∀ a b, f a = f b → a = b) : ∀ (xs seen : List α), uniqA (seen.map f) (xs.map f) = (uniqA seen xs).map f
  | [], _ => rfl
  | x :: r, seen => by
    rw [List.map_cons]
    unfold uniqA
    have : (f x ∈ seen.map f) ↔ x ∈ seen := by
      constructor
      · intro h
        obtain ⟨y, hy, e⟩ := List.mem_map.mp h
        rw [← hf _ _ e]; exact hy
      · exact fun h => List.mem_map_of_mem h
    by_cases h : x ∈ seen
    · rw [if_pos h, if_pos (this.mpr h)]
      exact uniqA_map f hf r seen
    · rw [if_neg h, if_neg fun z => h (this.mp z)]
      have := uniqA_map f hf r (seen ++ [x])
      rw [List.map_append] at this
      exact this
/-- numbers tell just which are alike -/
theorem idx_inj {l : List α} {x y : α} (hx : x ∈ l) (h : l.idxOf x = l.idxOf y) : x = y := by
  have h1 := List.idxOf_lt_length_iff.mpr hx
  have h2 : l.idxOf y < l.length := by rw [← h]; exact h1
  have e1 : l[l.idxOf x] = x := by simp
  have e2 : l[l.idxOf y] = y := by simp
  have : l[l.idxOf x] = l[l.idxOf y] := by simp only [h]
  rw [e1, e2] at this
  exact this
/-- numbers by an injective look -/
theorem numA_inj {β : Type} [DecidableEq β] (f : α → β) : ∀ (zs seen : List α), (∀ a ∈ seen ++ zs, ∀ b ∈ seen ++ zs, f a = f b → a = b) → numA (seen.map f) (zs.map f) = numA seen zs
  | [], _, _ => rfl
  | z :: r, seen, h => by
    rw [List.map_cons]
    have hz : z ∈ seen ++ z :: r := by simp
    have iff : f z ∈ seen.map f ↔ z ∈ seen := by
      constructor
      · intro q
        obtain ⟨y, hy, e⟩ := List.mem_map.mp q
        rw [← h y (List.mem_append_left _ hy) z hz e]; exact hy
      · exact fun q => List.mem_map_of_mem q
    have h2 : ∀ a ∈ (seen ++ [z]) ++ r, ∀ b ∈ (seen ++ [z]) ++ r, f a = f b → a = b := by
      intro a ha b hb
      exact h a (by simpa using ha) b (by simpa using hb)
    have h3 : ∀ a ∈ seen ++ r, ∀ b ∈ seen ++ r, f a = f b → a = b := by
      intro a ha b hb
      refine h a ?_ b ?_
      · rcases List.mem_append.mp ha with q | q
        · exact List.mem_append_left _ q
        · exact List.mem_append_right _ (List.mem_cons_of_mem _ q)
      · rcases List.mem_append.mp hb with q | q
        · exact List.mem_append_left _ q
        · exact List.mem_append_right _ (List.mem_cons_of_mem _ q)
    unfold numA
    by_cases q : z ∈ seen
    · rw [if_pos q, if_pos (iff.mpr q), numA_inj f r seen h3]
      congr 1
      -- the place is the same
      have : ∀ l : List α, (∀ a ∈ l, f a = f z → a = z) → (l.map f).idxOf (f z) = l.idxOf z := by
        intro l
        induction l with
        | nil => intro _; rfl
        | cons a l ih =>
          intro hl
          rw [List.map_cons, List.idxOf_cons, List.idxOf_cons]
          by_cases e : a = z
          · subst e; simp
          · have e2 : f a ≠ f z := fun w => e (hl a List.mem_cons_self w)
            rw [beq_eq_false_iff_ne.mpr e, beq_eq_false_iff_ne.mpr e2]
            simp [ih fun b hb => hl b (List.mem_cons_of_mem _ hb)]
      exact this seen fun a ha e => h a (List.mem_append_left _ ha) z hz e
    · rw [if_neg q, if_neg fun w => q (iff.mp w)]
      have := numA_inj f r (seen ++ [z]) h2
      rw [List.map_append] at this
      simp only [List.length_map]
      rw [← this]
      rfl
/-- two lists with like ones at like places have the same numbers -/
theorem numA_congr {β : Type} [DecidableEq β] {xs : List α} {ys : List β} (hl : xs.length = ys.length) (h : ∀ (i j : Nat) (a b : α) (c d : β), xs[i]? = some a → xs[j]? = some b → ys[i]? = some c → ys[j]? = some d → (a = b ↔ c = d)) : numA [] xs = numA [] ys := by
  have mem : ∀ p ∈ xs.zip ys, ∃ i : Nat, xs[i]? = some p.1 ∧ ys[i]? = some p.2 := by
    intro p hp
    obtain ⟨i, hi⟩ := List.getElem?_of_mem hp
    rw [List.getElem?_zip_eq_some] at hi
    exact ⟨i, hi⟩
  have e1 : (xs.zip ys).map Prod.fst = xs := List.map_fst_zip (by omega)
  have e2 : (xs.zip ys).map Prod.snd = ys := List.map_snd_zip (by omega)
  have h1 := numA_inj (Prod.fst : α × β → α) (xs.zip ys) [] (by
    rintro p hp q hq e
    obtain ⟨i, i1, i2⟩ := mem p (by simpa using hp)
    obtain ⟨j, j1, j2⟩ := mem q (by simpa using hq)
    exact Prod.ext e ((h i j _ _ _ _ i1 j1 i2 j2).mp e))
  have h2 := numA_inj (Prod.snd : α × β → β) (xs.zip ys) [] (by
    rintro p hp q hq e
    obtain ⟨i, i1, i2⟩ := mem p (by simpa using hp)
    obtain ⟨j, j1, j2⟩ := mem q (by simpa using hq)
    exact Prod.ext ((h i j _ _ _ _ i1 j1 i2 j2).mpr e) e)
  rw [e1] at h1
  rw [e2] at h2
  have h1 : numA [] xs = numA [] (xs.zip ys) := h1
  have h2 : numA [] ys = numA [] (xs.zip ys) := h2
  rw [h1, h2]
/-! ### few or many -/
theorem erase_len {l : List α} {x : α} (h : x ∈ l) : (l.erase x).length + 1 = l.length := by
  have := List.length_erase_of_mem h
  have : 0 < l.length := List.length_pos_of_mem h
  omega
theorem cover_le : ∀ (V L : List α), V.Nodup → (∀ v ∈ V, v ∈ L) → V.length ≤ L.length
  | [], _, _, _ => Nat.zero_le _
  | v :: V, L, n, h => by
    rw [List.nodup_cons] at n
    have hv := h v List.mem_cons_self
    have := cover_le V (L.erase v) n.2 fun u hu => (List.mem_erase_of_ne fun e => n.1 (by rw [← e]; exact hu)).mpr (h u (List.mem_cons_of_mem _ hu))
    have := erase_len hv
    simp only [List.length_cons]
    omega
theorem cover_nodup : ∀ (V L : List α), V.Nodup → (∀ v ∈ V, v ∈ L) → L.length ≤ V.length → L.Nodup
  | [], L, _, _, hl => by
    have : L = [] := List.length_eq_zero_iff.mp (by simpa using hl)
    rw [this]; exact List.nodup_nil
  | v :: V, L, n, h, hl => by
    rw [List.nodup_cons] at n
    have hv := h v List.mem_cons_self
    have e1 := erase_len hv
    simp only [List.length_cons] at hl
    have sub : ∀ u ∈ V, u ∈ L.erase v := fun u hu => (List.mem_erase_of_ne fun e => n.1 (by rw [← e]; exact hu)).mpr (h u (List.mem_cons_of_mem _ hu))
    have ih := cover_nodup V (L.erase v) n.2 sub (by omega)
    have nv : v ∉ L.erase v := fun hv2 => by
      have e2 := erase_len hv2
      have := cover_le V ((L.erase v).erase v) n.2 fun u hu => (List.mem_erase_of_ne fun e => n.1 (by rw [← e]; exact hu)).mpr (sub u hu)
      omega
    have p : L.Perm (v :: L.erase v) := List.perm_cons_erase hv
    rw [p.nodup_iff, List.nodup_cons]
    exact ⟨nv, ih⟩
theorem nodup_at {l : List α} (n : l.Nodup) {i j : Nat} {a : α} (hi : l[i]? = some a) (hj : l[j]? = some a) : i = j := by
  obtain ⟨hi1, hi2⟩ := List.getElem?_eq_some_iff.mp hi
  obtain ⟨hj1, hj2⟩ := List.getElem?_eq_some_iff.mp hj
  rw [List.nodup_iff_pairwise_ne] at n
  rcases Nat.lt_trichotomy i j with z | z | z
  · have := List.pairwise_iff_getElem.mp n i j hi1 hj1 z
    rw [hi2, hj2] at this
    exact absurd rfl this
  · exact z
  · have := List.pairwise_iff_getElem.mp n j i hj1 hi1 z
    rw [hi2, hj2] at this
    exact absurd rfl this
theorem uniqA_len_le (xs : List α) : (uniqA [] xs).length ≤ xs.length := cover_le _ _ (uniqA_nodup xs [] List.nodup_nil) fun v hv => by simpa using (uniqA_mem xs [] v).mp hv
/-- alike, by their numbers -/
theorem numA_iff {xs : List α} {i j : Nat} {a b : α} (ha : xs[i]? = some a) (hb : xs[j]? = some b) : (numA [] xs).getD i 0 = (numA [] xs).getD j 0 ↔ a = b := by
  rw [numA_eq]
  simp only [List.getD_eq_getElem?_getD, List.getElem?_map, ha, hb, Option.map_some, Option.getD_some]
  constructor
  · exact idx_inj ((uniqA_mem xs [] a).mpr (.inr (List.mem_of_getElem? ha)))
  · intro e; rw [e]
theorem numA_lt {xs : List α} {c : Nat} (h : c ∈ numA [] xs) : c < (uniqA [] xs).length := by
  rw [numA_eq] at h
  obtain ⟨x, hx, rfl⟩ := List.mem_map.mp h
  exact List.idxOf_lt_length_iff.mpr ((uniqA_mem xs [] x).mpr (.inr hx))
theorem numA_can (xs : List α) : numA [] (numA [] xs) = numA [] xs := by
  refine numA_congr (by rw [numA_len]) fun i j a b c d h1 h2 h3 h4 => ?_
  have := numA_iff h3 h4
  rw [List.getD_eq_getElem?_getD, List.getD_eq_getElem?_getD, h1, h2] at this
  exact this
/-- how many are unlike -/
def cnt (xs : List α) : Nat := (uniqA [] xs).length
end
theorem uniq_num {α : Type} [DecidableEq α] (xs : List α) : (uniqA [] (numA [] xs)).length = (uniqA [] xs).length := by
  have h1 : (uniqA [] (numA [] xs)).length ≤ (uniqA [] xs).length := by
    have := cover_le (uniqA [] (numA [] xs)) ((uniqA [] xs).map fun x => (uniqA [] xs).idxOf x) (uniqA_nodup _ [] List.nodup_nil) fun v hv => by
      rw [uniqA_mem] at hv
      rcases hv with z | z
      · cases z
      · rw [numA_eq] at z
        obtain ⟨x, hx, rfl⟩ := List.mem_map.mp z
        exact List.mem_map.mpr ⟨x, (uniqA_mem xs [] x).mpr (.inr hx), rfl⟩
    simpa using this
  have h2 : (uniqA [] xs).length ≤ (uniqA [] (numA [] xs)).length := by
    have nd : ((uniqA [] xs).map fun x => (uniqA [] xs).idxOf x).Nodup := by
      rw [List.nodup_iff_pairwise_ne, List.pairwise_map]
      refine (List.nodup_iff_pairwise_ne.mp (uniqA_nodup xs [] List.nodup_nil)).imp_of_mem fun {a b} ha hb ne e => ne (idx_inj ha e)
    have := cover_le _ (uniqA [] (numA [] xs)) nd fun v hv => by
      obtain ⟨x, hx, rfl⟩ := List.mem_map.mp hv
      rw [uniqA_mem, numA_eq]
      rw [uniqA_mem] at hx
      rcases hx with z | z
      · cases z
      · exact .inr (List.mem_map.mpr ⟨x, z, rfl⟩)
    simpa using this
  omega
/-- the greatest number -/
theorem numA_max {α : Type} [DecidableEq α] {xs : List α} (h : xs ≠ []) : (uniqA [] xs).length - 1 ∈ numA [] xs := by
  have hl : 0 < (uniqA [] xs).length := by
    cases xs with
    | nil => exact absurd rfl h
    | cons x r => exact List.length_pos_of_mem ((uniqA_mem (x :: r) [] x).mpr (.inr List.mem_cons_self))
  have nd := uniqA_nodup xs [] List.nodup_nil
  have hx : (uniqA [] xs)[(uniqA [] xs).length - 1]'(by omega) ∈ uniqA [] xs := List.getElem_mem _
  rw [numA_eq]
  refine List.mem_map.mpr ⟨(uniqA [] xs)[(uniqA [] xs).length - 1]'(by omega), ?_, ?_⟩
  · rcases (uniqA_mem xs [] _).mp hx with z | z
    · cases z
    · exact z
  · have hi := List.idxOf_lt_length_iff.mpr hx
    have e1 : (uniqA [] xs)[(uniqA [] xs).idxOf ((uniqA [] xs)[(uniqA [] xs).length - 1]'(by omega))]? = some ((uniqA [] xs)[(uniqA [] xs).length - 1]'(by omega)) := by
      rw [List.getElem?_eq_getElem hi]
      simp
    exact nodup_at nd e1 (List.getElem?_eq_getElem _)
/-! ### refining -/
def keyAt (nx : List (List Nat)) (c : List Nat) (s : Nat) : Nat × List Nat := (c.getD s 0, (nx.getD s []).map fun o => c.getD o 0)
def keysL (nx : List (List Nat)) (c : List Nat) : List (Nat × List Nat) := (List.range nx.length).map (keyAt nx c)
def refn (nx : List (List Nat)) (c : List Nat) : List Nat := numA [] (keysL nx c)
def refK (nx : List (List Nat)) (c : List Nat) : Nat → List Nat
  | 0 => c
  | k + 1 => refn nx (refK nx c k)
theorem keysL_len (nx : List (List Nat)) (c : List Nat) : (keysL nx c).length = nx.length := by simp [keysL]
theorem keysL_at {nx : List (List Nat)} {c : List Nat} {s : Nat} (h : s < nx.length) : (keysL nx c)[s]? = some (keyAt nx c s) := by
  unfold keysL
  rw [List.getElem?_map, List.getElem?_range h]
  rfl
theorem refn_len (nx : List (List Nat)) (c : List Nat) : (refn nx c).length = nx.length := by unfold refn; rw [numA_len, keysL_len]
theorem refn_iff {nx : List (List Nat)} {c : List Nat} {s t : Nat} (hs : s < nx.length) (ht : t < nx.length) : (refn nx c).getD s 0 = (refn nx c).getD t 0 ↔ keyAt nx c s = keyAt nx c t := numA_iff (keysL_at hs) (keysL_at ht)
theorem refn_can (nx : List (List Nat)) (c : List Nat) : numA [] (refn nx c) = refn nx c := numA_can _
theorem refn_cnt (nx : List (List Nat)) (c : List Nat) : cnt (refn nx c) = cnt (keysL nx c) := uniq_num _
/-- no finer: the same -/
theorem ref_stop {nx : List (List Nat)} {c : List Nat} (hl : c.length = nx.length) (hc : numA [] c = c) (h : cnt (refn nx c) ≤ cnt c) : refn nx c = c := by
  rw [refn_cnt] at h
  have nd := cover_nodup (uniqA [] c) ((uniqA [] (keysL nx c)).map Prod.fst) (uniqA_nodup c [] List.nodup_nil) (fun v hv => by
    rcases (uniqA_mem c [] v).mp hv with z | z
    · cases z
    · obtain ⟨s, hs⟩ := List.getElem?_of_mem z
      have hs' : s < nx.length := by rw [← hl]; exact (List.getElem?_eq_some_iff.mp hs).1
      refine List.mem_map.mpr ⟨keyAt nx c s, (uniqA_mem _ [] _).mpr (.inr (List.mem_of_getElem? (keysL_at hs'))), ?_⟩
      show c.getD s 0 = v
      rw [List.getD_eq_getElem?_getD, hs]; rfl) (by rw [List.length_map]; exact h)
  have inj : ∀ p ∈ uniqA [] (keysL nx c), ∀ q ∈ uniqA [] (keysL nx c), p.1 = q.1 → p = q := by
    intro p hp q hq e
    rw [List.nodup_iff_pairwise_ne, List.pairwise_map] at nd
    obtain ⟨i, hi⟩ := List.getElem?_of_mem hp
    obtain ⟨j, hj⟩ := List.getElem?_of_mem hq
    obtain ⟨hi1, hi2⟩ := List.getElem?_eq_some_iff.mp hi
    obtain ⟨hj1, hj2⟩ := List.getElem?_eq_some_iff.mp hj
    rcases Nat.lt_trichotomy i j with z | z | z
    · have := List.pairwise_iff_getElem.mp nd i j hi1 hj1 z
      rw [hi2, hj2] at this
      exact absurd e this
    · subst z
      rw [hi] at hj; cases hj; rfl
    · have := List.pairwise_iff_getElem.mp nd j i hj1 hi1 z
      rw [hi2, hj2] at this
      exact absurd e.symm this
  unfold refn
  refine Eq.trans (numA_congr (by rw [keysL_len, hl]) fun i j a b x y h1 h2 h3 h4 => ?_) hc
  have hi : i < nx.length := by rw [← hl]; exact (List.getElem?_eq_some_iff.mp h3).1
  have hj : j < nx.length := by rw [← hl]; exact (List.getElem?_eq_some_iff.mp h4).1
  have ex : a.1 = x := by
    rw [keysL_at hi] at h1; cases h1
    show c.getD i 0 = x
    rw [List.getD_eq_getElem?_getD, h3]; rfl
  have ey : b.1 = y := by
    rw [keysL_at hj] at h2; cases h2
    show c.getD j 0 = y
    rw [List.getD_eq_getElem?_getD, h4]; rfl
  rw [← ex, ← ey]
  exact ⟨fun e => by rw [e], inj a ((uniqA_mem _ [] _).mpr (.inr (List.mem_of_getElem? h1))) b ((uniqA_mem _ [] _).mpr (.inr (List.mem_of_getElem? h2)))⟩
section
variable {nx : List (List Nat)} {c : List Nat}
theorem refK_len (hl : c.length = nx.length) : ∀ k, (refK nx c k).length = nx.length
  | 0 => hl
  | k + 1 => refn_len _ _
theorem refK_can (hc : numA [] c = c) : ∀ k, numA [] (refK nx c k) = refK nx c k
  | 0 => hc
  | k + 1 => refn_can _ _
theorem refK_stay {k : Nat} (h : refn nx (refK nx c k) = refK nx c k) : ∀ m, refK nx c (k + m) = refK nx c k
  | 0 => rfl
  | m + 1 => by
    show refn nx (refK nx c (k + m)) = _
    rw [refK_stay h m, h]
theorem refK_or (hl : c.length = nx.length) (hc : numA [] c = c) (h0 : 0 < nx.length) : ∀ k, refn nx (refK nx c k) = refK nx c k ∨ k + 1 ≤ cnt (refK nx c k)
  | 0 => .inr (by
    cases c with
    | nil => simp at hl; omega
    | cons x r => exact List.length_pos_of_mem ((uniqA_mem (x :: r) [] x).mpr (.inr List.mem_cons_self)))
  | k + 1 => by
    rcases refK_or hl hc h0 k with z | z
    · left
      have e : refK nx c (k + 1) = refK nx c k := z
      rw [e]; exact z
    · by_cases q : cnt (refn nx (refK nx c k)) ≤ cnt (refK nx c k)
      · left
        have e : refn nx (refK nx c k) = refK nx c k := ref_stop (refK_len hl k) (refK_can hc k) q
        have e2 : refK nx c (k + 1) = refK nx c k := e
        rw [e2]; exact e
      · right
        show k + 1 + 1 ≤ cnt (refn nx (refK nx c k))
        omega
/-- the classes -/
def cls (nx : List (List Nat)) (c : List Nat) : List Nat := refK nx c nx.length
theorem cls_stop (hl : c.length = nx.length) (hc : numA [] c = c) (h0 : 0 < nx.length) : refn nx (cls nx c) = cls nx c := by
  rcases refK_or hl hc h0 nx.length with z | z
  · exact z
  · have : cnt (refK nx c nx.length) ≤ nx.length := by
      have := uniqA_len_le (refK nx c nx.length)
      rw [refK_len hl] at this
      exact this
    omega
theorem refK_cls (hl : c.length = nx.length) (hc : numA [] c = c) (h0 : 0 < nx.length) {k : Nat} (h : cnt (refK nx c (k + 1)) ≤ cnt (refK nx c k)) : refK nx c (k + 1) = cls nx c := by
  have st : refn nx (refK nx c k) = refK nx c k := ref_stop (refK_len hl k) (refK_can hc k) h
  have e1 : refK nx c (k + 1) = refK nx c k := st
  rw [e1]
  by_cases q : k ≤ nx.length
  · have := refK_stay st (nx.length - k)
    rw [show k + (nx.length - k) = nx.length from by omega] at this
    exact this.symm
  · have := refK_stay (cls_stop hl hc h0) (k - nx.length)
    rw [show nx.length + (k - nx.length) = k from by omega] at this
    exact this
theorem refK_ge (hl : c.length = nx.length) (hc : numA [] c = c) (h0 : 0 < nx.length) {k : Nat} (h : nx.length ≤ k) : refK nx c k = cls nx c := by
  have := refK_stay (cls_stop hl hc h0) (k - nx.length)
  rw [show nx.length + (k - nx.length) = k from by omega] at this
  exact this
/-- the number of classes grows till it stops: so few turns -/
theorem cnt_le (hl : c.length = nx.length) (k : Nat) : cnt (refK nx c k) ≤ nx.length := by
  have := uniqA_len_le (refK nx c k)
  rw [refK_len hl] at this
  exact this
end
end Mp
namespace Mp
/-! # what spots do behind rows; spots as come to; the least machine: plain -/
structure Mch (α : Type) where
  nx : List (List Nat)
  ws : List α
structure MOk {α : Type} (m : Mch α) (wide : Nat) : Prop where
  pos : 0 < m.nx.length
  ends : m.ws.length = m.nx.length
  row : ∀ s, s < m.nx.length → (m.nx.getD s []).length = wide ∧ ∀ o ∈ m.nx.getD s [], o < m.nx.length
def nextJ {α : Type} (m : Mch α) (s j : Nat) : Nat := (m.nx.getD s []).getD j 0
/-- the word behind a row -/
def beh {α : Type} (m : Mch α) : List Nat → Nat → Option α
  | [], s => m.ws[s]?
  | j :: r, s => beh m r (nextJ m s j)
def RowOk (wide : Nat) (r : List Nat) : Prop := ∀ j ∈ r, j < wide
section
variable {α : Type} {m : Mch α} {wide : Nat}
theorem next_lt (M : MOk m wide) {s j : Nat} (hs : s < m.nx.length) (hj : j < wide) : nextJ m s j < m.nx.length ∧ (m.nx.getD s [])[j]? = some (nextJ m s j) := by
  obtain ⟨h1, h2⟩ := M.row s hs
  have hj' : j < (m.nx.getD s []).length := by omega
  have e : (m.nx.getD s [])[j]? = some (nextJ m s j) := by
    unfold nextJ
    rw [List.getD_eq_getElem?_getD (l := m.nx.getD s []), List.getElem?_eq_getElem hj']
    rfl
  exact ⟨h2 _ (List.mem_of_getElem? e), e⟩
end
section
variable {α : Type} [DecidableEq α] {m : Mch α} {wide : Nat}
def c0 (m : Mch α) : List Nat := numA [] m.ws
def clsM (m : Mch α) : List Nat := cls m.nx (c0 m)
/-- the class of a spot -/
def grp (m : Mch α) (s : Nat) : Nat := (clsM m).getD s 0
theorem refK_beh (M : MOk m wide) : ∀ (k s t : Nat), s < m.nx.length → t < m.nx.length → ((refK m.nx (c0 m) k).getD s 0 = (refK m.nx (c0 m) k).getD t 0 ↔ ∀ r, RowOk wide r → r.length ≤ k → beh m r s = beh m r t)
  | 0, s, t, hs, ht => by
    have h1 : m.ws[s]? = some (m.ws[s]'(by rw [M.ends]; exact hs)) := List.getElem?_eq_getElem _
    have h2 : m.ws[t]? = some (m.ws[t]'(by rw [M.ends]; exact ht)) := List.getElem?_eq_getElem _
    show (numA [] m.ws).getD s 0 = (numA [] m.ws).getD t 0 ↔ _
    rw [numA_iff h1 h2]
    constructor
    · intro e r _ hr
      have : r = [] := List.length_eq_zero_iff.mp (by omega)
      subst this
      show m.ws[s]? = m.ws[t]?
      rw [h1, h2, e]
    · intro h
      have : m.ws[s]? = m.ws[t]? := h [] (fun _ z => by cases z) (Nat.le_refl _)
      rw [h1, h2] at this
      exact Option.some.inj this
  | k + 1, s, t, hs, ht => by
    show (refn m.nx (refK m.nx (c0 m) k)).getD s 0 = (refn m.nx (refK m.nx (c0 m) k)).getD t 0 ↔ _
    rw [refn_iff hs ht]
    obtain ⟨l1, b1⟩ := M.row s hs
    obtain ⟨l2, b2⟩ := M.row t ht
    constructor
    · intro e r hr hl
      have e1 : (refK m.nx (c0 m) k).getD s 0 = (refK m.nx (c0 m) k).getD t 0 := congrArg Prod.fst e
      have e2 : (m.nx.getD s []).map (fun o => (refK m.nx (c0 m) k).getD o 0) = (m.nx.getD t []).map (fun o => (refK m.nx (c0 m) k).getD o 0) := congrArg Prod.snd e
      cases r with
      | nil => exact (refK_beh M k s t hs ht).mp e1 [] hr (Nat.zero_le _)
      | cons j r =>
        have hj := hr j List.mem_cons_self
        obtain ⟨n1, g1⟩ := next_lt M hs hj
        obtain ⟨n2, g2⟩ := next_lt M ht hj
        have e3 := congrArg (fun l => l[j]?) e2
        simp only [List.getElem?_map, g1, g2, Option.map_some, Option.some.injEq] at e3
        exact (refK_beh M k _ _ n1 n2).mp e3 r (fun i hi => hr i (List.mem_cons_of_mem _ hi)) (by simpa using hl)
    · intro h
      unfold keyAt
      rw [Prod.mk.injEq]
      refine ⟨(refK_beh M k s t hs ht).mpr fun r hr hl => h r hr (by omega), ?_⟩
      refine List.ext_getElem? fun j => ?_
      rw [List.getElem?_map, List.getElem?_map]
      by_cases hj : j < wide
      · obtain ⟨n1, g1⟩ := next_lt M hs hj
        obtain ⟨n2, g2⟩ := next_lt M ht hj
        rw [g1, g2]
        simp only [Option.map_some, Option.some.injEq]
        refine (refK_beh M k _ _ n1 n2).mpr fun r hr hl => h (j :: r) (fun i hi => ?_) (by simpa using hl)
        rcases List.mem_cons.mp hi with rfl | hi
        · exact hj
        · exact hr i hi
      · rw [List.getElem?_eq_none (by omega), List.getElem?_eq_none (by omega)]
theorem c0_len (M : MOk m wide) : (c0 m).length = m.nx.length := by unfold c0; rw [numA_len, M.ends]
theorem c0_can (m : Mch α) : numA [] (c0 m) = c0 m := numA_can _
/-- alike: behind every row -/
def Alike {α β : Type} (m : Mch α) (s : Nat) (m' : Mch α) (t : Nat) (wide : Nat) : Prop := ∀ r, RowOk wide r → beh m r s = beh m' r t
theorem grp_iff (M : MOk m wide) {s t : Nat} (hs : s < m.nx.length) (ht : t < m.nx.length) : grp m s = grp m t ↔ ∀ r, RowOk wide r → beh m r s = beh m r t := by
  constructor
  · intro e r hr
    by_cases h : r.length ≤ m.nx.length
    · exact (refK_beh M m.nx.length s t hs ht).mp e r hr h
    · refine (refK_beh M r.length s t hs ht).mp ?_ r hr (Nat.le_refl _)
      rw [refK_ge (c0_len M) (c0_can m) M.pos (by omega)]
      exact e
  · intro h
    exact (refK_beh M m.nx.length s t hs ht).mpr fun r hr _ => h r hr
theorem grp_lt (M : MOk m wide) {s : Nat} (hs : s < m.nx.length) : grp m s < m.nx.length := by
  have st := cls_stop (c0_len M) (c0_can m) M.pos
  have hl : (cls m.nx (c0 m)).length = m.nx.length := refK_len (c0_len M) _
  have hm : grp m s ∈ refn m.nx (cls m.nx (c0 m)) := by
    rw [st]
    unfold grp clsM
    rw [List.getD_eq_getElem?_getD, List.getElem?_eq_getElem (by rw [hl]; exact hs)]
    exact List.getElem_mem _
  have h1 := numA_lt hm
  have h2 := uniqA_len_le (keysL m.nx (cls m.nx (c0 m)))
  rw [keysL_len] at h2
  omega
end
/-! ### spots as they are come to -/
section
variable (g : Nat → Nat) (nx : List (List Nat))
def stepO (sp : List Nat) (o : Nat) : List Nat := if g o ∈ sp.map g then sp else sp ++ [o]
def rowO (sp row : List Nat) : List Nat := row.foldl (stepO g) sp
def ordN : Nat → List Nat
  | 0 => [0]
  | k + 1 => match (ordN k)[k]? with
    | some s => rowO g (ordN k) (nx.getD s [])
    | none => ordN k
end
section
variable {g : Nat → Nat} {nx : List (List Nat)}
theorem stepO_pre (sp : List Nat) (o : Nat) : ∃ t, stepO g sp o = sp ++ t := by
  unfold stepO
  split
  · exact ⟨[], by simp⟩
  · exact ⟨[o], rfl⟩
theorem rowO_pre : ∀ (row sp : List Nat), ∃ t, rowO g sp row = sp ++ t
  | [], sp => ⟨[], by simp [rowO]⟩
  | o :: r, sp => by
    obtain ⟨t1, e1⟩ := stepO_pre (g := g) sp o
    obtain ⟨t2, e2⟩ := rowO_pre r (stepO g sp o)
    refine ⟨t1 ++ t2, ?_⟩
    show rowO g (stepO g sp o) r = _
    rw [e2, e1, List.append_assoc]
theorem ordN_pre (k : Nat) : ∃ t, ordN g nx (k + 1) = ordN g nx k ++ t := by
  show ∃ t, (match (ordN g nx k)[k]? with | some s => rowO g (ordN g nx k) (nx.getD s []) | none => ordN g nx k) = _
  cases (ordN g nx k)[k]? with
  | none => exact ⟨[], by simp⟩
  | some s => exact rowO_pre _ _
theorem ordN_mono {k : Nat} : ∀ j, ∃ t, ordN g nx (k + j) = ordN g nx k ++ t
  | 0 => ⟨[], by simp⟩
  | j + 1 => by
    obtain ⟨t1, e1⟩ := ordN_mono (k := k) j
    obtain ⟨t2, e2⟩ := ordN_pre (g := g) (nx := nx) (k + j)
    refine ⟨t1 ++ t2, ?_⟩
    rw [show k + (j + 1) = k + j + 1 from rfl, e2, e1, List.append_assoc]
theorem stepO_nodup {sp : List Nat} {o : Nat} (h : (sp.map g).Nodup) : ((stepO g sp o).map g).Nodup := by
  unfold stepO
  split
  · exact h
  · rename_i hn
    rw [List.map_append, List.nodup_append]
    exact ⟨h, by simp, fun a ha b hb e => by simp at hb; subst hb; subst e; exact hn ha⟩
theorem rowO_nodup : ∀ (row : List Nat) {sp : List Nat}, (sp.map g).Nodup → ((rowO g sp row).map g).Nodup
  | [], _, h => h
  | o :: r, _, h => rowO_nodup r (stepO_nodup h)
theorem ordN_nodup : ∀ k, ((ordN g nx k).map g).Nodup
  | 0 => by simp [ordN]
  | k + 1 => by
    show ((match (ordN g nx k)[k]? with | some s => rowO g (ordN g nx k) (nx.getD s []) | none => ordN g nx k).map g).Nodup
    cases (ordN g nx k)[k]? with
    | none => exact ordN_nodup k
    | some s => exact rowO_nodup _ (ordN_nodup k)
theorem stepO_mem {sp : List Nat} {o x : Nat} (h : x ∈ stepO g sp o) : x ∈ sp ∨ x = o := by
  unfold stepO at h
  split at h
  · exact .inl h
  · simpa using h
theorem rowO_mem : ∀ (row : List Nat) {sp : List Nat} {x : Nat}, x ∈ rowO g sp row → x ∈ sp ∨ x ∈ row
  | [], _, _, h => .inl h
  | o :: r, sp, x, h => by
    rcases rowO_mem r (show x ∈ rowO g (stepO g sp o) r from h) with z | z
    · rcases stepO_mem z with z | z
      · exact .inl z
      · subst z; exact .inr List.mem_cons_self
    · exact .inr (List.mem_cons_of_mem _ z)
theorem stepO_has (sp : List Nat) (o : Nat) : g o ∈ (stepO g sp o).map g := by
  unfold stepO
  split
  · assumption
  · simp
theorem rowO_has : ∀ (row : List Nat) (sp : List Nat) {o : Nat}, o ∈ row → g o ∈ (rowO g sp row).map g
  | x :: r, sp, o, h => by
    show g o ∈ (rowO g (stepO g sp x) r).map g
    rcases List.mem_cons.mp h with rfl | h
    · obtain ⟨t, e⟩ := rowO_pre (g := g) r (stepO g sp o)
      rw [e, List.map_append]
      exact List.mem_append_left _ (stepO_has sp o)
    · exact rowO_has r _ h
variable {N : Nat} (hb : ∀ s, s < N → ∀ o ∈ nx.getD s [], o < N)
include hb
theorem ordN_lt (h0 : 0 < N) : ∀ k, ∀ s ∈ ordN g nx k, s < N
  | 0, s, h => by simp [ordN] at h; omega
  | k + 1, s, h => by
    have h : s ∈ (match (ordN g nx k)[k]? with | some s => rowO g (ordN g nx k) (nx.getD s []) | none => ordN g nx k) := h
    cases e : (ordN g nx k)[k]? with
    | none => rw [e] at h; exact ordN_lt h0 k s h
    | some a =>
      rw [e] at h
      rcases rowO_mem _ h with z | z
      · exact ordN_lt h0 k s z
      · exact hb a (ordN_lt h0 k a (List.mem_of_getElem? e)) s z
variable (hg : ∀ s, s < N → g s < N)
include hg
theorem ordN_len (h0 : 0 < N) (k : Nat) : (ordN g nx k).length ≤ N := by
  have := cover_le _ (List.range N) (ordN_nodup (g := g) (nx := nx) k) fun v hv => by
    obtain ⟨s, hs, rfl⟩ := List.mem_map.mp hv
    exact List.mem_range.mpr (hg s (ordN_lt hb h0 k s hs))
  simpa using this
theorem ordN_end (h0 : 0 < N) : ∀ j, ordN g nx (N + j) = ordN g nx N
  | 0 => rfl
  | j + 1 => by
    show (match (ordN g nx (N + j))[N + j]? with | some s => rowO g (ordN g nx (N + j)) (nx.getD s []) | none => ordN g nx (N + j)) = _
    have := ordN_len hb hg h0 (N + j)
    rw [List.getElem?_eq_none (by omega)]
    exact ordN_end h0 j
/-- closed: what the spots lead to was come to -/
theorem ordN_closed (h0 : 0 < N) {i s o : Nat} (hi : (ordN g nx N)[i]? = some s) (ho : o ∈ nx.getD s []) : g o ∈ (ordN g nx N).map g := by
  have hl := (List.getElem?_eq_some_iff.mp hi).1
  have hN := ordN_len hb hg h0 N
  -- the spot at i stood there when it was asked
  have hlen : ∀ k, k ≤ N → (ordN g nx k)[i]? = none → ∀ j, k ≤ i → (k + j ≤ i → (ordN g nx (k + j)) = ordN g nx (k + j)) := fun _ _ _ _ _ _ => rfl
  have there : (ordN g nx i)[i]? = some s ∨ (ordN g nx i)[i]? = none := by
    obtain ⟨t, e⟩ := ordN_mono (g := g) (nx := nx) (k := i) (N - i)
    rw [show i + (N - i) = N from by omega] at e
    by_cases q : i < (ordN g nx i).length
    · left
      rw [e, List.getElem?_append_left q] at hi
      exact hi
    · right
      exact List.getElem?_eq_none (by omega)
  rcases there with z | z
  · have e1 : ordN g nx (i + 1) = rowO g (ordN g nx i) (nx.getD s []) := by
      show (match (ordN g nx i)[i]? with | some s => rowO g (ordN g nx i) (nx.getD s []) | none => ordN g nx i) = _
      rw [z]
    have h1 := rowO_has (g := g) _ (ordN g nx i) ho
    rw [← e1] at h1
    obtain ⟨t, e⟩ := ordN_mono (g := g) (nx := nx) (k := i + 1) (N - (i + 1))
    rw [show i + 1 + (N - (i + 1)) = N from by omega] at e
    rw [e, List.map_append]
    exact List.mem_append_left _ h1
  · -- nothing was asked at i: it has stopped
    exfalso
    have stop : ∀ j, ordN g nx (i + j) = ordN g nx i := by
      intro j
      induction j with
      | zero => rfl
      | succ j ih =>
        show (match (ordN g nx (i + j))[i + j]? with | some s => rowO g (ordN g nx (i + j)) (nx.getD s []) | none => ordN g nx (i + j)) = _
        rw [ih]
        have : (ordN g nx i).length ≤ i := by
          rcases Nat.lt_or_ge i (ordN g nx i).length with w | w
          · rw [List.getElem?_eq_getElem w] at z; cases z
          · exact w
        rw [List.getElem?_eq_none (by omega)]
    have e := stop (N - i)
    rw [show i + (N - i) = N from by omega] at e
    rw [e, z] at hi
    cases hi
end
/-! ### the least machine -/
section
variable {α : Type} [DecidableEq α]
def ordM (m : Mch α) : List Nat := ordN (grp m) m.nx m.nx.length
def leastM (m : Mch α) : Mch α := ⟨(ordM m).map fun s => (m.nx.getD s []).map fun o => ((ordM m).map (grp m)).idxOf (grp m o), (ordM m).filterMap fun s => m.ws[s]?⟩
variable {m m' : Mch α} {wide : Nat}
theorem MOk.b (M : MOk m wide) : ∀ s, s < m.nx.length → ∀ o ∈ m.nx.getD s [], o < m.nx.length := fun s hs => (M.row s hs).2
theorem grp_b (M : MOk m wide) : ∀ s, s < m.nx.length → grp m s < m.nx.length := fun s hs => grp_lt M hs
/-- spots of two machines that are alike, one by one -/
def Cor (m m' : Mch α) (wide : Nat) (sp sp' : List Nat) : Prop := sp.length = sp'.length ∧ ∀ (i a b : Nat), sp[i]? = some a → sp'[i]? = some b → a < m.nx.length ∧ b < m'.nx.length ∧ ∀ r, RowOk wide r → beh m r a = beh m' r b
theorem cor_idx (M : MOk m wide) (M' : MOk m' wide) {o p : Nat} (ho : o < m.nx.length) (hp : p < m'.nx.length) (h : ∀ r, RowOk wide r → beh m r o = beh m' r p) : ∀ {sp sp' : List Nat}, Cor m m' wide sp sp' → (sp.map (grp m)).idxOf (grp m o) = (sp'.map (grp m')).idxOf (grp m' p)
  | [], [], _ => rfl
  | [], _ :: _, c => by have := c.1; simp at this
  | _ :: _, [], c => by have := c.1; simp at this
  | a :: sp, b :: sp', c => by
    have ih := cor_idx M M' ho hp h (sp := sp) (sp' := sp') ⟨by have := c.1; simpa using this, fun i x y hx hy => c.2 (i + 1) x y (by simpa using hx) (by simpa using hy)⟩
    obtain ⟨a1, b1, ab⟩ := c.2 0 a b rfl rfl
    have e : grp m a = grp m o ↔ grp m' b = grp m' p := by
      rw [grp_iff M a1 ho, grp_iff M' b1 hp]
      constructor
      · intro k r hr; rw [← ab r hr, ← h r hr]; exact k r hr
      · intro k r hr; rw [ab r hr, h r hr]; exact k r hr
    rw [List.map_cons, List.map_cons, List.idxOf_cons, List.idxOf_cons, ih]
    by_cases q : grp m a = grp m o
    · rw [beq_iff_eq.mpr q, beq_iff_eq.mpr (e.mp q)]
    · rw [beq_eq_false_iff_ne.mpr q, beq_eq_false_iff_ne.mpr fun w => q (e.mpr w)]
theorem cor_step (M : MOk m wide) (M' : MOk m' wide) {o p : Nat} (ho : o < m.nx.length) (hp : p < m'.nx.length) (h : ∀ r, RowOk wide r → beh m r o = beh m' r p) {sp sp' : List Nat} (c : Cor m m' wide sp sp') : Cor m m' wide (stepO (grp m) sp o) (stepO (grp m') sp' p) := by
  have ei := cor_idx M M' ho hp h c
  have iff : grp m o ∈ sp.map (grp m) ↔ grp m' p ∈ sp'.map (grp m') := by
    rw [← List.idxOf_lt_length_iff, ← List.idxOf_lt_length_iff, ei, List.length_map, List.length_map, c.1]
  unfold stepO
  by_cases q : grp m o ∈ sp.map (grp m)
  · rw [if_pos q, if_pos (iff.mp q)]
    exact c
  · rw [if_neg q, if_neg fun w => q (iff.mpr w)]
    refine ⟨by simp [c.1], fun i a b ha hb => ?_⟩
    by_cases hi : i < sp.length
    · rw [List.getElem?_append_left hi] at ha
      rw [List.getElem?_append_left (by rw [← c.1]; exact hi)] at hb
      exact c.2 i a b ha hb
    · rw [List.getElem?_append_right (by omega)] at ha
      rw [List.getElem?_append_right (by rw [← c.1]; omega)] at hb
      have e0 : i - sp.length = 0 := by
        have := (List.getElem?_eq_some_iff.mp ha).1
        simp at this
        omega
      rw [e0] at ha
      rw [← c.1, e0] at hb
      cases ha; cases hb
      exact ⟨ho, hp, h⟩
theorem cor_row (M : MOk m wide) (M' : MOk m' wide) : ∀ (row row' : List Nat), row.length = row'.length → (∀ (j o p : Nat), row[j]? = some o → row'[j]? = some p → o < m.nx.length ∧ p < m'.nx.length ∧ ∀ r, RowOk wide r → beh m r o = beh m' r p) → ∀ {sp sp' : List Nat}, Cor m m' wide sp sp' → Cor m m' wide (rowO (grp m) sp row) (rowO (grp m') sp' row')
  | [], [], _, _, _, _, c => c
  | [], _ :: _, hl, _, _, _, _ => by simp at hl
  | _ :: _, [], hl, _, _, _, _ => by simp at hl
  | o :: r, p :: r', hl, h, sp, sp', c => by
    obtain ⟨h1, h2, h3⟩ := h 0 o p rfl rfl
    exact cor_row M M' r r' (by simpa using hl) (fun j a b ha hb => h (j + 1) a b (by simpa using ha) (by simpa using hb)) (cor_step M M' h1 h2 h3 c)
theorem cor_next (M : MOk m wide) (M' : MOk m' wide) {a b : Nat} (ha : a < m.nx.length) (hb : b < m'.nx.length) (h : ∀ r, RowOk wide r → beh m r a = beh m' r b) : (m.nx.getD a []).length = (m'.nx.getD b []).length ∧ ∀ (j o p : Nat), (m.nx.getD a [])[j]? = some o → (m'.nx.getD b [])[j]? = some p → o < m.nx.length ∧ p < m'.nx.length ∧ ∀ r, RowOk wide r → beh m r o = beh m' r p := by
  obtain ⟨l1, b1⟩ := M.row a ha
  obtain ⟨l2, b2⟩ := M'.row b hb
  refine ⟨by rw [l1, l2], fun j o p ho hp => ⟨b1 o (List.mem_of_getElem? ho), b2 p (List.mem_of_getElem? hp), fun r hr => ?_⟩⟩
  have hj : j < wide := by rw [← l1]; exact (List.getElem?_eq_some_iff.mp ho).1
  obtain ⟨_, e1⟩ := next_lt M ha hj
  obtain ⟨_, e2⟩ := next_lt M' hb hj
  rw [ho] at e1
  rw [hp] at e2
  have e1 := Option.some.inj e1
  have e2 := Option.some.inj e2
  have := h (j :: r) fun i hi => by
    rcases List.mem_cons.mp hi with rfl | hi
    · exact hj
    · exact hr i hi
  show beh m r o = beh m' r p
  rw [e1, e2]
  exact this
theorem cor_ord (M : MOk m wide) (M' : MOk m' wide) (h0 : ∀ r, RowOk wide r → beh m r 0 = beh m' r 0) : ∀ k, Cor m m' wide (ordN (grp m) m.nx k) (ordN (grp m') m'.nx k)
  | 0 => ⟨rfl, fun i a b ha hb => by
      have hi : i = 0 := by
        have := (List.getElem?_eq_some_iff.mp ha).1
        simp [ordN] at this
        exact this
      subst hi
      cases ha; cases hb
      exact ⟨M.pos, M'.pos, h0⟩⟩
  | k + 1 => by
    have c := cor_ord M M' h0 k
    show Cor m m' wide (match (ordN (grp m) m.nx k)[k]? with | some s => rowO (grp m) (ordN (grp m) m.nx k) (m.nx.getD s []) | none => ordN (grp m) m.nx k) (match (ordN (grp m') m'.nx k)[k]? with | some s => rowO (grp m') (ordN (grp m') m'.nx k) (m'.nx.getD s []) | none => ordN (grp m') m'.nx k)
    by_cases q : k < (ordN (grp m) m.nx k).length
    · have q' : k < (ordN (grp m') m'.nx k).length := by rw [← c.1]; exact q
      rw [List.getElem?_eq_getElem q, List.getElem?_eq_getElem q']
      obtain ⟨a1, b1, ab⟩ := c.2 k _ _ (List.getElem?_eq_getElem q) (List.getElem?_eq_getElem q')
      obtain ⟨e1, e2⟩ := cor_next M M' a1 b1 ab
      exact cor_row M M' _ _ e1 e2 c
    · rw [List.getElem?_eq_none (by omega), List.getElem?_eq_none (by rw [← c.1]; omega)]
      exact c
/-- machines that do alike from 0 have the same least one -/
theorem least_same (M : MOk m wide) (M' : MOk m' wide) (h0 : ∀ r, RowOk wide r → beh m r 0 = beh m' r 0) : leastM m = leastM m' := by
  have c := cor_ord M M' h0 (m.nx.length + m'.nx.length)
  rw [ordN_end (M.b) (grp_b M) M.pos m'.nx.length, Nat.add_comm, ordN_end (M'.b) (grp_b M') M'.pos m.nx.length] at c
  have c : Cor m m' wide (ordM m) (ordM m') := c
  unfold leastM
  congr 1
  · refine List.ext_getElem? fun i => ?_
    rw [List.getElem?_map, List.getElem?_map]
    by_cases q : i < (ordM m).length
    · have q' : i < (ordM m').length := by rw [← c.1]; exact q
      obtain ⟨a1, b1, ab⟩ := c.2 i _ _ (List.getElem?_eq_getElem q) (List.getElem?_eq_getElem q')
      rw [List.getElem?_eq_getElem q, List.getElem?_eq_getElem q']
      simp only [Option.map_some, Option.some.injEq]
      obtain ⟨e1, e2⟩ := cor_next M M' a1 b1 ab
      refine List.ext_getElem? fun j => ?_
      rw [List.getElem?_map, List.getElem?_map]
      by_cases w : j < (m.nx.getD (ordM m)[i] []).length
      · have w' : j < (m'.nx.getD (ordM m')[i] []).length := by rw [← e1]; exact w
        rw [List.getElem?_eq_getElem w, List.getElem?_eq_getElem w']
        obtain ⟨o1, p1, op⟩ := e2 j _ _ (List.getElem?_eq_getElem w) (List.getElem?_eq_getElem w')
        simp only [Option.map_some, Option.some.injEq]
        exact cor_idx M M' o1 p1 op c
      · rw [List.getElem?_eq_none (by omega), List.getElem?_eq_none (by rw [← e1]; omega)]
        rfl
    · rw [List.getElem?_eq_none (by omega), List.getElem?_eq_none (by rw [← c.1]; omega)]
      rfl
  · have : ∀ (sp sp' : List Nat), Cor m m' wide sp sp' → sp.filterMap (fun s => m.ws[s]?) = sp'.filterMap fun s => m'.ws[s]? := by
      intro sp
      induction sp with
      | nil =>
        intro sp' c
        have : sp' = [] := List.length_eq_zero_iff.mp (by rw [← c.1]; rfl)
        rw [this]
        rfl
      | cons a sp ih =>
        intro sp' c
        cases sp' with
        | nil => have := c.1; simp at this
        | cons b sp' =>
          obtain ⟨a1, b1, ab⟩ := c.2 0 a b rfl rfl
          have e : m.ws[a]? = m'.ws[b]? := ab [] fun _ z => by cases z
          rw [List.filterMap_cons, List.filterMap_cons, e, ih sp' ⟨by have := c.1; simpa using this, fun i x y hx hy => c.2 (i + 1) x y (by simpa using hx) (by simpa using hy)⟩]
    exact this _ _ c
theorem ordM_lt (M : MOk m wide) : ∀ s ∈ ordM m, s < m.nx.length := ordN_lt (M.b) M.pos _
theorem ordM_len (M : MOk m wide) : (ordM m).length ≤ m.nx.length := ordN_len (M.b) (grp_b M) M.pos _
theorem ordM_0 (m : Mch α) : (ordM m)[0]? = some 0 := by
  obtain ⟨t, e⟩ := ordN_mono (g := grp m) (nx := m.nx) (k := 0) m.nx.length
  rw [Nat.zero_add] at e
  unfold ordM
  rw [e]
  rfl
theorem ordM_has (M : MOk m wide) {s o : Nat} (hs : s ∈ ordM m) (ho : o ∈ m.nx.getD s []) : grp m o ∈ (ordM m).map (grp m) := by
  obtain ⟨i, hi⟩ := List.getElem?_of_mem hs
  exact ordN_closed (M.b) (grp_b M) M.pos hi ho
theorem least_ws (M : MOk m wide) : (leastM m).ws.length = (ordM m).length ∧ ∀ (i s : Nat), (ordM m)[i]? = some s → (leastM m).ws[i]? = m.ws[s]? := by
  have go : ∀ sp : List Nat, (∀ s ∈ sp, s < m.ws.length) → (sp.filterMap fun s => m.ws[s]?).length = sp.length ∧ ∀ (i s : Nat), sp[i]? = some s → (sp.filterMap fun s => m.ws[s]?)[i]? = m.ws[s]? := by
    intro sp
    induction sp with
    | nil => intro _; exact ⟨rfl, fun i s h => by simp at h⟩
    | cons a sp ih =>
      intro h
      obtain ⟨h1, h2⟩ := ih fun s hs => h s (List.mem_cons_of_mem _ hs)
      have ha := h a List.mem_cons_self
      rw [List.filterMap_cons, List.getElem?_eq_getElem ha]
      refine ⟨by simp [h1], fun i s hi => ?_⟩
      cases i with
      | zero =>
        cases hi
        simp [List.getElem?_eq_getElem ha]
      | succ i => simpa using h2 i s (by simpa using hi)
  exact go (ordM m) fun s hs => by rw [M.ends]; exact ordM_lt M s hs
theorem least_nx {i s : Nat} (h : (ordM m)[i]? = some s) : (leastM m).nx.getD i [] = (m.nx.getD s []).map fun o => ((ordM m).map (grp m)).idxOf (grp m o) := by
  show ((ordM m).map fun s => (m.nx.getD s []).map fun o => ((ordM m).map (grp m)).idxOf (grp m o)).getD i [] = _
  rw [List.getD_eq_getElem?_getD, List.getElem?_map, h]
  rfl
theorem least_ok (M : MOk m wide) : MOk (leastM m) wide where
  pos := by
    show 0 < ((ordM m).map _).length
    rw [List.length_map]
    exact List.length_pos_of_mem (List.mem_of_getElem? (ordM_0 m))
  ends := by
    rw [(least_ws M).1]
    exact (List.length_map ..).symm
  row := fun i hi => by
    have hi : i < (ordM m).length := by simpa [leastM] using hi
    have e := List.getElem?_eq_getElem hi
    rw [least_nx e]
    have hs := ordM_lt M _ (List.mem_of_getElem? e)
    refine ⟨by rw [List.length_map]; exact (M.row _ hs).1, fun o ho => ?_⟩
    obtain ⟨p, hp, rfl⟩ := List.mem_map.mp ho
    have := List.idxOf_lt_length_iff.mpr (ordM_has M (List.mem_of_getElem? e) hp)
    simpa [leastM] using this
theorem least_beh (M : MOk m wide) : ∀ (r : List Nat), RowOk wide r → ∀ i s, (ordM m)[i]? = some s → beh (leastM m) r i = beh m r s
  | [], _, i, s, h => (least_ws M).2 i s h
  | j :: r, hr, i, s, h => by
    have hs := ordM_lt M _ (List.mem_of_getElem? h)
    have hj := hr j List.mem_cons_self
    obtain ⟨n1, e1⟩ := next_lt M hs hj
    have hp : nextJ m s j ∈ m.nx.getD s [] := List.mem_of_getElem? e1
    have hg := ordM_has M (List.mem_of_getElem? h) hp
    have hl := List.idxOf_lt_length_iff.mpr hg
    have en : nextJ (leastM m) i j = ((ordM m).map (grp m)).idxOf (grp m (nextJ m s j)) := by
      unfold nextJ
      rw [least_nx h, List.getD_eq_getElem?_getD, List.getElem?_map, e1]
      rfl
    show beh (leastM m) r (nextJ (leastM m) i j) = beh m r (nextJ m s j)
    rw [en]
    have hl' : ((ordM m).map (grp m)).idxOf (grp m (nextJ m s j)) < (ordM m).length := by simpa using hl
    have e2 := List.getElem?_eq_getElem hl'
    rw [least_beh M r (fun i hi => hr i (List.mem_cons_of_mem _ hi)) _ _ e2]
    have e3 : grp m ((ordM m)[((ordM m).map (grp m)).idxOf (grp m (nextJ m s j))]) = grp m (nextJ m s j) := by
      have e4 : ((ordM m).map (grp m))[((ordM m).map (grp m)).idxOf (grp m (nextJ m s j))]'hl = grp m (nextJ m s j) := by simp
      rw [List.getElem_map] at e4
      exact e4
    exact (grp_iff M (ordM_lt M _ (List.mem_of_getElem? e2)) n1).mp e3 r fun i hi => hr i (List.mem_cons_of_mem _ hi)
theorem least_least (M : MOk m wide) : leastM (leastM m) = leastM m := least_same (least_ok M) M fun r hr => least_beh M r hr 0 0 (ordM_0 m)
/-- spots put to spots that do alike at once -/
theorem beh_hom (f : Nat → Nat) (M : MOk m wide) (M' : MOk m' wide) (hf : ∀ s, s < m'.nx.length → f s < m.nx.length) (hw : ∀ s, s < m'.nx.length → m'.ws[s]? = m.ws[f s]?) (hn : ∀ s, s < m'.nx.length → (m'.nx.getD s []).map f = m.nx.getD (f s) []) :
    ∀ (r : List Nat), RowOk wide r → ∀ s, s < m'.nx.length → beh m' r s = beh m r (f s)
  | [], _, s, hs => hw s hs
  | j :: r, hr, s, hs => by
    have hj := hr j List.mem_cons_self
    obtain ⟨n1, e1⟩ := next_lt M' hs hj
    obtain ⟨n2, e2⟩ := next_lt M (hf s hs) hj
    show beh m' r (nextJ m' s j) = beh m r (nextJ m (f s) j)
    rw [beh_hom f M M' hf hw hn r (fun i hi => hr i (List.mem_cons_of_mem _ hi)) _ n1]
    rw [← hn s hs, List.getElem?_map, e1] at e2
    rw [Option.some.inj e2]
end
end Mp
namespace Mp
/-! numbers_of(firsts): 0=firsts 1=numbers 2=found 3=first -/
def S100_2b0a0 : Sm := (.setI 1 (.v 3) (.bi .len (.cons (.v 1) .nil)))
def L100_2b0a0 : Sms := .cons S100_2b0a0 .nil
theorem t100_2b0a0 (C : Ctx) (ρ : Env) (Q : Fl × Env → Prop) : Y (exSs C L100_2b0a0 ρ) Q = Y (exS C S100_2b0a0 ρ) (Kc C .nil Q) := Y_st _ _ _ _ _
def S100_2b1 : Sm := (.ex (.mu .append 2 (.cons (.idx (.v 1) (.v 3)) .nil)))
def L100_2b1 : Sms := .cons S100_2b1 .nil
theorem t100_2b1 (C : Ctx) (ρ : Env) (Q : Fl × Env → Prop) : Y (exSs C L100_2b1 ρ) Q = Y (exS C S100_2b1 ρ) (Kc C .nil Q) := Y_st _ _ _ _ _
def S100_2b0 : Sm := (.ifs (.e (.cmp .notin (.v 3) (.v 1))) L100_2b0a0 .nil)
def L100_2b0 : Sms := .cons S100_2b0 L100_2b1
theorem t100_2b0 (C : Ctx) (ρ : Env) (Q : Fl × Env → Prop) : Y (exSs C L100_2b0 ρ) Q = Y (exS C S100_2b0 ρ) (Kc C L100_2b1 Q) := Y_st _ _ _ _ _
def S100_3 : Sm := (.ret (.v 2))
def L100_3 : Sms := .cons S100_3 .nil
theorem t100_3 (C : Ctx) (ρ : Env) (Q : Fl × Env → Prop) : Y (exSs C L100_3 ρ) Q = Y (exS C S100_3 ρ) (Kc C .nil Q) := Y_st _ _ _ _ _
def S100_2 : Sm := (.for_ [3] false (.e (.v 0)) L100_2b0)
def L100_2 : Sms := .cons S100_2 L100_3
theorem t100_2 (C : Ctx) (ρ : Env) (Q : Fl × Env → Prop) : Y (exSs C L100_2 ρ) Q = Y (exS C S100_2 ρ) (Kc C L100_3 Q) := Y_st _ _ _ _ _
def S100_1 : Sm := (.asg 2 (.lst .nil))
def L100_1 : Sms := .cons S100_1 L100_2
theorem t100_1 (C : Ctx) (ρ : Env) (Q : Fl × Env → Prop) : Y (exSs C L100_1 ρ) Q = Y (exS C S100_1 ρ) (Kc C L100_2 Q) := Y_st _ _ _ _ _
def S100_0 : Sm := (.asg 1 .dcn)
def L100_0 : Sms := .cons S100_0 L100_1
theorem t100_0 (C : Ctx) (ρ : Env) (Q : Fl × Env → Prop) : Y (exSs C L100_0 ρ) Q = Y (exS C S100_0 ρ) (Kc C L100_1 Q) := Y_st _ _ _ _ _
/-! _law_numbered(_law_firsts): 0=_law_firsts 1=_law_numbers 2=_law_found 3=_law_first -/
def S96_2b1 : Sm := (.ex (.mu .append 2 (.cons (.idx (.v 1) (.v 3)) .nil)))
def L96_2b1 : Sms := .cons S96_2b1 .nil
theorem t96_2b1 (C : Ctx) (ρ : Env) (Q : Fl × Env → Prop) : Y (exSs C L96_2b1 ρ) Q = Y (exS C S96_2b1 ρ) (Kc C .nil Q) := Y_st _ _ _ _ _
def S96_2b0 : Sm := (.ex (.dsd 1 (.v 3) (.bi .len (.cons (.v 1) .nil))))
def L96_2b0 : Sms := .cons S96_2b0 L96_2b1
theorem t96_2b0 (C : Ctx) (ρ : Env) (Q : Fl × Env → Prop) : Y (exSs C L96_2b0 ρ) Q = Y (exS C S96_2b0 ρ) (Kc C L96_2b1 Q) := Y_st _ _ _ _ _
def S96_3 : Sm := (.ret (.v 2))
def L96_3 : Sms := .cons S96_3 .nil
theorem t96_3 (C : Ctx) (ρ : Env) (Q : Fl × Env → Prop) : Y (exSs C L96_3 ρ) Q = Y (exS C S96_3 ρ) (Kc C .nil Q) := Y_st _ _ _ _ _
def S96_2 : Sm := (.for_ [3] false (.e (.v 0)) L96_2b0)
def L96_2 : Sms := .cons S96_2 L96_3
theorem t96_2 (C : Ctx) (ρ : Env) (Q : Fl × Env → Prop) : Y (exSs C L96_2 ρ) Q = Y (exS C S96_2 ρ) (Kc C L96_3 Q) := Y_st _ _ _ _ _
def S96_1 : Sm := (.asg 2 (.lst .nil))
def L96_1 : Sms := .cons S96_1 L96_2
theorem t96_1 (C : Ctx) (ρ : Env) (Q : Fl × Env → Prop) : Y (exSs C L96_1 ρ) Q = Y (exS C S96_1 ρ) (Kc C L96_2 Q) := Y_st _ _ _ _ _
def S96_0 : Sm := (.asg 1 .dcn)
def L96_0 : Sms := .cons S96_0 L96_1
theorem t96_0 (C : Ctx) (ρ : Env) (Q : Fl × Env → Prop) : Y (exSs C L96_0 ρ) Q = Y (exS C S96_0 ρ) (Kc C L96_1 Q) := Y_st _ _ _ _ _
structure HNums (P : Pg) : Prop where
  numbers_of : P.fn 100 = some ⟨1, 4, L100_0⟩
structure HLNums (P : Pg) : Prop where
  law_numbered : P.fn 96 = some ⟨1, 4, L96_0⟩
/-- things with their places -/
def enD (k : Nat) : List D → List (D × D)
  | [] => []
  | x :: r => (x, .int (k : Int)) :: enD (k + 1) r
theorem enD_len : ∀ (xs : List D) (k : Nat), (enD k xs).length = xs.length
  | [], _ => rfl
  | _ :: r, k => by simp [enD, enD_len r]
theorem enD_snoc : ∀ (xs : List D) (k : Nat) (x : D), enD k (xs ++ [x]) = enD k xs ++ [(x, .int ((k + xs.length : Nat) : Int))]
  | [], k, x => rfl
  | y :: r, k, x => by
    rw [List.cons_append]
    simp only [enD, enD_snoc r (k + 1) x, List.cons_append, List.length_cons]
    rw [show k + 1 + r.length = k + (r.length + 1) from by omega]
theorem look_enD : ∀ (xs : List D) (k : Nat) (x : D), lookD x (enD k xs) = (fix x xs).map fun i => D.int ((k + i : Nat) : Int)
  | [], _, _ => rfl
  | y :: r, k, x => by
    unfold enD lookD fix
    rw [List.findIdx?_cons]
    by_cases h : D.eqv y x = true
    · rw [if_pos h, if_pos h]; rfl
    · rw [if_neg h, if_neg h, look_enD r (k + 1) x]
      unfold fix
      rw [Option.map_map]
      cases r.findIdx? fun y => D.eqv y x with
      | none => rfl
      | some i =>
        simp only [Option.map_some, Function.comp_apply]
        congr 2
        omega
theorem putD_new {k v : D} {kvs : List (D × D)} (h : lookD k kvs = none) : putD k v kvs = kvs ++ [(k, v)] := by
  unfold putD
  have : ∀ kvs : List (D × D), lookD k kvs = none → (kvs.any fun p => D.eqv p.1 k) = false := by
    intro kvs
    induction kvs with
    | nil => intro _; rfl
    | cons p r ih =>
      intro h
      obtain ⟨x, w⟩ := p
      unfold lookD at h
      by_cases e : D.eqv x k = true
      · rw [if_pos e] at h; cases h
      · rw [if_neg e] at h
        rw [List.any_cons, ih h, Bool.eq_false_iff.mpr e]; rfl
  rw [this kvs h]
  rfl
/-- keys that may stand in one dict -/
def KeysOk (xs : List D) : Prop := (∀ x ∈ xs, x.leaf = true) ∨ ∀ x ∈ xs, x.tupk = true
theorem enD_keys : ∀ (xs : List D) (k : Nat) (p : D × D), p ∈ enD k xs → p.1 ∈ xs
  | y :: r, k, p, h => by
    unfold enD at h
    rcases List.mem_cons.mp h with rfl | h
    · exact List.mem_cons_self
    · exact List.mem_cons_of_mem _ (enD_keys r _ p h)
theorem keyOk_enD {xs ys : List D} {x : D} (h : KeysOk xs) (hy : ∀ y ∈ ys, y ∈ xs) (hx : x ∈ xs) (k : Nat) : keyOk (enD k ys) x = true := by
  unfold keyOk
  rw [Bool.or_eq_true, Bool.and_eq_true, Bool.and_eq_true, List.all_eq_true, List.all_eq_true]
  rcases h with h | h
  · exact .inl ⟨h x hx, fun p hp => h _ (hy _ (enD_keys _ _ _ hp))⟩
  · exact .inr ⟨h x hx, fun p hp => h _ (hy _ (enD_keys _ _ _ hp))⟩
theorem fix_lt {x : D} {xs : List D} {i : Nat} (h : fix x xs = some i) : i < xs.length := (List.findIdx?_eq_some_iff_getElem.mp h).1
/-- the number that a thing gets, what was seen behind it -/
def numOf (seen : List D) (x : D) : Nat := (fix x seen).getD seen.length
def seenOf (seen : List D) (x : D) : List D := match fix x seen with | some _ => seen | none => seen ++ [x]
theorem fix_snoc {x : D} {seen : List D} (h : fix x seen = none) (hx : D.eqv x x = true) : fix x (seen ++ [x]) = some seen.length := by
  unfold fix at *
  rw [List.findIdx?_append, h]
  simp [List.findIdx?_cons, hx]
theorem look_seenOf {x : D} {seen : List D} (hx : D.eqv x x = true) : lookD x (enD 0 (seenOf seen x)) = some (.int (numOf seen x : Int)) := by
  rw [look_enD]
  unfold seenOf numOf
  cases h : fix x seen with
  | some i => simp [h]
  | none =>
    simp only []
    rw [fix_snoc h hx]
    simp
theorem take_snoc {xs : List D} {i : Nat} {x : D} (h : xs[i]? = some x) : xs.take (i + 1) = xs.take i ++ [x] := by rw [List.take_add_one, h]; rfl
def NumQ (xs : List D) : Fl × Env → Prop := fun r => ∃ ρ, r = (.rt (.ol (nL (num [] xs))), .ol xs :: ρ)
mutual
theorem eqv_refl : ∀ d : D, D.eqv d d = true
  | .non => rfl
  | .bl b => by simp [D.eqv]
  | .int i => by simp [D.eqv]
  | .str s => by simp [D.eqv]
  | .tup xs => by simp only [D.eqv]; exact eqvs_refl xs
  | .lst xs => by simp only [D.eqv]; exact eqvs_refl xs
  | .kl xs => by simp only [D.eqv]; exact eqvs_refl xs
theorem eqvs_refl : ∀ ds : List D, D.eqvs ds ds = true
  | [] => by simp [D.eqvs]
  | d :: ds => by simp only [D.eqvs, eqv_refl d, eqvs_refl ds, Bool.and_self]
end
theorem numbers_of42 {P : Pg} (h : HNums P) (wf n : Nat) {xs : List D} (hk : KeysOk xs) (hl : xs.length ≤ 1000) : callM P wf (n + 1) 100 [.ol xs] = .ok (.ol (nL (num [] xs)), [.ol xs]) := by
  have : Y (callM P wf (n + 1) 100 [.ol xs]) fun r => r = (.ol (nL (num [] xs)), [.ol xs]) := by
    refine call_by (NumQ xs) h.numbers_of rfl rfl (by decide) (fun C c1 c2 c3 c4 c5 => ?_) (by rintro _ ⟨ρ, rfl⟩; exact ⟨_, _, rfl, rfl, by simp [keepSh]⟩)
    show Y (exSs C L100_0 [.ol xs, .un, .un, .un]) _
    have w1 : C.wr 1 = true := by rw [c3]; rfl
    have w2 : C.wr 2 = true := by rw [c3]; rfl
    have w3 : C.wr 3 = true := by rw [c3]; rfl
    rw [t100_0]
    simp [S100_0, allB_map, all_id, allB, ev_k, ev_v, ev_g, ev_fr, ev_tup, ev_lst, ev_dct, ev_bin, ev_neg, ev_not, ev_and, ev_or, ev_cmp, ev_chain, ev_ite, ev_idx, ev_slc, ev_call, ev_bi, ev_bm, ev_mu, ev_isi, ev_rpr, ev_lset, ev_dcn, ev_dc1, ev_dget, ev_dsd, ev_pr2, ev_rev, asgTS, biD, isDn, isOd, hasD, dgetN, dsdS, revF, zip3F, ex_ret_, ex_retN_, ex_asg_, ex_asgT_, ex_setI_, ex_ex_, ex_ifs_, ex_pass_, ex_brk_, ex_cont_, evT, evA, evF, evI, evO, vw, see, res, tru, D.truth, cmpS, cmpV, cmpF, inF, retS, List.replicate, biS, vws, biF, keepSh, asgS, binS, binF, fz, idxS, idxF, intOf, blOf, slcS, slcF, D.noK, isTy, pks, nodup, argS, argsBack, Y_ok, Y_ite, Y_nil, Kc_nx, Kc_rt, Kc_bk, Kc_ct, setIF, isOD, lookS, putS, muF, lock, unlock, rangeF, bindT, setT, LIM, wrOf, isSh, bmS, bmF, bmT, zipF, itemsZ, enumF, ↓reduceIte, w1]
    rw [t100_1]
    simp [S100_1, allB_map, all_id, allB, ev_k, ev_v, ev_g, ev_fr, ev_tup, ev_lst, ev_dct, ev_bin, ev_neg, ev_not, ev_and, ev_or, ev_cmp, ev_chain, ev_ite, ev_idx, ev_slc, ev_call, ev_bi, ev_bm, ev_mu, ev_isi, ev_rpr, ev_lset, ev_dcn, ev_dc1, ev_dget, ev_dsd, ev_pr2, ev_rev, asgTS, biD, isDn, isOd, hasD, dgetN, dsdS, revF, zip3F, ex_ret_, ex_retN_, ex_asg_, ex_asgT_, ex_setI_, ex_ex_, ex_ifs_, ex_pass_, ex_brk_, ex_cont_, evT, evA, evF, evI, evO, vw, see, res, tru, D.truth, cmpS, cmpV, cmpF, inF, retS, List.replicate, biS, vws, biF, keepSh, asgS, binS, binF, fz, idxS, idxF, intOf, blOf, slcS, slcF, D.noK, isTy, pks, nodup, argS, argsBack, Y_ok, Y_ite, Y_nil, Kc_nx, Kc_rt, Kc_bk, Kc_ct, setIF, isOD, lookS, putS, muF, lock, unlock, rangeF, bindT, setT, LIM, wrOf, isSh, bmS, bmF, bmT, zipF, itemsZ, enumF, ↓reduceIte, w2, evF]
    rw [t100_2]
    refine for_Y (lk := [0]) (ds := xs) (ρ1 := [.lk xs, .dn [], .ol [], .un]) (fun i ρ => ∃ z, ρ = [.lk xs, .dn (enD 0 (seenB [] (xs.take i))), .ol (nL (num [] (xs.take i))), z]) ?_ ?_ ⟨.un, rfl⟩ ?_ ?_
    · simp [evI, evE, lock]
    · simp [w3]
    · rintro i d ρ hd ⟨z, rfl⟩
      refine ⟨[.lk xs, .dn (enD 0 (seenB [] (xs.take i))), .ol (nL (num [] (xs.take i))), .sh d], rfl, ?_⟩
      have hdm := List.mem_of_getElem? hd
      have hlt : i < xs.length := (List.getElem?_eq_some_iff.mp hd).1
      have sub : ∀ y ∈ seenB [] (xs.take i), y ∈ xs := fun y hy => by
        rcases seenB_mem _ _ _ hy with z | z
        · cases z
        · exact List.mem_of_mem_take z
      have eN : num [] (xs.take (i + 1)) = num [] (xs.take i) ++ [numOf (seenB [] (xs.take i)) d] := by rw [take_snoc hd, num_snoc]; rfl
      have eS : seenB [] (xs.take (i + 1)) = seenOf (seenB [] (xs.take i)) d := by rw [take_snoc hd, seenB_snoc]; rfl
      have sl : (seenB [] (xs.take i)).length ≤ 1000 := by
        have := seenB_le (xs.take i) []
        simp at this
        omega
      have nl : (num [] (xs.take i)).length ≤ 1000 := by rw [num_len]; simp; omega
      have hlook := look_seenOf (seen := seenB [] (xs.take i)) (eqv_refl d)
      generalize seenB [] (xs.take i) = seen at *
      generalize num [] (xs.take i) = ns at *
      have k0 := keyOk_enD hk sub hdm 0
      have ll : (enD 0 seen).length < 16777216 := by rw [enD_len]; omega
      have nl2 : (nL ns).length < 16777216 := by rw [nL_len]; omega
      have k1 : keyOk (enD 0 (seenOf seen d)) d = true := keyOk_enD hk (fun y hy => by
        unfold seenOf at hy
        cases e : fix d seen with
        | some j => rw [e] at hy; exact sub y hy
        | none =>
          rw [e] at hy
          rcases List.mem_append.mp hy with z | z
          · exact sub y z
          · simp at z; subst z; exact hdm) hdm 0
      have fin : Y (exSs C L100_2b1 [.lk xs, .dn (enD 0 (seenOf seen d)), .ol (nL ns), .sh d]) (Turn (fun i ρ => ∃ z, ρ = [.lk xs, .dn (enD 0 (seenB [] (xs.take i))), .ol (nL (num [] (xs.take i))), z]) i) := by
        rw [t100_2b1]
        simp [S100_2b1, allB_map, all_id, allB, ev_k, ev_v, ev_g, ev_fr, ev_tup, ev_lst, ev_dct, ev_bin, ev_neg, ev_not, ev_and, ev_or, ev_cmp, ev_chain, ev_ite, ev_idx, ev_slc, ev_call, ev_bi, ev_bm, ev_mu, ev_isi, ev_rpr, ev_lset, ev_dcn, ev_dc1, ev_dget, ev_dsd, ev_pr2, ev_rev, asgTS, biD, isDn, isOd, hasD, dgetN, dsdS, revF, zip3F, ex_ret_, ex_retN_, ex_asg_, ex_asgT_, ex_setI_, ex_ex_, ex_ifs_, ex_pass_, ex_brk_, ex_cont_, evT, evA, evF, evI, evO, vw, see, res, tru, D.truth, cmpS, cmpV, cmpF, inF, retS, List.replicate, biS, vws, biF, keepSh, asgS, binS, binF, fz, idxS, idxF, intOf, blOf, slcS, slcF, D.noK, isTy, pks, nodup, argS, argsBack, Y_ok, Y_ite, Y_nil, Kc_nx, Kc_rt, Kc_bk, Kc_ct, setIF, isOD, lookS, putS, muF, lock, unlock, rangeF, bindT, setT, LIM, wrOf, isSh, bmS, bmF, bmT, zipF, itemsZ, enumF, ↓reduceIte, evF, k1, hlook, nl2]
        refine ⟨.inl rfl, .sh d, ?_⟩
        rw [eN, eS, ← nL_app]
      rw [t100_2b0]
      have hl0 := look_enD seen 0 d
      cases e : fix d seen with
      | some j =>
        rw [e] at hl0
        have es : seenOf seen d = seen := by unfold seenOf; rw [e]
        rw [es] at fin
        simp [S100_2b0, allB_map, all_id, allB, ev_k, ev_v, ev_g, ev_fr, ev_tup, ev_lst, ev_dct, ev_bin, ev_neg, ev_not, ev_and, ev_or, ev_cmp, ev_chain, ev_ite, ev_idx, ev_slc, ev_call, ev_bi, ev_bm, ev_mu, ev_isi, ev_rpr, ev_lset, ev_dcn, ev_dc1, ev_dget, ev_dsd, ev_pr2, ev_rev, asgTS, biD, isDn, isOd, hasD, dgetN, dsdS, revF, zip3F, ex_ret_, ex_retN_, ex_asg_, ex_asgT_, ex_setI_, ex_ex_, ex_ifs_, ex_pass_, ex_brk_, ex_cont_, evT, evA, evF, evI, evO, vw, see, res, tru, D.truth, cmpS, cmpV, cmpF, inF, retS, List.replicate, biS, vws, biF, keepSh, asgS, binS, binF, fz, idxS, idxF, intOf, blOf, slcS, slcF, D.noK, isTy, pks, nodup, argS, argsBack, Y_ok, Y_ite, Y_nil, Kc_nx, Kc_rt, Kc_bk, Kc_ct, setIF, isOD, lookS, putS, muF, lock, unlock, rangeF, bindT, setT, LIM, wrOf, isSh, bmS, bmF, bmT, zipF, itemsZ, enumF, ↓reduceIte, k0, hl0]
        exact fin
      | none =>
        rw [e] at hl0
        have hl0 : lookD d (enD 0 seen) = none := hl0
        have ep : putD d (.int ((enD 0 seen).length : Int)) (enD 0 seen) = enD 0 (seenOf seen d) := by
          rw [putD_new hl0, enD_len]
          unfold seenOf
          rw [e, enD_snoc, Nat.zero_add]
        simp [S100_2b0, allB_map, all_id, allB, ev_k, ev_v, ev_g, ev_fr, ev_tup, ev_lst, ev_dct, ev_bin, ev_neg, ev_not, ev_and, ev_or, ev_cmp, ev_chain, ev_ite, ev_idx, ev_slc, ev_call, ev_bi, ev_bm, ev_mu, ev_isi, ev_rpr, ev_lset, ev_dcn, ev_dc1, ev_dget, ev_dsd, ev_pr2, ev_rev, asgTS, biD, isDn, isOd, hasD, dgetN, dsdS, revF, zip3F, ex_ret_, ex_retN_, ex_asg_, ex_asgT_, ex_setI_, ex_ex_, ex_ifs_, ex_pass_, ex_brk_, ex_cont_, evT, evA, evF, evI, evO, vw, see, res, tru, D.truth, cmpS, cmpV, cmpF, inF, retS, List.replicate, biS, vws, biF, keepSh, asgS, binS, binF, fz, idxS, idxF, intOf, blOf, slcS, slcF, D.noK, isTy, pks, nodup, argS, argsBack, Y_ok, Y_ite, Y_nil, Kc_nx, Kc_rt, Kc_bk, Kc_ct, setIF, isOD, lookS, putS, muF, lock, unlock, rangeF, bindT, setT, LIM, wrOf, isSh, bmS, bmF, bmT, zipF, itemsZ, enumF, ↓reduceIte, k0, hl0]
        rw [t100_2b0a0]
        simp [S100_2b0a0, allB_map, all_id, allB, ev_k, ev_v, ev_g, ev_fr, ev_tup, ev_lst, ev_dct, ev_bin, ev_neg, ev_not, ev_and, ev_or, ev_cmp, ev_chain, ev_ite, ev_idx, ev_slc, ev_call, ev_bi, ev_bm, ev_mu, ev_isi, ev_rpr, ev_lset, ev_dcn, ev_dc1, ev_dget, ev_dsd, ev_pr2, ev_rev, asgTS, biD, isDn, isOd, hasD, dgetN, dsdS, revF, zip3F, ex_ret_, ex_retN_, ex_asg_, ex_asgT_, ex_setI_, ex_ex_, ex_ifs_, ex_pass_, ex_brk_, ex_cont_, evT, evA, evF, evI, evO, vw, see, res, tru, D.truth, cmpS, cmpV, cmpF, inF, retS, List.replicate, biS, vws, biF, keepSh, asgS, binS, binF, fz, idxS, idxF, intOf, blOf, slcS, slcF, D.noK, isTy, pks, nodup, argS, argsBack, Y_ok, Y_ite, Y_nil, Kc_nx, Kc_rt, Kc_bk, Kc_ct, setIF, isOD, lookS, putS, muF, lock, unlock, rangeF, bindT, setT, LIM, wrOf, isSh, bmS, bmF, bmT, zipF, itemsZ, enumF, ↓reduceIte, k0, ll, ep]
        exact fin
    · rintro _ ⟨z, rfl⟩
      rw [List.take_length]
      simp [unlock, ulS, Kc_nx]
      rw [t100_3]
      simp [S100_3, allB_map, all_id, allB, ev_k, ev_v, ev_g, ev_fr, ev_tup, ev_lst, ev_dct, ev_bin, ev_neg, ev_not, ev_and, ev_or, ev_cmp, ev_chain, ev_ite, ev_idx, ev_slc, ev_call, ev_bi, ev_bm, ev_mu, ev_isi, ev_rpr, ev_lset, ev_dcn, ev_dc1, ev_dget, ev_dsd, ev_pr2, ev_rev, asgTS, biD, isDn, isOd, hasD, dgetN, dsdS, revF, zip3F, ex_ret_, ex_retN_, ex_asg_, ex_asgT_, ex_setI_, ex_ex_, ex_ifs_, ex_pass_, ex_brk_, ex_cont_, evT, evA, evF, evI, evO, vw, see, res, tru, D.truth, cmpS, cmpV, cmpF, inF, retS, List.replicate, biS, vws, biF, keepSh, asgS, binS, binF, fz, idxS, idxF, intOf, blOf, slcS, slcF, D.noK, isTy, pks, nodup, argS, argsBack, Y_ok, Y_ite, Y_nil, Kc_nx, Kc_rt, Kc_bk, Kc_ct, setIF, isOD, lookS, putS, muF, lock, unlock, rangeF, bindT, setT, LIM, wrOf, isSh, bmS, bmF, bmT, zipF, itemsZ, enumF, ↓reduceIte, w2]
      exact ⟨_, rfl⟩
  obtain ⟨_, e, rfl⟩ := this
  exact e
theorem law_numbered42 {P : Pg} (h : HLNums P) (wf n : Nat) {xs : List D} (hk : KeysOk xs) (hl : xs.length ≤ 1000) (A : Sl) (hA : A = .ol xs ∨ A = .sh (.lst xs)) : callM P wf (n + 1) 96 [A] = .ok (.ol (nL (num [] xs)), [A]) := by
  have : Y (callM P wf (n + 1) 96 [A]) fun r => r = (.ol (nL (num [] xs)), [A]) := by
    obtain ⟨B, lk, hB⟩ : ∃ (B : Sl) (lk : List Nat), ∀ (C : Ctx) (ρ : Env), evI C (.e (.v 0)) (A :: ρ) = .ok ((xs, lk), B :: ρ) ∧ unlock lk (B :: ρ) = A :: ρ := by
      rcases hA with rfl | rfl
      · exact ⟨.lk xs, [0], fun C ρ => ⟨by simp [evI, evE, lock], rfl⟩⟩
      · exact ⟨.sh (.lst xs), [], fun C ρ => ⟨by simp [evI, evE, lock], rfl⟩⟩
    refine call_by (fun r => ∃ ρ, r = (.rt (.ol (nL (num [] xs))), A :: ρ)) h.law_numbered rfl (by rcases hA with rfl | rfl <;> rfl) (by decide) (fun C c1 c2 c3 c4 c5 => ?_) (by rintro _ ⟨ρ, rfl⟩; exact ⟨_, _, rfl, rfl, by rcases hA with rfl | rfl <;> simp [keepSh]⟩)
    show Y (exSs C L96_0 [A, .un, .un, .un]) _
    have w1 : C.wr 1 = true := by rw [c3]; rfl
    have w2 : C.wr 2 = true := by rw [c3]; rfl
    have w3 : C.wr 3 = true := by rw [c3]; rfl
    rw [t96_0]
    simp [S96_0, allB_map, all_id, allB, ev_k, ev_v, ev_g, ev_fr, ev_tup, ev_lst, ev_dct, ev_bin, ev_neg, ev_not, ev_and, ev_or, ev_cmp, ev_chain, ev_ite, ev_idx, ev_slc, ev_call, ev_bi, ev_bm, ev_mu, ev_isi, ev_rpr, ev_lset, ev_dcn, ev_dc1, ev_dget, ev_dsd, ev_pr2, ev_rev, asgTS, biD, isDn, isOd, hasD, dgetN, dsdS, revF, zip3F, ex_ret_, ex_retN_, ex_asg_, ex_asgT_, ex_setI_, ex_ex_, ex_ifs_, ex_pass_, ex_brk_, ex_cont_, evT, evA, evF, evI, evO, vw, see, res, tru, D.truth, cmpS, cmpV, cmpF, inF, retS, List.replicate, biS, vws, biF, keepSh, asgS, binS, binF, fz, idxS, idxF, intOf, blOf, slcS, slcF, D.noK, isTy, pks, nodup, argS, argsBack, Y_ok, Y_ite, Y_nil, Kc_nx, Kc_rt, Kc_bk, Kc_ct, setIF, isOD, lookS, putS, muF, lock, unlock, rangeF, bindT, setT, LIM, wrOf, isSh, bmS, bmF, bmT, zipF, itemsZ, enumF, ↓reduceIte, w1]
    rw [t96_1]
    simp [S96_1, allB_map, all_id, allB, ev_k, ev_v, ev_g, ev_fr, ev_tup, ev_lst, ev_dct, ev_bin, ev_neg, ev_not, ev_and, ev_or, ev_cmp, ev_chain, ev_ite, ev_idx, ev_slc, ev_call, ev_bi, ev_bm, ev_mu, ev_isi, ev_rpr, ev_lset, ev_dcn, ev_dc1, ev_dget, ev_dsd, ev_pr2, ev_rev, asgTS, biD, isDn, isOd, hasD, dgetN, dsdS, revF, zip3F, ex_ret_, ex_retN_, ex_asg_, ex_asgT_, ex_setI_, ex_ex_, ex_ifs_, ex_pass_, ex_brk_, ex_cont_, evT, evA, evF, evI, evO, vw, see, res, tru, D.truth, cmpS, cmpV, cmpF, inF, retS, List.replicate, biS, vws, biF, keepSh, asgS, binS, binF, fz, idxS, idxF, intOf, blOf, slcS, slcF, D.noK, isTy, pks, nodup, argS, argsBack, Y_ok, Y_ite, Y_nil, Kc_nx, Kc_rt, Kc_bk, Kc_ct, setIF, isOD, lookS, putS, muF, lock, unlock, rangeF, bindT, setT, LIM, wrOf, isSh, bmS, bmF, bmT, zipF, itemsZ, enumF, ↓reduceIte, w2, evF]
    rw [t96_2]
    refine for_Y (lk := lk) (ds := xs) (ρ1 := [B, .dn [], .ol [], .un]) (fun i ρ => ∃ z, ρ = [B, .dn (enD 0 (seenB [] (xs.take i))), .ol (nL (num [] (xs.take i))), z]) ?_ ?_ ⟨.un, rfl⟩ ?_ ?_
    · exact (hB C _).1
    · simp [w3]
    · rintro i d ρ hd ⟨z, rfl⟩
      refine ⟨[B, .dn (enD 0 (seenB [] (xs.take i))), .ol (nL (num [] (xs.take i))), .sh d], rfl, ?_⟩
      have hdm := List.mem_of_getElem? hd
      have hlt : i < xs.length := (List.getElem?_eq_some_iff.mp hd).1
      have sub : ∀ y ∈ seenB [] (xs.take i), y ∈ xs := fun y hy => by
        rcases seenB_mem _ _ _ hy with z | z
        · cases z
        · exact List.mem_of_mem_take z
      have eN : num [] (xs.take (i + 1)) = num [] (xs.take i) ++ [numOf (seenB [] (xs.take i)) d] := by rw [take_snoc hd, num_snoc]; rfl
      have eS : seenB [] (xs.take (i + 1)) = seenOf (seenB [] (xs.take i)) d := by rw [take_snoc hd, seenB_snoc]; rfl
      have sl : (seenB [] (xs.take i)).length ≤ 1000 := by
        have := seenB_le (xs.take i) []
        simp at this
        omega
      have nl : (num [] (xs.take i)).length ≤ 1000 := by rw [num_len]; simp; omega
      have hlook := look_seenOf (seen := seenB [] (xs.take i)) (eqv_refl d)
      generalize seenB [] (xs.take i) = seen at *
      generalize num [] (xs.take i) = ns at *
      have k0 := keyOk_enD hk sub hdm 0
      have ll : (enD 0 seen).length < 16777216 := by rw [enD_len]; omega
      have nl2 : (nL ns).length < 16777216 := by rw [nL_len]; omega
      have k1 : keyOk (enD 0 (seenOf seen d)) d = true := keyOk_enD hk (fun y hy => by
        unfold seenOf at hy
        cases e : fix d seen with
        | some j => rw [e] at hy; exact sub y hy
        | none =>
          rw [e] at hy
          rcases List.mem_append.mp hy with z | z
          · exact sub y z
          · simp at z; subst z; exact hdm) hdm 0
      have fin : Y (exSs C L96_2b1 [B, .dn (enD 0 (seenOf seen d)), .ol (nL ns), .sh d]) (Turn (fun i ρ => ∃ z, ρ = [B, .dn (enD 0 (seenB [] (xs.take i))), .ol (nL (num [] (xs.take i))), z]) i) := by
        rw [t96_2b1]
        simp [S96_2b1, allB_map, all_id, allB, ev_k, ev_v, ev_g, ev_fr, ev_tup, ev_lst, ev_dct, ev_bin, ev_neg, ev_not, ev_and, ev_or, ev_cmp, ev_chain, ev_ite, ev_idx, ev_slc, ev_call, ev_bi, ev_bm, ev_mu, ev_isi, ev_rpr, ev_lset, ev_dcn, ev_dc1, ev_dget, ev_dsd, ev_pr2, ev_rev, asgTS, biD, isDn, isOd, hasD, dgetN, dsdS, revF, zip3F, ex_ret_, ex_retN_, ex_asg_, ex_asgT_, ex_setI_, ex_ex_, ex_ifs_, ex_pass_, ex_brk_, ex_cont_, evT, evA, evF, evI, evO, vw, see, res, tru, D.truth, cmpS, cmpV, cmpF, inF, retS, List.replicate, biS, vws, biF, keepSh, asgS, binS, binF, fz, idxS, idxF, intOf, blOf, slcS, slcF, D.noK, isTy, pks, nodup, argS, argsBack, Y_ok, Y_ite, Y_nil, Kc_nx, Kc_rt, Kc_bk, Kc_ct, setIF, isOD, lookS, putS, muF, lock, unlock, rangeF, bindT, setT, LIM, wrOf, isSh, bmS, bmF, bmT, zipF, itemsZ, enumF, ↓reduceIte, evF, k1, hlook, nl2]
        refine ⟨.inl rfl, .sh d, ?_⟩
        rw [eN, eS, ← nL_app]
      rw [t96_2b0]
      have hl0 := look_enD seen 0 d
      cases e : fix d seen with
      | some j =>
        rw [e] at hl0
        have hl0 : lookD d (enD 0 seen) = some (.int ((0 + j : Nat) : Int)) := hl0
        have es : seenOf seen d = seen := by unfold seenOf; rw [e]
        rw [es] at fin
        simp [S96_2b0, allB_map, all_id, allB, ev_k, ev_v, ev_g, ev_fr, ev_tup, ev_lst, ev_dct, ev_bin, ev_neg, ev_not, ev_and, ev_or, ev_cmp, ev_chain, ev_ite, ev_idx, ev_slc, ev_call, ev_bi, ev_bm, ev_mu, ev_isi, ev_rpr, ev_lset, ev_dcn, ev_dc1, ev_dget, ev_dsd, ev_pr2, ev_rev, asgTS, biD, isDn, isOd, hasD, dgetN, dsdS, revF, zip3F, ex_ret_, ex_retN_, ex_asg_, ex_asgT_, ex_setI_, ex_ex_, ex_ifs_, ex_pass_, ex_brk_, ex_cont_, evT, evA, evF, evI, evO, vw, see, res, tru, D.truth, cmpS, cmpV, cmpF, inF, retS, List.replicate, biS, vws, biF, keepSh, asgS, binS, binF, fz, idxS, idxF, intOf, blOf, slcS, slcF, D.noK, isTy, pks, nodup, argS, argsBack, Y_ok, Y_ite, Y_nil, Kc_nx, Kc_rt, Kc_bk, Kc_ct, setIF, isOD, lookS, putS, muF, lock, unlock, rangeF, bindT, setT, LIM, wrOf, isSh, bmS, bmF, bmT, zipF, itemsZ, enumF, ↓reduceIte, dsdS, k0, ll, hl0]
        exact fin
      | none =>
        rw [e] at hl0
        have hl0 : lookD d (enD 0 seen) = none := hl0
        have ep : putD d (.int ((enD 0 seen).length : Int)) (enD 0 seen) = enD 0 (seenOf seen d) := by
          rw [putD_new hl0, enD_len]
          unfold seenOf
          rw [e, enD_snoc, Nat.zero_add]
        simp [S96_2b0, allB_map, all_id, allB, ev_k, ev_v, ev_g, ev_fr, ev_tup, ev_lst, ev_dct, ev_bin, ev_neg, ev_not, ev_and, ev_or, ev_cmp, ev_chain, ev_ite, ev_idx, ev_slc, ev_call, ev_bi, ev_bm, ev_mu, ev_isi, ev_rpr, ev_lset, ev_dcn, ev_dc1, ev_dget, ev_dsd, ev_pr2, ev_rev, asgTS, biD, isDn, isOd, hasD, dgetN, dsdS, revF, zip3F, ex_ret_, ex_retN_, ex_asg_, ex_asgT_, ex_setI_, ex_ex_, ex_ifs_, ex_pass_, ex_brk_, ex_cont_, evT, evA, evF, evI, evO, vw, see, res, tru, D.truth, cmpS, cmpV, cmpF, inF, retS, List.replicate, biS, vws, biF, keepSh, asgS, binS, binF, fz, idxS, idxF, intOf, blOf, slcS, slcF, D.noK, isTy, pks, nodup, argS, argsBack, Y_ok, Y_ite, Y_nil, Kc_nx, Kc_rt, Kc_bk, Kc_ct, setIF, isOD, lookS, putS, muF, lock, unlock, rangeF, bindT, setT, LIM, wrOf, isSh, bmS, bmF, bmT, zipF, itemsZ, enumF, ↓reduceIte, dsdS, k0, ll, hl0, ep]
        exact fin
    · rintro _ ⟨z, rfl⟩
      rw [List.take_length, (hB C _).2, Kc_nx, t96_3]
      simp [S96_3, allB_map, all_id, allB, ev_k, ev_v, ev_g, ev_fr, ev_tup, ev_lst, ev_dct, ev_bin, ev_neg, ev_not, ev_and, ev_or, ev_cmp, ev_chain, ev_ite, ev_idx, ev_slc, ev_call, ev_bi, ev_bm, ev_mu, ev_isi, ev_rpr, ev_lset, ev_dcn, ev_dc1, ev_dget, ev_dsd, ev_pr2, ev_rev, asgTS, biD, isDn, isOd, hasD, dgetN, dsdS, revF, zip3F, ex_ret_, ex_retN_, ex_asg_, ex_asgT_, ex_setI_, ex_ex_, ex_ifs_, ex_pass_, ex_brk_, ex_cont_, evT, evA, evF, evI, evO, vw, see, res, tru, D.truth, cmpS, cmpV, cmpF, inF, retS, List.replicate, biS, vws, biF, keepSh, asgS, binS, binF, fz, idxS, idxF, intOf, blOf, slcS, slcF, D.noK, isTy, pks, nodup, argS, argsBack, Y_ok, Y_ite, Y_nil, Kc_nx, Kc_rt, Kc_bk, Kc_ct, setIF, isOD, lookS, putS, muF, lock, unlock, rangeF, bindT, setT, LIM, wrOf, isSh, bmS, bmF, bmT, zipF, itemsZ, enumF, ↓reduceIte, w2]
  obtain ⟨_, e, rfl⟩ := this
  exact e
end Mp
namespace Mp
/-! word_key(word): 0=word -/
def S88_0 : Sm := (.ret (.tup (.cons (.isi (.v 0) [.bool]) (.cons (.v 0) .nil))))
def L88_0 : Sms := .cons S88_0 .nil
theorem t88_0 (C : Ctx) (ρ : Env) (Q : Fl × Env → Prop) : Y (exSs C L88_0 ρ) Q = Y (exS C S88_0 ρ) (Kc C .nil Q) := Y_st _ _ _ _ _
/-! classes(nexts, words): 0=nexts 1=words 2=found 3=going 4=finer 5=word 6=spot 7=row 8=other -/
def S101_2b2 : Sm := (.asg 2 (.v 4))
def L101_2b2 : Sms := .cons S101_2b2 .nil
theorem t101_2b2 (C : Ctx) (ρ : Env) (Q : Fl × Env → Prop) : Y (exSs C L101_2b2 ρ) Q = Y (exS C S101_2b2 ρ) (Kc C .nil Q) := Y_st _ _ _ _ _
def S101_2b1 : Sm := (.asg 3 (.cmp .gt (.bi .max (.cons (.v 4) .nil)) (.bi .max (.cons (.v 2) .nil))))
def L101_2b1 : Sms := .cons S101_2b1 L101_2b2
theorem t101_2b1 (C : Ctx) (ρ : Env) (Q : Fl × Env → Prop) : Y (exSs C L101_2b1 ρ) Q = Y (exS C S101_2b1 ρ) (Kc C L101_2b2 Q) := Y_st _ _ _ _ _
def S101_2b0 : Sm := (.asg 4 (.call 100 (.cons (.lc (.tup (.cons (.idx (.v 2) (.v 6)) (.cons (.bi .tuple (.cons (.lc (.idx (.v 2) (.v 8)) [8] false (.e (.v 7)) .tt) .nil)) .nil))) [6, 7] true (.enum (.cons (.v 0) .nil)) .tt) .nil)))
def L101_2b0 : Sms := .cons S101_2b0 L101_2b1
theorem t101_2b0 (C : Ctx) (ρ : Env) (Q : Fl × Env → Prop) : Y (exSs C L101_2b0 ρ) Q = Y (exS C S101_2b0 ρ) (Kc C L101_2b1 Q) := Y_st _ _ _ _ _
def S101_3 : Sm := (.ret (.v 2))
def L101_3 : Sms := .cons S101_3 .nil
theorem t101_3 (C : Ctx) (ρ : Env) (Q : Fl × Env → Prop) : Y (exSs C L101_3 ρ) Q = Y (exS C S101_3 ρ) (Kc C .nil Q) := Y_st _ _ _ _ _
def S101_2 : Sm := (.whl (.e (.v 3)) L101_2b0)
def L101_2 : Sms := .cons S101_2 L101_3
theorem t101_2 (C : Ctx) (ρ : Env) (Q : Fl × Env → Prop) : Y (exSs C L101_2 ρ) Q = Y (exS C S101_2 ρ) (Kc C L101_3 Q) := Y_st _ _ _ _ _
def S101_1 : Sm := (.asg 3 (.k (.bl true)))
def L101_1 : Sms := .cons S101_1 L101_2
theorem t101_1 (C : Ctx) (ρ : Env) (Q : Fl × Env → Prop) : Y (exSs C L101_1 ρ) Q = Y (exS C S101_1 ρ) (Kc C L101_2 Q) := Y_st _ _ _ _ _
def S101_0 : Sm := (.asg 2 (.call 100 (.cons (.lc (.call 88 (.cons (.v 5) .nil)) [5] false (.e (.v 1)) .tt) .nil)))
def L101_0 : Sms := .cons S101_0 L101_1
theorem t101_0 (C : Ctx) (ρ : Env) (Q : Fl × Env → Prop) : Y (exSs C L101_0 ρ) Q = Y (exS C S101_0 ρ) (Kc C L101_1 Q) := Y_st _ _ _ _ _
/-! _law_classes(_law_nexts, _law_marks): 0=_law_nexts 1=_law_marks 2=_law_found 3=_law_turn 4=_law_firsts 5=_law_word 6=_law_k 7=_law_n -/
def S97_1b1 : Sm := (.asg 2 (.call 96 (.cons (.v 4) .nil)))
def L97_1b1 : Sms := .cons S97_1b1 .nil
theorem t97_1b1 (C : Ctx) (ρ : Env) (Q : Fl × Env → Prop) : Y (exSs C L97_1b1 ρ) Q = Y (exS C S97_1b1 ρ) (Kc C .nil Q) := Y_st _ _ _ _ _
def S97_1b0 : Sm := (.asg 4 (.lc (.tup (.cons (.idx (.v 2) (.v 6)) (.cons (.bi .tuple (.cons (.lc (.idx (.v 2) (.v 7)) [7] false (.e (.idx (.v 0) (.v 6))) .tt) .nil)) .nil))) [6] false (.range (.cons (.bi .len (.cons (.v 0) .nil)) .nil)) .tt))
def L97_1b0 : Sms := .cons S97_1b0 L97_1b1
theorem t97_1b0 (C : Ctx) (ρ : Env) (Q : Fl × Env → Prop) : Y (exSs C L97_1b0 ρ) Q = Y (exS C S97_1b0 ρ) (Kc C L97_1b1 Q) := Y_st _ _ _ _ _
def S97_2 : Sm := (.ret (.v 2))
def L97_2 : Sms := .cons S97_2 .nil
theorem t97_2 (C : Ctx) (ρ : Env) (Q : Fl × Env → Prop) : Y (exSs C L97_2 ρ) Q = Y (exS C S97_2 ρ) (Kc C .nil Q) := Y_st _ _ _ _ _
def S97_1 : Sm := (.for_ [3] false (.range (.cons (.bi .len (.cons (.v 0) .nil)) .nil)) L97_1b0)
def L97_1 : Sms := .cons S97_1 L97_2
theorem t97_1 (C : Ctx) (ρ : Env) (Q : Fl × Env → Prop) : Y (exSs C L97_1 ρ) Q = Y (exS C S97_1 ρ) (Kc C L97_2 Q) := Y_st _ _ _ _ _
def S97_0 : Sm := (.asg 2 (.call 96 (.cons (.lc (.rpr (.v 5)) [5] false (.e (.v 1)) .tt) .nil)))
def L97_0 : Sms := .cons S97_0 L97_1
theorem t97_0 (C : Ctx) (ρ : Env) (Q : Fl × Env → Prop) : Y (exSs C L97_0 ρ) Q = Y (exS C S97_0 ρ) (Kc C L97_1 Q) := Y_st _ _ _ _ _
structure HCls (P : Pg) : Prop extends HNums P where
  word_key : P.fn 88 = some ⟨1, 1, L88_0⟩
  classes : P.fn 101 = some ⟨2, 9, L101_0⟩
structure HLCls (P : Pg) : Prop extends HLNums P where
  law_classes : P.fn 97 = some ⟨2, 8, L97_0⟩
/-- a comprehension over pairs whose item is computed and nothing else -/
theorem lc_pure2 {C : Ctx} {elt : Ex} {t u : Nat} {it : It} {ρ : Env} {xs : List D} (f : D → D) (h1 : evI C it ρ = .ok ((xs, []), ρ)) (ht : t < ρ.length) (hu : u < ρ.length) (hn : t ≠ u) (ho : isOwn (ρ.get t) = false) (ho2 : isOwn (ρ.get u) = false) (hl : xs.length ≤ LIM)
    (he : ∀ d ∈ xs, ∃ a b, d = .tup [a, b] ∧ evE C elt ((ρ.set t (.sh a)).set u (.sh b)) = .ok (.sh (f d), (ρ.set t (.sh a)).set u (.sh b))) : evE C (.lc elt [t, u] true it .tt) ρ = .ok (.ol (xs.map f), ρ) := by
  have g2 : ((ρ.set t (ρ.get t)).set u (ρ.get u)) = ρ := by rw [envset_get ht, envset_get hu]
  obtain ⟨ρe, e, z, w, rfl⟩ := lc_ev (C := C) (elt := elt) (tg := [t, u]) (tup := true) (it := it) (cond := .tt) (ρ := ρ) (ρ1 := ρ) (ds := xs) (lk := []) (fun ρ' => ∃ z w, ρ' = (ρ.set t z).set u w) (fun d => some (f d)) h1 (by simp [noOwn, ho, ho2]) ⟨ρ.get t, ρ.get u, g2.symm⟩ hl (by
    rintro d hd _ ⟨z, w, rfl⟩
    obtain ⟨a, b, rfl, e⟩ := he d hd
    refine ⟨(ρ.set t (.sh a)).set u (.sh b), (ρ.set t (.sh a)).set u (.sh b), true, ?_, by rw [evT], .inl ⟨rfl, .sh _, _, _, _, e, rfl, rfl, _, _, rfl⟩⟩
    have hss : ∀ (z w a b : Sl), (((ρ.set t z).set u w).set t a).set u b = (ρ.set t a).set u b := fun z w a b => by rw [List.set_comm w a hn.symm, List.set_set, List.set_set]
    simp only [bindT, setT, wipeE, if_true]
    rw [List.set_set, List.set_set, hss])
  have ef : ∀ xs : List D, xs.filterMap (fun d => some (f d)) = xs.map f := fun xs => by induction xs <;> simp [*]
  rw [e, ef]
  simp only [unlock, giveBack]
  rw [List.set_set, List.set_comm _ _ hn, List.set_set, envset_get hu, envset_get ht]
/-! ### words -/
inductive Wd where
  | b (x : Bool)
  | s (x : List Nat)
deriving DecidableEq
def wD : Wd → D
  | .b x => .bl x
  | .s x => .str x
def wkD (d : D) : D := .tup [.bl (isTy d .bool), d]
theorem kd_wk : Kd (fun w => wkD (wD w)) where
  iff := fun a b => by
    cases a <;> cases b <;> simp [wkD, wD, isTy, D.eqv, D.eqvs]
theorem word_key42 {P : Pg} (h : HCls P) (wf n : Nat) (w : Wd) : callM P wf (n + 1) 88 [.sh (wD w)] = .ok (.sh (wkD (wD w)), [.sh (wD w)]) := by
  refine call_run h.word_key rfl rfl (by decide) (fun C c1 c2 c3 c4 c5 => ?_) rfl
  cases w <;> simp [allB_map, all_id, allB, ev_k, ev_v, ev_g, ev_fr, ev_tup, ev_lst, ev_dct, ev_bin, ev_neg, ev_not, ev_and, ev_or, ev_cmp, ev_chain, ev_ite, ev_idx, ev_slc, ev_call, ev_bi, ev_bm, ev_mu, ev_isi, ev_rpr, ev_lset, ev_dcn, ev_dc1, ev_dget, ev_dsd, ev_pr2, ev_rev, asgTS, biD, isDn, isOd, hasD, dgetN, dsdS, revF, zip3F, ex_ret_, ex_retN_, ex_asg_, ex_asgT_, ex_setI_, ex_ex_, ex_ifs_, ex_pass_, ex_brk_, ex_cont_, evT, evA, evF, evI, evO, vw, see, res, tru, D.truth, cmpS, cmpV, cmpF, inF, retS, List.replicate, biS, vws, biF, keepSh, asgS, binS, binF, fz, idxS, idxF, intOf, blOf, slcS, slcF, D.noK, isTy, pks, nodup, argS, argsBack, Y_ok, Y_ite, Y_nil, Kc_nx, Kc_rt, Kc_bk, Kc_ct, setIF, isOD, lookS, putS, muF, lock, unlock, rangeF, bindT, setT, LIM, wrOf, isSh, bmS, bmF, bmT, zipF, itemsZ, enumF, ↓reduceIte, S88_0, t88_0, evF, wkD, wD]
/-! ### keys -/
def keyD (k : Nat × List Nat) : D := .tup [.int (k.1 : Int), .tup (k.2.map fun (o : Nat) => D.int (o : Int))]
theorem eqvs_int : ∀ a b : List Nat, D.eqvs (a.map fun (o : Nat) => D.int (o : Int)) (b.map fun (o : Nat) => D.int (o : Int)) = true ↔ a = b
  | [], [] => by simp [D.eqvs]
  | [], _ :: _ => by simp [D.eqvs]
  | _ :: _, [] => by simp [D.eqvs]
  | x :: a, y :: b => by
    simp only [List.map_cons, D.eqvs, D.eqv, Bool.and_eq_true, beq_iff_eq, List.cons.injEq, eqvs_int a b, Int.ofNat_inj]
theorem kd_key : Kd keyD where
  iff := fun a b => by
    obtain ⟨a1, a2⟩ := a
    obtain ⟨b1, b2⟩ := b
    simp only [keyD, D.eqv, D.eqvs, Bool.and_eq_true, beq_iff_eq, Prod.mk.injEq, eqvs_int, Int.ofNat_inj, and_true]
theorem deps_ints : ∀ a : List Nat, D.deps (a.map fun (o : Nat) => D.int (o : Int)) = 0
  | [] => rfl
  | x :: a => by simp [D.deps, D.dep, deps_ints a]
theorem hshs_ints : ∀ a : List Nat, D.hshs (a.map fun (o : Nat) => D.int (o : Int)) = true
  | [] => rfl
  | x :: a => by simp [D.hshs, D.hsh, hshs_ints a]
theorem key_tupk (k : Nat × List Nat) : (keyD k).tupk = true := by simp [keyD, D.tupk, D.hshs, D.hsh, hshs_ints, D.deps, D.dep, deps_ints]
theorem wk_tupk (w : Wd) : (wkD (wD w)).tupk = true := by cases w <;> simp [wkD, wD, isTy, D.tupk, D.hshs, D.hsh, D.deps, D.dep]
/-! ### the greatest -/
theorem maxI_eq {m : Int} : ∀ (ns : List Int) (n : Int), (∀ x ∈ n :: ns, x ≤ m) → m ∈ n :: ns → maxI n ns = m
  | [], n, _, h => by simp at h; rw [h]; rfl
  | b :: r, n, hle, h => by
    unfold maxI
    have hn := hle n List.mem_cons_self
    have hb := hle b (List.mem_cons_of_mem _ List.mem_cons_self)
    by_cases q : b > n
    · rw [if_pos q]
      refine maxI_eq r b (fun x hx => hle x (List.mem_cons_of_mem _ hx)) ?_
      rcases List.mem_cons.mp h with z | z
      · omega
      · exact z
    · rw [if_neg q]
      refine maxI_eq r n (fun x hx => ?_) ?_
      · rcases List.mem_cons.mp hx with rfl | hx
        · exact hn
        · exact hle x (List.mem_cons_of_mem _ (List.mem_cons_of_mem _ hx))
      · rcases List.mem_cons.mp h with z | z
        · rw [z]; exact List.mem_cons_self
        · rcases List.mem_cons.mp z with w | w
          · have : m = n := by omega
            rw [this]; exact List.mem_cons_self
          · exact List.mem_cons_of_mem _ w
theorem allI_nL : ∀ c : List Nat, allI (nL c) = some (c.map fun (k : Nat) => (k : Int))
  | [] => rfl
  | x :: c => by
    show (allI (nL c)).map _ = _
    rw [allI_nL c]
    rfl
theorem max_can {c : List Nat} (hc : numA [] c = c) (h : c ≠ []) : biF .max [.lst (nL c)] = some (.sh (.int ((cnt c : Int) - 1))) := by
  have hm := numA_max h
  rw [hc] at hm
  have hlt : ∀ x ∈ c, x < cnt c := fun x hx => by
    rw [← hc] at hx
    exact numA_lt hx
  have hpos := hlt _ hm
  cases c with
  | nil => exact absurd rfl h
  | cons x r =>
    show (match allI (nL (x :: r)) with | some (n :: ns) => some (Sl.sh (.int (maxI n ns))) | _ => none) = _
    rw [allI_nL]
    show some (Sl.sh (.int (maxI (x : Int) (r.map fun (k : Nat) => (k : Int))))) = _
    rw [maxI_eq (m := (cnt (x :: r) : Int) - 1)]
    · intro y hy
      obtain ⟨z, hz, rfl⟩ := List.mem_map.mp (show y ∈ (x :: r).map (fun (k : Nat) => (k : Int)) from hy)
      have := hlt z hz
      omega
    · refine List.mem_map.mpr ⟨cnt (x :: r) - 1, hm, ?_⟩
      show ((cnt (x :: r) - 1 : Nat) : Int) = _
      omega
/-! ### refining, by the texts -/
def gD (c : List Nat) : D → D
  | .int i => .int (c.getD i.toNat 0 : Nat)
  | d => d
/-- found, in whichever slot -/
def Fnd (A : Sl) (c : List Nat) : Prop := A = .ol (nL c) ∨ A = .sh (.lst (nL c))
theorem nL_getD {c : List Nat} {o : Nat} (h : o < c.length) : atI (nL c) (o : Int) = some (.int (c.getD o 0 : Nat)) := by
  refine nL_at ?_
  rw [List.getD_eq_getElem?_getD, List.getElem?_eq_getElem h]
  rfl
theorem enum_map (nx : List (List Nat)) (c : List Nat) : (enumL 0 (nx.map nD)).map (fun d => match d with | .tup [.int s, _] => keyD (keyAt nx c s.toNat) | d => d) = (keysL nx c).map keyD := by
  have go : ∀ (l : List (List Nat)) (k : Nat), (enumL k (l.map nD)).map (fun d => match d with | .tup [.int s, _] => keyD (keyAt nx c s.toNat) | d => d) = (List.range' k l.length).map fun s => keyD (keyAt nx c s) := by
    intro l
    induction l with
    | nil => intro k; rfl
    | cons x l ih =>
      intro k
      rw [List.map_cons]
      show _ :: (enumL (k + 1) (l.map nD)).map _ = _
      rw [ih (k + 1)]
      rfl
  rw [go]
  unfold keysL
  rw [List.map_map, List.range_eq_range']
  rfl
structure NxW (nx : List (List Nat)) (N : Nat) : Prop extends NxOk nx N where
  pos : 0 < N
  few : N ≤ 200
  wid : ∀ r ∈ nx, r.length ≤ 200
theorem enumL_mem {nx : List (List Nat)} {d : D} (h : d ∈ enumL 0 (nx.map nD)) : ∃ (s : Nat) (r : List Nat), nx[s]? = some r ∧ d = .tup [.int (s : Int), nD r] := by
  obtain ⟨i, hi⟩ := List.getElem?_of_mem h
  rw [enumL_at, List.getElem?_map] at hi
  cases e : nx[i]? with
  | none => rw [e] at hi; cases hi
  | some r =>
    rw [e] at hi
    cases hi
    exact ⟨i, r, e, by simp⟩
/-- the row of a key -/
theorem row_key {C : Ctx} {ρ : Env} {c r : List Nat} {A : Sl} {t v : Nat} {it : It} (ht : t < ρ.length) (ho : isOwn (ρ.get t) = false) (hv : ∀ z, Env.get (ρ.set t z) v = A) (hA : Fnd A c) (h1 : evI C it ρ = .ok ((r.map fun (o : Nat) => D.int (o : Int), []), ρ)) (hr : ∀ o ∈ r, o < c.length) (hl : r.length ≤ 200) :
    evE C (.lc (.idx (.v v) (.v t)) [t] false it .tt) ρ = .ok (.ol ((r.map fun o => c.getD o 0).map fun (o : Nat) => D.int (o : Int)), ρ) := by
  have e := lc_pure (C := C) (elt := .idx (.v v) (.v t)) (t := t) (it := it) (ρ := ρ) (xs := r.map fun (o : Nat) => D.int (o : Int)) (gD c) h1 ht ho (by rw [List.length_map]; show _ ≤ 16777216; omega) (fun d hd => by
    obtain ⟨o, ho', rfl⟩ := List.mem_map.mp hd
    have gt : Env.get (ρ.set t (.sh (.int (o : Int)))) t = .sh (.int (o : Int)) := envget_set ht
    have gv := hv (.sh (.int (o : Int)))
    have ei := nL_getD (hr o ho')
    rcases hA with rfl | rfl
    · refine ev_idxv (x := .pk v) (by rw [ev_v, gv]) (by rw [ev_v, gt]) ?_
      simp only [idxS, vw, see, res, gv, idxF, ei]
      rfl
    · refine ev_idxv (x := .sh (.lst (nL c))) (by rw [ev_v, gv]) (by rw [ev_v, gt]) ?_
      simp only [idxS, vw, see, res, idxF, ei]
      rfl)
  rw [e, List.map_map, List.map_map]
  rfl
def ClsQ (a b : Sl) (nx : List (List Nat)) (c : List Nat) : Fl × Env → Prop := fun r => ∃ ρ, r = (.rt (.sh (.lst (nL (cls nx c)))), a :: b :: ρ)
theorem classes42 {P : Pg} (h : HCls P) (wf n : Nat) (hwf : 1000 ≤ wf) {nx : List (List Nat)} {N : Nat} (hn : NxW nx N) {ws : List Wd} (hw : ws.length = N) : callM P wf (n + 2) 101 [.sh (nxD nx), .sh (.tup (ws.map wD))] = .ok (.sh (.lst (nL (cls nx (numA [] ws)))), [.sh (nxD nx), .sh (.tup (ws.map wD))]) := by
  have : Y (callM P wf (n + 2) 101 [.sh (nxD nx), .sh (.tup (ws.map wD))]) fun r => r = (.sh (.lst (nL (cls nx (numA [] ws)))), [.sh (nxD nx), .sh (.tup (ws.map wD))]) := by
    refine call_by (ClsQ (.sh (nxD nx)) (.sh (.tup (ws.map wD))) nx (numA [] ws)) h.classes rfl rfl (by decide) (fun C c1 c2 c3 c4 c5 => ?_) (by rintro _ ⟨ρ, rfl⟩; exact ⟨_, _, rfl, rfl, by simp [keepSh]⟩)
    show Y (exSs C L101_0 [.sh (nxD nx), .sh (.tup (ws.map wD)), .un, .un, .un, .un, .un, .un, .un]) _
    have w2 : C.wr 2 = true := by rw [c3]; rfl
    have w3 : C.wr 3 = true := by rw [c3]; rfl
    have w4 : C.wr 4 = true := by rw [c3]; rfl
    have hlen := hn.len
    have hpos := hn.pos
    have hfew := hn.few
    have e0 := lc_pure (C := C) (elt := .call 88 (.cons (.v 5) .nil)) (t := 5) (it := .e (.v 1)) (ρ := [.sh (nxD nx), .sh (.tup (ws.map wD)), .un, .un, .un, .un, .un, .un, .un]) (xs := ws.map wD) wkD (by simp [allB_map, all_id, allB, ev_k, ev_v, ev_g, ev_fr, ev_tup, ev_lst, ev_dct, ev_bin, ev_neg, ev_not, ev_and, ev_or, ev_cmp, ev_chain, ev_ite, ev_idx, ev_slc, ev_call, ev_bi, ev_bm, ev_mu, ev_isi, ev_rpr, ev_lset, ev_dcn, ev_dc1, ev_dget, ev_dsd, ev_pr2, ev_rev, asgTS, biD, isDn, isOd, hasD, dgetN, dsdS, revF, zip3F, ex_ret_, ex_retN_, ex_asg_, ex_asgT_, ex_setI_, ex_ex_, ex_ifs_, ex_pass_, ex_brk_, ex_cont_, evT, evA, evF, evI, evO, vw, see, res, tru, D.truth, cmpS, cmpV, cmpF, inF, retS, List.replicate, biS, vws, biF, keepSh, asgS, binS, binF, fz, idxS, idxF, intOf, blOf, slcS, slcF, D.noK, isTy, pks, nodup, argS, argsBack, Y_ok, Y_ite, Y_nil, Kc_nx, Kc_rt, Kc_bk, Kc_ct, setIF, isOD, lookS, putS, muF, lock, unlock, rangeF, bindT, setT, LIM, wrOf, isSh, bmS, bmF, bmT, zipF, itemsZ, enumF, ↓reduceIte]) (by simp) rfl (by simp [LIM]; omega) (fun d hd => by
      obtain ⟨w, _, rfl⟩ := List.mem_map.mp hd
      have := word_key42 h wf n w
      simp [allB_map, all_id, allB, ev_k, ev_v, ev_g, ev_fr, ev_tup, ev_lst, ev_dct, ev_bin, ev_neg, ev_not, ev_and, ev_or, ev_cmp, ev_chain, ev_ite, ev_idx, ev_slc, ev_call, ev_bi, ev_bm, ev_mu, ev_isi, ev_rpr, ev_lset, ev_dcn, ev_dc1, ev_dget, ev_dsd, ev_pr2, ev_rev, asgTS, biD, isDn, isOd, hasD, dgetN, dsdS, revF, zip3F, ex_ret_, ex_retN_, ex_asg_, ex_asgT_, ex_setI_, ex_ex_, ex_ifs_, ex_pass_, ex_brk_, ex_cont_, evT, evA, evF, evI, evO, vw, see, res, tru, D.truth, cmpS, cmpV, cmpF, inF, retS, List.replicate, biS, vws, biF, keepSh, asgS, binS, binF, fz, idxS, idxF, intOf, blOf, slcS, slcF, D.noK, isTy, pks, nodup, argS, argsBack, Y_ok, Y_ite, Y_nil, Kc_nx, Kc_rt, Kc_bk, Kc_ct, setIF, isOD, lookS, putS, muF, lock, unlock, rangeF, bindT, setT, LIM, wrOf, isSh, bmS, bmF, bmT, zipF, itemsZ, enumF, ↓reduceIte, c1, this])
    have ek : (ws.map wD).map wkD = ws.map fun w => wkD (wD w) := by rw [List.map_map]; rfl
    have en := numbers_of42 h.toHNums wf n (xs := (ws.map wD).map wkD) (.inr fun x hx => by
      rw [ek] at hx
      obtain ⟨w, _, rfl⟩ := List.mem_map.mp hx
      exact wk_tupk w) (by simp; omega)
    have em : num [] ((ws.map wD).map wkD) = numA [] ws := by rw [ek]; exact num_map kd_wk ws []
    rw [em] at en
    rw [ek] at e0 en
    generalize hc : numA [] ws = c at *
    have hcl : c.length = nx.length := by rw [← hc, numA_len]; omega
    have hcc : numA [] c = c := by rw [← hc]; exact numA_can _
    have hp0 : 0 < nx.length := by omega
    rw [t101_0]
    simp only [S101_0, ex_asg_, ev_call, evA, e0]
    simp [allB_map, all_id, allB, ev_k, ev_v, ev_g, ev_fr, ev_tup, ev_lst, ev_dct, ev_bin, ev_neg, ev_not, ev_and, ev_or, ev_cmp, ev_chain, ev_ite, ev_idx, ev_slc, ev_call, ev_bi, ev_bm, ev_mu, ev_isi, ev_rpr, ev_lset, ev_dcn, ev_dc1, ev_dget, ev_dsd, ev_pr2, ev_rev, asgTS, biD, isDn, isOd, hasD, dgetN, dsdS, revF, zip3F, ex_ret_, ex_retN_, ex_asg_, ex_asgT_, ex_setI_, ex_ex_, ex_ifs_, ex_pass_, ex_brk_, ex_cont_, evT, evA, evF, evI, evO, vw, see, res, tru, D.truth, cmpS, cmpV, cmpF, inF, retS, List.replicate, biS, vws, biF, keepSh, asgS, binS, binF, fz, idxS, idxF, intOf, blOf, slcS, slcF, D.noK, isTy, pks, nodup, argS, argsBack, Y_ok, Y_ite, Y_nil, Kc_nx, Kc_rt, Kc_bk, Kc_ct, setIF, isOD, lookS, putS, muF, lock, unlock, rangeF, bindT, setT, LIM, wrOf, isSh, bmS, bmF, bmT, zipF, itemsZ, enumF, ↓reduceIte, c1, en, w2]
    rw [t101_1]
    simp [S101_1, allB_map, all_id, allB, ev_k, ev_v, ev_g, ev_fr, ev_tup, ev_lst, ev_dct, ev_bin, ev_neg, ev_not, ev_and, ev_or, ev_cmp, ev_chain, ev_ite, ev_idx, ev_slc, ev_call, ev_bi, ev_bm, ev_mu, ev_isi, ev_rpr, ev_lset, ev_dcn, ev_dc1, ev_dget, ev_dsd, ev_pr2, ev_rev, asgTS, biD, isDn, isOd, hasD, dgetN, dsdS, revF, zip3F, ex_ret_, ex_retN_, ex_asg_, ex_asgT_, ex_setI_, ex_ex_, ex_ifs_, ex_pass_, ex_brk_, ex_cont_, evT, evA, evF, evI, evO, vw, see, res, tru, D.truth, cmpS, cmpV, cmpF, inF, retS, List.replicate, biS, vws, biF, keepSh, asgS, binS, binF, fz, idxS, idxF, intOf, blOf, slcS, slcF, D.noK, isTy, pks, nodup, argS, argsBack, Y_ok, Y_ite, Y_nil, Kc_nx, Kc_rt, Kc_bk, Kc_ct, setIF, isOD, lookS, putS, muF, lock, unlock, rangeF, bindT, setT, LIM, wrOf, isSh, bmS, bmF, bmT, zipF, itemsZ, enumF, ↓reduceIte, w3]
    rw [t101_2]
    have nonE : ∀ k, refK nx c k ≠ [] := fun k e => by
      have := refK_len hcl k
      rw [e] at this
      simp at this
      omega
    have cpos : ∀ k, 0 < cnt (refK nx c k) := fun k => by
      have := numA_max (nonE k)
      rw [refK_can hcc k] at this
      rw [← refK_can hcc k] at this
      have := numA_lt this
      show 0 < (uniqA [] (refK nx c k)).length
      omega
    refine whl_W (fun m ρ => (m = 0 ∧ ∃ z4 z5 z6 z7 z8, ρ = [.sh (nxD nx), .sh (.tup (ws.map wD)), .sh (.lst (nL (cls nx c))), .sh (.bl false), z4, z5, z6, z7, z8]) ∨ ∃ k A z4, Fnd A (refK nx c k) ∧ m = nx.length + 2 - cnt (refK nx c k) ∧ ρ = [.sh (nxD nx), .sh (.tup (ws.map wD)), A, .sh (.bl true), z4, .un, .un, .un, .un]) (nx.length + 2 - cnt (refK nx c 0)) (by rw [c4]; omega) (.inr ⟨0, _, .un, .inl rfl, rfl, rfl⟩) ?_
    rintro m ρ (⟨rfl, z4, z5, z6, z7, z8, rfl⟩ | ⟨k, A, z4, hA, rfl, rfl⟩)
    · refine ⟨false, _, by simp [evT, allB_map, all_id, allB, ev_k, ev_v, ev_g, ev_fr, ev_tup, ev_lst, ev_dct, ev_bin, ev_neg, ev_not, ev_and, ev_or, ev_cmp, ev_chain, ev_ite, ev_idx, ev_slc, ev_call, ev_bi, ev_bm, ev_mu, ev_isi, ev_rpr, ev_lset, ev_dcn, ev_dc1, ev_dget, ev_dsd, ev_pr2, ev_rev, asgTS, biD, isDn, isOd, hasD, dgetN, dsdS, revF, zip3F, ex_ret_, ex_retN_, ex_asg_, ex_asgT_, ex_setI_, ex_ex_, ex_ifs_, ex_pass_, ex_brk_, ex_cont_, evT, evA, evF, evI, evO, vw, see, res, tru, D.truth, cmpS, cmpV, cmpF, inF, retS, List.replicate, biS, vws, biF, keepSh, asgS, binS, binF, fz, idxS, idxF, intOf, blOf, slcS, slcF, D.noK, isTy, pks, nodup, argS, argsBack, Y_ok, Y_ite, Y_nil, Kc_nx, Kc_rt, Kc_bk, Kc_ct, setIF, isOD, lookS, putS, muF, lock, unlock, rangeF, bindT, setT, LIM, wrOf, isSh, bmS, bmF, bmT, zipF, itemsZ, enumF, ↓reduceIte]; rfl, fun z => (by cases z), fun _ => ?_⟩
      rw [Kc_nx, t101_3]
      simp [S101_3, allB_map, all_id, allB, ev_k, ev_v, ev_g, ev_fr, ev_tup, ev_lst, ev_dct, ev_bin, ev_neg, ev_not, ev_and, ev_or, ev_cmp, ev_chain, ev_ite, ev_idx, ev_slc, ev_call, ev_bi, ev_bm, ev_mu, ev_isi, ev_rpr, ev_lset, ev_dcn, ev_dc1, ev_dget, ev_dsd, ev_pr2, ev_rev, asgTS, biD, isDn, isOd, hasD, dgetN, dsdS, revF, zip3F, ex_ret_, ex_retN_, ex_asg_, ex_asgT_, ex_setI_, ex_ex_, ex_ifs_, ex_pass_, ex_brk_, ex_cont_, evT, evA, evF, evI, evO, vw, see, res, tru, D.truth, cmpS, cmpV, cmpF, inF, retS, List.replicate, biS, vws, biF, keepSh, asgS, binS, binF, fz, idxS, idxF, intOf, blOf, slcS, slcF, D.noK, isTy, pks, nodup, argS, argsBack, Y_ok, Y_ite, Y_nil, Kc_nx, Kc_rt, Kc_bk, Kc_ct, setIF, isOD, lookS, putS, muF, lock, unlock, rangeF, bindT, setT, LIM, wrOf, isSh, bmS, bmF, bmT, zipF, itemsZ, enumF, ↓reduceIte]
      exact ⟨_, rfl⟩
    · refine ⟨true, _, by simp [evT, allB_map, all_id, allB, ev_k, ev_v, ev_g, ev_fr, ev_tup, ev_lst, ev_dct, ev_bin, ev_neg, ev_not, ev_and, ev_or, ev_cmp, ev_chain, ev_ite, ev_idx, ev_slc, ev_call, ev_bi, ev_bm, ev_mu, ev_isi, ev_rpr, ev_lset, ev_dcn, ev_dc1, ev_dget, ev_dsd, ev_pr2, ev_rev, asgTS, biD, isDn, isOd, hasD, dgetN, dsdS, revF, zip3F, ex_ret_, ex_retN_, ex_asg_, ex_asgT_, ex_setI_, ex_ex_, ex_ifs_, ex_pass_, ex_brk_, ex_cont_, evT, evA, evF, evI, evO, vw, see, res, tru, D.truth, cmpS, cmpV, cmpF, inF, retS, List.replicate, biS, vws, biF, keepSh, asgS, binS, binF, fz, idxS, idxF, intOf, blOf, slcS, slcF, D.noK, isTy, pks, nodup, argS, argsBack, Y_ok, Y_ite, Y_nil, Kc_nx, Kc_rt, Kc_bk, Kc_ct, setIF, isOD, lookS, putS, muF, lock, unlock, rangeF, bindT, setT, LIM, wrOf, isSh, bmS, bmF, bmT, zipF, itemsZ, enumF, ↓reduceIte]; rfl, fun _ => ?_, fun z => (by cases z)⟩
      have rl := refK_len hcl k
      have e1 := lc_pure2 (C := C) (elt := .tup (.cons (.idx (.v 2) (.v 6)) (.cons (.bi .tuple (.cons (.lc (.idx (.v 2) (.v 8)) [8] false (.e (.v 7)) .tt) .nil)) .nil))) (t := 6) (u := 7) (it := .enum (.cons (.v 0) .nil)) (ρ := [.sh (nxD nx), .sh (.tup (ws.map wD)), A, .sh (.bl true), z4, .un, .un, .un, .un]) (xs := enumL 0 (nx.map nD)) (fun d => match d with | .tup [.int s, _] => keyD (keyAt nx (refK nx c k) s.toNat) | d => d)
        (by simp [allB_map, all_id, allB, ev_k, ev_v, ev_g, ev_fr, ev_tup, ev_lst, ev_dct, ev_bin, ev_neg, ev_not, ev_and, ev_or, ev_cmp, ev_chain, ev_ite, ev_idx, ev_slc, ev_call, ev_bi, ev_bm, ev_mu, ev_isi, ev_rpr, ev_lset, ev_dcn, ev_dc1, ev_dget, ev_dsd, ev_pr2, ev_rev, asgTS, biD, isDn, isOd, hasD, dgetN, dsdS, revF, zip3F, ex_ret_, ex_retN_, ex_asg_, ex_asgT_, ex_setI_, ex_ex_, ex_ifs_, ex_pass_, ex_brk_, ex_cont_, evT, evA, evF, evI, evO, vw, see, res, tru, D.truth, cmpS, cmpV, cmpF, inF, retS, List.replicate, biS, vws, biF, keepSh, asgS, binS, binF, fz, idxS, idxF, intOf, blOf, slcS, slcF, D.noK, isTy, pks, nodup, argS, argsBack, Y_ok, Y_ite, Y_nil, Kc_nx, Kc_rt, Kc_bk, Kc_ct, setIF, isOD, lookS, putS, muF, lock, unlock, rangeF, bindT, setT, LIM, wrOf, isSh, bmS, bmF, bmT, zipF, itemsZ, enumF, ↓reduceIte, nxD]) (by simp) (by simp) (by decide) rfl rfl (by rw [enumL_len]; simp [LIM]; omega) (fun d hd => by
          obtain ⟨s, r, hs, rfl⟩ := enumL_mem hd
          have hsl : s < nx.length := (List.getElem?_eq_some_iff.mp hs).1
          have hrm := List.mem_of_getElem? hs
          refine ⟨_, _, rfl, ?_⟩
          have e2 := row_key (C := C) (ρ := [.sh (nxD nx), .sh (.tup (ws.map wD)), A, .sh (.bl true), z4, .un, .sh (.int (s : Int)), .sh (nD r), .un]) (c := refK nx c k) (r := r) (A := A) (t := 8) (v := 2) (it := .e (.v 7)) (by simp) rfl (fun _ => rfl) hA (by simp [allB_map, all_id, allB, ev_k, ev_v, ev_g, ev_fr, ev_tup, ev_lst, ev_dct, ev_bin, ev_neg, ev_not, ev_and, ev_or, ev_cmp, ev_chain, ev_ite, ev_idx, ev_slc, ev_call, ev_bi, ev_bm, ev_mu, ev_isi, ev_rpr, ev_lset, ev_dcn, ev_dc1, ev_dget, ev_dsd, ev_pr2, ev_rev, asgTS, biD, isDn, isOd, hasD, dgetN, dsdS, revF, zip3F, ex_ret_, ex_retN_, ex_asg_, ex_asgT_, ex_setI_, ex_ex_, ex_ifs_, ex_pass_, ex_brk_, ex_cont_, evT, evA, evF, evI, evO, vw, see, res, tru, D.truth, cmpS, cmpV, cmpF, inF, retS, List.replicate, biS, vws, biF, keepSh, asgS, binS, binF, fz, idxS, idxF, intOf, blOf, slcS, slcF, D.noK, isTy, pks, nodup, argS, argsBack, Y_ok, Y_ite, Y_nil, Kc_nx, Kc_rt, Kc_bk, Kc_ct, setIF, isOD, lookS, putS, muF, lock, unlock, rangeF, bindT, setT, LIM, wrOf, isSh, bmS, bmF, bmT, zipF, itemsZ, enumF, ↓reduceIte, nD]) (fun o ho => by rw [rl]; have := hn.row r hrm o ho; omega) (hn.wid r hrm)
          have e3 := nL_getD (c := refK nx c k) (o := s) (by omega)
          have er : nx.getD s [] = r := by rw [List.getD_eq_getElem?_getD, hs]; rfl
          show evE C _ [.sh (nxD nx), .sh (.tup (ws.map wD)), A, .sh (.bl true), z4, .un, .sh (.int (s : Int)), .sh (nD r), .un] = _
          rcases hA with rfl | rfl <;> simp [allB_map, all_id, allB, ev_k, ev_v, ev_g, ev_fr, ev_tup, ev_lst, ev_dct, ev_bin, ev_neg, ev_not, ev_and, ev_or, ev_cmp, ev_chain, ev_ite, ev_idx, ev_slc, ev_call, ev_bi, ev_bm, ev_mu, ev_isi, ev_rpr, ev_lset, ev_dcn, ev_dc1, ev_dget, ev_dsd, ev_pr2, ev_rev, asgTS, biD, isDn, isOd, hasD, dgetN, dsdS, revF, zip3F, ex_ret_, ex_retN_, ex_asg_, ex_asgT_, ex_setI_, ex_ex_, ex_ifs_, ex_pass_, ex_brk_, ex_cont_, evT, evA, evF, evI, evO, vw, see, res, tru, D.truth, cmpS, cmpV, cmpF, inF, retS, List.replicate, biS, vws, biF, keepSh, asgS, binS, binF, fz, idxS, idxF, intOf, blOf, slcS, slcF, D.noK, isTy, pks, nodup, argS, argsBack, Y_ok, Y_ite, Y_nil, Kc_nx, Kc_rt, Kc_bk, Kc_ct, setIF, isOD, lookS, putS, muF, lock, unlock, rangeF, bindT, setT, LIM, wrOf, isSh, bmS, bmF, bmT, zipF, itemsZ, enumF, ↓reduceIte, evF, e2, e3, keyD, keyAt, hs])
      rw [enum_map] at e1
      have e4 := numbers_of42 h.toHNums wf n (xs := (keysL nx (refK nx c k)).map keyD) (.inr fun x hx => by
        obtain ⟨w, _, rfl⟩ := List.mem_map.mp hx
        exact key_tupk w) (by rw [List.length_map, keysL_len]; omega)
      have e5 : num [] ((keysL nx (refK nx c k)).map keyD) = refK nx c (k + 1) := num_map kd_key (keysL nx (refK nx c k)) []
      rw [e5] at e4
      have m1 := max_can (refK_can hcc k) (nonE k)
      have m2 := max_can (refK_can hcc (k + 1)) (nonE (k + 1))
      have p1 := cpos k
      have p2 := cpos (k + 1)
      have le1 := cnt_le hcl k
      rw [t101_2b0]
      simp only [S101_2b0, ex_asg_, ev_call, evA, e1]
      simp [allB_map, all_id, allB, ev_k, ev_v, ev_g, ev_fr, ev_tup, ev_lst, ev_dct, ev_bin, ev_neg, ev_not, ev_and, ev_or, ev_cmp, ev_chain, ev_ite, ev_idx, ev_slc, ev_call, ev_bi, ev_bm, ev_mu, ev_isi, ev_rpr, ev_lset, ev_dcn, ev_dc1, ev_dget, ev_dsd, ev_pr2, ev_rev, asgTS, biD, isDn, isOd, hasD, dgetN, dsdS, revF, zip3F, ex_ret_, ex_retN_, ex_asg_, ex_asgT_, ex_setI_, ex_ex_, ex_ifs_, ex_pass_, ex_brk_, ex_cont_, evT, evA, evF, evI, evO, vw, see, res, tru, D.truth, cmpS, cmpV, cmpF, inF, retS, List.replicate, biS, vws, biF, keepSh, asgS, binS, binF, fz, idxS, idxF, intOf, blOf, slcS, slcF, D.noK, isTy, pks, nodup, argS, argsBack, Y_ok, Y_ite, Y_nil, Kc_nx, Kc_rt, Kc_bk, Kc_ct, setIF, isOD, lookS, putS, muF, lock, unlock, rangeF, bindT, setT, LIM, wrOf, isSh, bmS, bmF, bmT, zipF, itemsZ, enumF, ↓reduceIte, c1, e4, w4]
      rw [t101_2b1]
      have e6 : evE C (.cmp .gt (.bi .max (.cons (.v 4) .nil)) (.bi .max (.cons (.v 2) .nil))) [.sh (nxD nx), .sh (.tup (ws.map wD)), A, .sh (.bl true), .ol (nL (refK nx c (k + 1))), .un, .un, .un, .un] = .ok (.sh (.bl (decide (cnt (refK nx c k) < cnt (refK nx c (k + 1))))), [.sh (nxD nx), .sh (.tup (ws.map wD)), A, .sh (.bl true), .ol (nL (refK nx c (k + 1))), .un, .un, .un, .un]) := by
        have d1 : decide ((cnt (refK nx c k) : Int) - 1 < (cnt (refK nx c (k + 1)) : Int) - 1) = decide (cnt (refK nx c k) < cnt (refK nx c (k + 1))) := by
          rw [decide_eq_decide]
          omega
        rcases hA with rfl | rfl <;> simp only [ev_cmp, ev_bi, evA, ev_v, get4, get2, bind_ok_eq, biS, res, vws, vw, see, Option.bind_some, m1, m2, of_some, cmpS, cmpV, cmpF, d1]
      simp only [S101_2b1, ex_asg_, e6]
      simp [allB_map, all_id, allB, ev_k, ev_v, ev_g, ev_fr, ev_tup, ev_lst, ev_dct, ev_bin, ev_neg, ev_not, ev_and, ev_or, ev_cmp, ev_chain, ev_ite, ev_idx, ev_slc, ev_call, ev_bi, ev_bm, ev_mu, ev_isi, ev_rpr, ev_lset, ev_dcn, ev_dc1, ev_dget, ev_dsd, ev_pr2, ev_rev, asgTS, biD, isDn, isOd, hasD, dgetN, dsdS, revF, zip3F, ex_ret_, ex_retN_, ex_asg_, ex_asgT_, ex_setI_, ex_ex_, ex_ifs_, ex_pass_, ex_brk_, ex_cont_, evT, evA, evF, evI, evO, vw, see, res, tru, D.truth, cmpS, cmpV, cmpF, inF, retS, List.replicate, biS, vws, biF, keepSh, asgS, binS, binF, fz, idxS, idxF, intOf, blOf, slcS, slcF, D.noK, isTy, pks, nodup, argS, argsBack, Y_ok, Y_ite, Y_nil, Kc_nx, Kc_rt, Kc_bk, Kc_ct, setIF, isOD, lookS, putS, muF, lock, unlock, rangeF, bindT, setT, LIM, wrOf, isSh, bmS, bmF, bmT, zipF, itemsZ, enumF, ↓reduceIte, w3]
      rw [t101_2b2]
      simp [S101_2b2, allB_map, all_id, allB, ev_k, ev_v, ev_g, ev_fr, ev_tup, ev_lst, ev_dct, ev_bin, ev_neg, ev_not, ev_and, ev_or, ev_cmp, ev_chain, ev_ite, ev_idx, ev_slc, ev_call, ev_bi, ev_bm, ev_mu, ev_isi, ev_rpr, ev_lset, ev_dcn, ev_dc1, ev_dget, ev_dsd, ev_pr2, ev_rev, asgTS, biD, isDn, isOd, hasD, dgetN, dsdS, revF, zip3F, ex_ret_, ex_retN_, ex_asg_, ex_asgT_, ex_setI_, ex_ex_, ex_ifs_, ex_pass_, ex_brk_, ex_cont_, evT, evA, evF, evI, evO, vw, see, res, tru, D.truth, cmpS, cmpV, cmpF, inF, retS, List.replicate, biS, vws, biF, keepSh, asgS, binS, binF, fz, idxS, idxF, intOf, blOf, slcS, slcF, D.noK, isTy, pks, nodup, argS, argsBack, Y_ok, Y_ite, Y_nil, Kc_nx, Kc_rt, Kc_bk, Kc_ct, setIF, isOD, lookS, putS, muF, lock, unlock, rangeF, bindT, setT, LIM, wrOf, isSh, bmS, bmF, bmT, zipF, itemsZ, enumF, ↓reduceIte, w2]
      by_cases q : cnt (refK nx c k) < cnt (refK nx c (k + 1))
      · exact ⟨nx.length + 2 - cnt (refK nx c (k + 1)), by have := cnt_le hcl (k + 1); omega, .inr ⟨k + 1, _, .inr rfl, rfl, rfl, q⟩⟩
      · have ec := refK_cls hcl hcc hp0 (k := k) (by omega)
        exact ⟨0, by omega, .inl ⟨rfl, by rw [ec], by omega⟩⟩
  obtain ⟨_, e, rfl⟩ := this
  exact e
/-! ### the law's -/
/-- how a word is shown -/
def rtW : Wd → List Nat
  | .b true => [84, 114, 117, 101]
  | .b false => [70, 97, 108, 115, 101]
  | .s x => [39] ++ x ++ [39]
theorem rtW_inj : ∀ {a b : Wd}, rtW a = rtW b → a = b
  | .b true, .b true, _ => rfl
  | .b false, .b false, _ => rfl
  | .b true, .b false, h => by simp [rtW] at h
  | .b false, .b true, h => by simp [rtW] at h
  | .b true, .s x, h => by simp [rtW] at h
  | .b false, .s x, h => by simp [rtW] at h
  | .s x, .b true, h => by simp [rtW] at h
  | .s x, .b false, h => by simp [rtW] at h
  | .s x, .s y, h => by
    simp only [rtW, List.append_assoc, List.cons_append, List.nil_append, List.cons.injEq, true_and] at h
    rw [List.append_cancel_right h]
theorem kd_rt : Kd (fun w => D.str (rtW w)) where
  iff := fun a b => by
    simp only [D.eqv, beq_iff_eq]
    exact ⟨rtW_inj, fun e => by rw [e]⟩
def kOfI (nx : List (List Nat)) (c : List Nat) : D → D
  | .int s => keyD (keyAt nx c s.toNat)
  | d => d
theorem range_keys (nx : List (List Nat)) (c : List Nat) : (rangeL 0 (nx.length : Int)).map (kOfI nx c) = (keysL nx c).map keyD := by
  unfold rangeL keysL
  rw [List.map_map, List.map_map]
  have e : ((nx.length : Int) - 0).toNat = nx.length := by omega
  rw [e]
  refine List.map_congr_left fun k _ => ?_
  simp [kOfI]
theorem law_classes42 {P : Pg} (h : HLCls P) (wf n : Nat) {nx : List (List Nat)} {N : Nat} (hn : NxW nx N) {ws : List Wd} (hw : ws.length = N) (hr : ∀ w ∈ ws, P.rp (wD w) = some (rtW w)) : callM P wf (n + 2) 97 [.sh (nxD nx), .sh (.tup (ws.map wD))] = .ok (.ol (nL (cls nx (numA [] ws))), [.sh (nxD nx), .sh (.tup (ws.map wD))]) := by
  have : Y (callM P wf (n + 2) 97 [.sh (nxD nx), .sh (.tup (ws.map wD))]) fun r => r = (.ol (nL (cls nx (numA [] ws))), [.sh (nxD nx), .sh (.tup (ws.map wD))]) := by
    refine call_by (fun r => ∃ ρ, r = (.rt (.ol (nL (cls nx (numA [] ws)))), .sh (nxD nx) :: .sh (.tup (ws.map wD)) :: ρ)) h.law_classes rfl rfl (by decide) (fun C c1 c2 c3 c4 c5 => ?_) (by rintro _ ⟨ρ, rfl⟩; exact ⟨_, _, rfl, rfl, by simp [keepSh]⟩)
    show Y (exSs C L97_0 [.sh (nxD nx), .sh (.tup (ws.map wD)), .un, .un, .un, .un, .un, .un]) _
    have w2 : C.wr 2 = true := by rw [c3]; rfl
    have w3 : C.wr 3 = true := by rw [c3]; rfl
    have w4 : C.wr 4 = true := by rw [c3]; rfl
    have hlen := hn.len
    have hpos := hn.pos
    have hfew := hn.few
    obtain ⟨g, hg⟩ : ∃ g : D → D, ∀ w ∈ ws, g (wD w) = .str (rtW w) := ⟨fun d => match d with | .bl b => .str (rtW (.b b)) | .str x => .str (rtW (.s x)) | d => d, fun w _ => by cases w <;> rfl⟩
    have e0 := lc_pure (C := C) (elt := .rpr (.v 5)) (t := 5) (it := .e (.v 1)) (ρ := [.sh (nxD nx), .sh (.tup (ws.map wD)), .un, .un, .un, .un, .un, .un]) (xs := ws.map wD) g (by simp [allB_map, all_id, allB, ev_k, ev_v, ev_g, ev_fr, ev_tup, ev_lst, ev_dct, ev_bin, ev_neg, ev_not, ev_and, ev_or, ev_cmp, ev_chain, ev_ite, ev_idx, ev_slc, ev_call, ev_bi, ev_bm, ev_mu, ev_isi, ev_rpr, ev_lset, ev_dcn, ev_dc1, ev_dget, ev_dsd, ev_pr2, ev_rev, asgTS, biD, isDn, isOd, hasD, dgetN, dsdS, revF, zip3F, ex_ret_, ex_retN_, ex_asg_, ex_asgT_, ex_setI_, ex_ex_, ex_ifs_, ex_pass_, ex_brk_, ex_cont_, evT, evA, evF, evI, evO, vw, see, res, tru, D.truth, cmpS, cmpV, cmpF, inF, retS, List.replicate, biS, vws, biF, keepSh, asgS, binS, binF, fz, idxS, idxF, intOf, blOf, slcS, slcF, D.noK, isTy, pks, nodup, argS, argsBack, Y_ok, Y_ite, Y_nil, Kc_nx, Kc_rt, Kc_bk, Kc_ct, setIF, isOD, lookS, putS, muF, lock, unlock, rangeF, bindT, setT, LIM, wrOf, isSh, bmS, bmF, bmT, zipF, itemsZ, enumF, ↓reduceIte]) (by simp) rfl (by simp [LIM]; omega) (fun d hd => by
      obtain ⟨w, hw', rfl⟩ := List.mem_map.mp hd
      have := hr w hw'
      rw [hg w hw']
      simp [allB_map, all_id, allB, ev_k, ev_v, ev_g, ev_fr, ev_tup, ev_lst, ev_dct, ev_bin, ev_neg, ev_not, ev_and, ev_or, ev_cmp, ev_chain, ev_ite, ev_idx, ev_slc, ev_call, ev_bi, ev_bm, ev_mu, ev_isi, ev_rpr, ev_lset, ev_dcn, ev_dc1, ev_dget, ev_dsd, ev_pr2, ev_rev, asgTS, biD, isDn, isOd, hasD, dgetN, dsdS, revF, zip3F, ex_ret_, ex_retN_, ex_asg_, ex_asgT_, ex_setI_, ex_ex_, ex_ifs_, ex_pass_, ex_brk_, ex_cont_, evT, evA, evF, evI, evO, vw, see, res, tru, D.truth, cmpS, cmpV, cmpF, inF, retS, List.replicate, biS, vws, biF, keepSh, asgS, binS, binF, fz, idxS, idxF, intOf, blOf, slcS, slcF, D.noK, isTy, pks, nodup, argS, argsBack, Y_ok, Y_ite, Y_nil, Kc_nx, Kc_rt, Kc_bk, Kc_ct, setIF, isOD, lookS, putS, muF, lock, unlock, rangeF, bindT, setT, LIM, wrOf, isSh, bmS, bmF, bmT, zipF, itemsZ, enumF, ↓reduceIte, c5, this])
    have ek : (ws.map wD).map g = ws.map fun w => D.str (rtW w) := by
      rw [List.map_map]
      exact List.map_congr_left fun w hw' => hg w hw'
    have en := law_numbered42 h.toHLNums wf n (xs := (ws.map wD).map g) (.inl fun x hx => by
      rw [ek] at hx
      obtain ⟨w, _, rfl⟩ := List.mem_map.mp hx
      rfl) (by simp; omega) _ (.inl rfl)
    have em : num [] ((ws.map wD).map g) = numA [] ws := by rw [ek]; exact num_map kd_rt ws []
    rw [em] at en
    rw [ek] at e0 en
    generalize hc : numA [] ws = c at *
    have hcl : c.length = nx.length := by rw [← hc, numA_len]; omega
    rw [t97_0]
    simp only [S97_0, ex_asg_, ev_call, evA, e0]
    simp [allB_map, all_id, allB, ev_k, ev_v, ev_g, ev_fr, ev_tup, ev_lst, ev_dct, ev_bin, ev_neg, ev_not, ev_and, ev_or, ev_cmp, ev_chain, ev_ite, ev_idx, ev_slc, ev_call, ev_bi, ev_bm, ev_mu, ev_isi, ev_rpr, ev_lset, ev_dcn, ev_dc1, ev_dget, ev_dsd, ev_pr2, ev_rev, asgTS, biD, isDn, isOd, hasD, dgetN, dsdS, revF, zip3F, ex_ret_, ex_retN_, ex_asg_, ex_asgT_, ex_setI_, ex_ex_, ex_ifs_, ex_pass_, ex_brk_, ex_cont_, evT, evA, evF, evI, evO, vw, see, res, tru, D.truth, cmpS, cmpV, cmpF, inF, retS, List.replicate, biS, vws, biF, keepSh, asgS, binS, binF, fz, idxS, idxF, intOf, blOf, slcS, slcF, D.noK, isTy, pks, nodup, argS, argsBack, Y_ok, Y_ite, Y_nil, Kc_nx, Kc_rt, Kc_bk, Kc_ct, setIF, isOD, lookS, putS, muF, lock, unlock, rangeF, bindT, setT, LIM, wrOf, isSh, bmS, bmF, bmT, zipF, itemsZ, enumF, ↓reduceIte, c1, en, w2]
    rw [t97_1]
    refine for_Y (lk := []) (ds := rangeL 0 (nx.length : Int)) (ρ1 := [.sh (nxD nx), .sh (.tup (ws.map wD)), .ol (nL c), .un, .un, .un, .un, .un]) (fun k ρ => ∃ z3 z4, ρ = [.sh (nxD nx), .sh (.tup (ws.map wD)), .ol (nL (refK nx c k)), z3, z4, .un, .un, .un]) ?_ ?_ ⟨_, _, rfl⟩ ?_ ?_
    · exact range_ev (by simp [allB_map, all_id, allB, ev_k, ev_v, ev_g, ev_fr, ev_tup, ev_lst, ev_dct, ev_bin, ev_neg, ev_not, ev_and, ev_or, ev_cmp, ev_chain, ev_ite, ev_idx, ev_slc, ev_call, ev_bi, ev_bm, ev_mu, ev_isi, ev_rpr, ev_lset, ev_dcn, ev_dc1, ev_dget, ev_dsd, ev_pr2, ev_rev, asgTS, biD, isDn, isOd, hasD, dgetN, dsdS, revF, zip3F, ex_ret_, ex_retN_, ex_asg_, ex_asgT_, ex_setI_, ex_ex_, ex_ifs_, ex_pass_, ex_brk_, ex_cont_, evT, evA, evF, evI, evO, vw, see, res, tru, D.truth, cmpS, cmpV, cmpF, inF, retS, List.replicate, biS, vws, biF, keepSh, asgS, binS, binF, fz, idxS, idxF, intOf, blOf, slcS, slcF, D.noK, isTy, pks, nodup, argS, argsBack, Y_ok, Y_ite, Y_nil, Kc_nx, Kc_rt, Kc_bk, Kc_ct, setIF, isOD, lookS, putS, muF, lock, unlock, rangeF, bindT, setT, LIM, wrOf, isSh, bmS, bmF, bmT, zipF, itemsZ, enumF, ↓reduceIte, nxD]) (by omega) (by omega)
    · simp [w3]
    · rintro k d ρ hd ⟨z3, z4, rfl⟩
      refine ⟨[.sh (nxD nx), .sh (.tup (ws.map wD)), .ol (nL (refK nx c k)), .sh d, z4, .un, .un, .un], rfl, ?_⟩
      have rl := refK_len hcl k
      have e1 := lc_pure (C := C) (elt := .tup (.cons (.idx (.v 2) (.v 6)) (.cons (.bi .tuple (.cons (.lc (.idx (.v 2) (.v 7)) [7] false (.e (.idx (.v 0) (.v 6))) .tt) .nil)) .nil))) (t := 6) (it := .range (.cons (.bi .len (.cons (.v 0) .nil)) .nil)) (ρ := [.sh (nxD nx), .sh (.tup (ws.map wD)), .ol (nL (refK nx c k)), .sh d, z4, .un, .un, .un]) (xs := rangeL 0 (nx.length : Int)) (kOfI nx (refK nx c k))
        (range_ev (by simp [allB_map, all_id, allB, ev_k, ev_v, ev_g, ev_fr, ev_tup, ev_lst, ev_dct, ev_bin, ev_neg, ev_not, ev_and, ev_or, ev_cmp, ev_chain, ev_ite, ev_idx, ev_slc, ev_call, ev_bi, ev_bm, ev_mu, ev_isi, ev_rpr, ev_lset, ev_dcn, ev_dc1, ev_dget, ev_dsd, ev_pr2, ev_rev, asgTS, biD, isDn, isOd, hasD, dgetN, dsdS, revF, zip3F, ex_ret_, ex_retN_, ex_asg_, ex_asgT_, ex_setI_, ex_ex_, ex_ifs_, ex_pass_, ex_brk_, ex_cont_, evT, evA, evF, evI, evO, vw, see, res, tru, D.truth, cmpS, cmpV, cmpF, inF, retS, List.replicate, biS, vws, biF, keepSh, asgS, binS, binF, fz, idxS, idxF, intOf, blOf, slcS, slcF, D.noK, isTy, pks, nodup, argS, argsBack, Y_ok, Y_ite, Y_nil, Kc_nx, Kc_rt, Kc_bk, Kc_ct, setIF, isOD, lookS, putS, muF, lock, unlock, rangeF, bindT, setT, LIM, wrOf, isSh, bmS, bmF, bmT, zipF, itemsZ, enumF, ↓reduceIte, nxD]) (by omega) (by omega)) (by simp) rfl (by rw [rangeL_len]; simp [LIM]; omega) (fun y hy => by
          obtain ⟨s, hs⟩ := List.getElem?_of_mem hy
          have hsl := range_lt hs
          have := range_at hs
          subst this
          have hsl : s < nx.length := by omega
          have hr' : nx[s]? = some nx[s] := List.getElem?_eq_getElem hsl
          have hrm := List.mem_of_getElem? hr'
          have ex := nx_at hsl
          have er : nx.getD s [] = nx[s] := by rw [List.getD_eq_getElem?_getD, hr']; rfl
          rw [er] at ex
          have e2 := row_key (C := C) (ρ := [.sh (nxD nx), .sh (.tup (ws.map wD)), .ol (nL (refK nx c k)), .sh d, z4, .un, .sh (.int (s : Int)), .un]) (c := refK nx c k) (r := nx[s]) (A := .ol (nL (refK nx c k))) (t := 7) (v := 2) (it := .e (.idx (.v 0) (.v 6))) (by simp) rfl (fun _ => rfl) (.inl rfl) (by simp only [nxD]; simp [allB_map, all_id, allB, ev_k, ev_v, ev_g, ev_fr, ev_tup, ev_lst, ev_dct, ev_bin, ev_neg, ev_not, ev_and, ev_or, ev_cmp, ev_chain, ev_ite, ev_idx, ev_slc, ev_call, ev_bi, ev_bm, ev_mu, ev_isi, ev_rpr, ev_lset, ev_dcn, ev_dc1, ev_dget, ev_dsd, ev_pr2, ev_rev, asgTS, biD, isDn, isOd, hasD, dgetN, dsdS, revF, zip3F, ex_ret_, ex_retN_, ex_asg_, ex_asgT_, ex_setI_, ex_ex_, ex_ifs_, ex_pass_, ex_brk_, ex_cont_, evT, evA, evF, evI, evO, vw, see, res, tru, D.truth, cmpS, cmpV, cmpF, inF, retS, List.replicate, biS, vws, biF, keepSh, asgS, binS, binF, fz, idxS, idxF, intOf, blOf, slcS, slcF, D.noK, isTy, pks, nodup, argS, argsBack, Y_ok, Y_ite, Y_nil, Kc_nx, Kc_rt, Kc_bk, Kc_ct, setIF, isOD, lookS, putS, muF, lock, unlock, rangeF, bindT, setT, LIM, wrOf, isSh, bmS, bmF, bmT, zipF, itemsZ, enumF, ↓reduceIte, nxD, ex, nD]) (fun o ho => by rw [rl]; have := hn.row _ hrm o ho; omega) (hn.wid _ hrm)
          have e3 := nL_getD (c := refK nx c k) (o := s) (by omega)
          show evE C _ [.sh (nxD nx), .sh (.tup (ws.map wD)), .ol (nL (refK nx c k)), .sh d, z4, .un, .sh (.int (s : Int)), .un] = _
          simp [allB_map, all_id, allB, ev_k, ev_v, ev_g, ev_fr, ev_tup, ev_lst, ev_dct, ev_bin, ev_neg, ev_not, ev_and, ev_or, ev_cmp, ev_chain, ev_ite, ev_idx, ev_slc, ev_call, ev_bi, ev_bm, ev_mu, ev_isi, ev_rpr, ev_lset, ev_dcn, ev_dc1, ev_dget, ev_dsd, ev_pr2, ev_rev, asgTS, biD, isDn, isOd, hasD, dgetN, dsdS, revF, zip3F, ex_ret_, ex_retN_, ex_asg_, ex_asgT_, ex_setI_, ex_ex_, ex_ifs_, ex_pass_, ex_brk_, ex_cont_, evT, evA, evF, evI, evO, vw, see, res, tru, D.truth, cmpS, cmpV, cmpF, inF, retS, List.replicate, biS, vws, biF, keepSh, asgS, binS, binF, fz, idxS, idxF, intOf, blOf, slcS, slcF, D.noK, isTy, pks, nodup, argS, argsBack, Y_ok, Y_ite, Y_nil, Kc_nx, Kc_rt, Kc_bk, Kc_ct, setIF, isOD, lookS, putS, muF, lock, unlock, rangeF, bindT, setT, LIM, wrOf, isSh, bmS, bmF, bmT, zipF, itemsZ, enumF, ↓reduceIte, evF, e2, e3, kOfI, keyD, keyAt, hr'])
      rw [range_keys] at e1
      have e4 := law_numbered42 h.toHLNums wf n (xs := (keysL nx (refK nx c k)).map keyD) (.inr fun x hx => by
        obtain ⟨w, _, rfl⟩ := List.mem_map.mp hx
        exact key_tupk w) (by rw [List.length_map, keysL_len]; omega) _ (.inl rfl)
      have e5 : num [] ((keysL nx (refK nx c k)).map keyD) = refK nx c (k + 1) := num_map kd_key (keysL nx (refK nx c k)) []
      rw [e5] at e4
      rw [t97_1b0]
      simp only [S97_1b0, ex_asg_, e1]
      simp [allB_map, all_id, allB, ev_k, ev_v, ev_g, ev_fr, ev_tup, ev_lst, ev_dct, ev_bin, ev_neg, ev_not, ev_and, ev_or, ev_cmp, ev_chain, ev_ite, ev_idx, ev_slc, ev_call, ev_bi, ev_bm, ev_mu, ev_isi, ev_rpr, ev_lset, ev_dcn, ev_dc1, ev_dget, ev_dsd, ev_pr2, ev_rev, asgTS, biD, isDn, isOd, hasD, dgetN, dsdS, revF, zip3F, ex_ret_, ex_retN_, ex_asg_, ex_asgT_, ex_setI_, ex_ex_, ex_ifs_, ex_pass_, ex_brk_, ex_cont_, evT, evA, evF, evI, evO, vw, see, res, tru, D.truth, cmpS, cmpV, cmpF, inF, retS, List.replicate, biS, vws, biF, keepSh, asgS, binS, binF, fz, idxS, idxF, intOf, blOf, slcS, slcF, D.noK, isTy, pks, nodup, argS, argsBack, Y_ok, Y_ite, Y_nil, Kc_nx, Kc_rt, Kc_bk, Kc_ct, setIF, isOD, lookS, putS, muF, lock, unlock, rangeF, bindT, setT, LIM, wrOf, isSh, bmS, bmF, bmT, zipF, itemsZ, enumF, ↓reduceIte, w4]
      rw [t97_1b1]
      have e6 : evE C (.call 96 (.cons (.v 4) .nil)) [.sh (nxD nx), .sh (.tup (ws.map wD)), .ol (nL (refK nx c k)), .sh d, .ol ((keysL nx (refK nx c k)).map keyD), .un, .un, .un] = .ok (.ol (nL (refK nx c (k + 1))), [.sh (nxD nx), .sh (.tup (ws.map wD)), .ol (nL (refK nx c k)), .sh d, .ol ((keysL nx (refK nx c k)).map keyD), .un, .un, .un]) := by
        simp only [ev_call, evA, ev_v, get4, bind_ok_eq, pks, nodup, List.contains_nil, Bool.not_false, Bool.and_true, if_true, List.map_cons, List.map_nil, argS, c1, e4, argsBack]
        rfl
      simp only [S97_1b1, ex_asg_, e6]
      simp [allB_map, all_id, allB, ev_k, ev_v, ev_g, ev_fr, ev_tup, ev_lst, ev_dct, ev_bin, ev_neg, ev_not, ev_and, ev_or, ev_cmp, ev_chain, ev_ite, ev_idx, ev_slc, ev_call, ev_bi, ev_bm, ev_mu, ev_isi, ev_rpr, ev_lset, ev_dcn, ev_dc1, ev_dget, ev_dsd, ev_pr2, ev_rev, asgTS, biD, isDn, isOd, hasD, dgetN, dsdS, revF, zip3F, ex_ret_, ex_retN_, ex_asg_, ex_asgT_, ex_setI_, ex_ex_, ex_ifs_, ex_pass_, ex_brk_, ex_cont_, evT, evA, evF, evI, evO, vw, see, res, tru, D.truth, cmpS, cmpV, cmpF, inF, retS, List.replicate, biS, vws, biF, keepSh, asgS, binS, binF, fz, idxS, idxF, intOf, blOf, slcS, slcF, D.noK, isTy, pks, nodup, argS, argsBack, Y_ok, Y_ite, Y_nil, Kc_nx, Kc_rt, Kc_bk, Kc_ct, setIF, isOD, lookS, putS, muF, lock, unlock, rangeF, bindT, setT, LIM, wrOf, isSh, bmS, bmF, bmT, zipF, itemsZ, enumF, ↓reduceIte, w2]
      exact ⟨.inl rfl, _, _, rfl⟩
    · rintro _ ⟨z3, z4, rfl⟩
      have el : (rangeL 0 (nx.length : Int)).length = nx.length := by rw [rangeL_len]; omega
      rw [el, Kc_nx, t97_2]
      simp [S97_2, allB_map, all_id, allB, ev_k, ev_v, ev_g, ev_fr, ev_tup, ev_lst, ev_dct, ev_bin, ev_neg, ev_not, ev_and, ev_or, ev_cmp, ev_chain, ev_ite, ev_idx, ev_slc, ev_call, ev_bi, ev_bm, ev_mu, ev_isi, ev_rpr, ev_lset, ev_dcn, ev_dc1, ev_dget, ev_dsd, ev_pr2, ev_rev, asgTS, biD, isDn, isOd, hasD, dgetN, dsdS, revF, zip3F, ex_ret_, ex_retN_, ex_asg_, ex_asgT_, ex_setI_, ex_ex_, ex_ifs_, ex_pass_, ex_brk_, ex_cont_, evT, evA, evF, evI, evO, vw, see, res, tru, D.truth, cmpS, cmpV, cmpF, inF, retS, List.replicate, biS, vws, biF, keepSh, asgS, binS, binF, fz, idxS, idxF, intOf, blOf, slcS, slcF, D.noK, isTy, pks, nodup, argS, argsBack, Y_ok, Y_ite, Y_nil, Kc_nx, Kc_rt, Kc_bk, Kc_ct, setIF, isOD, lookS, putS, muF, lock, unlock, rangeF, bindT, setT, LIM, wrOf, isSh, bmS, bmF, bmT, zipF, itemsZ, enumF, ↓reduceIte, w2, cls]
  obtain ⟨_, e, rfl⟩ := this
  exact e
end Mp
namespace Mp
/-! # rows that part two spots: plain -/
abbrev PP := Nat × Nat
abbrev PLs := List (PP × List D)
def stepP (row : List D) (L : PLs) (x : D × PP) : PLs := if x.2 ∈ L.map (·.1) then L else L ++ [(x.2, row ++ [x.1])]
def succP (nx : List (List Nat)) (p : PP) : List PP := (nx.getD p.1 []).zip (nx.getD p.2 [])
def xsP (hs : List D) (nx : List (List Nat)) (p : PP) : List (D × PP) := hs.zip (succP nx p)
def expP (hs : List D) (nx : List (List Nat)) (L : PLs) (q : PP × List D) : PLs := (xsP hs nx q.1).foldl (stepP q.2) L
/-- the first that is unlike -/
def qgo (hs : List D) (nx : List (List Nat)) (unl : PP → Bool) : Nat → Nat → PLs → Option (List D)
  | 0, _, _ => none
  | f + 1, k, L => match L[k]? with
    | none => none
    | some q => if unl q.1 then some q.2 else qgo hs nx unl f (k + 1) (expP hs nx L q)
theorem qgo_succ (hs : List D) (nx : List (List Nat)) (unl : PP → Bool) (f k : Nat) (L : PLs) : qgo hs nx unl (f + 1) k L = match L[k]? with
    | none => none
    | some q => if unl q.1 then some q.2 else qgo hs nx unl f (k + 1) (expP hs nx L q) := rfl
theorem stepP_pre (row : List D) (L : PLs) (x : D × PP) : ∃ t, stepP row L x = L ++ t := by
  unfold stepP
  split
  · exact ⟨[], by simp⟩
  · exact ⟨_, rfl⟩
theorem fold_pre (row : List D) : ∀ (xs : List (D × PP)) (L : PLs), ∃ t, xs.foldl (stepP row) L = L ++ t
  | [], L => ⟨[], by simp⟩
  | x :: xs, L => by
    obtain ⟨t, e⟩ := stepP_pre row L x
    obtain ⟨t2, e2⟩ := fold_pre row xs (L ++ t)
    exact ⟨t ++ t2, by rw [List.foldl_cons, e, e2, List.append_assoc]⟩
theorem expP_pre (hs : List D) (nx : List (List Nat)) (L : PLs) (q : PP × List D) : ∃ t, expP hs nx L q = L ++ t := fold_pre _ _ _
theorem exps_pre (hs : List D) (nx : List (List Nat)) : ∀ (fr : PLs) (L : PLs), ∃ t, fr.foldl (expP hs nx) L = L ++ t
  | [], L => ⟨[], by simp⟩
  | q :: fr, L => by
    obtain ⟨t, e⟩ := expP_pre hs nx L q
    obtain ⟨t2, e2⟩ := exps_pre hs nx fr (L ++ t)
    exact ⟨t ++ t2, by rw [List.foldl_cons, e, e2, List.append_assoc]⟩
/-- a layer at once -/
theorem qgo_lay (hs : List D) (nx : List (List Nat)) (unl : PP → Bool) : ∀ (fr A B : PLs) (f k : Nat), k = A.length → qgo hs nx unl (f + fr.length) k (A ++ fr ++ B) = match fr.find? (fun q => unl q.1) with
    | some q => some q.2
    | none => qgo hs nx unl f (k + fr.length) (fr.foldl (expP hs nx) (A ++ fr ++ B))
  | [], A, B, f, k, _ => rfl
  | q :: fr, A, B, f, k, hk => by
    have e : (A ++ (q :: fr) ++ B)[k]? = some q := by
      rw [List.append_assoc, List.getElem?_append_right (by omega), hk]
      simp
    show qgo hs nx unl ((f + fr.length) + 1) k _ = _
    rw [qgo_succ, e]
    by_cases u : unl q.1 = true
    · simp [u]
    · obtain ⟨t, et⟩ := expP_pre hs nx (A ++ (q :: fr) ++ B) q
      have ih := qgo_lay hs nx unl fr (A ++ [q]) (B ++ t) f (k + 1) (by simp [hk])
      have ea : A ++ [q] ++ fr ++ (B ++ t) = expP hs nx (A ++ (q :: fr) ++ B) q := by
        rw [et]
        simp [List.append_assoc]
      rw [ea] at ih
      simp only [u, if_false, List.find?_cons]
      rw [if_neg (by simp), ih]
      have : k + 1 + fr.length = k + (fr.length + 1) := by omega
      rw [this]
      rfl
/-! ### bounds -/
structure LOk (hs : List D) (N : Nat) (L : PLs) : Prop where
  nodup : (L.map (·.1)).Nodup
  lt : ∀ q ∈ L, q.1.1 < N ∧ q.1.2 < N
  row : ∀ (i : Nat) (q : PP × List D), L[i]? = some q → q.2.length ≤ i ∧ ∀ d ∈ q.2, d ∈ hs
def allP (N : Nat) : List PP := (List.range N).flatMap fun i => (List.range N).map fun j => (i, j)
theorem allP_len (N : Nat) : (allP N).length = N * N := by
  unfold allP
  rw [List.length_flatMap]
  simp [List.map_const', List.sum_replicate_nat]
theorem LOk.len {hs : List D} {N : Nat} {L : PLs} (h : LOk hs N L) : L.length ≤ N * N := by
  have := cover_le (L.map (·.1)) (allP N) h.nodup fun v hv => by
    obtain ⟨q, hq, rfl⟩ := List.mem_map.mp hv
    obtain ⟨h1, h2⟩ := h.lt q hq
    exact List.mem_flatMap.mpr ⟨q.1.1, List.mem_range.mpr h1, List.mem_map.mpr ⟨q.1.2, List.mem_range.mpr h2, rfl⟩⟩
  rw [allP_len, List.length_map] at this
  exact this
theorem stepP_ok {hs : List D} {N : Nat} {L : PLs} (h : LOk hs N L) {row : List D} {x : D × PP} (hr : row.length < L.length) (hd : ∀ d ∈ row, d ∈ hs) (h1 : x.1 ∈ hs) (h2 : x.2.1 < N ∧ x.2.2 < N) : LOk hs N (stepP row L x) := by
  unfold stepP
  split
  · exact h
  · rename_i hn
    refine ⟨?_, fun q hq => ?_, fun i q hq => ?_⟩
    · rw [List.map_append]
      refine List.nodup_append.mpr ⟨h.nodup, by simp, fun a ha b hb => ?_⟩
      simp at hb
      subst hb
      exact fun e => hn (e ▸ ha)
    · rcases List.mem_append.mp hq with z | z
      · exact h.lt q z
      · simp at z; subst z; exact h2
    · by_cases c : i < L.length
      · rw [List.getElem?_append_left c] at hq
        exact h.row i q hq
      · rw [List.getElem?_append_right (by omega)] at hq
        have hi : i = L.length := by
          have := (List.getElem?_eq_some_iff.mp hq).1
          simp at this
          omega
        subst hi
        simp at hq
        subst hq
        refine ⟨by simp; omega, fun d hd' => ?_⟩
        rcases List.mem_append.mp hd' with z | z
        · exact hd d z
        · simp at z; subst z; exact h1
theorem fold_ok {hs : List D} {N : Nat} {row : List D} (hd : ∀ d ∈ row, d ∈ hs) : ∀ {xs : List (D × PP)} {L : PLs}, LOk hs N L → row.length < L.length → (∀ x ∈ xs, x.1 ∈ hs ∧ x.2.1 < N ∧ x.2.2 < N) → LOk hs N (xs.foldl (stepP row) L)
  | [], L, h, _, _ => h
  | x :: xs, L, h, hr, hx => by
    obtain ⟨h1, h2⟩ := hx x List.mem_cons_self
    obtain ⟨t, e⟩ := stepP_pre row L x
    rw [List.foldl_cons]
    exact fold_ok hd (stepP_ok h hr hd h1 h2) (by rw [e, List.length_append]; omega) fun y hy => hx y (List.mem_cons_of_mem _ hy)
theorem xsP_ok {hs : List D} {nx : List (List Nat)} {N : Nat} (hn : NxOk nx N) (p : PP) : ∀ x ∈ xsP hs nx p, x.1 ∈ hs ∧ x.2.1 < N ∧ x.2.2 < N := by
  rintro ⟨d, a, b⟩ hx
  obtain ⟨h1, h2⟩ := List.of_mem_zip hx
  obtain ⟨h3, h4⟩ := List.of_mem_zip h2
  have key : ∀ (s o : Nat), o ∈ nx.getD s [] → o < N := fun s o ho => by
    by_cases hk : s < nx.length
    · rw [List.getD_eq_getElem?_getD, List.getElem?_eq_getElem hk] at ho
      exact hn.row _ (List.getElem_mem hk) o ho
    · rw [List.getD_eq_getElem?_getD, List.getElem?_eq_none (by omega)] at ho
      cases ho
  exact ⟨h1, key _ _ h3, key _ _ h4⟩
theorem expP_ok {hs : List D} {nx : List (List Nat)} {N : Nat} (hn : NxOk nx N) {L : PLs} (h : LOk hs N L) {q : PP × List D} (hq : q.2.length < L.length ∧ ∀ d ∈ q.2, d ∈ hs) : LOk hs N (expP hs nx L q) := fold_ok hq.2 h hq.1 (xsP_ok hn q.1)
theorem LOk.at {hs : List D} {N : Nat} {L : PLs} (h : LOk hs N L) {k : Nat} {q : PP × List D} (hq : L[k]? = some q) : (q.1.1 < N ∧ q.1.2 < N) ∧ q.2.length < L.length ∧ ∀ d ∈ q.2, d ∈ hs := by
  obtain ⟨h1, h2⟩ := h.row k q hq
  have hk := (List.getElem?_eq_some_iff.mp hq).1
  exact ⟨h.lt q (List.mem_of_getElem? hq), by omega, h2⟩
theorem exps_ok {hs : List D} {nx : List (List Nat)} {N : Nat} (hn : NxOk nx N) : ∀ {fr : PLs} {L : PLs}, LOk hs N L → (∀ q ∈ fr, q ∈ L) → LOk hs N (fr.foldl (expP hs nx) L)
  | [], L, h, _ => h
  | q :: fr, L, h, hf => by
    obtain ⟨k, hk⟩ := List.getElem?_of_mem (hf q List.mem_cons_self)
    obtain ⟨t, e⟩ := expP_pre hs nx L q
    rw [List.foldl_cons]
    refine exps_ok hn (expP_ok hn h (h.at hk).2) fun y hy => ?_
    rw [e]
    exact List.mem_append_left _ (hf y (List.mem_cons_of_mem _ hy))
theorem first_ok {hs : List D} {N a b : Nat} (ha : a < N) (hb : b < N) : LOk hs N [((a, b), [])] :=
  ⟨by simp, fun q hq => by simp at hq; subst hq; exact ⟨ha, hb⟩, fun i q hq => by
    cases i with
    | zero => cases hq; exact ⟨Nat.le_refl _, fun d hd => by cases hd⟩
    | succ i => cases hq⟩
/-- what is told -/
def partR (hs : List D) (nx : List (List Nat)) (unl : PP → Bool) (a b : Nat) : Option (List D) := qgo hs nx unl (nx.length * nx.length + 1) 0 [((a, b), [])]
theorem qgo_row {hs : List D} {nx : List (List Nat)} {N : Nat} (hn : NxOk nx N) (unl : PP → Bool) : ∀ (f k : Nat) (L : PLs) (r : List D), LOk hs N L → qgo hs nx unl f k L = some r → r.length ≤ N * N ∧ ∀ d ∈ r, d ∈ hs
  | 0, k, L, r, _, e => by cases e
  | f + 1, k, L, r, h, e => by
    rw [qgo_succ] at e
    cases eq : L[k]? with
    | none => rw [eq] at e; cases e
    | some q =>
      rw [eq] at e
      dsimp only at e
      obtain ⟨h1, h2, h3⟩ := h.at eq
      split at e
      · cases e
        have := h.len
        exact ⟨by omega, h3⟩
      · exact qgo_row hn unl f (k + 1) _ r (expP_ok hn h ⟨h2, h3⟩) e
end Mp
namespace Mp
/-! pairs_behind(nexts, pair): 0=nexts 1=pair -/
def S89_0 : Sm := (.ret (.lz (.cons (.idx (.v 0) (.idx (.v 1) (.k (.int (0))))) (.cons (.idx (.v 0) (.idx (.v 1) (.k (.int (1))))) .nil))))
def L89_0 : Sms := .cons S89_0 .nil
theorem t89_0 (C : Ctx) (ρ : Env) (Q : Fl × Env → Prop) : Y (exSs C L89_0 ρ) Q = Y (exS C S89_0 ρ) (Kc C .nil Q) := Y_st _ _ _ _ _
/-! parting(table, nexts, words, one, other): 0=table 1=nexts 2=words 3=one 4=other 5=rows 6=line 7=at 8=pair 9=happening 10=behind -/
def S90_3b1a0 : Sm := (.ret (.idx (.v 5) (.v 8)))
def L90_3b1a0 : Sms := .cons S90_3b1a0 .nil
theorem t90_3b1a0 (C : Ctx) (ρ : Env) (Q : Fl × Env → Prop) : Y (exSs C L90_3b1a0 ρ) Q = Y (exS C S90_3b1a0 ρ) (Kc C .nil Q) := Y_st _ _ _ _ _
def S90_3b2b0a1 : Sm := (.ex (.mu .append 6 (.cons (.v 10) .nil)))
def L90_3b2b0a1 : Sms := .cons S90_3b2b0a1 .nil
theorem t90_3b2b0a1 (C : Ctx) (ρ : Env) (Q : Fl × Env → Prop) : Y (exSs C L90_3b2b0a1 ρ) Q = Y (exS C S90_3b2b0a1 ρ) (Kc C .nil Q) := Y_st _ _ _ _ _
def S90_3b2b0a0 : Sm := (.setI 5 (.v 10) (.bin .add (.idx (.v 5) (.v 8)) (.tup (.cons (.v 9) .nil))))
def L90_3b2b0a0 : Sms := .cons S90_3b2b0a0 L90_3b2b0a1
theorem t90_3b2b0a0 (C : Ctx) (ρ : Env) (Q : Fl × Env → Prop) : Y (exSs C L90_3b2b0a0 ρ) Q = Y (exS C S90_3b2b0a0 ρ) (Kc C L90_3b2b0a1 Q) := Y_st _ _ _ _ _
def S90_3b2b0 : Sm := (.ifs (.e (.cmp .notin (.v 10) (.v 5))) L90_3b2b0a0 .nil)
def L90_3b2b0 : Sms := .cons S90_3b2b0 .nil
theorem t90_3b2b0 (C : Ctx) (ρ : Env) (Q : Fl × Env → Prop) : Y (exSs C L90_3b2b0 ρ) Q = Y (exS C S90_3b2b0 ρ) (Kc C .nil Q) := Y_st _ _ _ _ _
def S90_3b3 : Sm := (.asg 7 (.bin .add (.v 7) (.k (.int (1)))))
def L90_3b3 : Sms := .cons S90_3b3 .nil
theorem t90_3b3 (C : Ctx) (ρ : Env) (Q : Fl × Env → Prop) : Y (exSs C L90_3b3 ρ) Q = Y (exS C S90_3b3 ρ) (Kc C .nil Q) := Y_st _ _ _ _ _
def S90_3b2 : Sm := (.for_ [9, 10] true (.zip (.cons (.call 24 (.cons (.v 0) .nil)) (.cons (.call 89 (.cons (.v 1) (.cons (.v 8) .nil))) .nil))) L90_3b2b0)
def L90_3b2 : Sms := .cons S90_3b2 L90_3b3
theorem t90_3b2 (C : Ctx) (ρ : Env) (Q : Fl × Env → Prop) : Y (exSs C L90_3b2 ρ) Q = Y (exS C S90_3b2 ρ) (Kc C L90_3b3 Q) := Y_st _ _ _ _ _
def S90_3b1 : Sm := (.ifs (.e (.cmp .ne (.call 88 (.cons (.idx (.v 2) (.idx (.v 8) (.k (.int (0))))) .nil)) (.call 88 (.cons (.idx (.v 2) (.idx (.v 8) (.k (.int (1))))) .nil)))) L90_3b1a0 .nil)
def L90_3b1 : Sms := .cons S90_3b1 L90_3b2
theorem t90_3b1 (C : Ctx) (ρ : Env) (Q : Fl × Env → Prop) : Y (exSs C L90_3b1 ρ) Q = Y (exS C S90_3b1 ρ) (Kc C L90_3b2 Q) := Y_st _ _ _ _ _
def S90_3b0 : Sm := (.asg 8 (.idx (.v 6) (.v 7)))
def L90_3b0 : Sms := .cons S90_3b0 L90_3b1
theorem t90_3b0 (C : Ctx) (ρ : Env) (Q : Fl × Env → Prop) : Y (exSs C L90_3b0 ρ) Q = Y (exS C S90_3b0 ρ) (Kc C L90_3b1 Q) := Y_st _ _ _ _ _
def S90_4 : Sm := (.ret (.k .non))
def L90_4 : Sms := .cons S90_4 .nil
theorem t90_4 (C : Ctx) (ρ : Env) (Q : Fl × Env → Prop) : Y (exSs C L90_4 ρ) Q = Y (exS C S90_4 ρ) (Kc C .nil Q) := Y_st _ _ _ _ _
def S90_3 : Sm := (.whl (.e (.cmp .lt (.v 7) (.bi .len (.cons (.v 6) .nil)))) L90_3b0)
def L90_3 : Sms := .cons S90_3 L90_4
theorem t90_3 (C : Ctx) (ρ : Env) (Q : Fl × Env → Prop) : Y (exSs C L90_3 ρ) Q = Y (exS C S90_3 ρ) (Kc C L90_4 Q) := Y_st _ _ _ _ _
def S90_2 : Sm := (.asg 7 (.k (.int (0))))
def L90_2 : Sms := .cons S90_2 L90_3
theorem t90_2 (C : Ctx) (ρ : Env) (Q : Fl × Env → Prop) : Y (exSs C L90_2 ρ) Q = Y (exS C S90_2 ρ) (Kc C L90_3 Q) := Y_st _ _ _ _ _
def S90_1 : Sm := (.asg 6 (.lst (.cons (.tup (.cons (.v 3) (.cons (.v 4) .nil))) .nil)))
def L90_1 : Sms := .cons S90_1 L90_2
theorem t90_1 (C : Ctx) (ρ : Env) (Q : Fl × Env → Prop) : Y (exSs C L90_1 ρ) Q = Y (exS C S90_1 ρ) (Kc C L90_2 Q) := Y_st _ _ _ _ _
def S90_0 : Sm := (.asg 5 (.dc1 (.tup (.cons (.v 3) (.cons (.v 4) .nil))) (.tup .nil)))
def L90_0 : Sms := .cons S90_0 L90_1
theorem t90_0 (C : Ctx) (ρ : Env) (Q : Fl × Env → Prop) : Y (exSs C L90_0 ρ) Q = Y (exS C S90_0 ρ) (Kc C L90_1 Q) := Y_st _ _ _ _ _
structure HPart (P : Pg) : Prop where
  haps : P.fn 24 = some ⟨1, 5, L24_0⟩
  word_key : P.fn 88 = some ⟨1, 1, L88_0⟩
  pairs_behind : P.fn 89 = some ⟨2, 2, L89_0⟩
  parting : P.fn 90 = some ⟨5, 11, L90_0⟩
def prD (p : PP) : D := .tup [.int (p.1 : Int), .int (p.2 : Int)]
theorem prD_eq (p q : PP) : D.eqv (prD p) (prD q) = decide (p = q) := by
  obtain ⟨a, b⟩ := p
  obtain ⟨c, d⟩ := q
  simp [prD, D.eqv, D.eqvs, Bool.decide_and]
  congr 1 <;> (rw [Bool.eq_iff_iff]; simp; omega)
theorem kd_pr : Kd prD where
  iff := fun a b => by rw [prD_eq]; simp
theorem prD_tupk (p : PP) : (prD p).tupk = true := by simp [prD, D.tupk, D.hshs, D.hsh, D.deps, D.dep]
def plP (L : PLs) : List (D × D) := L.map fun q => (prD q.1, .tup q.2)
theorem plP_ok (L : PLs) (p : PP) : keyOk (plP L) (prD p) = true := by
  unfold keyOk
  rw [Bool.or_eq_true, Bool.and_eq_true, Bool.and_eq_true, List.all_eq_true, List.all_eq_true]
  refine .inr ⟨prD_tupk p, fun x hx => ?_⟩
  obtain ⟨q, _, rfl⟩ := List.mem_map.mp hx
  exact prD_tupk q.1
theorem plP_look : ∀ {L : PLs} {p : PP}, lookD (prD p) (plP L) = (L.find? fun q => q.1 = p).map fun q => .tup q.2
  | [], _ => rfl
  | q :: L, p => by
    show (if D.eqv (prD q.1) (prD p) then some (D.tup q.2) else lookD (prD p) (plP L)) = _
    rw [prD_eq, List.find?_cons, plP_look]
    by_cases c : q.1 = p <;> simp [c]
theorem find_at : ∀ {L : PLs} {k : Nat} {q : PP × List D}, (L.map (·.1)).Nodup → L[k]? = some q → L.find? (fun x => x.1 = q.1) = some q
  | [], _, _, _, e => by cases e
  | x :: L, 0, q, _, e => by
    cases e
    simp
  | x :: L, k + 1, q, hn, e => by
    have e : L[k]? = some q := e
    rw [List.map_cons, List.nodup_cons] at hn
    have ne : ¬ x.1 = q.1 := fun z => hn.1 (z ▸ List.mem_map.mpr ⟨q, List.mem_of_getElem? e, rfl⟩)
    rw [List.find?_cons]
    simp only [ne, decide_false]
    exact find_at hn.2 e
theorem find_no {L : PLs} {p : PP} (h : p ∉ L.map (·.1)) : L.find? (fun x => x.1 = p) = none := by
  rw [List.find?_eq_none]
  intro q hq
  simp only [decide_eq_true_eq]
  exact fun e => h (e ▸ List.mem_map.mpr ⟨q, hq, rfl⟩)
theorem find_yes {L : PLs} {p : PP} (h : p ∈ L.map (·.1)) : (L.find? (fun x => x.1 = p)).isSome = true := by
  rw [List.find?_isSome]
  obtain ⟨q, hq, rfl⟩ := List.mem_map.mp h
  exact ⟨q, hq, by simp⟩
theorem plP_len (L : PLs) : (plP L).length = L.length := by unfold plP; rw [List.length_map]
def lnP (L : PLs) : List D := L.map fun q => prD q.1
theorem lnP_len (L : PLs) : (lnP L).length = L.length := by unfold lnP; rw [List.length_map]
/-- what the zip gives -/
def zpD (x : D × PP) : D := .tup [x.1, prD x.2]
theorem zip_prD (a b : List Nat) : List.zipWith pairF (a.map fun (k : Nat) => D.int k) (b.map fun (k : Nat) => D.int k) = (a.zip b).map prD := by
  induction a generalizing b with
  | nil => rfl
  | cons x a ih =>
    cases b with
    | nil => rfl
    | cons y b =>
      show pairF _ _ :: _ = _
      rw [ih]
      rfl
theorem zip_zpD (hs : List D) (ps : List PP) : List.zipWith pairF hs (ps.map prD) = (hs.zip ps).map zpD := by
  induction hs generalizing ps with
  | nil => rfl
  | cons x a ih =>
    cases ps with
    | nil => rfl
    | cons y b =>
      show pairF _ _ :: _ = _
      rw [ih]
      rfl
theorem word_key_at {P : Pg} (h : P.fn 88 = some ⟨1, 1, L88_0⟩) (wf n : Nat) (w : Wd) : callM P wf (n + 1) 88 [.sh (wD w)] = .ok (.sh (wkD (wD w)), [.sh (wD w)]) := by
  refine call_run h rfl rfl (by decide) (fun C c1 c2 c3 c4 c5 => ?_) rfl
  cases w <;> simp [allB_map, all_id, allB, ev_k, ev_v, ev_g, ev_fr, ev_tup, ev_lst, ev_dct, ev_bin, ev_neg, ev_not, ev_and, ev_or, ev_cmp, ev_chain, ev_ite, ev_idx, ev_slc, ev_call, ev_bi, ev_bm, ev_mu, ev_isi, ev_rpr, ev_lset, ev_dcn, ev_dc1, ev_dget, ev_dsd, ev_pr2, ev_rev, ev_lz, ev_sst, sstF, asgTS, biD, isDn, isOd, hasD, dgetN, dsdS, revF, zip3F, ex_ret_, ex_retN_, ex_asg_, ex_asgT_, ex_setI_, ex_ex_, ex_ifs_, ex_pass_, ex_brk_, ex_cont_, evT, evA, evF, evI, evO, vw, see, res, tru, D.truth, cmpS, cmpV, cmpF, inF, retS, List.replicate, biS, vws, biF, keepSh, asgS, binS, binF, fz, idxS, idxF, intOf, blOf, slcS, slcF, D.noK, isTy, pks, nodup, argS, argsBack, Y_ok, Y_ite, Y_nil, Kc_nx, Kc_rt, Kc_bk, Kc_ct, setIF, isOD, lookS, putS, muF, lock, unlock, rangeF, bindT, setT, LIM, wrOf, isSh, bmS, bmF, bmT, zipF, itemsZ, enumF, ↓reduceIte, S88_0, t88_0, evF, wkD, wD]
theorem pairs_behind40 {P : Pg} (h : HPart P) (wf n : Nat) {nx : List (List Nat)} {N : Nat} (hn : NxW nx N) {p : PP} (hp : p.1 < N ∧ p.2 < N) :
    callM P wf (n + 1) 89 [.sh (nxD nx), .sh (prD p)] = .ok (.ol ((succP nx p).map prD), [.sh (nxD nx), .sh (prD p)]) := by
  refine call_run h.pairs_behind rfl rfl (by decide) (fun C c1 c2 c3 c4 c5 => ?_) rfl
  have h1 : p.1 < nx.length := by rw [hn.len]; exact hp.1
  have h2 : p.2 < nx.length := by rw [hn.len]; exact hp.2
  have r1 := nx_at h1
  have r2 := nx_at h2
  have m1 : nx.getD p.1 [] ∈ nx := by rw [List.getD_eq_getElem?_getD, List.getElem?_eq_getElem h1]; exact List.getElem_mem _
  have l1 := hn.wid _ m1
  unfold succP
  generalize nx.getD p.1 [] = a at *
  generalize nx.getD p.2 [] = b at *
  have ez := zip_prD a b
  have el : ((a.zip b).map prD).length ≤ 16777216 := by
    rw [List.length_map, List.length_zip]
    omega
  have a0 : atI [D.int (p.1 : Int), .int (p.2 : Int)] 0 = some (.int (p.1 : Int)) := rfl
  have a1 : atI [D.int (p.1 : Int), .int (p.2 : Int)] 1 = some (.int (p.2 : Int)) := rfl
  simp [allB_map, all_id, allB, ev_k, ev_v, ev_g, ev_fr, ev_tup, ev_lst, ev_dct, ev_bin, ev_neg, ev_not, ev_and, ev_or, ev_cmp, ev_chain, ev_ite, ev_idx, ev_slc, ev_call, ev_bi, ev_bm, ev_mu, ev_isi, ev_rpr, ev_lset, ev_dcn, ev_dc1, ev_dget, ev_dsd, ev_pr2, ev_rev, ev_lz, ev_sst, sstF, asgTS, biD, isDn, isOd, hasD, dgetN, dsdS, revF, zip3F, ex_ret_, ex_retN_, ex_asg_, ex_asgT_, ex_setI_, ex_ex_, ex_ifs_, ex_pass_, ex_brk_, ex_cont_, evT, evA, evF, evI, evO, vw, see, res, tru, D.truth, cmpS, cmpV, cmpF, inF, retS, List.replicate, biS, vws, biF, keepSh, asgS, binS, binF, fz, idxS, idxF, intOf, blOf, slcS, slcF, D.noK, isTy, pks, nodup, argS, argsBack, Y_ok, Y_ite, Y_nil, Kc_nx, Kc_rt, Kc_bk, Kc_ct, setIF, isOD, lookS, putS, muF, lock, unlock, rangeF, bindT, setT, LIM, wrOf, isSh, bmS, bmF, bmT, zipF, itemsZ, enumF, ↓reduceIte, S89_0, t89_0, evF, nxD, prD, a0, a1, r1, r2, nD, zipF, itemsZ, LIM] at ez el ⊢
  rw [if_pos el, ez]
  simp [allB_map, all_id, allB, ev_k, ev_v, ev_g, ev_fr, ev_tup, ev_lst, ev_dct, ev_bin, ev_neg, ev_not, ev_and, ev_or, ev_cmp, ev_chain, ev_ite, ev_idx, ev_slc, ev_call, ev_bi, ev_bm, ev_mu, ev_isi, ev_rpr, ev_lset, ev_dcn, ev_dc1, ev_dget, ev_dsd, ev_pr2, ev_rev, ev_lz, ev_sst, sstF, asgTS, biD, isDn, isOd, hasD, dgetN, dsdS, revF, zip3F, ex_ret_, ex_retN_, ex_asg_, ex_asgT_, ex_setI_, ex_ex_, ex_ifs_, ex_pass_, ex_brk_, ex_cont_, evT, evA, evF, evI, evO, vw, see, res, tru, D.truth, cmpS, cmpV, cmpF, inF, retS, List.replicate, biS, vws, biF, keepSh, asgS, binS, binF, fz, idxS, idxF, intOf, blOf, slcS, slcF, D.noK, isTy, pks, nodup, argS, argsBack, Y_ok, Y_ite, Y_nil, Kc_nx, Kc_rt, Kc_bk, Kc_ct, setIF, isOD, lookS, putS, muF, lock, unlock, rangeF, bindT, setT, LIM, wrOf, isSh, bmS, bmF, bmT, zipF, itemsZ, enumF, ↓reduceIte]
/-- one happening -/
theorem part_turn {C : Ctx} {x0 x1 x2 x3 x4 : Sl} {L : PLs} {N k : Nat} {hs : List D} {q : PP × List D} {x : D × PP} (ok : LOk hs N L) (hN : N ≤ 100) (hq : L.find? (fun y => y.1 = q.1) = some q) (hr : q.2.length ≤ 100000) {Q : Fl × Env → Prop}
    (hQ : Q (.nx, [x0, x1, x2, x3, x4, .dn (plP (stepP q.2 L x)), .ol (lnP (stepP q.2 L x)), .sh (.int (k : Int)), .sh (prD q.1), .sh x.1, .sh (prD x.2)])) :
    Y (exSs C L90_3b2b0 [x0, x1, x2, x3, x4, .dn (plP L), .ol (lnP L), .sh (.int (k : Int)), .sh (prD q.1), .sh x.1, .sh (prD x.2)]) Q := by
  have k0 := plP_ok L x.2
  have k1 := plP_ok L q.1
  have hlk := plP_look (L := L) (p := x.2)
  have hlq := plP_look (L := L) (p := q.1)
  rw [hq] at hlq
  have hlq : lookD (prD q.1) (plP L) = some (.tup q.2) := hlq
  have lM := ok.len
  have nn : N * N ≤ 100 * 100 := Nat.mul_le_mul hN hN
  have l1 : (plP L).length < 16777216 := by rw [plP_len]; omega
  have l2 : (lnP L).length < 16777216 := by rw [lnP_len]; omega
  have l3 : q.2.length + 1 ≤ 16777216 := by omega
  rw [t90_3b2b0]
  by_cases c : x.2 ∈ L.map (·.1)
  · have es : stepP q.2 L x = L := by unfold stepP; rw [if_pos c]
    rw [es] at hQ
    obtain ⟨y, hy⟩ := Option.isSome_iff_exists.mp (find_yes c)
    rw [hy] at hlk
    have hlk : lookD (prD x.2) (plP L) = some (.tup y.2) := hlk
    generalize prD x.2 = X at *
    generalize prD q.1 = P at *
    simp [S90_3b2b0, allB_map, all_id, allB, ev_k, ev_v, ev_g, ev_fr, ev_tup, ev_lst, ev_dct, ev_bin, ev_neg, ev_not, ev_and, ev_or, ev_cmp, ev_chain, ev_ite, ev_idx, ev_slc, ev_call, ev_bi, ev_bm, ev_mu, ev_isi, ev_rpr, ev_lset, ev_dcn, ev_dc1, ev_dget, ev_dsd, ev_pr2, ev_rev, ev_lz, ev_sst, sstF, asgTS, biD, isDn, isOd, hasD, dgetN, dsdS, revF, zip3F, ex_ret_, ex_retN_, ex_asg_, ex_asgT_, ex_setI_, ex_ex_, ex_ifs_, ex_pass_, ex_brk_, ex_cont_, evT, evA, evF, evI, evO, vw, see, res, tru, D.truth, cmpS, cmpV, cmpF, inF, retS, List.replicate, biS, vws, biF, keepSh, asgS, binS, binF, fz, idxS, idxF, intOf, blOf, slcS, slcF, D.noK, isTy, pks, nodup, argS, argsBack, Y_ok, Y_ite, Y_nil, Kc_nx, Kc_rt, Kc_bk, Kc_ct, setIF, isOD, lookS, putS, muF, lock, unlock, rangeF, bindT, setT, LIM, wrOf, isSh, bmS, bmF, bmT, zipF, itemsZ, enumF, ↓reduceIte, k0, hlk]
    exact hQ
  · have es : stepP q.2 L x = L ++ [(x.2, q.2 ++ [x.1])] := by unfold stepP; rw [if_neg c]
    rw [es] at hQ
    rw [find_no c] at hlk
    have hlk : lookD (prD x.2) (plP L) = none := hlk
    have ep : putD (prD x.2) (.tup (q.2 ++ [x.1])) (plP L) = plP (L ++ [(x.2, q.2 ++ [x.1])]) := by
      rw [putD_new hlk]
      unfold plP
      rw [List.map_append]
      rfl
    have el : lnP L ++ [prD x.2] = lnP (L ++ [(x.2, q.2 ++ [x.1])]) := by
      unfold lnP
      rw [List.map_append]
      rfl
    rw [← ep, ← el] at hQ
    generalize prD x.2 = X at *
    generalize prD q.1 = P at *
    simp [S90_3b2b0, allB_map, all_id, allB, ev_k, ev_v, ev_g, ev_fr, ev_tup, ev_lst, ev_dct, ev_bin, ev_neg, ev_not, ev_and, ev_or, ev_cmp, ev_chain, ev_ite, ev_idx, ev_slc, ev_call, ev_bi, ev_bm, ev_mu, ev_isi, ev_rpr, ev_lset, ev_dcn, ev_dc1, ev_dget, ev_dsd, ev_pr2, ev_rev, ev_lz, ev_sst, sstF, asgTS, biD, isDn, isOd, hasD, dgetN, dsdS, revF, zip3F, ex_ret_, ex_retN_, ex_asg_, ex_asgT_, ex_setI_, ex_ex_, ex_ifs_, ex_pass_, ex_brk_, ex_cont_, evT, evA, evF, evI, evO, vw, see, res, tru, D.truth, cmpS, cmpV, cmpF, inF, retS, List.replicate, biS, vws, biF, keepSh, asgS, binS, binF, fz, idxS, idxF, intOf, blOf, slcS, slcF, D.noK, isTy, pks, nodup, argS, argsBack, Y_ok, Y_ite, Y_nil, Kc_nx, Kc_rt, Kc_bk, Kc_ct, setIF, isOD, lookS, putS, muF, lock, unlock, rangeF, bindT, setT, LIM, wrOf, isSh, bmS, bmF, bmT, zipF, itemsZ, enumF, ↓reduceIte, k0, hlk]
    rw [t90_3b2b0a0]
    have e3 : evE C (.bin .add (.idx (.v 5) (.v 8)) (.tup (.cons (.v 9) .nil))) [x0, x1, x2, x3, x4, .dn (plP L), .ol (lnP L), .sh (.int (k : Int)), .sh P, .sh x.1, .sh X] = .ok (.sh (.tup (q.2 ++ [x.1])), [x0, x1, x2, x3, x4, .dn (plP L), .ol (lnP L), .sh (.int (k : Int)), .sh P, .sh x.1, .sh X]) := by
      simp [allB_map, all_id, allB, ev_k, ev_v, ev_g, ev_fr, ev_tup, ev_lst, ev_dct, ev_bin, ev_neg, ev_not, ev_and, ev_or, ev_cmp, ev_chain, ev_ite, ev_idx, ev_slc, ev_call, ev_bi, ev_bm, ev_mu, ev_isi, ev_rpr, ev_lset, ev_dcn, ev_dc1, ev_dget, ev_dsd, ev_pr2, ev_rev, ev_lz, ev_sst, sstF, asgTS, biD, isDn, isOd, hasD, dgetN, dsdS, revF, zip3F, ex_ret_, ex_retN_, ex_asg_, ex_asgT_, ex_setI_, ex_ex_, ex_ifs_, ex_pass_, ex_brk_, ex_cont_, evT, evA, evF, evI, evO, vw, see, res, tru, D.truth, cmpS, cmpV, cmpF, inF, retS, List.replicate, biS, vws, biF, keepSh, asgS, binS, binF, fz, idxS, idxF, intOf, blOf, slcS, slcF, D.noK, isTy, pks, nodup, argS, argsBack, Y_ok, Y_ite, Y_nil, Kc_nx, Kc_rt, Kc_bk, Kc_ct, setIF, isOD, lookS, putS, muF, lock, unlock, rangeF, bindT, setT, LIM, wrOf, isSh, bmS, bmF, bmT, zipF, itemsZ, enumF, ↓reduceIte, evF, k1, hlq, l3]
    have get5 : Env.get [x0, x1, x2, x3, x4, .dn (plP L), .ol (lnP L), .sh (.int (k : Int)), .sh P, .sh x.1, .sh X] 5 = .dn (plP L) := rfl
    have get10 : Env.get [x0, x1, x2, x3, x4, .dn (plP L), .ol (lnP L), .sh (.int (k : Int)), .sh P, .sh x.1, .sh X] 10 = .sh X := rfl
    have st : exS C S90_3b2b0a0 [x0, x1, x2, x3, x4, .dn (plP L), .ol (lnP L), .sh (.int (k : Int)), .sh P, .sh x.1, .sh X] = .ok (.nx, [x0, x1, x2, x3, x4, .dn (putD X (.tup (q.2 ++ [x.1])) (plP L)), .ol (lnP L), .sh (.int (k : Int)), .sh P, .sh x.1, .sh X]) := by
      rw [S90_3b2b0a0, ex_setI_, e3]
      simp only [bind_ok_eq, fz, of_some, get5, isOD, if_true, ev_v, get10, vw, see, res, Option.bind_some, setIF, k0, LIM, l1, and_self, List.set]
    rw [st, Y_ok, Kc_nx, t90_3b2b0a1]
    simp [S90_3b2b0a1, allB_map, all_id, allB, ev_k, ev_v, ev_g, ev_fr, ev_tup, ev_lst, ev_dct, ev_bin, ev_neg, ev_not, ev_and, ev_or, ev_cmp, ev_chain, ev_ite, ev_idx, ev_slc, ev_call, ev_bi, ev_bm, ev_mu, ev_isi, ev_rpr, ev_lset, ev_dcn, ev_dc1, ev_dget, ev_dsd, ev_pr2, ev_rev, ev_lz, ev_sst, sstF, asgTS, biD, isDn, isOd, hasD, dgetN, dsdS, revF, zip3F, ex_ret_, ex_retN_, ex_asg_, ex_asgT_, ex_setI_, ex_ex_, ex_ifs_, ex_pass_, ex_brk_, ex_cont_, evT, evA, evF, evI, evO, vw, see, res, tru, D.truth, cmpS, cmpV, cmpF, inF, retS, List.replicate, biS, vws, biF, keepSh, asgS, binS, binF, fz, idxS, idxF, intOf, blOf, slcS, slcF, D.noK, isTy, pks, nodup, argS, argsBack, Y_ok, Y_ite, Y_nil, Kc_nx, Kc_rt, Kc_bk, Kc_ct, setIF, isOD, lookS, putS, muF, lock, unlock, rangeF, bindT, setT, LIM, wrOf, isSh, bmS, bmF, bmT, zipF, itemsZ, enumF, ↓reduceIte, evF, l2]
    simpa using hQ
theorem wk_dep (w : Wd) : D.dep (wkD (wD w)) = 1 := by cases w <;> rfl
def unlW (ws : List Wd) (p : PP) : Bool := decide (ws.getD p.1 (.b false) ≠ ws.getD p.2 (.b false))
theorem wd_at {ws : List Wd} {s : Nat} (h : s < ws.length) : atI (ws.map wD) (s : Int) = some (wD (ws.getD s (.b false))) := by
  refine natI ?_
  rw [List.getElem?_map, List.getD_eq_getElem?_getD, List.getElem?_eq_getElem h]
  rfl
theorem parting40 {P : Pg} (h : HPart P) (wf n : Nat) (hwf : 1000 ≤ wf) {t : Tab} (ht : SmallT t) {nx : List (List Nat)} {N : Nat} (hn : NxW nx N) (h7 : N ≤ 7) {ws : List Wd} (hw : ws.length = N) {a b : Nat} (ha : a < N) (hb : b < N) :
    callM P wf (n + 2) 90 [.sh (tabD t), .sh (nxD nx), .sh (.tup (ws.map wD)), .sh (.int (a : Int)), .sh (.int (b : Int))] = .ok (.sh (fD (partR (hapsD t) nx (unlW ws) a b)), [.sh (tabD t), .sh (nxD nx), .sh (.tup (ws.map wD)), .sh (.int (a : Int)), .sh (.int (b : Int))]) := by
  have : Y (callM P wf (n + 2) 90 [.sh (tabD t), .sh (nxD nx), .sh (.tup (ws.map wD)), .sh (.int (a : Int)), .sh (.int (b : Int))]) fun r => r = (.sh (fD (partR (hapsD t) nx (unlW ws) a b)), [.sh (tabD t), .sh (nxD nx), .sh (.tup (ws.map wD)), .sh (.int (a : Int)), .sh (.int (b : Int))]) := by
    refine call_by (fun r => ∃ ρ, r = (.rt (.sh (fD (partR (hapsD t) nx (unlW ws) a b))), .sh (tabD t) :: .sh (nxD nx) :: .sh (.tup (ws.map wD)) :: .sh (.int (a : Int)) :: .sh (.int (b : Int)) :: ρ)) h.parting rfl rfl (by decide) (fun C c1 c2 c3 c4 c5 => ?_) (by rintro _ ⟨ρ, rfl⟩; exact ⟨_, _, rfl, rfl, by simp [keepSh]⟩)
    have c1 : C.cl = callM P wf (n + 1) := c1
    show Y (exSs C L90_0 [.sh (tabD t), .sh (nxD nx), .sh (.tup (ws.map wD)), .sh (.int (a : Int)), .sh (.int (b : Int)), .un, .un, .un, .un, .un, .un]) _
    have w5 : C.wr 5 = true := by rw [c3]; rfl
    have w6 : C.wr 6 = true := by rw [c3]; rfl
    have w7 : C.wr 7 = true := by rw [c3]; rfl
    have w8 : C.wr 8 = true := by rw [c3]; rfl
    have w9 : C.wr 9 = true := by rw [c3]; rfl
    have w10 : C.wr 10 = true := by rw [c3]; rfl
    have eh := haps_at h.haps wf n t ht
    have hfew := hapsD_len ht.2
    have hlt := ht.1
    have nl := hn.len
    generalize hH : hapsD t = hs at *
    generalize hT : tabD t = T at *
    have ks : keyOk [] (D.tup [.int (a : Int), .int (b : Int)]) = true := plP_ok [] (a, b)
    have MM : N * N ≤ 7 * 7 := Nat.mul_le_mul h7 h7
    rw [t90_0]
    have st0 : exS C S90_0 [.sh T, .sh (nxD nx), .sh (.tup (ws.map wD)), .sh (.int (a : Int)), .sh (.int (b : Int)), .un, .un, .un, .un, .un, .un] = .ok (.nx, [.sh T, .sh (nxD nx), .sh (.tup (ws.map wD)), .sh (.int (a : Int)), .sh (.int (b : Int)), .dn (plP [((a, b), [])]), .un, .un, .un, .un, .un]) := by
      rw [S90_0, ex_asg_, ev_dc1]
      simp [allB_map, all_id, allB, ev_k, ev_v, ev_g, ev_fr, ev_tup, ev_lst, ev_dct, ev_bin, ev_neg, ev_not, ev_and, ev_or, ev_cmp, ev_chain, ev_ite, ev_idx, ev_slc, ev_call, ev_bi, ev_bm, ev_mu, ev_isi, ev_rpr, ev_lset, ev_dcn, ev_dc1, ev_dget, ev_dsd, ev_pr2, ev_rev, ev_lz, ev_sst, sstF, asgTS, biD, isDn, isOd, hasD, dgetN, dsdS, revF, zip3F, ex_ret_, ex_retN_, ex_asg_, ex_asgT_, ex_setI_, ex_ex_, ex_ifs_, ex_pass_, ex_brk_, ex_cont_, evT, evA, evF, evI, evO, vw, see, res, tru, D.truth, cmpS, cmpV, cmpF, inF, retS, List.replicate, biS, vws, biF, keepSh, asgS, binS, binF, fz, idxS, idxF, intOf, blOf, slcS, slcF, D.noK, isTy, pks, nodup, argS, argsBack, Y_ok, Y_ite, Y_nil, Kc_nx, Kc_rt, Kc_bk, Kc_ct, setIF, isOD, lookS, putS, muF, lock, unlock, rangeF, bindT, setT, LIM, wrOf, isSh, bmS, bmF, bmT, zipF, itemsZ, enumF, ↓reduceIte, evF, ks, w5]
      rfl
    rw [st0, Y_ok, Kc_nx, t90_1]
    have st1 : exS C S90_1 [.sh T, .sh (nxD nx), .sh (.tup (ws.map wD)), .sh (.int (a : Int)), .sh (.int (b : Int)), .dn (plP [((a, b), [])]), .un, .un, .un, .un, .un] = .ok (.nx, [.sh T, .sh (nxD nx), .sh (.tup (ws.map wD)), .sh (.int (a : Int)), .sh (.int (b : Int)), .dn (plP [((a, b), [])]), .ol (lnP [((a, b), [])]), .un, .un, .un, .un]) := by
      simp [S90_1, allB_map, all_id, allB, ev_k, ev_v, ev_g, ev_fr, ev_tup, ev_lst, ev_dct, ev_bin, ev_neg, ev_not, ev_and, ev_or, ev_cmp, ev_chain, ev_ite, ev_idx, ev_slc, ev_call, ev_bi, ev_bm, ev_mu, ev_isi, ev_rpr, ev_lset, ev_dcn, ev_dc1, ev_dget, ev_dsd, ev_pr2, ev_rev, ev_lz, ev_sst, sstF, asgTS, biD, isDn, isOd, hasD, dgetN, dsdS, revF, zip3F, ex_ret_, ex_retN_, ex_asg_, ex_asgT_, ex_setI_, ex_ex_, ex_ifs_, ex_pass_, ex_brk_, ex_cont_, evT, evA, evF, evI, evO, vw, see, res, tru, D.truth, cmpS, cmpV, cmpF, inF, retS, List.replicate, biS, vws, biF, keepSh, asgS, binS, binF, fz, idxS, idxF, intOf, blOf, slcS, slcF, D.noK, isTy, pks, nodup, argS, argsBack, Y_ok, Y_ite, Y_nil, Kc_nx, Kc_rt, Kc_bk, Kc_ct, setIF, isOD, lookS, putS, muF, lock, unlock, rangeF, bindT, setT, LIM, wrOf, isSh, bmS, bmF, bmT, zipF, itemsZ, enumF, ↓reduceIte, evF, w6]
      rfl
    rw [st1, Y_ok, Kc_nx, t90_2]
    simp [S90_2, allB_map, all_id, allB, ev_k, ev_v, ev_g, ev_fr, ev_tup, ev_lst, ev_dct, ev_bin, ev_neg, ev_not, ev_and, ev_or, ev_cmp, ev_chain, ev_ite, ev_idx, ev_slc, ev_call, ev_bi, ev_bm, ev_mu, ev_isi, ev_rpr, ev_lset, ev_dcn, ev_dc1, ev_dget, ev_dsd, ev_pr2, ev_rev, ev_lz, ev_sst, sstF, asgTS, biD, isDn, isOd, hasD, dgetN, dsdS, revF, zip3F, ex_ret_, ex_retN_, ex_asg_, ex_asgT_, ex_setI_, ex_ex_, ex_ifs_, ex_pass_, ex_brk_, ex_cont_, evT, evA, evF, evI, evO, vw, see, res, tru, D.truth, cmpS, cmpV, cmpF, inF, retS, List.replicate, biS, vws, biF, keepSh, asgS, binS, binF, fz, idxS, idxF, intOf, blOf, slcS, slcF, D.noK, isTy, pks, nodup, argS, argsBack, Y_ok, Y_ite, Y_nil, Kc_nx, Kc_rt, Kc_bk, Kc_ct, setIF, isOD, lookS, putS, muF, lock, unlock, rangeF, bindT, setT, LIM, wrOf, isSh, bmS, bmF, bmT, zipF, itemsZ, enumF, ↓reduceIte, w7]
    rw [t90_3]
    refine whl_W (fun m ρ => ∃ k L x8 x9 x10, LOk hs N L ∧ k ≤ L.length ∧ qgo hs nx (unlW ws) (N * N + 1 - k) k L = partR hs nx (unlW ws) a b ∧ m = N * N + 1 - k ∧ ρ = [.sh T, .sh (nxD nx), .sh (.tup (ws.map wD)), .sh (.int (a : Int)), .sh (.int (b : Int)), .dn (plP L), .ol (lnP L), .sh (.int (k : Int)), x8, x9, x10]) (N * N + 1) (by rw [c4]; omega) ⟨0, _, .un, .un, .un, first_ok ha hb, Nat.zero_le _, by unfold partR; rw [nl]; rfl, rfl, rfl⟩ ?_
    rintro m ρ ⟨k, L, x8, x9, x10, ok, hk, hR, rfl, rfl⟩
    have lM := ok.len
    generalize partR hs nx (unlW ws) a b = R at *
    obtain ⟨f, hf⟩ : ∃ f, N * N + 1 - k = f + 1 := ⟨N * N - k, by omega⟩
    rw [hf, qgo_succ] at hR
    by_cases q : k < L.length
    · have q2 : (k : Int) < ((lnP L).length : Int) := by rw [lnP_len]; omega
      refine ⟨true, _, by simp [evT, allB_map, all_id, allB, ev_k, ev_v, ev_g, ev_fr, ev_tup, ev_lst, ev_dct, ev_bin, ev_neg, ev_not, ev_and, ev_or, ev_cmp, ev_chain, ev_ite, ev_idx, ev_slc, ev_call, ev_bi, ev_bm, ev_mu, ev_isi, ev_rpr, ev_lset, ev_dcn, ev_dc1, ev_dget, ev_dsd, ev_pr2, ev_rev, ev_lz, ev_sst, sstF, asgTS, biD, isDn, isOd, hasD, dgetN, dsdS, revF, zip3F, ex_ret_, ex_retN_, ex_asg_, ex_asgT_, ex_setI_, ex_ex_, ex_ifs_, ex_pass_, ex_brk_, ex_cont_, evT, evA, evF, evI, evO, vw, see, res, tru, D.truth, cmpS, cmpV, cmpF, inF, retS, List.replicate, biS, vws, biF, keepSh, asgS, binS, binF, fz, idxS, idxF, intOf, blOf, slcS, slcF, D.noK, isTy, pks, nodup, argS, argsBack, Y_ok, Y_ite, Y_nil, Kc_nx, Kc_rt, Kc_bk, Kc_ct, setIF, isOD, lookS, putS, muF, lock, unlock, rangeF, bindT, setT, LIM, wrOf, isSh, bmS, bmF, bmT, zipF, itemsZ, enumF, ↓reduceIte, q2]; rfl, fun _ => ?_, fun z => (by cases z)⟩
      have hs' := List.getElem?_eq_getElem q
      generalize L[k] = y at hs'
      rw [hs'] at hR
      dsimp only at hR
      obtain ⟨⟨y1, y2⟩, y3, y4⟩ := ok.at hs'
      have eln : atI (lnP L) (k : Int) = some (prD y.1) := natI (by unfold lnP; rw [List.getElem?_map, hs']; rfl)
      rw [t90_3b0]
      simp [S90_3b0, allB_map, all_id, allB, ev_k, ev_v, ev_g, ev_fr, ev_tup, ev_lst, ev_dct, ev_bin, ev_neg, ev_not, ev_and, ev_or, ev_cmp, ev_chain, ev_ite, ev_idx, ev_slc, ev_call, ev_bi, ev_bm, ev_mu, ev_isi, ev_rpr, ev_lset, ev_dcn, ev_dc1, ev_dget, ev_dsd, ev_pr2, ev_rev, ev_lz, ev_sst, sstF, asgTS, biD, isDn, isOd, hasD, dgetN, dsdS, revF, zip3F, ex_ret_, ex_retN_, ex_asg_, ex_asgT_, ex_setI_, ex_ex_, ex_ifs_, ex_pass_, ex_brk_, ex_cont_, evT, evA, evF, evI, evO, vw, see, res, tru, D.truth, cmpS, cmpV, cmpF, inF, retS, List.replicate, biS, vws, biF, keepSh, asgS, binS, binF, fz, idxS, idxF, intOf, blOf, slcS, slcF, D.noK, isTy, pks, nodup, argS, argsBack, Y_ok, Y_ite, Y_nil, Kc_nx, Kc_rt, Kc_bk, Kc_ct, setIF, isOD, lookS, putS, muF, lock, unlock, rangeF, bindT, setT, LIM, wrOf, isSh, bmS, bmF, bmT, zipF, itemsZ, enumF, ↓reduceIte, eln, w8]
      rw [t90_3b1]
      have e1 := wd_at (ws := ws) (s := y.1.1) (by omega)
      have e2 := wd_at (ws := ws) (s := y.1.2) (by omega)
      have a0 : atI [D.int (y.1.1 : Int), .int (y.1.2 : Int)] 0 = some (.int (y.1.1 : Int)) := rfl
      have a1 : atI [D.int (y.1.1 : Int), .int (y.1.2 : Int)] 1 = some (.int (y.1.2 : Int)) := rfl
      have k1 := word_key_at h.word_key wf n (ws.getD y.1.1 (.b false))
      have k2 := word_key_at h.word_key wf n (ws.getD y.1.2 (.b false))
      have d1 := wk_dep (ws.getD y.1.1 (.b false))
      have d2 := wk_dep (ws.getD y.1.2 (.b false))
      have kk := kd_wk.iff (ws.getD y.1.1 (.b false)) (ws.getD y.1.2 (.b false))
      have ep : prD y.1 = .tup [.int (y.1.1 : Int), .int (y.1.2 : Int)] := rfl
      have hu : unlW ws y.1 = !(D.eqv (wkD (wD (ws.getD y.1.1 (.b false)))) (wkD (wD (ws.getD y.1.2 (.b false))))) := by
        unfold unlW
        rw [Bool.eq_iff_iff, Bool.not_eq_true', decide_eq_true_eq, ← Bool.not_eq_true, kk]
      generalize ws.getD y.1.1 (.b false) = W1 at *
      generalize ws.getD y.1.2 (.b false) = W2 at *
      generalize wkD (wD W1) = A at *
      generalize wkD (wD W2) = B at *
      have ec : evE C (.cmp .ne (.call 88 (.cons (.idx (.v 2) (.idx (.v 8) (.k (.int (0))))) .nil)) (.call 88 (.cons (.idx (.v 2) (.idx (.v 8) (.k (.int (1))))) .nil))) [.sh T, .sh (nxD nx), .sh (.tup (ws.map wD)), .sh (.int (a : Int)), .sh (.int (b : Int)), .dn (plP L), .ol (lnP L), .sh (.int (k : Int)), .sh (prD y.1), x9, x10] = .ok (.sh (.bl (unlW ws y.1)), [.sh T, .sh (nxD nx), .sh (.tup (ws.map wD)), .sh (.int (a : Int)), .sh (.int (b : Int)), .dn (plP L), .ol (lnP L), .sh (.int (k : Int)), .sh (prD y.1), x9, x10]) := by
        rw [ep]
        simp [allB_map, all_id, allB, ev_k, ev_v, ev_g, ev_fr, ev_tup, ev_lst, ev_dct, ev_bin, ev_neg, ev_not, ev_and, ev_or, ev_cmp, ev_chain, ev_ite, ev_idx, ev_slc, ev_call, ev_bi, ev_bm, ev_mu, ev_isi, ev_rpr, ev_lset, ev_dcn, ev_dc1, ev_dget, ev_dsd, ev_pr2, ev_rev, ev_lz, ev_sst, sstF, asgTS, biD, isDn, isOd, hasD, dgetN, dsdS, revF, zip3F, ex_ret_, ex_retN_, ex_asg_, ex_asgT_, ex_setI_, ex_ex_, ex_ifs_, ex_pass_, ex_brk_, ex_cont_, evT, evA, evF, evI, evO, vw, see, res, tru, D.truth, cmpS, cmpV, cmpF, inF, retS, List.replicate, biS, vws, biF, keepSh, asgS, binS, binF, fz, idxS, idxF, intOf, blOf, slcS, slcF, D.noK, isTy, pks, nodup, argS, argsBack, Y_ok, Y_ite, Y_nil, Kc_nx, Kc_rt, Kc_bk, Kc_ct, setIF, isOD, lookS, putS, muF, lock, unlock, rangeF, bindT, setT, LIM, wrOf, isSh, bmS, bmF, bmT, zipF, itemsZ, enumF, ↓reduceIte, c1, a0, a1, e1, e2, k1, k2, d1, d2, hu]
      simp only [S90_3b1, ex_ifs_, evT, ec, bind_ok_eq]
      cases u : unlW ws y.1 with
      | true =>
        rw [u] at hR
        have hR : some y.2 = R := hR
        subst hR
        have hlk := plP_look (L := L) (p := y.1)
        rw [find_at ok.nodup hs'] at hlk
        have hlk : lookD (prD y.1) (plP L) = some (.tup y.2) := hlk
        have kq := plP_ok L y.1
        simp [allB_map, all_id, allB, ev_k, ev_v, ev_g, ev_fr, ev_tup, ev_lst, ev_dct, ev_bin, ev_neg, ev_not, ev_and, ev_or, ev_cmp, ev_chain, ev_ite, ev_idx, ev_slc, ev_call, ev_bi, ev_bm, ev_mu, ev_isi, ev_rpr, ev_lset, ev_dcn, ev_dc1, ev_dget, ev_dsd, ev_pr2, ev_rev, ev_lz, ev_sst, sstF, asgTS, biD, isDn, isOd, hasD, dgetN, dsdS, revF, zip3F, ex_ret_, ex_retN_, ex_asg_, ex_asgT_, ex_setI_, ex_ex_, ex_ifs_, ex_pass_, ex_brk_, ex_cont_, evT, evA, evF, evI, evO, vw, see, res, tru, D.truth, cmpS, cmpV, cmpF, inF, retS, List.replicate, biS, vws, biF, keepSh, asgS, binS, binF, fz, idxS, idxF, intOf, blOf, slcS, slcF, D.noK, isTy, pks, nodup, argS, argsBack, Y_ok, Y_ite, Y_nil, Kc_nx, Kc_rt, Kc_bk, Kc_ct, setIF, isOD, lookS, putS, muF, lock, unlock, rangeF, bindT, setT, LIM, wrOf, isSh, bmS, bmF, bmT, zipF, itemsZ, enumF, ↓reduceIte]
        rw [t90_3b1a0]
        simp [S90_3b1a0, allB_map, all_id, allB, ev_k, ev_v, ev_g, ev_fr, ev_tup, ev_lst, ev_dct, ev_bin, ev_neg, ev_not, ev_and, ev_or, ev_cmp, ev_chain, ev_ite, ev_idx, ev_slc, ev_call, ev_bi, ev_bm, ev_mu, ev_isi, ev_rpr, ev_lset, ev_dcn, ev_dc1, ev_dget, ev_dsd, ev_pr2, ev_rev, ev_lz, ev_sst, sstF, asgTS, biD, isDn, isOd, hasD, dgetN, dsdS, revF, zip3F, ex_ret_, ex_retN_, ex_asg_, ex_asgT_, ex_setI_, ex_ex_, ex_ifs_, ex_pass_, ex_brk_, ex_cont_, evT, evA, evF, evI, evO, vw, see, res, tru, D.truth, cmpS, cmpV, cmpF, inF, retS, List.replicate, biS, vws, biF, keepSh, asgS, binS, binF, fz, idxS, idxF, intOf, blOf, slcS, slcF, D.noK, isTy, pks, nodup, argS, argsBack, Y_ok, Y_ite, Y_nil, Kc_nx, Kc_rt, Kc_bk, Kc_ct, setIF, isOD, lookS, putS, muF, lock, unlock, rangeF, bindT, setT, LIM, wrOf, isSh, bmS, bmF, bmT, zipF, itemsZ, enumF, ↓reduceIte, kq, hlk, fD]
      | false =>
        rw [u] at hR
        have hR : qgo hs nx (unlW ws) f (k + 1) (expP hs nx L y) = R := hR
        have eb := pairs_behind40 h wf n hn (p := y.1) ⟨y1, y2⟩
        have ok' := expP_ok hn.toNxOk ok ⟨y3, y4⟩
        have hfi := find_at ok.nodup hs'
        have xok := xsP_ok (hs := hs) hn.toNxOk y.1
        have ez := zip_zpD hs (succP nx y.1)
        have exl : (xsP hs nx y.1).length ≤ hs.length := by unfold xsP; rw [List.length_zip]; omega
        simp [allB_map, all_id, allB, ev_k, ev_v, ev_g, ev_fr, ev_tup, ev_lst, ev_dct, ev_bin, ev_neg, ev_not, ev_and, ev_or, ev_cmp, ev_chain, ev_ite, ev_idx, ev_slc, ev_call, ev_bi, ev_bm, ev_mu, ev_isi, ev_rpr, ev_lset, ev_dcn, ev_dc1, ev_dget, ev_dsd, ev_pr2, ev_rev, ev_lz, ev_sst, sstF, asgTS, biD, isDn, isOd, hasD, dgetN, dsdS, revF, zip3F, ex_ret_, ex_retN_, ex_asg_, ex_asgT_, ex_setI_, ex_ex_, ex_ifs_, ex_pass_, ex_brk_, ex_cont_, evT, evA, evF, evI, evO, vw, see, res, tru, D.truth, cmpS, cmpV, cmpF, inF, retS, List.replicate, biS, vws, biF, keepSh, asgS, binS, binF, fz, idxS, idxF, intOf, blOf, slcS, slcF, D.noK, isTy, pks, nodup, argS, argsBack, Y_ok, Y_ite, Y_nil, Kc_nx, Kc_rt, Kc_bk, Kc_ct, setIF, isOD, lookS, putS, muF, lock, unlock, rangeF, bindT, setT, LIM, wrOf, isSh, bmS, bmF, bmT, zipF, itemsZ, enumF, ↓reduceIte]
        rw [t90_3b2]
        refine for_Y (lk := []) (ds := (xsP hs nx y.1).map zpD) (ρ1 := [.sh T, .sh (nxD nx), .sh (.tup (ws.map wD)), .sh (.int (a : Int)), .sh (.int (b : Int)), .dn (plP L), .ol (lnP L), .sh (.int (k : Int)), .sh (prD y.1), x9, x10]) (fun i ρ => ∃ x9 x10, ρ = [.sh T, .sh (nxD nx), .sh (.tup (ws.map wD)), .sh (.int (a : Int)), .sh (.int (b : Int)), .dn (plP (((xsP hs nx y.1).take i).foldl (stepP y.2) L)), .ol (lnP (((xsP hs nx y.1).take i).foldl (stepP y.2) L)), .sh (.int (k : Int)), .sh (prD y.1), x9, x10]) ?_ ?_ ⟨x9, x10, rfl⟩ ?_ ?_
        · generalize prD y.1 = P1 at *
          generalize nxD nx = NX at *
          simp [allB_map, all_id, allB, ev_k, ev_v, ev_g, ev_fr, ev_tup, ev_lst, ev_dct, ev_bin, ev_neg, ev_not, ev_and, ev_or, ev_cmp, ev_chain, ev_ite, ev_idx, ev_slc, ev_call, ev_bi, ev_bm, ev_mu, ev_isi, ev_rpr, ev_lset, ev_dcn, ev_dc1, ev_dget, ev_dsd, ev_pr2, ev_rev, ev_lz, ev_sst, sstF, asgTS, biD, isDn, isOd, hasD, dgetN, dsdS, revF, zip3F, ex_ret_, ex_retN_, ex_asg_, ex_asgT_, ex_setI_, ex_ex_, ex_ifs_, ex_pass_, ex_brk_, ex_cont_, evT, evA, evF, evI, evO, vw, see, res, tru, D.truth, cmpS, cmpV, cmpF, inF, retS, List.replicate, biS, vws, biF, keepSh, asgS, binS, binF, fz, idxS, idxF, intOf, blOf, slcS, slcF, D.noK, isTy, pks, nodup, argS, argsBack, Y_ok, Y_ite, Y_nil, Kc_nx, Kc_rt, Kc_bk, Kc_ct, setIF, isOD, lookS, putS, muF, lock, unlock, rangeF, bindT, setT, LIM, wrOf, isSh, bmS, bmF, bmT, zipF, itemsZ, enumF, ↓reduceIte, c1, eh, eb, evF, zipF, itemsZ, ez]
          rfl
        · simp [w9, w10]
        · rintro i d ρ hd ⟨x9, x10, rfl⟩
          rw [List.getElem?_map] at hd
          cases hx : (xsP hs nx y.1)[i]? with
          | none => rw [hx] at hd; cases hd
          | some x =>
            rw [hx] at hd
            cases hd
            refine ⟨[.sh T, .sh (nxD nx), .sh (.tup (ws.map wD)), .sh (.int (a : Int)), .sh (.int (b : Int)), .dn (plP (((xsP hs nx y.1).take i).foldl (stepP y.2) L)), .ol (lnP (((xsP hs nx y.1).take i).foldl (stepP y.2) L)), .sh (.int (k : Int)), .sh (prD y.1), .sh x.1, .sh (prD x.2)], rfl, ?_⟩
            have oki := fold_ok y4 (xs := (xsP hs nx y.1).take i) ok y3 fun z hz => xok z (List.mem_of_mem_take hz)
            obtain ⟨t2, et⟩ := fold_pre y.2 ((xsP hs nx y.1).take i) L
            refine part_turn (N := N) oki (by omega) (find_at oki.nodup (k := k) (by rw [et, List.getElem?_append_left q]; exact hs')) (by omega) ⟨.inl rfl, .sh x.1, .sh (prD x.2), ?_⟩
            rw [List.take_add_one, hx, Option.toList_some, List.foldl_append]
            rfl
        · rintro _ ⟨x9, x10, rfl⟩
          rw [List.length_map, List.take_length]
          simp only [unlock]
          rw [Kc_nx, t90_3b3]
          simp [S90_3b3, allB_map, all_id, allB, ev_k, ev_v, ev_g, ev_fr, ev_tup, ev_lst, ev_dct, ev_bin, ev_neg, ev_not, ev_and, ev_or, ev_cmp, ev_chain, ev_ite, ev_idx, ev_slc, ev_call, ev_bi, ev_bm, ev_mu, ev_isi, ev_rpr, ev_lset, ev_dcn, ev_dc1, ev_dget, ev_dsd, ev_pr2, ev_rev, ev_lz, ev_sst, sstF, asgTS, biD, isDn, isOd, hasD, dgetN, dsdS, revF, zip3F, ex_ret_, ex_retN_, ex_asg_, ex_asgT_, ex_setI_, ex_ex_, ex_ifs_, ex_pass_, ex_brk_, ex_cont_, evT, evA, evF, evI, evO, vw, see, res, tru, D.truth, cmpS, cmpV, cmpF, inF, retS, List.replicate, biS, vws, biF, keepSh, asgS, binS, binF, fz, idxS, idxF, intOf, blOf, slcS, slcF, D.noK, isTy, pks, nodup, argS, argsBack, Y_ok, Y_ite, Y_nil, Kc_nx, Kc_rt, Kc_bk, Kc_ct, setIF, isOD, lookS, putS, muF, lock, unlock, rangeF, bindT, setT, LIM, wrOf, isSh, bmS, bmF, bmT, zipF, itemsZ, enumF, ↓reduceIte, w7]
          obtain ⟨t2, et⟩ := fold_pre y.2 (xsP hs nx y.1) L
          refine ⟨N * N + 1 - (k + 1), by omega, k + 1, expP hs nx L y, ok', ?_, ?_, rfl, rfl, rfl, by omega⟩
          · show k + 1 ≤ ((xsP hs nx y.1).foldl (stepP y.2) L).length
            rw [et, List.length_append]
            omega
          · have : N * N + 1 - (k + 1) = f := by omega
            rw [this]
            exact hR
    · have q2 : ¬ (k : Int) < ((lnP L).length : Int) := by rw [lnP_len]; omega
      refine ⟨false, _, by simp [evT, allB_map, all_id, allB, ev_k, ev_v, ev_g, ev_fr, ev_tup, ev_lst, ev_dct, ev_bin, ev_neg, ev_not, ev_and, ev_or, ev_cmp, ev_chain, ev_ite, ev_idx, ev_slc, ev_call, ev_bi, ev_bm, ev_mu, ev_isi, ev_rpr, ev_lset, ev_dcn, ev_dc1, ev_dget, ev_dsd, ev_pr2, ev_rev, ev_lz, ev_sst, sstF, asgTS, biD, isDn, isOd, hasD, dgetN, dsdS, revF, zip3F, ex_ret_, ex_retN_, ex_asg_, ex_asgT_, ex_setI_, ex_ex_, ex_ifs_, ex_pass_, ex_brk_, ex_cont_, evT, evA, evF, evI, evO, vw, see, res, tru, D.truth, cmpS, cmpV, cmpF, inF, retS, List.replicate, biS, vws, biF, keepSh, asgS, binS, binF, fz, idxS, idxF, intOf, blOf, slcS, slcF, D.noK, isTy, pks, nodup, argS, argsBack, Y_ok, Y_ite, Y_nil, Kc_nx, Kc_rt, Kc_bk, Kc_ct, setIF, isOD, lookS, putS, muF, lock, unlock, rangeF, bindT, setT, LIM, wrOf, isSh, bmS, bmF, bmT, zipF, itemsZ, enumF, ↓reduceIte, q2]; rfl, fun z => (by cases z), fun _ => ?_⟩
      rw [List.getElem?_eq_none (by omega)] at hR
      have hR : none = R := hR
      subst hR
      rw [Kc_nx, t90_4]
      simp [S90_4, allB_map, all_id, allB, ev_k, ev_v, ev_g, ev_fr, ev_tup, ev_lst, ev_dct, ev_bin, ev_neg, ev_not, ev_and, ev_or, ev_cmp, ev_chain, ev_ite, ev_idx, ev_slc, ev_call, ev_bi, ev_bm, ev_mu, ev_isi, ev_rpr, ev_lset, ev_dcn, ev_dc1, ev_dget, ev_dsd, ev_pr2, ev_rev, ev_lz, ev_sst, sstF, asgTS, biD, isDn, isOd, hasD, dgetN, dsdS, revF, zip3F, ex_ret_, ex_retN_, ex_asg_, ex_asgT_, ex_setI_, ex_ex_, ex_ifs_, ex_pass_, ex_brk_, ex_cont_, evT, evA, evF, evI, evO, vw, see, res, tru, D.truth, cmpS, cmpV, cmpF, inF, retS, List.replicate, biS, vws, biF, keepSh, asgS, binS, binF, fz, idxS, idxF, intOf, blOf, slcS, slcF, D.noK, isTy, pks, nodup, argS, argsBack, Y_ok, Y_ite, Y_nil, Kc_nx, Kc_rt, Kc_bk, Kc_ct, setIF, isOD, lookS, putS, muF, lock, unlock, rangeF, bindT, setT, LIM, wrOf, isSh, bmS, bmF, bmT, zipF, itemsZ, enumF, ↓reduceIte, fD]
  obtain ⟨_, e, rfl⟩ := this
  exact e
end Mp
namespace Mp
/-! _law_due(_law_table_here, _law_nexts, _law_marks, _law_one, _law_other): 0=_law_table_here 1=_law_nexts 2=_law_marks 3=_law_one 4=_law_other 5=_law_seen 6=_law_fresh 7=_law_later 8=_law_pair 9=_law_row 10=_law_happening 11=_law_first 12=_law_second -/
def S91_2b0b0a0 : Sm := (.ret (.v 9))
def L91_2b0b0a0 : Sms := .cons S91_2b0b0a0 .nil
theorem t91_2b0b0a0 (C : Ctx) (ρ : Env) (Q : Fl × Env → Prop) : Y (exSs C L91_2b0b0a0 ρ) Q = Y (exS C S91_2b0b0a0 ρ) (Kc C .nil Q) := Y_st _ _ _ _ _
def S91_2b0b0 : Sm := (.ifs (.e (.cmp .ne (.rpr (.idx (.v 2) (.idx (.v 8) (.k (.int (0)))))) (.rpr (.idx (.v 2) (.idx (.v 8) (.k (.int (1)))))))) L91_2b0b0a0 .nil)
def L91_2b0b0 : Sms := .cons S91_2b0b0 .nil
theorem t91_2b0b0 (C : Ctx) (ρ : Env) (Q : Fl × Env → Prop) : Y (exSs C L91_2b0b0 ρ) Q = Y (exS C S91_2b0b0 ρ) (Kc C .nil Q) := Y_st _ _ _ _ _
def S91_2b2b0b0a1 : Sm := (.ex (.mu .append 7 (.cons (.tup (.cons (.tup (.cons (.v 11) (.cons (.v 12) .nil))) (.cons (.bin .add (.v 9) (.tup (.cons (.v 10) .nil))) .nil))) .nil)))
def L91_2b2b0b0a1 : Sms := .cons S91_2b2b0b0a1 .nil
theorem t91_2b2b0b0a1 (C : Ctx) (ρ : Env) (Q : Fl × Env → Prop) : Y (exSs C L91_2b2b0b0a1 ρ) Q = Y (exS C S91_2b2b0b0a1 ρ) (Kc C .nil Q) := Y_st _ _ _ _ _
def S91_2b2b0b0a0 : Sm := (.ex (.mu .append 5 (.cons (.tup (.cons (.v 11) (.cons (.v 12) .nil))) .nil)))
def L91_2b2b0b0a0 : Sms := .cons S91_2b2b0b0a0 L91_2b2b0b0a1
theorem t91_2b2b0b0a0 (C : Ctx) (ρ : Env) (Q : Fl × Env → Prop) : Y (exSs C L91_2b2b0b0a0 ρ) Q = Y (exS C S91_2b2b0b0a0 ρ) (Kc C L91_2b2b0b0a1 Q) := Y_st _ _ _ _ _
def S91_2b2b0b0 : Sm := (.ifs (.e (.cmp .notin (.tup (.cons (.v 11) (.cons (.v 12) .nil))) (.v 5))) L91_2b2b0b0a0 .nil)
def L91_2b2b0b0 : Sms := .cons S91_2b2b0b0 .nil
theorem t91_2b2b0b0 (C : Ctx) (ρ : Env) (Q : Fl × Env → Prop) : Y (exSs C L91_2b2b0b0 ρ) Q = Y (exS C S91_2b2b0b0 ρ) (Kc C .nil Q) := Y_st _ _ _ _ _
def S91_2b2b0 : Sm := (.for_ [10, 11, 12] true (.zip3 (.cons (.call 70 (.cons (.v 0) .nil)) (.cons (.idx (.v 1) (.idx (.v 8) (.k (.int (0))))) (.cons (.idx (.v 1) (.idx (.v 8) (.k (.int (1))))) .nil)))) L91_2b2b0b0)
def L91_2b2b0 : Sms := .cons S91_2b2b0 .nil
theorem t91_2b2b0 (C : Ctx) (ρ : Env) (Q : Fl × Env → Prop) : Y (exSs C L91_2b2b0 ρ) Q = Y (exS C S91_2b2b0 ρ) (Kc C .nil Q) := Y_st _ _ _ _ _
def S91_2b3 : Sm := (.asg 6 (.v 7))
def L91_2b3 : Sms := .cons S91_2b3 .nil
theorem t91_2b3 (C : Ctx) (ρ : Env) (Q : Fl × Env → Prop) : Y (exSs C L91_2b3 ρ) Q = Y (exS C S91_2b3 ρ) (Kc C .nil Q) := Y_st _ _ _ _ _
def S91_2b2 : Sm := (.for_ [8, 9] true (.e (.v 6)) L91_2b2b0)
def L91_2b2 : Sms := .cons S91_2b2 L91_2b3
theorem t91_2b2 (C : Ctx) (ρ : Env) (Q : Fl × Env → Prop) : Y (exSs C L91_2b2 ρ) Q = Y (exS C S91_2b2 ρ) (Kc C L91_2b3 Q) := Y_st _ _ _ _ _
def S91_2b1 : Sm := (.asg 7 (.lst .nil))
def L91_2b1 : Sms := .cons S91_2b1 L91_2b2
theorem t91_2b1 (C : Ctx) (ρ : Env) (Q : Fl × Env → Prop) : Y (exSs C L91_2b1 ρ) Q = Y (exS C S91_2b1 ρ) (Kc C L91_2b2 Q) := Y_st _ _ _ _ _
def S91_2b0 : Sm := (.for_ [8, 9] true (.e (.v 6)) L91_2b0b0)
def L91_2b0 : Sms := .cons S91_2b0 L91_2b1
theorem t91_2b0 (C : Ctx) (ρ : Env) (Q : Fl × Env → Prop) : Y (exSs C L91_2b0 ρ) Q = Y (exS C S91_2b0 ρ) (Kc C L91_2b1 Q) := Y_st _ _ _ _ _
def S91_3 : Sm := (.ret (.k .non))
def L91_3 : Sms := .cons S91_3 .nil
theorem t91_3 (C : Ctx) (ρ : Env) (Q : Fl × Env → Prop) : Y (exSs C L91_3 ρ) Q = Y (exS C S91_3 ρ) (Kc C .nil Q) := Y_st _ _ _ _ _
def S91_2 : Sm := (.whl (.e (.cmp .ne (.v 6) (.lst .nil))) L91_2b0)
def L91_2 : Sms := .cons S91_2 L91_3
theorem t91_2 (C : Ctx) (ρ : Env) (Q : Fl × Env → Prop) : Y (exSs C L91_2 ρ) Q = Y (exS C S91_2 ρ) (Kc C L91_3 Q) := Y_st _ _ _ _ _
def S91_1 : Sm := (.asg 6 (.lst (.cons (.tup (.cons (.tup (.cons (.v 3) (.cons (.v 4) .nil))) (.cons (.tup .nil) .nil))) .nil)))
def L91_1 : Sms := .cons S91_1 L91_2
theorem t91_1 (C : Ctx) (ρ : Env) (Q : Fl × Env → Prop) : Y (exSs C L91_1 ρ) Q = Y (exS C S91_1 ρ) (Kc C L91_2 Q) := Y_st _ _ _ _ _
def S91_0 : Sm := (.asg 5 (.lst (.cons (.tup (.cons (.v 3) (.cons (.v 4) .nil))) .nil)))
def L91_0 : Sms := .cons S91_0 L91_1
theorem t91_0 (C : Ctx) (ρ : Env) (Q : Fl × Env → Prop) : Y (exSs C L91_0 ρ) Q = Y (exS C S91_0 ρ) (Kc C L91_1 Q) := Y_st _ _ _ _ _
structure HDue40 (P : Pg) : Prop where
  law_haps : P.fn 70 = some ⟨1, 5, L24_0⟩
  due : P.fn 91 = some ⟨5, 13, L91_0⟩
def frD (q : PP × List D) : D := .tup [prD q.1, .tup q.2]
theorem prD_dep (p : PP) : D.dep (prD p) = 1 := by simp [prD, D.dep, D.deps]
theorem any_ln (L : PLs) (p : PP) : ((lnP L).any fun z => D.eqv z (prD p)) = decide (p ∈ L.map (·.1)) := by
  unfold lnP
  rw [List.any_map]
  induction L with
  | nil => rfl
  | cons q L ih =>
    rw [List.any_cons, ih]
    simp only [Function.comp, prD_eq, List.map_cons, List.mem_cons]
    by_cases c : q.1 = p
    · simp [c]
    · have c2 : ¬ p = q.1 := fun e => c e.symm
      simp [c, c2]
theorem drop_step {row : List D} {L : PLs} {x : D × PP} {m : Nat} (h : m ≤ L.length) : (stepP row L x).drop m = L.drop m ++ (if x.2 ∈ L.map (·.1) then [] else [(x.2, row ++ [x.1])]) := by
  unfold stepP
  split
  · simp
  · rw [List.drop_append_of_le_length h]
/-- one happening, the law's way -/
theorem due_turn40 {C : Ctx} {x0 x1 x2 x3 x4 x6 : Sl} {L : PLs} {N m : Nat} {hs : List D} {q : PP × List D} {x : D × PP} (ok : LOk hs N L) (hN : N ≤ 100) (hm : m ≤ L.length) (hr : q.2.length ≤ 100000) {Q : Fl × Env → Prop}
    (hQ : Q (.nx, [x0, x1, x2, x3, x4, .ol (lnP (stepP q.2 L x)), x6, .ol (((stepP q.2 L x).drop m).map frD), .sh (prD q.1), .sh (.tup q.2), .sh x.1, .sh (.int (x.2.1 : Int)), .sh (.int (x.2.2 : Int))])) :
    Y (exSs C L91_2b2b0b0 [x0, x1, x2, x3, x4, .ol (lnP L), x6, .ol ((L.drop m).map frD), .sh (prD q.1), .sh (.tup q.2), .sh x.1, .sh (.int (x.2.1 : Int)), .sh (.int (x.2.2 : Int))]) Q := by
  have lM := ok.len
  have nn : N * N ≤ 100 * 100 := Nat.mul_le_mul hN hN
  have l1 : (lnP L).length < 16777216 := by rw [lnP_len]; omega
  have l2 : ((L.drop m).map frD).length < 16777216 := by rw [List.length_map, List.length_drop]; omega
  have l3 : q.2.length + 1 ≤ 16777216 := by omega
  have ha := any_ln L x.2
  have hd : min (D.dep (D.tup [.int (x.2.1 : Int), .int (x.2.2 : Int)])) (D.deps (lnP L)) ≤ 64 := by
    have := prD_dep x.2
    have : D.dep (D.tup [.int (x.2.1 : Int), .int (x.2.2 : Int)]) = 1 := this
    omega
  rw [drop_step hm] at hQ
  rw [t91_2b2b0b0]
  have ec : evE C (.cmp .notin (.tup (.cons (.v 11) (.cons (.v 12) .nil))) (.v 5)) [x0, x1, x2, x3, x4, .ol (lnP L), x6, .ol ((L.drop m).map frD), .sh (prD q.1), .sh (.tup q.2), .sh x.1, .sh (.int (x.2.1 : Int)), .sh (.int (x.2.2 : Int))] = .ok (.sh (.bl (!decide (x.2 ∈ L.map (·.1)))), [x0, x1, x2, x3, x4, .ol (lnP L), x6, .ol ((L.drop m).map frD), .sh (prD q.1), .sh (.tup q.2), .sh x.1, .sh (.int (x.2.1 : Int)), .sh (.int (x.2.2 : Int))]) := by
    rw [← ha]
    have ep : prD x.2 = .tup [.int (x.2.1 : Int), .int (x.2.2 : Int)] := rfl
    rw [ep]
    generalize lnP L = LL at *
    generalize prD q.1 = PQ at *
    generalize (L.drop m).map frD = RR at *
    rw [ev_cmp]
    have et : evE C (.tup (.cons (.v 11) (.cons (.v 12) .nil))) [x0, x1, x2, x3, x4, .ol LL, x6, .ol RR, .sh PQ, .sh (.tup q.2), .sh x.1, .sh (.int (x.2.1 : Int)), .sh (.int (x.2.2 : Int))] = .ok (.sh (.tup [.int (x.2.1 : Int), .int (x.2.2 : Int)]), [x0, x1, x2, x3, x4, .ol LL, x6, .ol RR, .sh PQ, .sh (.tup q.2), .sh x.1, .sh (.int (x.2.1 : Int)), .sh (.int (x.2.2 : Int))]) := by simp [allB_map, all_id, allB, ev_k, ev_v, ev_g, ev_fr, ev_tup, ev_lst, ev_dct, ev_bin, ev_neg, ev_not, ev_and, ev_or, ev_cmp, ev_chain, ev_ite, ev_idx, ev_slc, ev_call, ev_bi, ev_bm, ev_mu, ev_isi, ev_rpr, ev_lset, ev_dcn, ev_dc1, ev_dget, ev_dsd, ev_pr2, ev_rev, ev_lz, ev_sst, sstF, asgTS, biD, isDn, isOd, hasD, dgetN, dsdS, revF, zip3F, ex_ret_, ex_retN_, ex_asg_, ex_asgT_, ex_setI_, ex_ex_, ex_ifs_, ex_pass_, ex_brk_, ex_cont_, evT, evA, evF, evI, evO, vw, see, res, tru, D.truth, cmpS, cmpV, cmpF, inF, retS, List.replicate, biS, vws, biF, keepSh, asgS, binS, binF, fz, idxS, idxF, intOf, blOf, slcS, slcF, D.noK, isTy, pks, nodup, argS, argsBack, Y_ok, Y_ite, Y_nil, Kc_nx, Kc_rt, Kc_bk, Kc_ct, setIF, isOD, lookS, putS, muF, lock, unlock, rangeF, bindT, setT, LIM, wrOf, isSh, bmS, bmF, bmT, zipF, itemsZ, enumF, ↓reduceIte, evF]
    rw [et]
    generalize D.tup [.int (x.2.1 : Int), .int (x.2.2 : Int)] = XX at *
    simp [allB_map, all_id, allB, ev_k, ev_v, ev_g, ev_fr, ev_tup, ev_lst, ev_dct, ev_bin, ev_neg, ev_not, ev_and, ev_or, ev_cmp, ev_chain, ev_ite, ev_idx, ev_slc, ev_call, ev_bi, ev_bm, ev_mu, ev_isi, ev_rpr, ev_lset, ev_dcn, ev_dc1, ev_dget, ev_dsd, ev_pr2, ev_rev, ev_lz, ev_sst, sstF, asgTS, biD, isDn, isOd, hasD, dgetN, dsdS, revF, zip3F, ex_ret_, ex_retN_, ex_asg_, ex_asgT_, ex_setI_, ex_ex_, ex_ifs_, ex_pass_, ex_brk_, ex_cont_, evT, evA, evF, evI, evO, vw, see, res, tru, D.truth, cmpS, cmpV, cmpF, inF, retS, List.replicate, biS, vws, biF, keepSh, asgS, binS, binF, fz, idxS, idxF, intOf, blOf, slcS, slcF, D.noK, isTy, pks, nodup, argS, argsBack, Y_ok, Y_ite, Y_nil, Kc_nx, Kc_rt, Kc_bk, Kc_ct, setIF, isOD, lookS, putS, muF, lock, unlock, rangeF, bindT, setT, LIM, wrOf, isSh, bmS, bmF, bmT, zipF, itemsZ, enumF, ↓reduceIte, inF, hd]
  by_cases c : x.2 ∈ L.map (·.1)
  · have es : stepP q.2 L x = L := by unfold stepP; rw [if_pos c]
    rw [es, if_pos c, List.append_nil] at hQ
    simp only [S91_2b2b0b0, ex_ifs_, evT, ec, bind_ok_eq]
    simp [allB_map, all_id, allB, ev_k, ev_v, ev_g, ev_fr, ev_tup, ev_lst, ev_dct, ev_bin, ev_neg, ev_not, ev_and, ev_or, ev_cmp, ev_chain, ev_ite, ev_idx, ev_slc, ev_call, ev_bi, ev_bm, ev_mu, ev_isi, ev_rpr, ev_lset, ev_dcn, ev_dc1, ev_dget, ev_dsd, ev_pr2, ev_rev, ev_lz, ev_sst, sstF, asgTS, biD, isDn, isOd, hasD, dgetN, dsdS, revF, zip3F, ex_ret_, ex_retN_, ex_asg_, ex_asgT_, ex_setI_, ex_ex_, ex_ifs_, ex_pass_, ex_brk_, ex_cont_, evT, evA, evF, evI, evO, vw, see, res, tru, D.truth, cmpS, cmpV, cmpF, inF, retS, List.replicate, biS, vws, biF, keepSh, asgS, binS, binF, fz, idxS, idxF, intOf, blOf, slcS, slcF, D.noK, isTy, pks, nodup, argS, argsBack, Y_ok, Y_ite, Y_nil, Kc_nx, Kc_rt, Kc_bk, Kc_ct, setIF, isOD, lookS, putS, muF, lock, unlock, rangeF, bindT, setT, LIM, wrOf, isSh, bmS, bmF, bmT, zipF, itemsZ, enumF, ↓reduceIte, c]
    simpa using hQ
  · have es : stepP q.2 L x = L ++ [(x.2, q.2 ++ [x.1])] := by unfold stepP; rw [if_neg c]
    rw [es, if_neg c, List.map_append] at hQ
    have el : lnP (L ++ [(x.2, q.2 ++ [x.1])]) = lnP L ++ [.tup [.int (x.2.1 : Int), .int (x.2.2 : Int)]] := by
      unfold lnP
      rw [List.map_append]
      rfl
    have ef : [(x.2, q.2 ++ [x.1])].map frD = [.tup [.tup [.int (x.2.1 : Int), .int (x.2.2 : Int)], .tup (q.2 ++ [x.1])]] := rfl
    rw [el, ef] at hQ
    simp only [S91_2b2b0b0, ex_ifs_, evT, ec, bind_ok_eq]
    generalize lnP L = LL at *
    generalize prD q.1 = PQ at *
    generalize (L.drop m).map frD = RR at *
    simp [allB_map, all_id, allB, ev_k, ev_v, ev_g, ev_fr, ev_tup, ev_lst, ev_dct, ev_bin, ev_neg, ev_not, ev_and, ev_or, ev_cmp, ev_chain, ev_ite, ev_idx, ev_slc, ev_call, ev_bi, ev_bm, ev_mu, ev_isi, ev_rpr, ev_lset, ev_dcn, ev_dc1, ev_dget, ev_dsd, ev_pr2, ev_rev, ev_lz, ev_sst, sstF, asgTS, biD, isDn, isOd, hasD, dgetN, dsdS, revF, zip3F, ex_ret_, ex_retN_, ex_asg_, ex_asgT_, ex_setI_, ex_ex_, ex_ifs_, ex_pass_, ex_brk_, ex_cont_, evT, evA, evF, evI, evO, vw, see, res, tru, D.truth, cmpS, cmpV, cmpF, inF, retS, List.replicate, biS, vws, biF, keepSh, asgS, binS, binF, fz, idxS, idxF, intOf, blOf, slcS, slcF, D.noK, isTy, pks, nodup, argS, argsBack, Y_ok, Y_ite, Y_nil, Kc_nx, Kc_rt, Kc_bk, Kc_ct, setIF, isOD, lookS, putS, muF, lock, unlock, rangeF, bindT, setT, LIM, wrOf, isSh, bmS, bmF, bmT, zipF, itemsZ, enumF, ↓reduceIte, c]
    rw [t91_2b2b0b0a0]
    simp [S91_2b2b0b0a0, allB_map, all_id, allB, ev_k, ev_v, ev_g, ev_fr, ev_tup, ev_lst, ev_dct, ev_bin, ev_neg, ev_not, ev_and, ev_or, ev_cmp, ev_chain, ev_ite, ev_idx, ev_slc, ev_call, ev_bi, ev_bm, ev_mu, ev_isi, ev_rpr, ev_lset, ev_dcn, ev_dc1, ev_dget, ev_dsd, ev_pr2, ev_rev, ev_lz, ev_sst, sstF, asgTS, biD, isDn, isOd, hasD, dgetN, dsdS, revF, zip3F, ex_ret_, ex_retN_, ex_asg_, ex_asgT_, ex_setI_, ex_ex_, ex_ifs_, ex_pass_, ex_brk_, ex_cont_, evT, evA, evF, evI, evO, vw, see, res, tru, D.truth, cmpS, cmpV, cmpF, inF, retS, List.replicate, biS, vws, biF, keepSh, asgS, binS, binF, fz, idxS, idxF, intOf, blOf, slcS, slcF, D.noK, isTy, pks, nodup, argS, argsBack, Y_ok, Y_ite, Y_nil, Kc_nx, Kc_rt, Kc_bk, Kc_ct, setIF, isOD, lookS, putS, muF, lock, unlock, rangeF, bindT, setT, LIM, wrOf, isSh, bmS, bmF, bmT, zipF, itemsZ, enumF, ↓reduceIte, evF, l1]
    rw [t91_2b2b0b0a1]
    simp [S91_2b2b0b0a1, allB_map, all_id, allB, ev_k, ev_v, ev_g, ev_fr, ev_tup, ev_lst, ev_dct, ev_bin, ev_neg, ev_not, ev_and, ev_or, ev_cmp, ev_chain, ev_ite, ev_idx, ev_slc, ev_call, ev_bi, ev_bm, ev_mu, ev_isi, ev_rpr, ev_lset, ev_dcn, ev_dc1, ev_dget, ev_dsd, ev_pr2, ev_rev, ev_lz, ev_sst, sstF, asgTS, biD, isDn, isOd, hasD, dgetN, dsdS, revF, zip3F, ex_ret_, ex_retN_, ex_asg_, ex_asgT_, ex_setI_, ex_ex_, ex_ifs_, ex_pass_, ex_brk_, ex_cont_, evT, evA, evF, evI, evO, vw, see, res, tru, D.truth, cmpS, cmpV, cmpF, inF, retS, List.replicate, biS, vws, biF, keepSh, asgS, binS, binF, fz, idxS, idxF, intOf, blOf, slcS, slcF, D.noK, isTy, pks, nodup, argS, argsBack, Y_ok, Y_ite, Y_nil, Kc_nx, Kc_rt, Kc_bk, Kc_ct, setIF, isOD, lookS, putS, muF, lock, unlock, rangeF, bindT, setT, LIM, wrOf, isSh, bmS, bmF, bmT, zipF, itemsZ, enumF, ↓reduceIte, evF, l2, l3]
    simpa using hQ
def z3D (x : D × PP) : D := .tup [x.1, .int (x.2.1 : Int), .int (x.2.2 : Int)]
theorem zip3_z3D : ∀ (hs : List D) (a b : List Nat), zip3L hs (a.map fun (k : Nat) => D.int k) (b.map fun (k : Nat) => D.int k) = (hs.zip (a.zip b)).map z3D
  | [], _, _ => by simp [zip3L]
  | h :: hs, [], _ => by simp [zip3L]
  | h :: hs, x :: a, [] => by simp [zip3L]
  | h :: hs, x :: a, y :: b => by
    show D.tup _ :: zip3L hs (a.map _) (b.map _) = _
    rw [zip3_z3D]
    rfl
theorem pair_turn40 {P : Pg} (wf n : Nat) {C : Ctx} (c1 : C.cl = callM P wf (n + 1)) (w10 : C.wr 10 = true) (w11 : C.wr 11 = true) (w12 : C.wr 12 = true) {T : D} {hs : List D} (eh : callM P wf (n + 1) 70 [.sh T] = .ok (.ol hs, [.sh T])) {nx : List (List Nat)} {N m : Nat} (hn : NxW nx N) (h7 : N ≤ 7) {L : PLs} (ok : LOk hs N L) (hm : m ≤ L.length) {q : PP × List D} (hq : q ∈ L) {x2 x3 x4 x6 x10 x11 x12 : Sl} {Q : Fl × Env → Prop}
    (hQ : ∀ x10 x11 x12, Q (.nx, [.sh T, .sh (nxD nx), x2, x3, x4, .ol (lnP (expP hs nx L q)), x6, .ol (((expP hs nx L q).drop m).map frD), .sh (prD q.1), .sh (.tup q.2), x10, x11, x12])) :
    Y (exS C S91_2b2b0 [.sh T, .sh (nxD nx), x2, x3, x4, .ol (lnP L), x6, .ol ((L.drop m).map frD), .sh (prD q.1), .sh (.tup q.2), x10, x11, x12]) Q := by
  obtain ⟨k, hk⟩ := List.getElem?_of_mem hq
  obtain ⟨⟨y1, y2⟩, y3, y4⟩ := ok.at hk
  have MM : N * N ≤ 7 * 7 := Nat.mul_le_mul h7 h7
  have lM := ok.len
  have nl := hn.len
  have xok := xsP_ok (hs := hs) hn.toNxOk q.1
  have r1 := nx_at (nx := nx) (k := q.1.1) (by omega)
  have r2 := nx_at (nx := nx) (k := q.1.2) (by omega)
  have e3 : zip3L hs ((nx.getD q.1.1 []).map fun (k : Nat) => D.int k) ((nx.getD q.1.2 []).map fun (k : Nat) => D.int k) = (xsP hs nx q.1).map z3D := zip3_z3D _ _ _
  refine for_Y (lk := []) (ds := (xsP hs nx q.1).map z3D) (ρ1 := [.sh T, .sh (nxD nx), x2, x3, x4, .ol (lnP L), x6, .ol ((L.drop m).map frD), .sh (prD q.1), .sh (.tup q.2), x10, x11, x12]) (fun i ρ => ∃ x10 x11 x12, ρ = [.sh T, .sh (nxD nx), x2, x3, x4, .ol (lnP (((xsP hs nx q.1).take i).foldl (stepP q.2) L)), x6, .ol (((((xsP hs nx q.1).take i).foldl (stepP q.2) L).drop m).map frD), .sh (prD q.1), .sh (.tup q.2), x10, x11, x12]) ?_ ?_ ⟨x10, x11, x12, rfl⟩ ?_ ?_
  · have a0 : atI [D.int (q.1.1 : Int), .int (q.1.2 : Int)] 0 = some (.int (q.1.1 : Int)) := rfl
    have a1 : atI [D.int (q.1.1 : Int), .int (q.1.2 : Int)] 1 = some (.int (q.1.2 : Int)) := rfl
    have ep : prD q.1 = .tup [.int (q.1.1 : Int), .int (q.1.2 : Int)] := rfl
    have ex : nxD nx = .tup (nx.map nD) := rfl
    rw [ep, ex]
    generalize lnP L = LL at *
    generalize (L.drop m).map frD = RR at *
    generalize (xsP hs nx q.1).map z3D = ZZ at *
    generalize nx.getD q.1.1 [] = ra at *
    generalize nx.getD q.1.2 [] = rb at *
    simp [allB_map, all_id, allB, ev_k, ev_v, ev_g, ev_fr, ev_tup, ev_lst, ev_dct, ev_bin, ev_neg, ev_not, ev_and, ev_or, ev_cmp, ev_chain, ev_ite, ev_idx, ev_slc, ev_call, ev_bi, ev_bm, ev_mu, ev_isi, ev_rpr, ev_lset, ev_dcn, ev_dc1, ev_dget, ev_dsd, ev_pr2, ev_rev, ev_lz, ev_sst, sstF, asgTS, biD, isDn, isOd, hasD, dgetN, dsdS, revF, zip3F, ex_ret_, ex_retN_, ex_asg_, ex_asgT_, ex_setI_, ex_ex_, ex_ifs_, ex_pass_, ex_brk_, ex_cont_, evT, evA, evF, evI, evO, vw, see, res, tru, D.truth, cmpS, cmpV, cmpF, inF, retS, List.replicate, biS, vws, biF, keepSh, asgS, binS, binF, fz, idxS, idxF, intOf, blOf, slcS, slcF, D.noK, isTy, pks, nodup, argS, argsBack, Y_ok, Y_ite, Y_nil, Kc_nx, Kc_rt, Kc_bk, Kc_ct, setIF, isOD, lookS, putS, muF, lock, unlock, rangeF, bindT, setT, LIM, wrOf, isSh, bmS, bmF, bmT, zipF, itemsZ, enumF, ↓reduceIte, c1, eh, a0, a1, r1, r2, evF, zip3F, itemsZ, nD, e3]
  · simp [w10, w11, w12]
  · rintro i d ρ hd ⟨x10, x11, x12, rfl⟩
    rw [List.getElem?_map] at hd
    cases hx : (xsP hs nx q.1)[i]? with
    | none => rw [hx] at hd; cases hd
    | some x =>
      rw [hx] at hd
      cases hd
      refine ⟨[.sh T, .sh (nxD nx), x2, x3, x4, .ol (lnP (((xsP hs nx q.1).take i).foldl (stepP q.2) L)), x6, .ol (((((xsP hs nx q.1).take i).foldl (stepP q.2) L).drop m).map frD), .sh (prD q.1), .sh (.tup q.2), .sh x.1, .sh (.int (x.2.1 : Int)), .sh (.int (x.2.2 : Int))], rfl, ?_⟩
      have oki := fold_ok y4 (xs := (xsP hs nx q.1).take i) ok y3 fun z hz => xok z (List.mem_of_mem_take hz)
      obtain ⟨t2, et⟩ := fold_pre q.2 ((xsP hs nx q.1).take i) L
      refine due_turn40 (N := N) oki (by omega) (by rw [et, List.length_append]; omega) (by omega) ⟨.inl rfl, .sh x.1, .sh (.int (x.2.1 : Int)), .sh (.int (x.2.2 : Int)), ?_⟩
      rw [List.take_add_one, hx, Option.toList_some, List.foldl_append]
      rfl
  · rintro _ ⟨x10, x11, x12, rfl⟩
    rw [List.length_map, List.take_length]
    simp only [unlock]
    exact hQ x10 x11 x12
theorem find_take {p : PP × List D → Bool} : ∀ {fr : PLs} {i : Nat} {q : PP × List D}, fr[i]? = some q → (fr.take i).find? p = none → p q = true → fr.find? p = some q
  | [], i, q, h, _, _ => by cases h
  | x :: fr, 0, q, h, _, hp => by
    cases h
    rw [List.find?_cons, hp]
  | x :: fr, i + 1, q, h, hn, hp => by
    have h : fr[i]? = some q := h
    rw [List.take_succ_cons, List.find?_cons] at hn
    cases hx : p x with
    | true => rw [hx] at hn; cases hn
    | false =>
      rw [hx] at hn
      rw [List.find?_cons, hx]
      exact find_take h hn hp
theorem find_more {p : PP × List D → Bool} {fr : PLs} {i : Nat} {q : PP × List D} (h : fr[i]? = some q) (hn : (fr.take i).find? p = none) (hp : p q = false) : (fr.take (i + 1)).find? p = none := by
  rw [List.take_add_one, h, Option.toList_some, List.find?_append, hn]
  simp [hp]
theorem unl_rt (ws : List Wd) (p : PP) : unlW ws p = !(rtW (ws.getD p.1 (.b false)) == rtW (ws.getD p.2 (.b false))) := by
  unfold unlW
  generalize ws.getD p.1 (.b false) = W1
  generalize ws.getD p.2 (.b false) = W2
  by_cases c : W1 = W2
  · rw [c]; simp
  · have : ¬ rtW W1 = rtW W2 := fun e => c (rtW_inj e)
    simp [c, this]
theorem due40 {P : Pg} (h : HDue40 P) (wf n : Nat) (hwf : 1000 ≤ wf) {t : Tab} (ht : SmallT t) {nx : List (List Nat)} {N : Nat} (hn : NxW nx N) (h7 : N ≤ 7) {ws : List Wd} (hw : ws.length = N) (hr : ∀ w ∈ ws, P.rp (wD w) = some (rtW w)) {a b : Nat} (ha : a < N) (hb : b < N) :
    callM P wf (n + 2) 91 [.sh (tabD t), .sh (nxD nx), .sh (.tup (ws.map wD)), .sh (.int (a : Int)), .sh (.int (b : Int))] = .ok (.sh (fD (partR (hapsD t) nx (unlW ws) a b)), [.sh (tabD t), .sh (nxD nx), .sh (.tup (ws.map wD)), .sh (.int (a : Int)), .sh (.int (b : Int))]) := by
  have : Y (callM P wf (n + 2) 91 [.sh (tabD t), .sh (nxD nx), .sh (.tup (ws.map wD)), .sh (.int (a : Int)), .sh (.int (b : Int))]) fun r => r = (.sh (fD (partR (hapsD t) nx (unlW ws) a b)), [.sh (tabD t), .sh (nxD nx), .sh (.tup (ws.map wD)), .sh (.int (a : Int)), .sh (.int (b : Int))]) := by
    refine call_by (fun r => ∃ ρ, r = (.rt (.sh (fD (partR (hapsD t) nx (unlW ws) a b))), .sh (tabD t) :: .sh (nxD nx) :: .sh (.tup (ws.map wD)) :: .sh (.int (a : Int)) :: .sh (.int (b : Int)) :: ρ)) h.due rfl rfl (by decide) (fun C c1 c2 c3 c4 c5 => ?_) (by rintro _ ⟨ρ, rfl⟩; exact ⟨_, _, rfl, rfl, by simp [keepSh]⟩)
    have c1 : C.cl = callM P wf (n + 1) := c1
    show Y (exSs C L91_0 [.sh (tabD t), .sh (nxD nx), .sh (.tup (ws.map wD)), .sh (.int (a : Int)), .sh (.int (b : Int)), .un, .un, .un, .un, .un, .un, .un, .un]) _
    have w5 : C.wr 5 = true := by rw [c3]; rfl
    have w6 : C.wr 6 = true := by rw [c3]; rfl
    have w7 : C.wr 7 = true := by rw [c3]; rfl
    have w8 : C.wr 8 = true := by rw [c3]; rfl
    have w9 : C.wr 9 = true := by rw [c3]; rfl
    have w10 : C.wr 10 = true := by rw [c3]; rfl
    have w11 : C.wr 11 = true := by rw [c3]; rfl
    have w12 : C.wr 12 = true := by rw [c3]; rfl
    have eh := haps_at h.law_haps wf n t ht
    have nl := hn.len
    generalize hH : hapsD t = hs at *
    generalize hT : tabD t = T at *
    have MM : N * N ≤ 7 * 7 := Nat.mul_le_mul h7 h7
    rw [t91_0]
    have st0 : exS C S91_0 [.sh T, .sh (nxD nx), .sh (.tup (ws.map wD)), .sh (.int (a : Int)), .sh (.int (b : Int)), .un, .un, .un, .un, .un, .un, .un, .un] = .ok (.nx, [.sh T, .sh (nxD nx), .sh (.tup (ws.map wD)), .sh (.int (a : Int)), .sh (.int (b : Int)), .ol (lnP [((a, b), [])]), .un, .un, .un, .un, .un, .un, .un]) := by
      simp [S91_0, allB_map, all_id, allB, ev_k, ev_v, ev_g, ev_fr, ev_tup, ev_lst, ev_dct, ev_bin, ev_neg, ev_not, ev_and, ev_or, ev_cmp, ev_chain, ev_ite, ev_idx, ev_slc, ev_call, ev_bi, ev_bm, ev_mu, ev_isi, ev_rpr, ev_lset, ev_dcn, ev_dc1, ev_dget, ev_dsd, ev_pr2, ev_rev, ev_lz, ev_sst, sstF, asgTS, biD, isDn, isOd, hasD, dgetN, dsdS, revF, zip3F, ex_ret_, ex_retN_, ex_asg_, ex_asgT_, ex_setI_, ex_ex_, ex_ifs_, ex_pass_, ex_brk_, ex_cont_, evT, evA, evF, evI, evO, vw, see, res, tru, D.truth, cmpS, cmpV, cmpF, inF, retS, List.replicate, biS, vws, biF, keepSh, asgS, binS, binF, fz, idxS, idxF, intOf, blOf, slcS, slcF, D.noK, isTy, pks, nodup, argS, argsBack, Y_ok, Y_ite, Y_nil, Kc_nx, Kc_rt, Kc_bk, Kc_ct, setIF, isOD, lookS, putS, muF, lock, unlock, rangeF, bindT, setT, LIM, wrOf, isSh, bmS, bmF, bmT, zipF, itemsZ, enumF, ↓reduceIte, evF, w5]
      rfl
    rw [st0, Y_ok, Kc_nx, t91_1]
    have st1 : exS C S91_1 [.sh T, .sh (nxD nx), .sh (.tup (ws.map wD)), .sh (.int (a : Int)), .sh (.int (b : Int)), .ol (lnP [((a, b), [])]), .un, .un, .un, .un, .un, .un, .un] = .ok (.nx, [.sh T, .sh (nxD nx), .sh (.tup (ws.map wD)), .sh (.int (a : Int)), .sh (.int (b : Int)), .ol (lnP [((a, b), [])]), .ol (([((a, b), [])] : PLs).map frD), .un, .un, .un, .un, .un, .un]) := by
      simp [S91_1, allB_map, all_id, allB, ev_k, ev_v, ev_g, ev_fr, ev_tup, ev_lst, ev_dct, ev_bin, ev_neg, ev_not, ev_and, ev_or, ev_cmp, ev_chain, ev_ite, ev_idx, ev_slc, ev_call, ev_bi, ev_bm, ev_mu, ev_isi, ev_rpr, ev_lset, ev_dcn, ev_dc1, ev_dget, ev_dsd, ev_pr2, ev_rev, ev_lz, ev_sst, sstF, asgTS, biD, isDn, isOd, hasD, dgetN, dsdS, revF, zip3F, ex_ret_, ex_retN_, ex_asg_, ex_asgT_, ex_setI_, ex_ex_, ex_ifs_, ex_pass_, ex_brk_, ex_cont_, evT, evA, evF, evI, evO, vw, see, res, tru, D.truth, cmpS, cmpV, cmpF, inF, retS, List.replicate, biS, vws, biF, keepSh, asgS, binS, binF, fz, idxS, idxF, intOf, blOf, slcS, slcF, D.noK, isTy, pks, nodup, argS, argsBack, Y_ok, Y_ite, Y_nil, Kc_nx, Kc_rt, Kc_bk, Kc_ct, setIF, isOD, lookS, putS, muF, lock, unlock, rangeF, bindT, setT, LIM, wrOf, isSh, bmS, bmF, bmT, zipF, itemsZ, enumF, ↓reduceIte, evF, w6]
      rfl
    rw [st1, Y_ok, Kc_nx, t91_2]
    refine whl_W (fun m ρ => ∃ k L x6 x7 x8 x9 x10 x11 x12, LOk hs N L ∧ k ≤ L.length ∧ qgo hs nx (unlW ws) (N * N + 1 - k) k L = partR hs nx (unlW ws) a b ∧ m = N * N + 1 - k ∧ (x6 = .ol ((L.drop k).map frD) ∨ x6 = .sh (.lst ((L.drop k).map frD))) ∧ ρ = [.sh T, .sh (nxD nx), .sh (.tup (ws.map wD)), .sh (.int (a : Int)), .sh (.int (b : Int)), .ol (lnP L), x6, x7, x8, x9, x10, x11, x12]) (N * N + 1) (by rw [c4]; omega) ⟨0, _, _, .un, .un, .un, .un, .un, .un, first_ok ha hb, Nat.zero_le _, by unfold partR; rw [nl]; rfl, rfl, .inl rfl, rfl⟩ ?_
    rintro m ρ ⟨k, L, x6, x7, x8, x9, x10, x11, x12, ok, hk, hR, rfl, h6, rfl⟩
    have lM := ok.len
    generalize partR hs nx (unlW ws) a b = R at *
    have eL : L = L.take k ++ L.drop k ++ [] := by simp
    have sub : ∀ q ∈ L.drop k, q ∈ L := fun q hq => List.mem_of_mem_drop hq
    have fl : (L.drop k).length = L.length - k := List.length_drop
    have lay := qgo_lay hs nx (unlW ws) (L.drop k) (L.take k) [] (N * N + 1 - L.length) k (by rw [List.length_take]; omega)
    rw [← eL, fl, show N * N + 1 - L.length + (L.length - k) = N * N + 1 - k from by omega, hR, show k + (L.length - k) = L.length from by omega] at lay
    have okE := exps_ok hn.toNxOk (fr := L.drop k) ok sub
    generalize hfr : L.drop k = fr at *
    cases fr with
    | nil =>
      refine ⟨false, [.sh T, .sh (nxD nx), .sh (.tup (ws.map wD)), .sh (.int (a : Int)), .sh (.int (b : Int)), .ol (lnP L), x6, x7, x8, x9, x10, x11, x12], by rcases h6 with rfl | rfl <;> simp [evT, allB_map, all_id, allB, ev_k, ev_v, ev_g, ev_fr, ev_tup, ev_lst, ev_dct, ev_bin, ev_neg, ev_not, ev_and, ev_or, ev_cmp, ev_chain, ev_ite, ev_idx, ev_slc, ev_call, ev_bi, ev_bm, ev_mu, ev_isi, ev_rpr, ev_lset, ev_dcn, ev_dc1, ev_dget, ev_dsd, ev_pr2, ev_rev, ev_lz, ev_sst, sstF, asgTS, biD, isDn, isOd, hasD, dgetN, dsdS, revF, zip3F, ex_ret_, ex_retN_, ex_asg_, ex_asgT_, ex_setI_, ex_ex_, ex_ifs_, ex_pass_, ex_brk_, ex_cont_, evT, evA, evF, evI, evO, vw, see, res, tru, D.truth, cmpS, cmpV, cmpF, inF, retS, List.replicate, biS, vws, biF, keepSh, asgS, binS, binF, fz, idxS, idxF, intOf, blOf, slcS, slcF, D.noK, isTy, pks, nodup, argS, argsBack, Y_ok, Y_ite, Y_nil, Kc_nx, Kc_rt, Kc_bk, Kc_ct, setIF, isOD, lookS, putS, muF, lock, unlock, rangeF, bindT, setT, LIM, wrOf, isSh, bmS, bmF, bmT, zipF, itemsZ, enumF, ↓reduceIte, D.dep, D.deps, D.eqv, D.eqvs], fun z => (by cases z), fun _ => ?_⟩
      have : L.length = k := by simp at fl; omega
      rw [show N * N + 1 - k = N * N - k + 1 from by omega, qgo_succ] at hR
      rw [List.getElem?_eq_none (by omega)] at hR
      have hR : none = R := hR
      subst hR
      rw [Kc_nx, t91_3]
      simp [S91_3, allB_map, all_id, allB, ev_k, ev_v, ev_g, ev_fr, ev_tup, ev_lst, ev_dct, ev_bin, ev_neg, ev_not, ev_and, ev_or, ev_cmp, ev_chain, ev_ite, ev_idx, ev_slc, ev_call, ev_bi, ev_bm, ev_mu, ev_isi, ev_rpr, ev_lset, ev_dcn, ev_dc1, ev_dget, ev_dsd, ev_pr2, ev_rev, ev_lz, ev_sst, sstF, asgTS, biD, isDn, isOd, hasD, dgetN, dsdS, revF, zip3F, ex_ret_, ex_retN_, ex_asg_, ex_asgT_, ex_setI_, ex_ex_, ex_ifs_, ex_pass_, ex_brk_, ex_cont_, evT, evA, evF, evI, evO, vw, see, res, tru, D.truth, cmpS, cmpV, cmpF, inF, retS, List.replicate, biS, vws, biF, keepSh, asgS, binS, binF, fz, idxS, idxF, intOf, blOf, slcS, slcF, D.noK, isTy, pks, nodup, argS, argsBack, Y_ok, Y_ite, Y_nil, Kc_nx, Kc_rt, Kc_bk, Kc_ct, setIF, isOD, lookS, putS, muF, lock, unlock, rangeF, bindT, setT, LIM, wrOf, isSh, bmS, bmF, bmT, zipF, itemsZ, enumF, ↓reduceIte, fD]
    | cons f0 fr0 =>
      have ne : f0 :: fr0 ≠ [] := by simp
      have fne : 0 < (f0 :: fr0).length := by simp
      have ediff : D.eqv (.lst ((f0 :: fr0).map frD)) (.lst []) = false := rfl
      generalize f0 :: fr0 = fr at *
      refine ⟨true, [.sh T, .sh (nxD nx), .sh (.tup (ws.map wD)), .sh (.int (a : Int)), .sh (.int (b : Int)), .ol (lnP L), x6, x7, x8, x9, x10, x11, x12], by rcases h6 with rfl | rfl <;> simp [evT, allB_map, all_id, allB, ev_k, ev_v, ev_g, ev_fr, ev_tup, ev_lst, ev_dct, ev_bin, ev_neg, ev_not, ev_and, ev_or, ev_cmp, ev_chain, ev_ite, ev_idx, ev_slc, ev_call, ev_bi, ev_bm, ev_mu, ev_isi, ev_rpr, ev_lset, ev_dcn, ev_dc1, ev_dget, ev_dsd, ev_pr2, ev_rev, ev_lz, ev_sst, sstF, asgTS, biD, isDn, isOd, hasD, dgetN, dsdS, revF, zip3F, ex_ret_, ex_retN_, ex_asg_, ex_asgT_, ex_setI_, ex_ex_, ex_ifs_, ex_pass_, ex_brk_, ex_cont_, evT, evA, evF, evI, evO, vw, see, res, tru, D.truth, cmpS, cmpV, cmpF, inF, retS, List.replicate, biS, vws, biF, keepSh, asgS, binS, binF, fz, idxS, idxF, intOf, blOf, slcS, slcF, D.noK, isTy, pks, nodup, argS, argsBack, Y_ok, Y_ite, Y_nil, Kc_nx, Kc_rt, Kc_bk, Kc_ct, setIF, isOD, lookS, putS, muF, lock, unlock, rangeF, bindT, setT, LIM, wrOf, isSh, bmS, bmF, bmT, zipF, itemsZ, enumF, ↓reduceIte, D.dep, D.deps, ediff], fun _ => ?_, fun z => (by cases z)⟩
      have hunl : ∀ q ∈ L, (C.rp (wD (ws.getD q.1.1 (.b false))) = some (rtW (ws.getD q.1.1 (.b false)))) ∧ (C.rp (wD (ws.getD q.1.2 (.b false))) = some (rtW (ws.getD q.1.2 (.b false)))) := fun q hq => by
        obtain ⟨y1, y2⟩ := ok.lt q hq
        have mm : ∀ s, s < N → ws.getD s (.b false) ∈ ws := fun s hs => by
          rw [List.getD_eq_getElem?_getD, List.getElem?_eq_getElem (by omega)]
          exact List.getElem_mem _
        exact ⟨by rw [c5]; exact hr _ (mm _ y1), by rw [c5]; exact hr _ (mm _ y2)⟩
      obtain ⟨lk, x6l, L1, L2⟩ : ∃ lk x6l, (∀ y0 y1 y2 y3 y4 y5 y7 y8 y9 y10 y11 y12 : Sl, evI C (.e (.v 6)) [y0, y1, y2, y3, y4, y5, x6, y7, y8, y9, y10, y11, y12] = .ok ((fr.map frD, lk), [y0, y1, y2, y3, y4, y5, x6l, y7, y8, y9, y10, y11, y12])) ∧ ∀ y0 y1 y2 y3 y4 y5 y7 y8 y9 y10 y11 y12 : Sl, unlock lk [y0, y1, y2, y3, y4, y5, x6l, y7, y8, y9, y10, y11, y12] = [y0, y1, y2, y3, y4, y5, x6, y7, y8, y9, y10, y11, y12] := by
        rcases h6 with rfl | rfl
        · refine ⟨[6], .lk (fr.map frD), fun y0 y1 y2 y3 y4 y5 y7 y8 y9 y10 y11 y12 => ?_, fun y0 y1 y2 y3 y4 y5 y7 y8 y9 y10 y11 y12 => rfl⟩
          simp [allB_map, all_id, allB, ev_k, ev_v, ev_g, ev_fr, ev_tup, ev_lst, ev_dct, ev_bin, ev_neg, ev_not, ev_and, ev_or, ev_cmp, ev_chain, ev_ite, ev_idx, ev_slc, ev_call, ev_bi, ev_bm, ev_mu, ev_isi, ev_rpr, ev_lset, ev_dcn, ev_dc1, ev_dget, ev_dsd, ev_pr2, ev_rev, ev_lz, ev_sst, sstF, asgTS, biD, isDn, isOd, hasD, dgetN, dsdS, revF, zip3F, ex_ret_, ex_retN_, ex_asg_, ex_asgT_, ex_setI_, ex_ex_, ex_ifs_, ex_pass_, ex_brk_, ex_cont_, evT, evA, evF, evI, evO, vw, see, res, tru, D.truth, cmpS, cmpV, cmpF, inF, retS, List.replicate, biS, vws, biF, keepSh, asgS, binS, binF, fz, idxS, idxF, intOf, blOf, slcS, slcF, D.noK, isTy, pks, nodup, argS, argsBack, Y_ok, Y_ite, Y_nil, Kc_nx, Kc_rt, Kc_bk, Kc_ct, setIF, isOD, lookS, putS, muF, lock, unlock, rangeF, bindT, setT, LIM, wrOf, isSh, bmS, bmF, bmT, zipF, itemsZ, enumF, ↓reduceIte]
        · refine ⟨[], .sh (.lst (fr.map frD)), fun y0 y1 y2 y3 y4 y5 y7 y8 y9 y10 y11 y12 => ?_, fun y0 y1 y2 y3 y4 y5 y7 y8 y9 y10 y11 y12 => rfl⟩
          simp [allB_map, all_id, allB, ev_k, ev_v, ev_g, ev_fr, ev_tup, ev_lst, ev_dct, ev_bin, ev_neg, ev_not, ev_and, ev_or, ev_cmp, ev_chain, ev_ite, ev_idx, ev_slc, ev_call, ev_bi, ev_bm, ev_mu, ev_isi, ev_rpr, ev_lset, ev_dcn, ev_dc1, ev_dget, ev_dsd, ev_pr2, ev_rev, ev_lz, ev_sst, sstF, asgTS, biD, isDn, isOd, hasD, dgetN, dsdS, revF, zip3F, ex_ret_, ex_retN_, ex_asg_, ex_asgT_, ex_setI_, ex_ex_, ex_ifs_, ex_pass_, ex_brk_, ex_cont_, evT, evA, evF, evI, evO, vw, see, res, tru, D.truth, cmpS, cmpV, cmpF, inF, retS, List.replicate, biS, vws, biF, keepSh, asgS, binS, binF, fz, idxS, idxF, intOf, blOf, slcS, slcF, D.noK, isTy, pks, nodup, argS, argsBack, Y_ok, Y_ite, Y_nil, Kc_nx, Kc_rt, Kc_bk, Kc_ct, setIF, isOD, lookS, putS, muF, lock, unlock, rangeF, bindT, setT, LIM, wrOf, isSh, bmS, bmF, bmT, zipF, itemsZ, enumF, ↓reduceIte]
      rw [t91_2b0]
      refine for_find (lk := lk) (ds := fr.map frD) (ρ1 := [.sh T, .sh (nxD nx), .sh (.tup (ws.map wD)), .sh (.int (a : Int)), .sh (.int (b : Int)), .ol (lnP L), x6l, x7, x8, x9, x10, x11, x12]) (fun i ρ => ∃ x8 x9, (fr.take i).find? (fun q => unlW ws q.1) = none ∧ ρ = [.sh T, .sh (nxD nx), .sh (.tup (ws.map wD)), .sh (.int (a : Int)), .sh (.int (b : Int)), .ol (lnP L), x6l, x7, x8, x9, x10, x11, x12]) ?_ ?_ ⟨x8, x9, rfl, rfl⟩ ?_ ?_
      · exact L1 _ _ _ _ _ _ _ _ _ _ _ _
      · simp [w8, w9]
      · rintro i d ρ hd ⟨x8, x9, hn0, rfl⟩
        rw [List.getElem?_map] at hd
        cases hx : fr[i]? with
        | none => rw [hx] at hd; cases hd
        | some q =>
          rw [hx] at hd
          cases hd
          have hq := sub q (List.mem_of_getElem? hx)
          obtain ⟨y1, y2⟩ := ok.lt q hq
          obtain ⟨r1, r2⟩ := hunl q hq
          refine ⟨[.sh T, .sh (nxD nx), .sh (.tup (ws.map wD)), .sh (.int (a : Int)), .sh (.int (b : Int)), .ol (lnP L), x6l, x7, .sh (prD q.1), .sh (.tup q.2), x10, x11, x12], rfl, ?_⟩
          have e1 := wd_at (ws := ws) (s := q.1.1) (by omega)
          have e2 := wd_at (ws := ws) (s := q.1.2) (by omega)
          have a0 : atI [D.int (q.1.1 : Int), .int (q.1.2 : Int)] 0 = some (.int (q.1.1 : Int)) := rfl
          have a1 : atI [D.int (q.1.1 : Int), .int (q.1.2 : Int)] 1 = some (.int (q.1.2 : Int)) := rfl
          have hu := unl_rt ws q.1
          have ep : prD q.1 = .tup [.int (q.1.1 : Int), .int (q.1.2 : Int)] := rfl
          have ec : evE C (.cmp .ne (.rpr (.idx (.v 2) (.idx (.v 8) (.k (.int (0)))))) (.rpr (.idx (.v 2) (.idx (.v 8) (.k (.int (1))))))) [.sh T, .sh (nxD nx), .sh (.tup (ws.map wD)), .sh (.int (a : Int)), .sh (.int (b : Int)), .ol (lnP L), x6l, x7, .sh (prD q.1), .sh (.tup q.2), x10, x11, x12] = .ok (.sh (.bl (unlW ws q.1)), [.sh T, .sh (nxD nx), .sh (.tup (ws.map wD)), .sh (.int (a : Int)), .sh (.int (b : Int)), .ol (lnP L), x6l, x7, .sh (prD q.1), .sh (.tup q.2), x10, x11, x12]) := by
            rw [hu, ep]
            generalize ws.getD q.1.1 (.b false) = W1 at *
            generalize ws.getD q.1.2 (.b false) = W2 at *
            generalize lnP L = LL at *
            simp [allB_map, all_id, allB, ev_k, ev_v, ev_g, ev_fr, ev_tup, ev_lst, ev_dct, ev_bin, ev_neg, ev_not, ev_and, ev_or, ev_cmp, ev_chain, ev_ite, ev_idx, ev_slc, ev_call, ev_bi, ev_bm, ev_mu, ev_isi, ev_rpr, ev_lset, ev_dcn, ev_dc1, ev_dget, ev_dsd, ev_pr2, ev_rev, ev_lz, ev_sst, sstF, asgTS, biD, isDn, isOd, hasD, dgetN, dsdS, revF, zip3F, ex_ret_, ex_retN_, ex_asg_, ex_asgT_, ex_setI_, ex_ex_, ex_ifs_, ex_pass_, ex_brk_, ex_cont_, evT, evA, evF, evI, evO, vw, see, res, tru, D.truth, cmpS, cmpV, cmpF, inF, retS, List.replicate, biS, vws, biF, keepSh, asgS, binS, binF, fz, idxS, idxF, intOf, blOf, slcS, slcF, D.noK, isTy, pks, nodup, argS, argsBack, Y_ok, Y_ite, Y_nil, Kc_nx, Kc_rt, Kc_bk, Kc_ct, setIF, isOD, lookS, putS, muF, lock, unlock, rangeF, bindT, setT, LIM, wrOf, isSh, bmS, bmF, bmT, zipF, itemsZ, enumF, ↓reduceIte, a0, a1, e1, e2, r1, r2, D.dep, D.eqv]
          have hb : Y (exSs C L91_2b0b0 [.sh T, .sh (nxD nx), .sh (.tup (ws.map wD)), .sh (.int (a : Int)), .sh (.int (b : Int)), .ol (lnP L), x6l, x7, .sh (prD q.1), .sh (.tup q.2), x10, x11, x12]) fun r => r = (if unlW ws q.1 = true then .rt (.sh (.tup q.2)) else .nx, [.sh T, .sh (nxD nx), .sh (.tup (ws.map wD)), .sh (.int (a : Int)), .sh (.int (b : Int)), .ol (lnP L), x6l, x7, .sh (prD q.1), .sh (.tup q.2), x10, x11, x12]) := by
            rw [t91_2b0b0]
            simp only [S91_2b0b0, ex_ifs_, evT, ec, bind_ok_eq]
            generalize prD q.1 = PQ at *
            generalize lnP L = LL at *
            cases u : unlW ws q.1 with
            | true =>
              simp [allB_map, all_id, allB, ev_k, ev_v, ev_g, ev_fr, ev_tup, ev_lst, ev_dct, ev_bin, ev_neg, ev_not, ev_and, ev_or, ev_cmp, ev_chain, ev_ite, ev_idx, ev_slc, ev_call, ev_bi, ev_bm, ev_mu, ev_isi, ev_rpr, ev_lset, ev_dcn, ev_dc1, ev_dget, ev_dsd, ev_pr2, ev_rev, ev_lz, ev_sst, sstF, asgTS, biD, isDn, isOd, hasD, dgetN, dsdS, revF, zip3F, ex_ret_, ex_retN_, ex_asg_, ex_asgT_, ex_setI_, ex_ex_, ex_ifs_, ex_pass_, ex_brk_, ex_cont_, evT, evA, evF, evI, evO, vw, see, res, tru, D.truth, cmpS, cmpV, cmpF, inF, retS, List.replicate, biS, vws, biF, keepSh, asgS, binS, binF, fz, idxS, idxF, intOf, blOf, slcS, slcF, D.noK, isTy, pks, nodup, argS, argsBack, Y_ok, Y_ite, Y_nil, Kc_nx, Kc_rt, Kc_bk, Kc_ct, setIF, isOD, lookS, putS, muF, lock, unlock, rangeF, bindT, setT, LIM, wrOf, isSh, bmS, bmF, bmT, zipF, itemsZ, enumF, ↓reduceIte]
              rw [t91_2b0b0a0]
              simp [S91_2b0b0a0, allB_map, all_id, allB, ev_k, ev_v, ev_g, ev_fr, ev_tup, ev_lst, ev_dct, ev_bin, ev_neg, ev_not, ev_and, ev_or, ev_cmp, ev_chain, ev_ite, ev_idx, ev_slc, ev_call, ev_bi, ev_bm, ev_mu, ev_isi, ev_rpr, ev_lset, ev_dcn, ev_dc1, ev_dget, ev_dsd, ev_pr2, ev_rev, ev_lz, ev_sst, sstF, asgTS, biD, isDn, isOd, hasD, dgetN, dsdS, revF, zip3F, ex_ret_, ex_retN_, ex_asg_, ex_asgT_, ex_setI_, ex_ex_, ex_ifs_, ex_pass_, ex_brk_, ex_cont_, evT, evA, evF, evI, evO, vw, see, res, tru, D.truth, cmpS, cmpV, cmpF, inF, retS, List.replicate, biS, vws, biF, keepSh, asgS, binS, binF, fz, idxS, idxF, intOf, blOf, slcS, slcF, D.noK, isTy, pks, nodup, argS, argsBack, Y_ok, Y_ite, Y_nil, Kc_nx, Kc_rt, Kc_bk, Kc_ct, setIF, isOD, lookS, putS, muF, lock, unlock, rangeF, bindT, setT, LIM, wrOf, isSh, bmS, bmF, bmT, zipF, itemsZ, enumF, ↓reduceIte]
            | false => simp [allB_map, all_id, allB, ev_k, ev_v, ev_g, ev_fr, ev_tup, ev_lst, ev_dct, ev_bin, ev_neg, ev_not, ev_and, ev_or, ev_cmp, ev_chain, ev_ite, ev_idx, ev_slc, ev_call, ev_bi, ev_bm, ev_mu, ev_isi, ev_rpr, ev_lset, ev_dcn, ev_dc1, ev_dget, ev_dsd, ev_pr2, ev_rev, ev_lz, ev_sst, sstF, asgTS, biD, isDn, isOd, hasD, dgetN, dsdS, revF, zip3F, ex_ret_, ex_retN_, ex_asg_, ex_asgT_, ex_setI_, ex_ex_, ex_ifs_, ex_pass_, ex_brk_, ex_cont_, evT, evA, evF, evI, evO, vw, see, res, tru, D.truth, cmpS, cmpV, cmpF, inF, retS, List.replicate, biS, vws, biF, keepSh, asgS, binS, binF, fz, idxS, idxF, intOf, blOf, slcS, slcF, D.noK, isTy, pks, nodup, argS, argsBack, Y_ok, Y_ite, Y_nil, Kc_nx, Kc_rt, Kc_bk, Kc_ct, setIF, isOD, lookS, putS, muF, lock, unlock, rangeF, bindT, setT, LIM, wrOf, isSh, bmS, bmF, bmT, zipF, itemsZ, enumF, ↓reduceIte]
          obtain ⟨r, er, rfl⟩ := hb
          refine ⟨_, er, ?_⟩
          cases u : unlW ws q.1 with
          | true =>
            have hf := find_take (p := fun q => unlW ws q.1) hx hn0 u
            rw [hf] at lay
            have lay : R = some q.2 := lay
            subst lay
            exact .inr ⟨_, rfl, .inr ⟨_, rfl, _, by rw [L2]; rfl⟩⟩
          | false => exact .inl ⟨.inl rfl, _, _, find_more hx hn0 u, rfl⟩
      · rintro _ ⟨x8, x9, hn0, rfl⟩
        rw [List.length_map, List.take_length] at hn0
        rw [hn0] at lay
        have lay : R = qgo hs nx (unlW ws) (N * N + 1 - L.length) L.length (fr.foldl (expP hs nx) L) := lay
        rw [L2]
        show Kc C _ _ (.nx, [.sh T, .sh (nxD nx), .sh (.tup (ws.map wD)), .sh (.int (a : Int)), .sh (.int (b : Int)), .ol (lnP L), x6, x7, x8, x9, x10, x11, x12])
        rw [Kc_nx, t91_2b1]
        have st2 : exS C S91_2b1 [.sh T, .sh (nxD nx), .sh (.tup (ws.map wD)), .sh (.int (a : Int)), .sh (.int (b : Int)), .ol (lnP L), x6, x7, x8, x9, x10, x11, x12] = .ok (.nx, [.sh T, .sh (nxD nx), .sh (.tup (ws.map wD)), .sh (.int (a : Int)), .sh (.int (b : Int)), .ol (lnP L), x6, .ol ((L.drop L.length).map frD), x8, x9, x10, x11, x12]) := by
          simp [S91_2b1, allB_map, all_id, allB, ev_k, ev_v, ev_g, ev_fr, ev_tup, ev_lst, ev_dct, ev_bin, ev_neg, ev_not, ev_and, ev_or, ev_cmp, ev_chain, ev_ite, ev_idx, ev_slc, ev_call, ev_bi, ev_bm, ev_mu, ev_isi, ev_rpr, ev_lset, ev_dcn, ev_dc1, ev_dget, ev_dsd, ev_pr2, ev_rev, ev_lz, ev_sst, sstF, asgTS, biD, isDn, isOd, hasD, dgetN, dsdS, revF, zip3F, ex_ret_, ex_retN_, ex_asg_, ex_asgT_, ex_setI_, ex_ex_, ex_ifs_, ex_pass_, ex_brk_, ex_cont_, evT, evA, evF, evI, evO, vw, see, res, tru, D.truth, cmpS, cmpV, cmpF, inF, retS, List.replicate, biS, vws, biF, keepSh, asgS, binS, binF, fz, idxS, idxF, intOf, blOf, slcS, slcF, D.noK, isTy, pks, nodup, argS, argsBack, Y_ok, Y_ite, Y_nil, Kc_nx, Kc_rt, Kc_bk, Kc_ct, setIF, isOD, lookS, putS, muF, lock, unlock, rangeF, bindT, setT, LIM, wrOf, isSh, bmS, bmF, bmT, zipF, itemsZ, enumF, ↓reduceIte, evF, w7]
        rw [st2, Y_ok, Kc_nx, t91_2b2]
        refine for_Y (lk := lk) (ds := fr.map frD) (ρ1 := [.sh T, .sh (nxD nx), .sh (.tup (ws.map wD)), .sh (.int (a : Int)), .sh (.int (b : Int)), .ol (lnP L), x6l, .ol ((L.drop L.length).map frD), x8, x9, x10, x11, x12]) (fun i ρ => ∃ x8 x9 x10 x11 x12, ρ = [.sh T, .sh (nxD nx), .sh (.tup (ws.map wD)), .sh (.int (a : Int)), .sh (.int (b : Int)), .ol (lnP ((fr.take i).foldl (expP hs nx) L)), x6l, .ol ((((fr.take i).foldl (expP hs nx) L).drop L.length).map frD), x8, x9, x10, x11, x12]) ?_ ?_ ⟨x8, x9, x10, x11, x12, rfl⟩ ?_ ?_
        · exact L1 _ _ _ _ _ _ _ _ _ _ _ _
        · simp [w8, w9]
        · rintro i d ρ hd ⟨x8, x9, x10, x11, x12, rfl⟩
          rw [List.getElem?_map] at hd
          cases hx : fr[i]? with
          | none => rw [hx] at hd; cases hd
          | some q =>
            rw [hx] at hd
            cases hd
            obtain ⟨t2, et⟩ := exps_pre hs nx (fr.take i) L
            have oki := exps_ok hn.toNxOk (fr := fr.take i) ok fun q hq => sub q (List.mem_of_mem_take hq)
            refine ⟨[.sh T, .sh (nxD nx), .sh (.tup (ws.map wD)), .sh (.int (a : Int)), .sh (.int (b : Int)), .ol (lnP ((fr.take i).foldl (expP hs nx) L)), x6l, .ol ((((fr.take i).foldl (expP hs nx) L).drop L.length).map frD), .sh (prD q.1), .sh (.tup q.2), x10, x11, x12], rfl, ?_⟩
            rw [t91_2b2b0]
            refine pair_turn40 wf n c1 w10 w11 w12 eh hn h7 oki (by rw [et, List.length_append]; omega) (by rw [et]; exact List.mem_append_left _ (sub q (List.mem_of_getElem? hx))) fun x10 x11 x12 => ?_
            rw [Kc_nx, Y_nil]
            refine ⟨.inl rfl, .sh (prD q.1), .sh (.tup q.2), x10, x11, x12, ?_⟩
            rw [List.take_add_one, hx, Option.toList_some, List.foldl_append]
            rfl
        · rintro _ ⟨x8, x9, x10, x11, x12, rfl⟩
          rw [List.length_map, List.take_length, L2]
          show Kc C _ _ (.nx, [.sh T, .sh (nxD nx), .sh (.tup (ws.map wD)), .sh (.int (a : Int)), .sh (.int (b : Int)), .ol (lnP (fr.foldl (expP hs nx) L)), x6, .ol (((fr.foldl (expP hs nx) L).drop L.length).map frD), x8, x9, x10, x11, x12])
          rw [Kc_nx, t91_2b3]
          obtain ⟨t2, et⟩ := exps_pre hs nx fr L
          have st3 : exS C S91_2b3 [.sh T, .sh (nxD nx), .sh (.tup (ws.map wD)), .sh (.int (a : Int)), .sh (.int (b : Int)), .ol (lnP (fr.foldl (expP hs nx) L)), x6, .ol (((fr.foldl (expP hs nx) L).drop L.length).map frD), x8, x9, x10, x11, x12] = .ok (.nx, [.sh T, .sh (nxD nx), .sh (.tup (ws.map wD)), .sh (.int (a : Int)), .sh (.int (b : Int)), .ol (lnP (fr.foldl (expP hs nx) L)), .sh (.lst (((fr.foldl (expP hs nx) L).drop L.length).map frD)), .sh (.lst (((fr.foldl (expP hs nx) L).drop L.length).map frD)), x8, x9, x10, x11, x12]) := by
            generalize lnP (fr.foldl (expP hs nx) L) = LL at *
            generalize ((fr.foldl (expP hs nx) L).drop L.length).map frD = RR at *
            simp [S91_2b3, allB_map, all_id, allB, ev_k, ev_v, ev_g, ev_fr, ev_tup, ev_lst, ev_dct, ev_bin, ev_neg, ev_not, ev_and, ev_or, ev_cmp, ev_chain, ev_ite, ev_idx, ev_slc, ev_call, ev_bi, ev_bm, ev_mu, ev_isi, ev_rpr, ev_lset, ev_dcn, ev_dc1, ev_dget, ev_dsd, ev_pr2, ev_rev, ev_lz, ev_sst, sstF, asgTS, biD, isDn, isOd, hasD, dgetN, dsdS, revF, zip3F, ex_ret_, ex_retN_, ex_asg_, ex_asgT_, ex_setI_, ex_ex_, ex_ifs_, ex_pass_, ex_brk_, ex_cont_, evT, evA, evF, evI, evO, vw, see, res, tru, D.truth, cmpS, cmpV, cmpF, inF, retS, List.replicate, biS, vws, biF, keepSh, asgS, binS, binF, fz, idxS, idxF, intOf, blOf, slcS, slcF, D.noK, isTy, pks, nodup, argS, argsBack, Y_ok, Y_ite, Y_nil, Kc_nx, Kc_rt, Kc_bk, Kc_ct, setIF, isOD, lookS, putS, muF, lock, unlock, rangeF, bindT, setT, LIM, wrOf, isSh, bmS, bmF, bmT, zipF, itemsZ, enumF, ↓reduceIte, evF, w6, w7]
          rw [st3, Y_ok, Kc_nx, Y_nil]
          refine .inl ⟨.inl rfl, N * N + 1 - L.length, by omega, L.length, _, _, _, _, _, _, _, _, okE, by rw [et, List.length_append]; omega, lay.symm, rfl, .inr rfl, rfl⟩
  obtain ⟨_, e, rfl⟩ := this
  exact e
end Mp
namespace Mp
/-! law(_law_script): 0=_law_script 1=_law_table_here 2=_law_menus 3=_law_k 4=_law_kept 5=_law_one 6=_law_nexts 7=_law_marks 8=_law_other 9=_law_found -/
def SW_2b2b0b1a0 : Sm := (.ret (.k (.bl false)))
def LW_2b2b0b1a0 : Sms := .cons SW_2b2b0b1a0 .nil
theorem tW_2b2b0b1a0 (C : Ctx) (ρ : Env) (Q : Fl × Env → Prop) : Y (exSs C LW_2b2b0b1a0 ρ) Q = Y (exS C SW_2b2b0b1a0 ρ) (Kc C .nil Q) := Y_st _ _ _ _ _
def SW_2b2b0b1 : Sm := (.ifs (.e (.cmp .ne (.rpr (.v 9)) (.rpr (.call 91 (.cons (.v 1) (.cons (.v 6) (.cons (.v 7) (.cons (.v 5) (.cons (.v 8) .nil))))))))) LW_2b2b0b1a0 .nil)
def LW_2b2b0b1 : Sms := .cons SW_2b2b0b1 .nil
theorem tW_2b2b0b1 (C : Ctx) (ρ : Env) (Q : Fl × Env → Prop) : Y (exSs C LW_2b2b0b1 ρ) Q = Y (exS C SW_2b2b0b1 ρ) (Kc C .nil Q) := Y_st _ _ _ _ _
def SW_2b2b0b0 : Sm := (.asg 9 (.call 90 (.cons (.v 1) (.cons (.v 6) (.cons (.v 7) (.cons (.v 5) (.cons (.v 8) .nil)))))))
def LW_2b2b0b0 : Sms := .cons SW_2b2b0b0 LW_2b2b0b1
theorem tW_2b2b0b0 (C : Ctx) (ρ : Env) (Q : Fl × Env → Prop) : Y (exSs C LW_2b2b0b0 ρ) Q = Y (exS C SW_2b2b0b0 ρ) (Kc C LW_2b2b0b1 Q) := Y_st _ _ _ _ _
def SW_2b2b0 : Sm := (.for_ [8] false (.range (.cons (.bi .len (.cons (.v 6) .nil)) .nil)) LW_2b2b0b0)
def LW_2b2b0 : Sms := .cons SW_2b2b0 .nil
theorem tW_2b2b0 (C : Ctx) (ρ : Env) (Q : Fl × Env → Prop) : Y (exSs C LW_2b2b0 ρ) Q = Y (exS C SW_2b2b0 ρ) (Kc C .nil Q) := Y_st _ _ _ _ _
def SW_2b3a0 : Sm := (.ret (.k (.bl false)))
def LW_2b3a0 : Sms := .cons SW_2b3a0 .nil
theorem tW_2b3a0 (C : Ctx) (ρ : Env) (Q : Fl × Env → Prop) : Y (exSs C LW_2b3a0 ρ) Q = Y (exS C SW_2b3a0 ρ) (Kc C .nil Q) := Y_st _ _ _ _ _
def SW_2b3 : Sm := (.ifs (.e (.cmp .ne (.rpr (.lst (.cons (.v 6) (.cons (.v 7) .nil)))) (.v 4))) LW_2b3a0 .nil)
def LW_2b3 : Sms := .cons SW_2b3 .nil
theorem tW_2b3 (C : Ctx) (ρ : Env) (Q : Fl × Env → Prop) : Y (exSs C LW_2b3 ρ) Q = Y (exS C SW_2b3 ρ) (Kc C .nil Q) := Y_st _ _ _ _ _
def SW_2b2 : Sm := (.for_ [5] false (.range (.cons (.bi .len (.cons (.v 6) .nil)) .nil)) LW_2b2b0)
def LW_2b2 : Sms := .cons SW_2b2 LW_2b3
theorem tW_2b2 (C : Ctx) (ρ : Env) (Q : Fl × Env → Prop) : Y (exSs C LW_2b2 ρ) Q = Y (exS C SW_2b2 ρ) (Kc C LW_2b3 Q) := Y_st _ _ _ _ _
def SW_2b1 : Sm := (.asg 4 (.rpr (.lst (.cons (.v 6) (.cons (.v 7) .nil)))))
def LW_2b1 : Sms := .cons SW_2b1 LW_2b2
theorem tW_2b1 (C : Ctx) (ρ : Env) (Q : Fl × Env → Prop) : Y (exSs C LW_2b1 ρ) Q = Y (exS C SW_2b1 ρ) (Kc C LW_2b2 Q) := Y_st _ _ _ _ _
def SW_2b0 : Sm := (.asgT [6, 7] (.call 71 (.cons (.call 67 (.cons (.v 0) (.cons (.bin .add (.k (.int (1))) (.v 3)) .nil))) (.cons (.v 1) (.cons (.idx (.v 2) (.v 3)) .nil)))))
def LW_2b0 : Sms := .cons SW_2b0 LW_2b1
theorem tW_2b0 (C : Ctx) (ρ : Env) (Q : Fl × Env → Prop) : Y (exSs C LW_2b0 ρ) Q = Y (exS C SW_2b0 ρ) (Kc C LW_2b1 Q) := Y_st _ _ _ _ _
def SW_3 : Sm := (.ret (.k (.bl true)))
def LW_3 : Sms := .cons SW_3 .nil
theorem tW_3 (C : Ctx) (ρ : Env) (Q : Fl × Env → Prop) : Y (exSs C LW_3 ρ) Q = Y (exS C SW_3 ρ) (Kc C .nil Q) := Y_st _ _ _ _ _
def SW_2 : Sm := (.for_ [3] false (.range (.cons (.k (.int (3))) .nil)) LW_2b0)
def LW_2 : Sms := .cons SW_2 LW_3
theorem tW_2 (C : Ctx) (ρ : Env) (Q : Fl × Env → Prop) : Y (exSs C LW_2 ρ) Q = Y (exS C SW_2 ρ) (Kc C LW_3 Q) := Y_st _ _ _ _ _
def SW_1 : Sm := (.asg 2 (.lst (.cons (.lst (.cons (.k (.bl true)) (.cons (.k (.bl false)) .nil))) (.cons (.lst (.cons (.k (.str [121, 101, 115])) (.cons (.k (.str [110, 111])) (.cons (.k (.str [111, 112, 101, 110])) .nil)))) (.cons (.lst (.cons (.k (.str [84, 114, 117, 101])) (.cons (.k (.bl true)) (.cons (.k (.str [])) (.cons (.k (.str [121, 101, 115])) .nil))))) .nil)))))
def LW_1 : Sms := .cons SW_1 LW_2
theorem tW_1 (C : Ctx) (ρ : Env) (Q : Fl × Env → Prop) : Y (exSs C LW_1 ρ) Q = Y (exS C SW_1 ρ) (Kc C LW_2 Q) := Y_st _ _ _ _ _
def SW_0 : Sm := (.asg 1 (.call 69 (.cons (.call 67 (.cons (.v 0) (.cons (.k (.int (0))) .nil))) .nil)))
def LW_0 : Sms := .cons SW_0 LW_1
theorem tW_0 (C : Ctx) (ρ : Env) (Q : Fl × Env → Prop) : Y (exSs C LW_0 ρ) Q = Y (exS C SW_0 ρ) (Kc C LW_1 Q) := Y_st _ _ _ _ _
structure HK40 (P : Pg) : Prop extends HMc P, HPart P, HDue40 P where
  law : P.fn 0 = some ⟨1, 10, LW_0⟩
def menuW : List (List Wd) := [[.b true, .b false], [.s [121, 101, 115], .s [110, 111], .s [111, 112, 101, 110]], [.s [84, 114, 117, 101], .b true, .s [], .s [121, 101, 115]]]
def SmallM40 (m : Mch Wd) : Prop := m.nx.length ≤ 14 ∧ m.ws.length ≤ 14 ∧ (∀ r ∈ m.nx, r.length ≤ 5 ∧ ∀ o ∈ r, o < 14) ∧ ∀ w ∈ m.ws, ∃ l ∈ menuW, w ∈ l
structure RpK40 (P : Pg) : Prop where
  word : ∀ l ∈ menuW, ∀ w ∈ l, P.rp (wD w) = some (rtW w)
  kept : ∀ m, SmallM40 m → ∃ s, P.rp (.lst [nxD m.nx, .tup (m.ws.map wD)]) = some s
  found : ∀ t, TabOk t → ∀ R : Option (List D), (∀ r, R = some r → r.length ≤ 49 ∧ ∀ d ∈ r, d ∈ hapsD t) → ∃ s, P.rp (fD R) = some s
theorem rowD_nat {r : List Int} {m : Int} (h : ∀ o ∈ r, 0 ≤ o ∧ o < m) : rowD r = nD (r.map Int.toNat) := by
  unfold rowD nD
  rw [List.map_map]
  congr 1
  refine List.map_congr_left fun o ho => ?_
  show D.int o = D.int (o.toNat : Int)
  rw [Int.toNat_of_nonneg (h o ho).1]
def wdO : D → Wd
  | .bl b => .b b
  | .str x => .s x
  | _ => .b false
theorem wdO_wD (w : Wd) : wdO (wD w) = w := by cases w <;> rfl
theorem mc_mch40 {wide : Nat} {l : List Wd} {ns : List (List Int)} {ws : List D} (h : McOk wide (l.map wD) ns ws) : ∃ m : Mch Wd, mcD ns ws = .tup [nxD m.nx, .tup (m.ws.map wD)] ∧ MOk m wide ∧ m.nx.length ≤ 7 ∧ ∀ w ∈ m.ws, w ∈ l := by
  have e1 : D.tup (ns.map rowD) = nxD (ns.map fun r => r.map Int.toNat) := by
    unfold nxD
    rw [List.map_map]
    congr 1
    exact List.map_congr_left fun r hr => rowD_nat (m := ns.length) (h.rows r hr).2
  have e2 : (ws.map wdO).map wD = ws := by
    rw [List.map_map]
    have : ws.map (wD ∘ wdO) = ws.map id := List.map_congr_left fun d hd => by
      obtain ⟨w, _, rfl⟩ := List.mem_map.mp (h.menu d hd)
      show wD (wdO (wD w)) = wD w
      rw [wdO_wD]
    rw [this, List.map_id]
  refine ⟨⟨ns.map fun r => r.map Int.toNat, ws.map wdO⟩, ?_, ⟨?_, ?_, ?_⟩, ?_, ?_⟩
  · show D.tup [.tup (ns.map rowD), .tup ws] = .tup [nxD _, .tup ((ws.map wdO).map wD)]
    rw [e1, e2]
  · show 0 < (ns.map _).length
    rw [List.length_map]
    exact h.pos
  · show (ws.map wdO).length = (ns.map _).length
    rw [List.length_map, List.length_map]
    exact h.ends
  · intro s hs
    have hs : s < (ns.map fun r => r.map Int.toNat).length := hs
    rw [List.length_map] at hs
    show ((ns.map fun r => r.map Int.toNat).getD s []).length = wide ∧ ∀ o ∈ (ns.map fun r => r.map Int.toNat).getD s [], o < (ns.map fun r => r.map Int.toNat).length
    rw [List.getD_eq_getElem?_getD, List.getElem?_map, List.getElem?_eq_getElem hs, List.length_map]
    obtain ⟨l, b⟩ := h.rows _ (List.getElem_mem hs)
    refine ⟨by simpa using l, fun o ho => ?_⟩
    obtain ⟨o', ho', rfl⟩ := List.mem_map.mp ho
    have := b o' ho'
    omega
  · show (ns.map _).length ≤ 7
    rw [List.length_map]
    exact h.few
  · intro w hw
    obtain ⟨d, hd, rfl⟩ := List.mem_map.mp hw
    obtain ⟨w2, hw2, rfl⟩ := List.mem_map.mp (h.menu d hd)
    rw [wdO_wD]
    exact hw2
theorem mok_nxw40 {m : Mch Wd} {wide : Nat} (M : MOk m wide) (h1 : m.nx.length ≤ 200) (h2 : wide ≤ 200) : NxW m.nx m.nx.length := by
  have key : ∀ r ∈ m.nx, r.length = wide ∧ ∀ o ∈ r, o < m.nx.length := fun r hr => by
    obtain ⟨s, hs⟩ := List.getElem?_of_mem hr
    have hs' : s < m.nx.length := (List.getElem?_eq_some_iff.mp hs).1
    have := M.row s hs'
    rw [List.getD_eq_getElem?_getD, hs] at this
    exact this
  exact { len := rfl, row := fun r hr => (key r hr).2, pos := M.pos, few := h1, wid := fun r hr => by have := (key r hr).1; omega }
theorem small_of40 {m : Mch Wd} {wide : Nat} (M : MOk m wide) (h1 : m.nx.length ≤ 14) (h2 : wide ≤ 5) {l : List Wd} (hl : l ∈ menuW) (hb : ∀ w ∈ m.ws, w ∈ l) : SmallM40 m := by
  refine ⟨h1, by rw [M.ends]; exact h1, fun r hr => ?_, fun w hw => ⟨l, hl, hb w hw⟩⟩
  obtain ⟨s, hs⟩ := List.getElem?_of_mem hr
  have hs' : s < m.nx.length := (List.getElem?_eq_some_iff.mp hs).1
  obtain ⟨l, b⟩ := M.row s hs'
  rw [List.getD_eq_getElem?_getD, hs] at l b
  have l : r.length = wide := l
  exact ⟨by omega, fun o ho => by have := b o ho; omega⟩
theorem law40 {P : Pg} (h : HK40 P) (hr : RpK40 P) (wf n : Nat) (hwf : 1000 ≤ wf) (ns : List Int) (hn : ns.length ≤ 63) : Y (callM P wf (n + 5) 0 [.sh (.kl (ns.map D.int))]) fun r => r.1 = .sh (.bl true) := by
  refine call_by (fun r => ∃ ρ, r = (.rt (.sh (.bl true)), ρ)) h.law rfl rfl (by decide) (fun C c1 c2 c3 c4 c5 => ?_) (by rintro _ ⟨ρ, rfl⟩; exact ⟨_, _, rfl, rfl, rfl⟩)
  have c1 : C.cl = callM P wf (n + 4) := c1
  have feeds := fun k hk => mk_feed h.toHFeed wf (n + 2) ns k hk hn
  generalize hS : D.kl (ns.map D.int) = S at *
  show Y (exSs C LW_0 [.sh S, .un, .un, .un, .un, .un, .un, .un, .un, .un]) _
  have w1 : C.wr 1 = true := by rw [c3]; rfl
  have w2 : C.wr 2 = true := by rw [c3]; rfl
  have w3 : C.wr 3 = true := by rw [c3]; rfl
  have w4 : C.wr 4 = true := by rw [c3]; rfl
  have w5 : C.wr 5 = true := by rw [c3]; rfl
  have w6 : C.wr 6 = true := by rw [c3]; rfl
  have w7 : C.wr 7 = true := by rw [c3]; rfl
  have w8 : C.wr 8 = true := by rw [c3]; rfl
  have w9 : C.wr 9 = true := by rw [c3]; rfl
  obtain ⟨f0, e0, T0⟩ := feeds 0 (by decide)
  obtain ⟨t, g0, e1, ht, _⟩ := table h.toHTab37 wf (n + 1) T0 (by omega)
  have e0 : callM P wf (n + 4) 67 [.sh S, .sh (.int 0)] = .ok (.ol f0, [.sh S, .sh (.int 0)]) := e0
  rw [tW_0]
  simp [SW_0, allB_map, all_id, allB, ev_k, ev_v, ev_g, ev_fr, ev_tup, ev_lst, ev_dct, ev_bin, ev_neg, ev_not, ev_and, ev_or, ev_cmp, ev_chain, ev_ite, ev_idx, ev_slc, ev_call, ev_bi, ev_bm, ev_mu, ev_isi, ev_rpr, ev_lset, ev_dcn, ev_dc1, ev_dget, ev_dsd, ev_pr2, ev_rev, ev_lz, ev_sst, sstF, asgTS, biD, isDn, isOd, hasD, dgetN, dsdS, revF, zip3F, ex_ret_, ex_retN_, ex_asg_, ex_asgT_, ex_setI_, ex_ex_, ex_ifs_, ex_pass_, ex_brk_, ex_cont_, evT, evA, evF, evI, evO, vw, see, res, tru, D.truth, cmpS, cmpV, cmpF, inF, retS, List.replicate, biS, vws, biF, keepSh, asgS, binS, binF, fz, idxS, idxF, intOf, blOf, slcS, slcF, D.noK, isTy, pks, nodup, argS, argsBack, Y_ok, Y_ite, Y_nil, Kc_nx, Kc_rt, Kc_bk, Kc_ct, setIF, isOD, lookS, putS, muF, lock, unlock, rangeF, bindT, setT, LIM, wrOf, isSh, bmS, bmF, bmT, zipF, itemsZ, enumF, ↓reduceIte, c1, w1, e0, e1]
  have hwide : (hapsD t).length ≤ 5 := by unfold hapsD; rw [List.length_map]; exact ht.sum
  rw [tW_1]
  have st1 : exS C SW_1 [.sh S, .sh (tabD t), .un, .un, .un, .un, .un, .un, .un, .un] = .ok (.nx, [.sh S, .sh (tabD t), .ol (menuW.map fun l => .lst (l.map wD)), .un, .un, .un, .un, .un, .un, .un]) := by
    simp [SW_1, allB_map, all_id, allB, ev_k, ev_v, ev_g, ev_fr, ev_tup, ev_lst, ev_dct, ev_bin, ev_neg, ev_not, ev_and, ev_or, ev_cmp, ev_chain, ev_ite, ev_idx, ev_slc, ev_call, ev_bi, ev_bm, ev_mu, ev_isi, ev_rpr, ev_lset, ev_dcn, ev_dc1, ev_dget, ev_dsd, ev_pr2, ev_rev, ev_lz, ev_sst, sstF, asgTS, biD, isDn, isOd, hasD, dgetN, dsdS, revF, zip3F, ex_ret_, ex_retN_, ex_asg_, ex_asgT_, ex_setI_, ex_ex_, ex_ifs_, ex_pass_, ex_brk_, ex_cont_, evT, evA, evF, evI, evO, vw, see, res, tru, D.truth, cmpS, cmpV, cmpF, inF, retS, List.replicate, biS, vws, biF, keepSh, asgS, binS, binF, fz, idxS, idxF, intOf, blOf, slcS, slcF, D.noK, isTy, pks, nodup, argS, argsBack, Y_ok, Y_ite, Y_nil, Kc_nx, Kc_rt, Kc_bk, Kc_ct, setIF, isOD, lookS, putS, muF, lock, unlock, rangeF, bindT, setT, LIM, wrOf, isSh, bmS, bmF, bmT, zipF, itemsZ, enumF, ↓reduceIte, evF, w2]
    rfl
  rw [st1, Y_ok, Kc_nx, tW_2]
  refine for_Y (lk := []) (ds := rangeL 0 3) (ρ1 := [.sh S, .sh (tabD t), .ol (menuW.map fun l => .lst (l.map wD)), .un, .un, .un, .un, .un, .un, .un]) (fun k ρ => ∃ x3 x4 x5 x6 x7 x8 x9, isOwn x3 = false ∧ isOwn x5 = false ∧ ρ = [.sh S, .sh (tabD t), .ol (menuW.map fun l => .lst (l.map wD)), x3, x4, x5, x6, x7, x8, x9]) ?_ ?_ ⟨_, _, _, _, _, _, _, rfl, rfl, rfl⟩ ?_ ?_
  · exact range_ev (by simp [allB_map, all_id, allB, ev_k, ev_v, ev_g, ev_fr, ev_tup, ev_lst, ev_dct, ev_bin, ev_neg, ev_not, ev_and, ev_or, ev_cmp, ev_chain, ev_ite, ev_idx, ev_slc, ev_call, ev_bi, ev_bm, ev_mu, ev_isi, ev_rpr, ev_lset, ev_dcn, ev_dc1, ev_dget, ev_dsd, ev_pr2, ev_rev, ev_lz, ev_sst, sstF, asgTS, biD, isDn, isOd, hasD, dgetN, dsdS, revF, zip3F, ex_ret_, ex_retN_, ex_asg_, ex_asgT_, ex_setI_, ex_ex_, ex_ifs_, ex_pass_, ex_brk_, ex_cont_, evT, evA, evF, evI, evO, vw, see, res, tru, D.truth, cmpS, cmpV, cmpF, inF, retS, List.replicate, biS, vws, biF, keepSh, asgS, binS, binF, fz, idxS, idxF, intOf, blOf, slcS, slcF, D.noK, isTy, pks, nodup, argS, argsBack, Y_ok, Y_ite, Y_nil, Kc_nx, Kc_rt, Kc_bk, Kc_ct, setIF, isOD, lookS, putS, muF, lock, unlock, rangeF, bindT, setT, LIM, wrOf, isSh, bmS, bmF, bmT, zipF, itemsZ, enumF, ↓reduceIte]) (by decide) (by decide)
  · simp [w3]
  · rintro k y ρ hy ⟨x3, x4, x5, x6, x7, x8, x9, hx3, hx5, rfl⟩
    have hk := range_lt hy
    have hy' := range_at hy
    subst hy'
    obtain ⟨f1, e2, T1⟩ := feeds (1 + k) (by omega)
    have e2 : callM P wf (n + 4) 67 [.sh S, .sh (.int (1 + (k : Int)))] = .ok (.ol f1, [.sh S, .sh (.int (1 + (k : Int)))]) := by
      have : ((1 + k : Nat) : Int) = 1 + (k : Int) := by omega
      rw [this] at e2
      exact e2
    obtain ⟨l, hl, hml⟩ : ∃ l, menuW[k]? = some l ∧ l ∈ menuW := by
      have : k < menuW.length := by show k < 3; omega
      exact ⟨_, List.getElem?_eq_getElem this, List.getElem_mem this⟩
    have hlen : 0 < l.length ∧ l.length ≤ 10 := by
      have : ∀ l ∈ menuW, 0 < l.length ∧ l.length ≤ 10 := by decide
      exact this l hml
    have em : atI (menuW.map fun l => D.lst (l.map wD)) (k : Int) = some (.lst (l.map wD)) := natI (by rw [List.getElem?_map, hl]; rfl)
    obtain ⟨ms, ws, f2, e3, Mo, T2⟩ := machine h.toHMc wf (n + 1) T1 (by omega) ht (M := .sh (.lst (l.map wD))) (ms := l.map wD) (.inl rfl) (by rw [List.length_map]; exact hlen.1) (by rw [List.length_map]; exact hlen.2)
    obtain ⟨m, emc, M, mfew, mb⟩ := mc_mch40 Mo
    rw [emc] at e3
    have hn := mok_nxw40 M (by omega) (by omega)
    have sm := small_of40 M (by omega) hwide hml mb
    obtain ⟨r1, k1⟩ := hr.kept _ sm
    have mends := M.ends
    have mrp : ∀ w ∈ m.ws, P.rp (wD w) = some (rtW w) := fun w hw => hr.word l hml w (mb w hw)
    have part := fun (a b : Nat) (ha : a < m.nx.length) (hb : b < m.nx.length) => parting40 h.toHPart wf (n + 2) hwf ht.small hn mfew mends ha hb
    have due := fun (a b : Nat) (ha : a < m.nx.length) (hb : b < m.nx.length) => due40 h.toHDue40 wf (n + 2) hwf ht.small hn mfew mends mrp ha hb
    have rpf : ∀ a b, a < m.nx.length → b < m.nx.length → ∃ s, P.rp (fD (partR (hapsD t) m.nx (unlW m.ws) a b)) = some s := fun a b ha hb => by
      refine hr.found t ht _ fun r e => ?_
      obtain ⟨q1, q2⟩ := qgo_row hn.toNxOk _ _ _ _ r (first_ok ha hb) e
      have : m.nx.length * m.nx.length ≤ 7 * 7 := Nat.mul_le_mul mfew mfew
      exact ⟨by omega, q2⟩
    generalize menuW.map (fun l => D.lst (l.map wD)) = MN at *
    generalize l.map wD = LM at *
    refine ⟨[.sh S, .sh (tabD t), .ol MN, .sh (.int k), x4, x5, x6, x7, x8, x9], rfl, ?_⟩
    generalize hI : (fun (k : Nat) (ρ : Env) => ∃ x3 x4 x5 x6 x7 x8 x9, isOwn x3 = false ∧ isOwn x5 = false ∧ ρ = [.sh S, .sh (tabD t), .ol MN, x3, x4, x5, x6, x7, x8, x9]) = I
    rw [tW_2b0]
    generalize hNX : nxD m.nx = NX at *
    generalize hWS : D.tup (m.ws.map wD) = WS at *
    generalize hTT : tabD t = TT at *
    have st2 : exS C SW_2b0 [.sh S, .sh TT, .ol MN, .sh (.int k), x4, x5, x6, x7, x8, x9] = .ok (.nx, [.sh S, .sh TT, .ol MN, .sh (.int k), x4, x5, .sh NX, .sh WS, x8, x9]) := by
      simp [SW_2b0, allB_map, all_id, allB, ev_k, ev_v, ev_g, ev_fr, ev_tup, ev_lst, ev_dct, ev_bin, ev_neg, ev_not, ev_and, ev_or, ev_cmp, ev_chain, ev_ite, ev_idx, ev_slc, ev_call, ev_bi, ev_bm, ev_mu, ev_isi, ev_rpr, ev_lset, ev_dcn, ev_dc1, ev_dget, ev_dsd, ev_pr2, ev_rev, ev_lz, ev_sst, sstF, asgTS, biD, isDn, isOd, hasD, dgetN, dsdS, revF, zip3F, ex_ret_, ex_retN_, ex_asg_, ex_asgT_, ex_setI_, ex_ex_, ex_ifs_, ex_pass_, ex_brk_, ex_cont_, evT, evA, evF, evI, evO, vw, see, res, tru, D.truth, cmpS, cmpV, cmpF, inF, retS, List.replicate, biS, vws, biF, keepSh, asgS, binS, binF, fz, idxS, idxF, intOf, blOf, slcS, slcF, D.noK, isTy, pks, nodup, argS, argsBack, Y_ok, Y_ite, Y_nil, Kc_nx, Kc_rt, Kc_bk, Kc_ct, setIF, isOD, lookS, putS, muF, lock, unlock, rangeF, bindT, setT, LIM, wrOf, isSh, bmS, bmF, bmT, zipF, itemsZ, enumF, ↓reduceIte, c1, w6, w7, e2, e3, em, bindW]
    rw [st2, Y_ok, Kc_nx, tW_2b1]
    have p1 : C.rp (.lst [NX, WS]) = some r1 := by rw [c5]; exact k1
    simp [SW_2b1, allB_map, all_id, allB, ev_k, ev_v, ev_g, ev_fr, ev_tup, ev_lst, ev_dct, ev_bin, ev_neg, ev_not, ev_and, ev_or, ev_cmp, ev_chain, ev_ite, ev_idx, ev_slc, ev_call, ev_bi, ev_bm, ev_mu, ev_isi, ev_rpr, ev_lset, ev_dcn, ev_dc1, ev_dget, ev_dsd, ev_pr2, ev_rev, ev_lz, ev_sst, sstF, asgTS, biD, isDn, isOd, hasD, dgetN, dsdS, revF, zip3F, ex_ret_, ex_retN_, ex_asg_, ex_asgT_, ex_setI_, ex_ex_, ex_ifs_, ex_pass_, ex_brk_, ex_cont_, evT, evA, evF, evI, evO, vw, see, res, tru, D.truth, cmpS, cmpV, cmpF, inF, retS, List.replicate, biS, vws, biF, keepSh, asgS, binS, binF, fz, idxS, idxF, intOf, blOf, slcS, slcF, D.noK, isTy, pks, nodup, argS, argsBack, Y_ok, Y_ite, Y_nil, Kc_nx, Kc_rt, Kc_bk, Kc_ct, setIF, isOD, lookS, putS, muF, lock, unlock, rangeF, bindT, setT, LIM, wrOf, isSh, bmS, bmF, bmT, zipF, itemsZ, enumF, ↓reduceIte, evF, p1, w4]
    rw [tW_2b2]
    have elen : ∀ (y4 y5 y8 y9 : Sl), evE C (.bi .len (.cons (.v 6) .nil)) [.sh S, .sh TT, .ol MN, .sh (.int k), y4, y5, .sh NX, .sh WS, y8, y9] = .ok (.sh (.int (m.nx.length : Int)), [.sh S, .sh TT, .ol MN, .sh (.int k), y4, y5, .sh NX, .sh WS, y8, y9]) := fun y4 y5 y8 y9 => by
      rw [← hNX]
      simp [allB_map, all_id, allB, ev_k, ev_v, ev_g, ev_fr, ev_tup, ev_lst, ev_dct, ev_bin, ev_neg, ev_not, ev_and, ev_or, ev_cmp, ev_chain, ev_ite, ev_idx, ev_slc, ev_call, ev_bi, ev_bm, ev_mu, ev_isi, ev_rpr, ev_lset, ev_dcn, ev_dc1, ev_dget, ev_dsd, ev_pr2, ev_rev, ev_lz, ev_sst, sstF, asgTS, biD, isDn, isOd, hasD, dgetN, dsdS, revF, zip3F, ex_ret_, ex_retN_, ex_asg_, ex_asgT_, ex_setI_, ex_ex_, ex_ifs_, ex_pass_, ex_brk_, ex_cont_, evT, evA, evF, evI, evO, vw, see, res, tru, D.truth, cmpS, cmpV, cmpF, inF, retS, List.replicate, biS, vws, biF, keepSh, asgS, binS, binF, fz, idxS, idxF, intOf, blOf, slcS, slcF, D.noK, isTy, pks, nodup, argS, argsBack, Y_ok, Y_ite, Y_nil, Kc_nx, Kc_rt, Kc_bk, Kc_ct, setIF, isOD, lookS, putS, muF, lock, unlock, rangeF, bindT, setT, LIM, wrOf, isSh, bmS, bmF, bmT, zipF, itemsZ, enumF, ↓reduceIte, nxD]
    refine for_Y (lk := []) (ds := rangeL 0 (m.nx.length : Int)) (ρ1 := [.sh S, .sh TT, .ol MN, .sh (.int k), .sh (.str r1), x5, .sh NX, .sh WS, x8, x9]) (fun i ρ => ∃ x5 x8 x9, isOwn x5 = false ∧ ρ = [.sh S, .sh TT, .ol MN, .sh (.int k), .sh (.str r1), x5, .sh NX, .sh WS, x8, x9]) ?_ ?_ ⟨x5, x8, x9, hx5, rfl⟩ ?_ ?_
    · exact range_ev (by rw [evA, elen]; simp [allB_map, all_id, allB, ev_k, ev_v, ev_g, ev_fr, ev_tup, ev_lst, ev_dct, ev_bin, ev_neg, ev_not, ev_and, ev_or, ev_cmp, ev_chain, ev_ite, ev_idx, ev_slc, ev_call, ev_bi, ev_bm, ev_mu, ev_isi, ev_rpr, ev_lset, ev_dcn, ev_dc1, ev_dget, ev_dsd, ev_pr2, ev_rev, ev_lz, ev_sst, sstF, asgTS, biD, isDn, isOd, hasD, dgetN, dsdS, revF, zip3F, ex_ret_, ex_retN_, ex_asg_, ex_asgT_, ex_setI_, ex_ex_, ex_ifs_, ex_pass_, ex_brk_, ex_cont_, evT, evA, evF, evI, evO, vw, see, res, tru, D.truth, cmpS, cmpV, cmpF, inF, retS, List.replicate, biS, vws, biF, keepSh, asgS, binS, binF, fz, idxS, idxF, intOf, blOf, slcS, slcF, D.noK, isTy, pks, nodup, argS, argsBack, Y_ok, Y_ite, Y_nil, Kc_nx, Kc_rt, Kc_bk, Kc_ct, setIF, isOD, lookS, putS, muF, lock, unlock, rangeF, bindT, setT, LIM, wrOf, isSh, bmS, bmF, bmT, zipF, itemsZ, enumF, ↓reduceIte]) (by omega) (by omega)
    · simp [w5]
    · rintro i d ρ hd ⟨x5, x8, x9, hx5, rfl⟩
      have hi := range_lt hd
      have hd' := range_at hd
      subst hd'
      refine ⟨[.sh S, .sh TT, .ol MN, .sh (.int k), .sh (.str r1), .sh (.int i), .sh NX, .sh WS, x8, x9], rfl, ?_⟩
      rw [tW_2b2b0]
      refine for_Y (lk := []) (ds := rangeL 0 (m.nx.length : Int)) (ρ1 := [.sh S, .sh TT, .ol MN, .sh (.int k), .sh (.str r1), .sh (.int i), .sh NX, .sh WS, x8, x9]) (fun j ρ => ∃ x8 x9, ρ = [.sh S, .sh TT, .ol MN, .sh (.int k), .sh (.str r1), .sh (.int i), .sh NX, .sh WS, x8, x9]) ?_ ?_ ⟨x8, x9, rfl⟩ ?_ ?_
      · exact range_ev (by rw [evA, elen]; simp [allB_map, all_id, allB, ev_k, ev_v, ev_g, ev_fr, ev_tup, ev_lst, ev_dct, ev_bin, ev_neg, ev_not, ev_and, ev_or, ev_cmp, ev_chain, ev_ite, ev_idx, ev_slc, ev_call, ev_bi, ev_bm, ev_mu, ev_isi, ev_rpr, ev_lset, ev_dcn, ev_dc1, ev_dget, ev_dsd, ev_pr2, ev_rev, ev_lz, ev_sst, sstF, asgTS, biD, isDn, isOd, hasD, dgetN, dsdS, revF, zip3F, ex_ret_, ex_retN_, ex_asg_, ex_asgT_, ex_setI_, ex_ex_, ex_ifs_, ex_pass_, ex_brk_, ex_cont_, evT, evA, evF, evI, evO, vw, see, res, tru, D.truth, cmpS, cmpV, cmpF, inF, retS, List.replicate, biS, vws, biF, keepSh, asgS, binS, binF, fz, idxS, idxF, intOf, blOf, slcS, slcF, D.noK, isTy, pks, nodup, argS, argsBack, Y_ok, Y_ite, Y_nil, Kc_nx, Kc_rt, Kc_bk, Kc_ct, setIF, isOD, lookS, putS, muF, lock, unlock, rangeF, bindT, setT, LIM, wrOf, isSh, bmS, bmF, bmT, zipF, itemsZ, enumF, ↓reduceIte]) (by omega) (by omega)
      · simp [w8]
      · rintro j d ρ hd ⟨x8, x9, rfl⟩
        have hj := range_lt hd
        have hd' := range_at hd
        subst hd'
        have pa := part i j (by omega) (by omega)
        have du := due i j (by omega) (by omega)
        rw [show n + 2 + 2 = n + 4 from rfl] at pa du
        obtain ⟨r2, k2⟩ := rpf i j (by omega) (by omega)
        have p2 : C.rp (fD (partR (hapsD t) m.nx (unlW m.ws) i j)) = some r2 := by rw [c5]; exact k2
        generalize fD (partR (hapsD t) m.nx (unlW m.ws) i j) = R at *
        refine ⟨[.sh S, .sh TT, .ol MN, .sh (.int k), .sh (.str r1), .sh (.int i), .sh NX, .sh WS, .sh (.int j), x9], rfl, ?_⟩
        rw [tW_2b2b0b0]
        have sa : exS C SW_2b2b0b0 [.sh S, .sh TT, .ol MN, .sh (.int k), .sh (.str r1), .sh (.int i), .sh NX, .sh WS, .sh (.int j), x9] = .ok (.nx, [.sh S, .sh TT, .ol MN, .sh (.int k), .sh (.str r1), .sh (.int i), .sh NX, .sh WS, .sh (.int j), .sh R]) := by
          simp [SW_2b2b0b0, allB_map, all_id, allB, ev_k, ev_v, ev_g, ev_fr, ev_tup, ev_lst, ev_dct, ev_bin, ev_neg, ev_not, ev_and, ev_or, ev_cmp, ev_chain, ev_ite, ev_idx, ev_slc, ev_call, ev_bi, ev_bm, ev_mu, ev_isi, ev_rpr, ev_lset, ev_dcn, ev_dc1, ev_dget, ev_dsd, ev_pr2, ev_rev, ev_lz, ev_sst, sstF, asgTS, biD, isDn, isOd, hasD, dgetN, dsdS, revF, zip3F, ex_ret_, ex_retN_, ex_asg_, ex_asgT_, ex_setI_, ex_ex_, ex_ifs_, ex_pass_, ex_brk_, ex_cont_, evT, evA, evF, evI, evO, vw, see, res, tru, D.truth, cmpS, cmpV, cmpF, inF, retS, List.replicate, biS, vws, biF, keepSh, asgS, binS, binF, fz, idxS, idxF, intOf, blOf, slcS, slcF, D.noK, isTy, pks, nodup, argS, argsBack, Y_ok, Y_ite, Y_nil, Kc_nx, Kc_rt, Kc_bk, Kc_ct, setIF, isOD, lookS, putS, muF, lock, unlock, rangeF, bindT, setT, LIM, wrOf, isSh, bmS, bmF, bmT, zipF, itemsZ, enumF, ↓reduceIte, c1, pa, w9]
        rw [sa, Y_ok, Kc_nx, tW_2b2b0b1]
        have sb : exS C SW_2b2b0b1 [.sh S, .sh TT, .ol MN, .sh (.int k), .sh (.str r1), .sh (.int i), .sh NX, .sh WS, .sh (.int j), .sh R] = .ok (.nx, [.sh S, .sh TT, .ol MN, .sh (.int k), .sh (.str r1), .sh (.int i), .sh NX, .sh WS, .sh (.int j), .sh R]) := by
          simp [SW_2b2b0b1, allB_map, all_id, allB, ev_k, ev_v, ev_g, ev_fr, ev_tup, ev_lst, ev_dct, ev_bin, ev_neg, ev_not, ev_and, ev_or, ev_cmp, ev_chain, ev_ite, ev_idx, ev_slc, ev_call, ev_bi, ev_bm, ev_mu, ev_isi, ev_rpr, ev_lset, ev_dcn, ev_dc1, ev_dget, ev_dsd, ev_pr2, ev_rev, ev_lz, ev_sst, sstF, asgTS, biD, isDn, isOd, hasD, dgetN, dsdS, revF, zip3F, ex_ret_, ex_retN_, ex_asg_, ex_asgT_, ex_setI_, ex_ex_, ex_ifs_, ex_pass_, ex_brk_, ex_cont_, evT, evA, evF, evI, evO, vw, see, res, tru, D.truth, cmpS, cmpV, cmpF, inF, retS, List.replicate, biS, vws, biF, keepSh, asgS, binS, binF, fz, idxS, idxF, intOf, blOf, slcS, slcF, D.noK, isTy, pks, nodup, argS, argsBack, Y_ok, Y_ite, Y_nil, Kc_nx, Kc_rt, Kc_bk, Kc_ct, setIF, isOD, lookS, putS, muF, lock, unlock, rangeF, bindT, setT, LIM, wrOf, isSh, bmS, bmF, bmT, zipF, itemsZ, enumF, ↓reduceIte, c1, du, p2, D.dep, D.eqv]
          rw [exSs]
        rw [sb, Y_ok, Kc_nx, Y_nil]
        exact ⟨.inl rfl, _, _, rfl⟩
      · rintro _ ⟨x8, x9, rfl⟩
        simp only [unlock]
        rw [Kc_nx, Y_nil]
        exact ⟨.inl rfl, _, x8, x9, rfl, rfl⟩
    · rintro _ ⟨x5, x8, x9, hx5, rfl⟩
      simp only [unlock]
      rw [Kc_nx, tW_2b3]
      have sc : exS C SW_2b3 [.sh S, .sh TT, .ol MN, .sh (.int k), .sh (.str r1), x5, .sh NX, .sh WS, x8, x9] = .ok (.nx, [.sh S, .sh TT, .ol MN, .sh (.int k), .sh (.str r1), x5, .sh NX, .sh WS, x8, x9]) := by
        simp [SW_2b3, allB_map, all_id, allB, ev_k, ev_v, ev_g, ev_fr, ev_tup, ev_lst, ev_dct, ev_bin, ev_neg, ev_not, ev_and, ev_or, ev_cmp, ev_chain, ev_ite, ev_idx, ev_slc, ev_call, ev_bi, ev_bm, ev_mu, ev_isi, ev_rpr, ev_lset, ev_dcn, ev_dc1, ev_dget, ev_dsd, ev_pr2, ev_rev, ev_lz, ev_sst, sstF, asgTS, biD, isDn, isOd, hasD, dgetN, dsdS, revF, zip3F, ex_ret_, ex_retN_, ex_asg_, ex_asgT_, ex_setI_, ex_ex_, ex_ifs_, ex_pass_, ex_brk_, ex_cont_, evT, evA, evF, evI, evO, vw, see, res, tru, D.truth, cmpS, cmpV, cmpF, inF, retS, List.replicate, biS, vws, biF, keepSh, asgS, binS, binF, fz, idxS, idxF, intOf, blOf, slcS, slcF, D.noK, isTy, pks, nodup, argS, argsBack, Y_ok, Y_ite, Y_nil, Kc_nx, Kc_rt, Kc_bk, Kc_ct, setIF, isOD, lookS, putS, muF, lock, unlock, rangeF, bindT, setT, LIM, wrOf, isSh, bmS, bmF, bmT, zipF, itemsZ, enumF, ↓reduceIte, evF, p1, D.eqv, D.dep]
        rw [exSs]
      rw [sc, Y_ok, Kc_nx, Y_nil]
      subst hI
      exact ⟨.inl rfl, _, _, _, _, _, _, _, rfl, hx5, rfl⟩
  · rintro _ ⟨x3, x4, x5, x6, x7, x8, x9, hx3, hx5, rfl⟩
    rw [Kc_nx, tW_3]
    simp [SW_3, allB_map, all_id, allB, ev_k, ev_v, ev_g, ev_fr, ev_tup, ev_lst, ev_dct, ev_bin, ev_neg, ev_not, ev_and, ev_or, ev_cmp, ev_chain, ev_ite, ev_idx, ev_slc, ev_call, ev_bi, ev_bm, ev_mu, ev_isi, ev_rpr, ev_lset, ev_dcn, ev_dc1, ev_dget, ev_dsd, ev_pr2, ev_rev, ev_lz, ev_sst, sstF, asgTS, biD, isDn, isOd, hasD, dgetN, dsdS, revF, zip3F, ex_ret_, ex_retN_, ex_asg_, ex_asgT_, ex_setI_, ex_ex_, ex_ifs_, ex_pass_, ex_brk_, ex_cont_, evT, evA, evF, evI, evO, vw, see, res, tru, D.truth, cmpS, cmpV, cmpF, inF, retS, List.replicate, biS, vws, biF, keepSh, asgS, binS, binF, fz, idxS, idxF, intOf, blOf, slcS, slcF, D.noK, isTy, pks, nodup, argS, argsBack, Y_ok, Y_ite, Y_nil, Kc_nx, Kc_rt, Kc_bk, Kc_ct, setIF, isOD, lookS, putS, muF, lock, unlock, rangeF, bindT, setT, LIM, wrOf, isSh, bmS, bmF, bmT, zipF, itemsZ, enumF, ↓reduceIte]
end Mp
namespace Mp
namespace K40
theorem txt_leaf : ∀ x ∈ ([[121, 101, 115], [110, 111], [111, 112, 101, 110], [84, 114, 117, 101], []] : List (List Nat)), OkS (py (.str x)).shown ∧ (py (.str x)).shown.length ≤ 10 := by decide +kernel
theorem w_leaf : ∀ l ∈ menuW, ∀ w ∈ l, Lf 0 10 (wD w) := by
  intro l hl w hw
  have hb : ∀ b : Bool, Lf 0 10 (.bl b) := fun b => by cases b <;> exact ⟨trivial, Nat.le_refl _, by show 5 ≤ 10; decide⟩
  have ht : ∀ x ∈ ([[121, 101, 115], [110, 111], [111, 112, 101, 110], [84, 114, 117, 101], []] : List (List Nat)), Lf 0 10 (.str x) := fun x hx => ⟨(txt_leaf x hx).1, Nat.le_refl _, (txt_leaf x hx).2⟩
  simp only [menuW, List.mem_cons, List.not_mem_nil, or_false] at hl
  rcases hl with rfl | rfl | rfl <;> simp only [List.mem_cons, List.not_mem_nil, or_false] at hw
  · rcases hw with rfl | rfl <;> exact hb _
  · rcases hw with rfl | rfl | rfl <;> exact ht _ (by decide)
  · rcases hw with rfl | rfl | rfl | rfl
    · exact ht _ (by decide)
    · exact hb _
    · exact ht _ (by decide)
    · exact ht _ (by decide)
theorem n_leaf : ∀ k : Nat, k < 14 → Lf 0 10 (.int (k : Int)) := by
  have : ∀ k : Nat, k < 14 → OkS (py (.int (k : Int))).shown ∧ (k : Int).natAbs.log2 < 1920 ∧ (py (.int (k : Int))).shown.length ≤ 10 := by decide +kernel
  intro k hk
  obtain ⟨a, b, c⟩ := this k hk
  exact ⟨⟨a, b⟩, Nat.le_refl _, c⟩
theorem m_leaf {m : Mch Wd} (h : SmallM40 m) : Lf 3 2000 (.lst [nxD m.nx, .tup (m.ws.map wD)]) := by
  obtain ⟨h1, h2, h3, h4⟩ := h
  refine (lf_lst (k := 2) (L := 933) (xs := [nxD m.nx, .tup (m.ws.map wD)]) fun d hd => ?_).mono (Nat.le_refl _) (by show (933 + 2) * 2 + 3 ≤ 2000; decide)
  rcases List.mem_cons.mp hd with rfl | hd
  · refine (lf_tup (k := 1) (L := 63) (xs := m.nx.map nD) fun d hd => ?_).mono (Nat.le_refl _) (by rw [List.length_map]; omega)
    obtain ⟨r, hr, rfl⟩ := List.mem_map.mp hd
    obtain ⟨l, b⟩ := h3 r hr
    refine (lf_tup (k := 0) (L := 10) (xs := r.map fun (k : Nat) => .int k) fun d hd => ?_).mono (Nat.le_refl _) (by rw [List.length_map]; omega)
    obtain ⟨o, ho, rfl⟩ := List.mem_map.mp hd
    exact n_leaf o (b o ho)
  · rcases List.mem_cons.mp hd with rfl | hd
    · refine (lf_tup (k := 0) (L := 10) (xs := m.ws.map wD) fun d hd => ?_).mono (by decide) (by rw [List.length_map]; omega)
      obtain ⟨w, hw, rfl⟩ := List.mem_map.mp hd
      obtain ⟨l, hl, hwl⟩ := h4 w hw
      exact w_leaf l hl w hwl
    · cases hd
theorem nm_leaf : ∀ x ∈ poolL, OkS (py (.str x)).shown ∧ (py (.str x)).shown.length ≤ 12 := by decide +kernel
theorem pair_leaf {t : Tab} (ht : TabOk t) : ∀ d ∈ hapsD t, Lf 1 31 d := fun d hd => by
  obtain ⟨q, hq, rfl⟩ := List.mem_map.mp hd
  obtain ⟨p, hp, hq⟩ := List.mem_flatMap.mp hq
  obtain ⟨k, hk, rfl⟩ := List.mem_map.mp hq
  obtain ⟨h1, h2, h3⟩ := ht.most p hp
  have hk := List.mem_range.mp hk
  obtain ⟨n1, n2⟩ := nm_leaf p.1 (ht.names p hp)
  refine (lf_tup (k := 0) (L := 12) (xs := [.str p.1, .int (k : Int)]) fun d hd => ?_).mono (Nat.le_refl _) (Nat.le_refl _)
  rcases List.mem_cons.mp hd with rfl | hd
  · exact ⟨n1, Nat.le_refl _, n2⟩
  · rcases List.mem_cons.mp hd with rfl | hd
    · exact (n_leaf k (by omega)).mono (Nat.le_refl _) (by decide)
    · cases hd
theorem rpk40 : RpK40 mo.pg where
  word := by decide +kernel
  kept := fun m h => lf_rp (m_leaf h) (by decide) (by decide)
  found := fun t ht R hR => by
    cases R with
    | none => exact ⟨_, rfl⟩
    | some r =>
      obtain ⟨r1, r2⟩ := hR r rfl
      exact lf_rp (k := 4) (L := 10000) ((lf_tup (k := 1) (L := 31) fun d hd => pair_leaf ht d (r2 d hd)).mono (by decide) (by omega)) (by decide) (by decide)
theorem is_mo : HK40 mo.pg where
  mix := by kernel_rfl
  feed := by kernel_rfl
  take := by kernel_rfl
  table := by kernel_rfl
  law_haps := by kernel_rfl
  machine := by kernel_rfl
  haps := by kernel_rfl
  word_key := by kernel_rfl
  pairs_behind := by kernel_rfl
  parting := by kernel_rfl
  due := by kernel_rfl
  law := by kernel_rfl
theorem main (ns : List Int) (hl : ns.length ≤ 63) : ∃ a', callM mo.pg 100000 20 0 [.sh (.kl (ns.map D.int))] = .ok (.sh (.bl true), a') := by
  obtain ⟨⟨s, a⟩, e, q⟩ := law40 is_mo rpk40 100000 15 (by decide) ns hl
  have q : s = .sh (.bl true) := q
  subst q
  exact ⟨a, e⟩
end K40
end Mp
open PySem PySem.W PyProof.Rows
set_option maxHeartbeats 0 in
theorem PySem.Challenge.cw_surewatch_k40_rows_that_part_holds : PySem.Challenge.rw_surewatch_k40_rows_that_part.Holds := by
  w_on; o_law; k_head; (case hw => w_witness2)
  k_fill
  refine Mp.walk_g (l := PySem.Challenge.rw_surewatch_k40_rows_that_part) (n := 63) (lv := 20 + Mp.base0) (x := "_law_script") (cx := fun w => L2.CX PySem.Challenge.pw_surewatch_k40_rows_that_part w) (sp := fun w => Mp.spF (fun _ => none) ⟨_, PySem.Challenge.pw_surewatch_k40_rows_that_part, w⟩ 1 (Mp.callM Mp.K40.mo.pg 100000 20 0)) rfl (by decide) rfl ⟨rfl, by decide, by decide⟩ (fun w h Y => PySem.W.kIn_of Y) ?F (fun _ _ a ns hl _ hS => Mp.law_sp hS (Mp.K40.main ns hl)) (fun _ _ _ _ _ h => Mp.cx_no h)
  case F =>
    intro w mg fa h KX G hmg
    refine' Mp.law_at (i := 0) (d := Mp.K40.df11) (Mp.K40.top_mk KX G ?d0 ?d1 ?d2 ?d3 ?d4 ?d5 ?d6 ?d7 ?d8 ?d9 ?d10 ?d11 ?z0 ?z1 ?z2 ?z3 ?z4 ?z5 ?z6 ?z7 ?z8 ?z9) rfl rfl hmg ?bb
    case d0 =>
      refine' Mp.def_at KX G ?a ?l ?c ?k ?b
      (case a => k_is); (case l => k_is); (case c => k_is); (case k => k_is)
      (case b => exact fun _ _ _ _ _ _ us hl => match us, hl with | [_], _ => rfl)
    case d1 =>
      refine' Mp.def_at KX G ?a ?l ?c ?k ?b
      (case a => k_is); (case l => k_is); (case c => k_is); (case k => k_is)
      (case b => exact fun _ _ _ _ _ _ us hl => match us, hl with | [_], _ => rfl)
    case d2 =>
      refine' Mp.def_at KX G ?a ?l ?c ?k ?b
      (case a => k_is); (case l => k_is); (case c => k_is); (case k => k_is)
      (case b => exact fun _ _ _ _ _ _ us hl => match us, hl with | [_, _], _ => rfl)
    case d3 =>
      refine' Mp.def_at KX G ?a ?l ?c ?k ?b
      (case a => k_is); (case l => k_is); (case c => k_is); (case k => k_is)
      (case b => exact fun _ _ _ _ _ _ us hl => match us, hl with | [_, _, _, _, _], _ => rfl)
    case d4 =>
      refine' Mp.def_at KX G ?a ?l ?c ?k ?b
      (case a => k_is); (case l => k_is); (case c => k_is); (case k => k_is)
      (case b => exact fun _ _ _ _ _ _ us hl => match us, hl with | [_, _], _ => rfl)
    case d5 =>
      refine' Mp.def_at KX G ?a ?l ?c ?k ?b
      (case a => k_is); (case l => k_is); (case c => k_is); (case k => k_is)
      (case b => exact fun _ _ _ _ _ _ us hl => match us, hl with | [_, _], _ => rfl)
    case d6 =>
      refine' Mp.def_at KX G ?a ?l ?c ?k ?b
      (case a => k_is); (case l => k_is); (case c => k_is); (case k => k_is)
      (case b => exact fun _ _ _ _ _ _ us hl => match us, hl with | [_, _], _ => rfl)
    case d7 =>
      refine' Mp.def_at KX G ?a ?l ?c ?k ?b
      (case a => k_is); (case l => k_is); (case c => k_is); (case k => k_is)
      (case b => exact fun _ _ _ _ _ _ us hl => match us, hl with | [_], _ => rfl)
    case d8 =>
      refine' Mp.def_at KX G ?a ?l ?c ?k ?b
      (case a => k_is); (case l => k_is); (case c => k_is); (case k => k_is)
      (case b => exact fun _ _ _ _ _ _ us hl => match us, hl with | [_], _ => rfl)
    case d9 =>
      refine' Mp.def_at KX G ?a ?l ?c ?k ?b
      (case a => k_is); (case l => k_is); (case c => k_is); (case k => k_is)
      (case b => exact fun _ _ _ _ _ _ us hl => match us, hl with | [_, _, _], _ => rfl)
    case d10 =>
      refine' Mp.def_at KX G ?a ?l ?c ?k ?b
      (case a => k_is); (case l => k_is); (case c => k_is); (case k => k_is)
      (case b => exact fun _ _ _ _ _ _ us hl => match us, hl with | [_, _, _, _, _], _ => rfl)
    case d11 =>
      refine' Mp.def_at KX G ?a ?l ?c ?k ?b
      (case a => k_is); (case l => k_is); (case c => k_is); (case k => k_is)
      (case b => exact fun _ _ _ _ _ _ us hl => match us, hl with | [_], _ => rfl)
    (case z0 => k_is)
    (case z1 => k_is)
    (case z2 => k_is)
    (case z3 => k_is)
    (case z4 => k_is)
    (case z5 => k_is)
    (case z6 => k_is)
    (case z7 => k_is)
    (case z8 => k_is)
    (case z9 => k_is)
    (case bb => exact fun _ _ _ _ _ _ _ => rfl)
