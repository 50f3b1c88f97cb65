import PyProof.Rows.All
import Wide.All
import OpenK.AllK
import Wide.FinOn
import HandS.Base
import HandS.Call
import HandS.List
import KE.SortData
import HandS.Comp
import HandS.TupAny
import HandS.TupMul
import HandS.WideBits
import HandS.IsInst
import HandS.Conv
import HandS.Deep
import KE.DataFind
import HandS.ExcOwn
import HandS.Iter
import HandS.Zip
import HandS.Words
import KE.GoesEnum
import HandS.TryOnly
import HandS.CallLocal
import HandS.Style
import HandS.TryMany
import HandS.ExcField
import HandS.WordsExc
import HandS.ExcInit
import KE.KExcSuper
import KE.KSuper
import HandS.HeadWalk
import HandS.Defaults
import HandS.Head0
import HandS.Head1
import HandS.Head2
import HandS.HeadEnd
import HandS.HeadHook1
import HandS.HeadHook2
import HandS.HeadHook3
import HandS.HeadHook4
import HandS.EndBits
import KE.LtData
import PySem.Challenge.RW_dualroads_k24_whole_numbers_that_webs_ma
set_option Elab.async false
set_option linter.all false
set_option maxRecDepth 1000000
set_option maxHeartbeats 0
/-! Mn1: values, stores, a small language, its run. -/
namespace Mn
open PySem

/-- a value: scalars, tuples by their items, a list just made (tl), a locked list (kl), a list that no one changes any more (il), a list in the store (lr), a def of the module (fn) -/
inductive D where
  | non | bl (b : Bool) | int (i : Int) | str (s : List Nat) | tup (xs : List D) | tl (xs : List D) | kl (xs : List D) | il (xs : List D) | lr (n : Nat) | fn (g : Nat)

/-- what the store holds: a list -/
inductive Ob where
  | lst (xs : List D)

/-- not a list just made -/
def notl : D → Bool
  | .tl _ => false
  | _ => true

abbrev Sto := List Ob
abbrev Rho := List (Option D)

/-- what a run gives -/
inductive Out (α : Type) where
  | ok (a : α) (st : Sto) | ex (c : Nat) (p : List D) (st : Sto) | no

def Out.bind {α β : Type} (x : Out α) (f : α → Sto → Out β) : Out β := match x with
  | .ok a st => f a st
  | .ex c p st => .ex c p st
  | .no => .no

/-- types that isinstance is asked for -/
inductive Ty where
  | int | bool | str | tuple | list
  deriving DecidableEq

/-- operations on values -/
inductive Pr where
  | add | sub | mul | fdiv | mod | neg
  | eq | ne | lt | le | gt | ge | isN | notN | isin | notin
  | len | abs | toInt | all | any | sum | tuple | list | max | min | max2 | min2
  | ix | sl (lo hi : Bool)
  | append | pop0 | pop1 | rev
  | sorted | xor | count | extend
  | inst (ts : List Ty)
  deriving DecidableEq

mutual
/-- expressions -/
inductive E where
  | var (i : Nat) | cst (d : D)
  | tupE (es : List E) | lstE (es : List E)
  | prim (p : Pr) (es : List E)
  | meth (p : Pr) (o : E) (es : List E)
  | frz (e : E)
  | and (a b : E) | or (a b : E) | not (a : E) | ite (c a b : E)
  | chain (p q : Pr) (a b c : E) | sl3 (a b c : E)
  | call (g : Nat) (es : List E) | callv (i : Nat) (es : List E) | calle (f : E) (es : List E)
  | rngL (t : Bool) (es : List E)
  | comp (elt : E) (tg : Tg) (src : Src) (cs : List E) (own : List Nat)
  | comp2 (elt : E) (tg : Tg) (src : Src) (cs : List E) (tg1 : Tg) (src1 : Src) (cs1 : List E) (own own1 : List Nat)
/-- targets -/
inductive Tg where
  | nm (i : Nat) | tp (ts : List Tg) | sb (o i : E)
/-- what is walked -/
inductive Src where
  | ex (e : E) | rng (es : List E) | enu (e : E) | zip (a b : E)
end

/-- a suite of an except clause: a return of written values (some) and of what the error bears (none) -/
inductive Su where
  | one (o : Option D) | tup (os : List (Option D))

/-- statements -/
inductive S where
  | ex (e : E) | ret (e : E) | ret0 | pas | brk | cnt
  | asg (t : Tg) (e : E)
  | aug (i : Nat) (p : Pr) (e : E)
  | augS (o i : E) (p : Pr) (e : E)
  | ifS (c : E) (a b : List S)
  | whl (c : E) (b : List S)
  | for (t : Tg) (src : Src) (b : List S)
  | rse (c : Nat) (es : List E)
  | tryS (b : List S) (hs : List (Nat × Su))

/-! ### values -/
def lstOf (st : Sto) : D → Option (List D)
  | .tl xs => some xs
  | .kl xs => some xs
  | .il xs => some xs
  | .lr n => (match st[n]? with
    | some (.lst xs) => some xs
    | none => none)
  | _ => none
/-- .. that is no locked one -/
def mlOf (st : Sto) : D → Option (List D)
  | .tl xs => some xs
  | .lr n => (match st[n]? with
    | some (.lst xs) => some xs
    | none => none)
  | _ => none
/-- .. or one that no one changes -/
def rdOf (st : Sto) : D → Option (List D)
  | .il xs => some xs
  | d => mlOf st d
def seqOf (st : Sto) : D → Option (List D)
  | .tup xs => some xs
  | d => lstOf st d

/-- a list just made, when it is kept: laid into the store -/
def mat (d : D) (st : Sto) : D × Sto := match d with
  | .tl xs => (.lr st.length, st ++ [.lst xs])
  | d => (d, st)
/-- a list just made, when no one changes it any more -/
def frzD : D → D
  | .tl xs => .il xs
  | d => d
def mats : List D → Sto → List D × Sto
  | [], st => ([], st)
  | d :: ds, st => ((mat d st).1 :: (mats ds (mat d st).2).1, (mats ds (mat d st).2).2)

def mapO {α β : Type} (f : α → Option β) : List α → Option (List β)
  | [] => some []
  | x :: xs => match f x, mapO f xs with
    | some y, some ys => some (y :: ys)
    | _, _ => none

/-- the data of a value, for == -/
def toP (st : Sto) : Nat → D → Option PyData
  | 0, _ => none
  | n + 1, d => match d with
    | .non => some .none
    | .bl b => some (.bool b)
    | .int i => some (.int i)
    | .str s => if PySem.PyData.strOk ⟨s.toArray⟩ then some (.str ⟨s.toArray⟩) else none
    | .tup xs => (match mapO (toP st n) xs with
      | some ps => some (.tuple ps)
      | none => none)
    | .fn _ => none
    | d => (match lstOf st d with
      | some xs => (match mapO (toP st n) xs with
        | some ps => some (.list ps)
        | none => none)
      | none => none)

def eqD (st : Sto) (a b : D) : Option Bool := match a, b with
  | .int i, .int j => some (decide (i = j))
  | .bl i, .bl j => some (decide (i = j))
  | .non, .non => some true
  | a, b => (match toP st 16 a, toP st 16 b with
    | some p, some q => some (PyData.eqv p q)
    | _, _ => none)

def isTup : D → Bool
  | .tup _ => true
  | _ => false
def isNon : D → Bool
  | .non => true
  | _ => false
/-! ### sorted -/
def neTupP : PyData → Bool
  | .tuple (_ :: _) => true
  | _ => false
def noTupP : PyData → Bool
  | .none => false
  | .tuple _ => false
  | _ => true
/-- data that can be sorted -/
def sortOk (ps : List PyData) : Bool := (ps.all fun p => ps.all fun q => PySem.W.alike p q) && (ps.all neTupP || ps.all noTupP)
def sortD (st : Sto) (xs : List D) : Option (List D) := match mapO (toP st 16) xs with
  | some ps => if sortOk ps then some (((xs.zip ps).mergeSort fun a b => !PySem.W.dataLt b.2 a.2).map (·.1)) else none
  | none => none
def flat : D → Bool
  | .non => true
  | .bl _ => true
  | .int _ => true
  | .str _ => true
  | _ => false
def eqF : D → D → Bool
  | .non, .non => true
  | .bl a, .bl b => a == b
  | .bl a, .int b => (if a then 1 else 0) == b
  | .int a, .bl b => a == (if b then 1 else 0)
  | .int a, .int b => a == b
  | .str a, .str b => a == b
  | _, _ => false

def allB : List D → Option (List Bool) := mapO fun d => match d with
  | .bl b => some b
  | _ => none
def allI : List D → Option (List Int) := mapO fun d => match d with
  | .int i => some i
  | _ => none

def maxI : Int → List Int → Int
  | m, [] => m
  | m, x :: xs => maxI (if x > m then x else m) xs
def minI : Int → List Int → Int
  | m, [] => m
  | m, x :: xs => minI (if x < m then x else m) xs

/-- the type of a value -/
def tyOf (st : Sto) : D → Option (Option Ty)
  | .non => some none
  | .bl _ => some (some .bool)
  | .int _ => some (some .int)
  | .str _ => some (some .str)
  | .tup _ => some (some .tuple)
  | .tl _ => some (some .list)
  | .kl _ => some (some .list)
  | .il _ => some (some .list)
  | .lr n => (match st[n]? with
    | some _ => some (some .list)
    | none => none)
  | .fn _ => none
def subTy : Ty → Ty → Bool
  | .bool, .int => true
  | a, b => decide (a = b)

def optI : D → Option Int
  | .int i => some i
  | _ => none

/-- the items between two places -/
def cut {α : Type} (xs : List α) (lo hi : Option Int) : List α := (xs.drop (HT.sIx xs.length 0 lo)).take (HT.sIx xs.length xs.length hi - HT.sIx xs.length 0 lo)

def semSl (d : D) (lo hi : Option Int) (st : Sto) : Option (D × Sto) := match d with
  | .tup xs => some (.tup (cut xs lo hi), st)
  | d => (match lstOf st d with
    | some xs => some (.tl (cut xs lo hi), st)
    | none => none)

/-- one operation -/
def sem1 (p : Pr) (a : D) (st : Sto) : Option (D × Sto) := match p with
  | .neg => (match a with
    | .int i => some (.int (-i), st)
    | _ => none)
  | .len => (match seqOf st a with
    | some xs => some (.int xs.length, st)
    | none => none)
  | .abs => (match a with
    | .int i => some (.int (if i < 0 then -i else i), st)
    | _ => none)
  | .toInt => (match a with
    | .int i => some (.int i, st)
    | .bl b => some (.int (if b then 1 else 0), st)
    | _ => none)
  | .all => (match lstOf st a with
    | some xs => (match allB xs with
      | some bs => some (.bl (bs.all id), st)
      | none => none)
    | none => none)
  | .any => (match lstOf st a with
    | some xs => (match allB xs with
      | some bs => some (.bl (bs.any id), st)
      | none => none)
    | none => none)
  | .sum => (match lstOf st a with
    | some xs => (match allI xs with
      | some ns => some (.int ns.sum, st)
      | none => none)
    | none => none)
  | .max => (match lstOf st a with
    | some xs => (match allI xs with
      | some (n :: ns) => some (.int (maxI n ns), st)
      | _ => none)
    | none => none)
  | .min => (match lstOf st a with
    | some xs => (match allI xs with
      | some (n :: ns) => some (.int (minI n ns), st)
      | _ => none)
    | none => none)
  | .tuple => (match seqOf st a with
    | some xs => some (.tup xs, st)
    | none => none)
  | .list => (match seqOf st a with
    | some xs => some (.tl xs, st)
    | none => none)
  | .sorted => (match seqOf st a with
    | some xs => (match sortD st xs with
      | some ys => some (.tl ys, st)
      | none => none)
    | none => none)
  | .rev => (match a with
    | .tup xs => some (.tup xs.reverse, st)
    | a => (match lstOf st a with
      | some xs => some (.tl xs.reverse, st)
      | none => none))
  | .pop0 => (match a with
    | .lr n => (match st[n]? with
      | some (.lst xs) => (match xs[xs.length - 1]? with
        | some x => some (x, st.set n (.lst xs.dropLast))
        | none => none)
      | _ => none)
    | _ => none)
  | .inst ts => (match tyOf st a with
    | some (some t) => some (.bl (ts.any (subTy t)), st)
    | some none => some (.bl false, st)
    | none => none)
  | _ => none

def isArith : Pr → Bool
  | .add => true | .sub => true | .mul => true | .fdiv => true | .mod => true | _ => false
/-- int op int -/
def semI (p : Pr) (i j : Int) : Option D := match p with
  | .add => some (.int (i + j))
  | .sub => some (.int (i - j))
  | .mul => if Builtin.Int.intBits i + Builtin.Int.intBits j ≤ 134217728 then some (.int (i * j)) else none
  | .fdiv => if j ≠ 0 ∧ j.natAbs.log2 < 9000 then some (.int (i.fdiv j)) else none
  | .mod => if j ≠ 0 then some (.int (i.fmod j)) else none
  | .xor => some (.int (Builtin.bitXor i j))
  | .lt => some (.bl (decide (i < j)))
  | .le => some (.bl (decide (i ≤ j)))
  | .gt => some (.bl (decide (j < i)))
  | .ge => some (.bl (decide (j ≤ i)))
  | .max2 => some (.int (if j > i then j else i))
  | .min2 => some (.int (if j < i then j else i))
  | _ => none
def sem2 (p : Pr) (a b : D) (st : Sto) : Option (D × Sto) := match p with
  | .eq => (match eqD st a b with
    | some r => some (.bl r, st)
    | none => none)
  | .ne => (match eqD st a b with
    | some r => some (.bl (!r), st)
    | none => none)
  | .isN => (match b with
    | .non => some (.bl (isNon a), st)
    | _ => none)
  | .notN => (match b with
    | .non => some (.bl (!isNon a), st)
    | _ => none)
  | .isin => (match seqOf st b with
    | some xs => if flat a && xs.all flat then some (.bl (xs.any fun y => eqF y a), st) else (match toP st 15 a, mapO (toP st 15) xs with
      | some p, some ps => some (.bl (ps.any fun q => PyData.eqv q p), st)
      | _, _ => none)
    | none => none)
  | .notin => (match seqOf st b with
    | some xs => if flat a && xs.all flat then some (.bl (!xs.any fun y => eqF y a), st) else (match toP st 15 a, mapO (toP st 15) xs with
      | some p, some ps => some (.bl (!ps.any fun q => PyData.eqv q p), st)
      | _, _ => none)
    | none => none)
  | .count => (match lstOf st a, toP st 15 b with
    | some xs, some p => (match mapO (toP st 15) xs with
      | some ps => some (.int (ps.countP fun q => PyData.eqv q p), st)
      | none => none)
    | _, _ => none)
  | .extend => (match a with
    | .lr n => (match st[n]?, mlOf st b with
      | some (.lst xs), some ys => if xs.length + ys.length ≤ sizeLine then some (.non, st.set n (.lst (xs ++ ys))) else none
      | _, _ => none)
    | _ => none)
  | .ix => (match b with
    | .int i => (match seqOf st a with
      | some xs => (match L2.atI xs i with
        | some d => some (d, st)
        | none => none)
      | none => none)
    | _ => none)
  | .append => (match a with
    | .lr n => (match st[n]? with
      | some (.lst xs) => if xs.length < sizeLine then some (.non, (mat b st).2.set n (.lst (xs ++ [(mat b st).1]))) else none
      | _ => none)
    | _ => none)
  | .pop1 => (match a, b with
    | .lr n, .int i => (match st[n]? with
      | some (.lst xs) => (match L2.ixN xs.length i with
        | some j => (match xs[j]? with
          | some d => some (d, st.set n (.lst (xs.eraseIdx j)))
          | none => none)
        | none => none)
      | _ => none)
    | _, _ => none)
  | p => (match a, b with
    | .int i, .int j => (match semI p i j with
      | some d => some (d, st)
      | none => none)
    | .tup xs, .tup ys => (match p with
      | .add => if xs.length + ys.length ≤ sizeLine then some (.tup (xs ++ ys), st) else none
      | _ => none)
    | .tup xs, .int k => (match p with
      | .mul => if xs.isEmpty = false ∧ 2 ≤ k ∧ k ≤ 1000 ∧ xs.length ≤ 1000 then some (.tup (List.replicate k.toNat xs).flatten, st) else none
      | _ => none)
    | a, .int k => (match p with
      | .mul => (match mlOf st a with
        | some xs => if -(2 ^ 63) ≤ k ∧ k < 2 ^ 63 ∧ xs.length * k.toNat ≤ sizeLine then some (.tl (List.replicate k.toNat xs).flatten, st) else none
        | none => none)
      | _ => none)
    | a, b => (match p with
      | .add => (match rdOf st a, rdOf st b with
        | some xs, some ys => if xs.length + ys.length ≤ sizeLine then some (.tl (xs ++ ys), st) else none
        | _, _ => none)
      | _ => none))
def semP (p : Pr) (ds : List D) (st : Sto) : Option (D × Sto) := match ds with
  | [a] => (match p with
    | .sl false false => semSl a none none st
    | p => sem1 p a st)
  | [a, b] => (match p with
    | .sl true false => (match b with
      | .int i => semSl a (some i) none st
      | _ => none)
    | .sl false true => (match b with
      | .int i => semSl a none (some i) st
      | _ => none)
    | p => sem2 p a b st)
  | _ => none

/-! ### what is walked -/
/-- items by turns: fixed ones, a list of the store as it stands, a range, pairs -/
inductive Sv where
  | fix (xs : List D) | cell (n : Nat) | rng (lo c : Int) | enu (s : Sv) | zip (s t : Sv)
def Sv.item : Sv → Sto → Nat → Option D
  | .fix xs, _, i => xs[i]?
  | .cell n, st, i => (match lstOf st (.lr n) with
    | some xs => xs[i]?
    | none => none)
  | .rng lo c, _, i => some (.int (lo + i * c))
  | .enu s, st, i => (match s.item st i with
    | some d => some (.tup [.int i, d])
    | none => none)
  | .zip s t, st, i => (match s.item st i, t.item st i with
    | some d, some e => some (.tup [d, e])
    | _, _ => none)
/-- behind the last turn there is none more -/
def Sv.ends : Sv → Sto → Nat → Bool
  | .fix xs, _, n => xs.length == n
  | .cell m, st, n => (match lstOf st (.lr m) with
    | some xs => xs.length == n
    | none => false)
  | .rng _ _, _, _ => true
  | .enu s, st, n => s.ends st n
  | .zip s t, st, n => s.ends st n || t.ends st n

def svOf (st : Sto) : D → Option (Sv × Nat)
  | .tup xs => some (.fix xs, xs.length)
  | .tl xs => some (.fix xs, xs.length)
  | .kl xs => some (.fix xs, xs.length)
  | .il xs => some (.fix xs, xs.length)
  | .lr n => (match lstOf st (.lr n) with
    | some xs => some (.cell n, xs.length)
    | none => none)
  | _ => none

def inR (i : Int) : Bool := decide (-(2 ^ 62) ≤ i) && decide (i < 2 ^ 62)
def rngOf : List D → Option (Sv × Nat)
  | [.int j] => if inR j then some (.rng 0 1, j.toNat) else none
  | [.int i, .int j] => if inR i && inR j then some (.rng i 1, (j - i).toNat) else none
  | [.int i, .int j, .int c] => if inR i && inR j && c == -1 then some (.rng i (-1), (i - j).toNat) else none
  | _ => none

/-- list(range(..)), tuple(range(..)) -/
def rgD (a b : Int) : List D := (List.range (b - a).toNat).map fun i => D.int (a + (i : Nat))
def rgOk (a b : Int) : Bool := inR a && inR b && Nat.ble (b - a).toNat 16777216
def rgL (t : Bool) : List D → Option D
  | [.int j] => if rgOk 0 j then some (if t then .tup (rgD 0 j) else .tl (rgD 0 j)) else none
  | [.int i, .int j] => if rgOk i j then some (if t then .tup (rgD i j) else .tl (rgD i j)) else none
  | _ => none

def wipe (ρ : Rho) : List Nat → Rho
  | [] => ρ
  | v :: vs => (wipe ρ vs).set v none

/-! ### turns -/
/-- a comprehension's turns: acc what is made so far -/
def turns (sv : Sv) (body : D → List D → Sto → Out (List D)) : Nat → Nat → List D → Sto → Out (List D)
  | 0, i, acc, st => if sv.ends st i then .ok acc st else .no
  | k + 1, i, acc, st => match sv.item st i with
    | some d => (body d acc st).bind fun acc st => turns sv body k (i + 1) acc st
    | none => .no

/-- where a statement leads -/
inductive Fl where
  | nx | brk | cnt | ret (d : D)

def loopF (sv : Sv) (body : D → Rho → Sto → Out (Fl × Rho)) : Nat → Nat → Rho → Sto → Out (Fl × Rho)
  | 0, i, ρ, st => if sv.ends st i then .ok (.nx, ρ) st else .no
  | k + 1, i, ρ, st => match sv.item st i with
    | some d => (body d ρ st).bind fun fr st => match fr with
      | (.nx, ρ) => loopF sv body k (i + 1) ρ st
      | (.cnt, ρ) => loopF sv body k (i + 1) ρ st
      | (.brk, ρ) => .ok (.nx, ρ) st
      | (.ret d, ρ) => .ok (.ret d, ρ) st
    | none => .no
def loopW (c : Rho → Sto → Out Bool) (body : Rho → Sto → Out (Fl × Rho)) : Nat → Rho → Sto → Out (Fl × Rho)
  | 0, _, _ => .no
  | k + 1, ρ, st => (c ρ st).bind fun t st => if t then (body ρ st).bind fun fr st => (match fr with
      | (.nx, ρ) => loopW c body k ρ st
      | (.cnt, ρ) => loopW c body k ρ st
      | (.brk, ρ) => .ok (.nx, ρ) st
      | (.ret d, ρ) => .ok (.ret d, ρ) st)
    else .ok (.nx, ρ) st

/-- o[i] = v -/
def setD (o i v : D) (st : Sto) : Option Sto := match o, i with
  | .lr n, .int k => (match st[n]? with
    | some (.lst xs) => (match L2.ixN xs.length k with
      | some j => some ((mat v st).2.set n (.lst (xs.set j (mat v st).1)))
      | none => none)
    | _ => none)
  | _, _ => none

/-! ### the run of an expression -/
/-- calls of defs, while loops' bound -/
structure Cf where
  call : Nat → List D → Sto → Out D
  wf : Nat
  nf : Nat

def binds (x : Option (D × Sto)) : Out D := match x with
  | some (d, st) => .ok d st
  | none => .no

def noEx {α : Type} : Out α → Out α
  | .ex _ _ _ => .no
  | x => x

/-- a test -/
def asB (d : D) (st : Sto) : Out Bool := match d with
  | .bl b => .ok b st
  | _ => .no
/-- what a method may be asked of -/
def rcv (p : Pr) (x : D) : Bool := match p, x with
  | .append, .lr _ => true
  | .pop0, .lr _ => true
  | .pop1, .lr _ => true
  | .extend, .lr _ => true
  | .count, .lr _ => true
  | .count, .kl _ => true
  | .count, .il _ => true
  | _, _ => false
mutual
def evE (cf : Cf) : E → Rho → Sto → Out D
  | .var i, ρ, st => (match ρ[i]? with
    | some (some d) => .ok d st
    | _ => .no)
  | .cst d, _, st => .ok d st
  | .tupE es, ρ, st => (evEs cf es ρ st).bind fun ds st => .ok (.tup (mats ds st).1) (mats ds st).2
  | .lstE es, ρ, st => (evEs cf es ρ st).bind fun ds st => .ok (.tl (mats ds st).1) (mats ds st).2
  | .prim p es, ρ, st => (evEs cf es ρ st).bind fun ds st => binds (semP p ds st)
  | .meth p o es, ρ, st => (evE cf o ρ st).bind fun x st => if rcv p x then (evEs cf es ρ st).bind fun ds st => binds (semP p (x :: ds) st) else .no
  | .frz e, ρ, st => (evE cf e ρ st).bind fun d st => .ok (frzD d) st
  | .and a b, ρ, st => ((evE cf a ρ st).bind asB).bind fun c st => if c then evE cf b ρ st else .ok (.bl false) st
  | .or a b, ρ, st => ((evE cf a ρ st).bind asB).bind fun c st => if c then .ok (.bl true) st else evE cf b ρ st
  | .not a, ρ, st => ((evE cf a ρ st).bind asB).bind fun c st => .ok (.bl (!c)) st
  | .ite c a b, ρ, st => ((evE cf c ρ st).bind asB).bind fun t st => if t then evE cf a ρ st else evE cf b ρ st
  | .chain p q a b c, ρ, st => (evE cf a ρ st).bind fun x st => (evE cf b ρ st).bind fun y st => (match x, y with
    | .int i, .int j => (match semI p i j with
      | some (.bl true) => (evE cf c ρ st).bind fun z st => binds (semP q [.int j, z] st)
      | some (.bl false) => .ok (.bl false) st
      | _ => .no)
    | _, _ => .no)
  | .sl3 a b c, ρ, st => (evE cf a ρ st).bind fun x st => (evE cf b ρ st).bind fun y st => (match y with
    | .int i => (evE cf c ρ st).bind fun z st => (match z with
      | .int j => binds (semSl x (some i) (some j) st)
      | _ => .no)
    | _ => .no)
  | .call g es, ρ, st => (evEs cf es ρ st).bind fun ds st => cf.call g (mats ds st).1 (mats ds st).2
  | .callv i es, ρ, st => (match ρ[i]? with
    | some (some (.fn g)) => if Nat.blt g cf.nf then (evEs cf es ρ st).bind fun ds st => cf.call g (mats ds st).1 (mats ds st).2 else .no
    | _ => .no)
  | .calle f es, ρ, st => (evE cf f ρ st).bind fun x st => (match x with
    | .fn g => if Nat.blt g cf.nf then (evEs cf es ρ st).bind fun ds st => cf.call g (mats ds st).1 (mats ds st).2 else .no
    | _ => .no)
  | .rngL t es, ρ, st => (evEs cf es ρ st).bind fun ds st => (match rgL t ds with
    | some d => .ok d st
    | none => .no)
  | .comp elt tg src cs own, ρ, st => (evSrc cf src ρ st).bind fun sv st =>
      noEx ((turns sv.1 (fun d acc st => (evTg cf tg d (wipe ρ own) st).bind fun ρ st => (evCs cf cs ρ st).bind fun b st =>
        if b then (if acc.length < sizeLine then (evE cf elt ρ st).bind fun x st => .ok (acc ++ [(mat x st).1]) (mat x st).2 else .no) else .ok acc st) sv.2 0 [] st).bind fun acc st => .ok (.tl acc) st)
  | .comp2 elt tg src cs tg1 src1 cs1 own own1, ρ, st => (evSrc cf src ρ st).bind fun sv st =>
      noEx ((turns sv.1 (fun d acc st => (evTg cf tg d (wipe ρ own) st).bind fun ρ st => (evCs cf cs ρ st).bind fun b st =>
        if b then (evSrc cf src1 ρ st).bind fun sv1 st => turns sv1.1 (fun d acc st => (evTg cf tg1 d (wipe ρ own1) st).bind fun ρ st => (evCs cf cs1 ρ st).bind fun b st =>
          if b then (if acc.length < sizeLine then (evE cf elt ρ st).bind fun x st => .ok (acc ++ [(mat x st).1]) (mat x st).2 else .no) else .ok acc st) sv1.2 0 acc st
        else .ok acc st) sv.2 0 [] st).bind fun acc st => .ok (.tl acc) st)
def evEs (cf : Cf) : List E → Rho → Sto → Out (List D)
  | [], _, st => .ok [] st
  | e :: es, ρ, st => (evE cf e ρ st).bind fun d st => (evEs cf es ρ st).bind fun ds st => .ok (d :: ds) st
def evCs (cf : Cf) : List E → Rho → Sto → Out Bool
  | [], _, st => .ok true st
  | e :: _, ρ, st => (evE cf e ρ st).bind asB
def evTg (cf : Cf) : Tg → D → Rho → Sto → Out Rho
  | .nm i, d, ρ, st => .ok (ρ.set i (some (mat d st).1)) (mat d st).2
  | .tp ts, d, ρ, st => (match seqOf st d with
    | some xs => if xs.length = ts.length then evTgs cf ts xs ρ st else .no
    | none => .no)
  | .sb o i, d, ρ, st => (evE cf o ρ st).bind fun x st => (evE cf i ρ st).bind fun y st => (match setD x y d st with
    | some st => .ok ρ st
    | none => .no)
def evTgs (cf : Cf) : List Tg → List D → Rho → Sto → Out Rho
  | [], _, ρ, st => .ok ρ st
  | t :: ts, ds, ρ, st => (match ds with
    | d :: ds => (evTg cf t d ρ st).bind fun ρ st => evTgs cf ts ds ρ st
    | [] => .no)
def evSrc (cf : Cf) : Src → Rho → Sto → Out (Sv × Nat)
  | .ex e, ρ, st => (evE cf e ρ st).bind fun d st => (match svOf st d with
    | some r => .ok r st
    | none => .no)
  | .rng es, ρ, st => (evEs cf es ρ st).bind fun ds st => (match rngOf ds with
    | some r => .ok r st
    | none => .no)
  | .enu e, ρ, st => (evE cf e ρ st).bind fun d st => (match svOf st d with
    | some (s, n) => .ok (.enu s, n) st
    | none => .no)
  | .zip a b, ρ, st => (evE cf a ρ st).bind fun x st => (evE cf b ρ st).bind fun y st => (match isTup x == isTup y, svOf st x, svOf st y with
    | true, some (s, n), some (t, m) => .ok (.zip s t, min n m) st
    | _, _, _ => .no)
end

/-! ### the run of a statement -/
def suD (p : List D) : Option D → Option D
  | some d => some d
  | none => p.head?
def suRet (p : List D) : Su → Option D
  | .one o => suD p o
  | .tup os => (match mapO (suD p) os with
    | some ds => some (.tup ds)
    | none => none)
/-- the clauses, one after the other -/
def handle (c : Nat) (p : List D) (ρ : Rho) (st : Sto) : List (Nat × Su) → Out (Fl × Rho)
  | [] => .ex c p st
  | (k, su) :: hs => if k = c then (match suRet p su with
      | some d => .ok (.ret d, ρ) st
      | none => .no) else handle c p ρ st hs
def seqS (x : Out (Fl × Rho)) (f : Rho → Sto → Out (Fl × Rho)) : Out (Fl × Rho) := x.bind fun fr st => match fr with
  | (.nx, ρ) => f ρ st
  | r => .ok r st
mutual
def exS (cf : Cf) : S → Rho → Sto → Out (Fl × Rho)
  | .ex e, ρ, st => (evE cf e ρ st).bind fun _ st => .ok (.nx, ρ) st
  | .ret e, ρ, st => (evE cf e ρ st).bind fun d st => .ok (.ret d, ρ) st
  | .ret0, ρ, st => .ok (.ret .non, ρ) st
  | .pas, ρ, st => .ok (.nx, ρ) st
  | .brk, ρ, st => .ok (.brk, ρ) st
  | .cnt, ρ, st => .ok (.cnt, ρ) st
  | .asg t e, ρ, st => (evE cf e ρ st).bind fun d st => (evTg cf t d ρ st).bind fun ρ st => .ok (.nx, ρ) st
  | .aug i p e, ρ, st => (match ρ[i]? with
    | some (some x) => (evE cf e ρ st).bind fun y st => (match x, y with
      | .int a, .int b => (match semI p a b with
        | some d => .ok (.nx, ρ.set i (some d)) st
        | none => .no)
      | _, _ => .no)
    | _ => .no)
  | .augS o i p e, ρ, st => (evE cf o ρ st).bind fun x st => (evE cf i ρ st).bind fun k st => (match mlOf [] x, sem2 .ix x k st with
    | none, some (y, _) => (evE cf e ρ st).bind fun z st => (match y, z with
      | .int a, .int b => (match semI p a b with
        | some d => (match setD x k d st with
          | some st => .ok (.nx, ρ) st
          | none => .no)
        | none => .no)
      | _, _ => .no)
    | _, _ => .no)
  | .ifS c a b, ρ, st => ((evE cf c ρ st).bind asB).bind fun t st => if t then exSs cf a ρ st else exSs cf b ρ st
  | .whl c b, ρ, st => loopW (fun ρ st => (evE cf c ρ st).bind asB) (fun ρ st => exSs cf b ρ st) cf.wf ρ st
  | .for t src b, ρ, st => (evSrc cf src ρ st).bind fun sv st => loopF sv.1 (fun d ρ st => (evTg cf t d ρ st).bind fun ρ st => exSs cf b ρ st) sv.2 0 ρ st
  | .rse c es, ρ, st => (evEs cf es ρ st).bind fun ds st => if ds.all notl then .ex c ds st else .no
  | .tryS b hs, ρ, st => (match exSs cf b ρ st with
    | .ex c p st => handle c p ρ st hs
    | x => x)
def exSs (cf : Cf) : List S → Rho → Sto → Out (Fl × Rho)
  | [], ρ, st => .ok (.nx, ρ) st
  | s :: ss, ρ, st => seqS (exS cf s ρ st) fun ρ st => exSs cf ss ρ st
end

/-! ### defs -/
mutual
/-- it names lists of the store below n alone -/
def below (n : Nat) : D → Bool
  | .tup xs => belows n xs
  | .tl xs => belows n xs
  | .kl xs => belows n xs
  | .il xs => belows n xs
  | .lr k => Nat.blt k n
  | _ => true
def belows (n : Nat) : List D → Bool
  | [] => true
  | d :: ds => below n d && belows n ds
end
def Ob.below (n : Nat) : Ob → Bool
  | .lst xs => belows n xs
/-- the store cut to its first n -/
def clean (n : Nat) (st : Sto) : Bool := (st.take n).all (Ob.below n)
/-- what a call gives back: lists that nobody names any more are let go -/
def retn (n : Nat) (d : D) (st : Sto) : Out D :=
  if clean n st then
    (match d with
    | .lr k => if Nat.blt k n then .ok d (st.take n) else (match st[k]? with
      | some (.lst xs) => if belows n xs then .ok (.tl xs) (st.take n) else .ok d st
      | _ => .ok d st)
    | d => if below n d then .ok d (st.take n) else .ok d st)
  else .ok d st
structure Fn where
  np : Nat
  nl : Nat
  body : List S
def fin (n : Nat) : Out (Fl × Rho) → Out D
  | .ok (.ret d, _) st => retn n d st
  | .ok (.nx, _) st => retn n .non st
  | .ex c p st => if clean n st && belows n p then .ex c p (st.take n) else .ex c p st
  | _ => .no
def callF (T : List Fn) (wf : Nat) : Nat → Nat → List D → Sto → Out D
  | 0, _, _, _ => .no
  | k + 1, g, ds, st => match T[g]? with
    | some f => if ds.length = f.np then fin st.length (exSs ⟨callF T wf k, wf, T.length⟩ f.body (ds.map some ++ List.replicate (f.nl - f.np) none) st) else .no
    | none => .no
end Mn
/-! Mn2: how values and stores stand for the layer's values and heaps. -/
namespace Mn
open PySem PySem.Spec PyProof.Rows L2

/-- the written part, where the defs stand, the exception classes: their address, their field -/
structure Ws where
  K : PySem.W.Frag
  fa : Nat → Addr
  ec : Nat → Option (Addr × Option Str)

section
variable (ws : Ws)
/-- a locked list, or a list of the written part -/
def FzL (H : Hp) (a : Addr) (vs : List V) : Prop := (∃ o, H a = some (.frz o (.lst vs))) ∨
  ∃ (o : Obj) (its : Array Value) (n : Nat), ws.K.lookup a = some o ∧ o.cls = .type "list" ∧ o.dict = none ∧ o.data = .seq its n ∧ its.size ≤ sizeLine ∧ Vals vs its.toList
mutual
inductive DV (m : List Addr) (H : Hp) : D → V → Prop where
  | non : DV m H .non .non
  | bl (b : Bool) : DV m H (.bl b) (.bl b)
  | int (i : Int) : DV m H (.int i) (.int i)
  | str (s : List Nat) : DV m H (.str s) (.str ⟨s.toArray⟩)
  | tup {a : Addr} {vs : List V} {xs : List D} : SqT ws.K H a vs → DVs m H xs vs → DV m H (.tup xs) (.ref a)
  | tl {a : Addr} {vs : List V} {xs : List D} : a ∉ m → H a = some (.lst vs) → DVs m H xs vs → DV m H (.tl xs) (.ref a)
  | kl {a : Addr} {vs : List V} {xs : List D} : FzL ws H a vs → DVs m H xs vs → DV m H (.kl xs) (.ref a)
  | il {a : Addr} {o : Obj} {vs : List V} {xs : List D} : H a = some (.frz o (.lst vs)) → DVs m H xs vs → DV m H (.il xs) (.ref a)
  | lr {n : Nat} {a : Addr} : m[n]? = some a → DV m H (.lr n) (.ref a)
  | fn (g : Nat) : DV m H (.fn g) (.ref (ws.fa g))
inductive DVs (m : List Addr) (H : Hp) : List D → List V → Prop where
  | nil : DVs m H [] []
  | cons {d : D} {v : V} {ds : List D} {vs : List V} : DV m H d v → notl d = true → DVs m H ds vs → DVs m H (d :: ds) (v :: vs)
end
def OV (m : List Addr) (H : Hp) : Ob → Addr → Prop
  | .lst xs, a => ∃ vs, H a = some (.lst vs) ∧ DVs ws m H xs vs
structure Rl (m : List Addr) (st : Sto) (H : Hp) : Prop where
  len : m.length = st.length
  nd : m.Nodup
  obj : ∀ (n : Nat) (o : Ob) (a : Addr), st[n]? = some o → m[n]? = some a → OV ws m H o a
def RlE (m : List Addr) (H : Hp) (ρ : Rho) (σ : L2.St) : Prop := ρ.length = σ.length ∧ ∀ (i : Nat) (d : D), ρ[i]? = some (some d) → ∃ v, σ[i]? = some (some v) ∧ DV ws m H d v ∧ notl d = true
end
/-- from one state to a later one -/
structure Step (m : List Addr) (H : Hp) (m' : List Addr) (H' : Hp) : Prop where
  pre : ∃ l, m' = m ++ l
  new : ∀ a, a ∈ m' → a ∉ m → H a = none
  keep : ∀ a o, a ∉ m → H a = some o → H' a = some o
  tups : ∀ a xs, H a = some (.tup xs) → H' a = some (.tup xs)
  frz : ∀ a o u, H a = some (.frz o u) → H' a = some (.frz o u)
  there : ∀ a, H' a = none → H a = none
theorem Step.refl (m : List Addr) (H : Hp) : Step m H m H := ⟨⟨[], by simp⟩, fun _ h n => absurd h n, fun _ _ _ h => h, fun _ _ h => h, fun _ _ _ h => h, fun _ h => h⟩
theorem Step.sub {m m' : List Addr} {H H' : Hp} (s : Step m H m' H') {a : Addr} (h : a ∈ m) : a ∈ m' := by
  obtain ⟨l, e⟩ := s.pre
  rw [e]
  exact List.mem_append_left _ h
theorem Step.notin {m m' : List Addr} {H H' : Hp} (s : Step m H m' H') {a : Addr} {o : HO} (h : a ∉ m) (e : H a = some o) : a ∉ m' := fun h' => by
  have := s.new a h' h
  rw [e] at this
  cases this
theorem Step.trans {m m1 m2 : List Addr} {H H1 H2 : Hp} (a : Step m H m1 H1) (b : Step m1 H1 m2 H2) : Step m H m2 H2 := by
  refine ⟨?_, fun x h n => ?_, fun x o n e => ?_, fun x xs e => b.tups _ _ (a.tups _ _ e), fun x o u e => b.frz _ _ _ (a.frz _ _ _ e), fun x e => a.there x (b.there x e)⟩
  · obtain ⟨l, e⟩ := a.pre
    obtain ⟨l', e'⟩ := b.pre
    exact ⟨l ++ l', by rw [e', e, List.append_assoc]⟩
  · by_cases h1 : x ∈ m1
    · exact a.new x h1 n
    · exact a.there x (b.new x h h1)
  · exact b.keep x o (a.notin n e) (a.keep x o n e)
theorem Step.get {m m' : List Addr} {H H' : Hp} (s : Step m H m' H') {n : Nat} {a : Addr} (h : m[n]? = some a) : m'[n]? = some a := by
  obtain ⟨l, e⟩ := s.pre
  rw [e, List.getElem?_append_left (List.getElem?_eq_some_iff.mp h).1]
  exact h
theorem Step.sqT {K : PySem.W.Frag} {m m' : List Addr} {H H' : Hp} (s : Step m H m' H') {a : Addr} {vs : List V} (h : SqT K H a vs) : SqT K H' a vs := by
  rcases h with (h | ⟨o, h⟩) | h
  · exact .inl (.inl (s.tups _ _ h))
  · exact .inl (.inr ⟨o, s.frz _ _ _ h⟩)
  · exact .inr h
/-- a new object, not in the store -/
theorem Step.alloc {m : List Addr} {H : Hp} {p : Addr} {o : HO} (h : H p = none) : Step m H m (upd H p o) := by
  refine ⟨⟨[], by simp⟩, fun _ h n => absurd h n, fun a u _ e => ?_, fun a xs e => ?_, fun a o u e => ?_, fun a e => ?_⟩
  · rw [upd_ne (ne_of_none e h)]; exact e
  · rw [upd_ne (ne_of_none e h)]; exact e
  · rw [upd_ne (ne_of_none e h)]; exact e
  · by_cases z : a = p
    · rw [z]; exact h
    · rw [upd_ne z] at e; exact e
/-- a list of the store changed -/
theorem Step.write {m : List Addr} {H : Hp} {p : Addr} {vs ws : List V} (hm : p ∈ m) (h : H p = some (.lst vs)) : Step m H m (upd H p (.lst ws)) := by
  have ne : ∀ {a u}, H a = some u → u ≠ .lst vs → a ≠ p := fun {a u} e d z => by subst z; rw [h] at e; exact d (Option.some.inj e).symm
  refine ⟨⟨[], by simp⟩, fun _ h n => absurd h n, fun a u n e => ?_, fun a xs e => ?_, fun a o u e => ?_, fun a e => ?_⟩
  · rw [upd_ne (fun z => n (by rw [z]; exact hm))]; exact e
  · rw [upd_ne (ne e (by intro z; cases z))]; exact e
  · rw [upd_ne (ne e (by intro z; cases z))]; exact e
  · by_cases z : a = p
    · rw [z, upd_same] at e; cases e
    · rw [upd_ne z] at e; exact e
section
variable {ws : Ws} {m m' : List Addr} {H H' : Hp} {st st' : Sto}
theorem FzL.mono {a : Addr} {vs : List V} (s : Step m H m' H') (h : FzL ws H a vs) : FzL ws H' a vs := by
  rcases h with ⟨o, h⟩ | h
  · exact .inl ⟨o, s.frz _ _ _ h⟩
  · exact .inr h
mutual
theorem DV.mono (s : Step m H m' H') : ∀ {d : D} {v : V}, DV ws m H d v → DV ws m' H' d v
  | _, _, .non => .non
  | _, _, .bl b => .bl b
  | _, _, .int i => .int i
  | _, _, .str x => .str x
  | _, _, .tup h r => .tup (s.sqT h) (DVs.mono s r)
  | _, _, .tl n h r => .tl (s.notin n h) (s.keep _ _ n h) (DVs.mono s r)
  | _, _, .kl h r => .kl (FzL.mono s h) (DVs.mono s r)
  | _, _, .il h r => .il (s.frz _ _ _ h) (DVs.mono s r)
  | _, _, .lr h => .lr (s.get h)
  | _, _, .fn g => .fn g
theorem DVs.mono (s : Step m H m' H') : ∀ {ds : List D} {vs : List V}, DVs ws m H ds vs → DVs ws m' H' ds vs
  | _, _, .nil => .nil
  | _, _, .cons h n r => .cons (DV.mono s h) n (DVs.mono s r)
end
theorem DVs.length : ∀ {ds : List D} {vs : List V}, DVs ws m H ds vs → ds.length = vs.length
  | _, _, .nil => rfl
  | _, _, .cons _ _ r => by rw [List.length_cons, List.length_cons, r.length]
theorem DVs.get : ∀ {ds : List D} {vs : List V} {i : Nat} {d : D}, DVs ws m H ds vs → ds[i]? = some d → ∃ v, vs[i]? = some v ∧ DV ws m H d v ∧ notl d = true
  | _, _, _, _, .nil, e => by simp at e
  | _, _, 0, d, .cons h n _, e => by simp at e; subst e; exact ⟨_, rfl, h, n⟩
  | _, _, i + 1, d, .cons _ _ r, e => by
    obtain ⟨v, h1, h2⟩ := DVs.get (i := i) r (by simpa using e)
    exact ⟨v, by simpa using h1, h2⟩
theorem DVs.append : ∀ {ds es : List D} {vs us : List V}, DVs ws m H ds vs → DVs ws m H es us → DVs ws m H (ds ++ es) (vs ++ us)
  | _, _, _, _, .nil, q => q
  | _, _, _, _, .cons h n r, q => .cons h n (r.append q)
theorem DVs.take : ∀ {ds : List D} {vs : List V} (n : Nat), DVs ws m H ds vs → DVs ws m H (ds.take n) (vs.take n)
  | _, _, 0, _ => .nil
  | _, _, _ + 1, .nil => .nil
  | _, _, n + 1, .cons h k r => .cons h k (r.take n)
theorem DVs.drop : ∀ {ds : List D} {vs : List V} (n : Nat), DVs ws m H ds vs → DVs ws m H (ds.drop n) (vs.drop n)
  | _, _, 0, r => r
  | _, _, _ + 1, .nil => .nil
  | _, _, n + 1, .cons _ _ r => r.drop n
theorem DVs.set {d : D} {v : V} (h : DV ws m H d v) (n : notl d = true) : ∀ {ds : List D} {vs : List V} (i : Nat), DVs ws m H ds vs → DVs ws m H (ds.set i d) (vs.set i v)
  | _, _, _, .nil => .nil
  | _, _, 0, .cons _ _ r => .cons h n r
  | _, _, i + 1, .cons k l r => .cons k l (DVs.set h n i r)
theorem DVs.eraseIdx : ∀ {ds : List D} {vs : List V} (i : Nat), DVs ws m H ds vs → DVs ws m H (ds.eraseIdx i) (vs.eraseIdx i)
  | _, _, _, .nil => .nil
  | _, _, 0, .cons _ _ r => r
  | _, _, i + 1, .cons k l r => .cons k l (DVs.eraseIdx i r)
theorem DVs.flat {ds : List D} {vs : List V} (r : DVs ws m H ds vs) : ∀ n : Nat, DVs ws m H (List.replicate n ds).flatten (List.replicate n vs).flatten
  | 0 => .nil
  | n + 1 => by
    rw [List.replicate_succ, List.replicate_succ, List.flatten_cons, List.flatten_cons]
    exact r.append (DVs.flat r n)
theorem DVs.cut {ds : List D} {vs : List V} (r : DVs ws m H ds vs) (lo hi : Option Int) : DVs ws m H (cut ds lo hi) (cutV vs lo hi) := by
  unfold Mn.cut cutV
  rw [r.length]
  exact (r.drop _).take _
theorem FzL.sq {a : Addr} {vs : List V} (h : FzL ws H a vs) : SqL ws.K H a vs := by
  rcases h with ⟨o, h⟩ | h
  · exact .inl (.inr ⟨o, h⟩)
  · exact .inr h
theorem RlE.mono {ρ : Rho} {σ : L2.St} (s : Step m H m' H') (h : RlE ws m H ρ σ) : RlE ws m' H' ρ σ := ⟨h.1, fun i d e => by
  obtain ⟨v, e1, r, n⟩ := h.2 i d e
  exact ⟨v, e1, r.mono s, n⟩⟩
theorem RlE.set {ρ : Rho} {σ : L2.St} {d : D} {v : V} (h : RlE ws m H ρ σ) (r : DV ws m H d v) (n : notl d = true) (i : Nat) : RlE ws m H (ρ.set i (some d)) (σ.set i (some v)) := by
  refine ⟨by simp [h.1], fun j e q => ?_⟩
  by_cases hj : i = j
  · subst hj
    have hi : i < ρ.length := by
      have := (List.getElem?_eq_some_iff.mp q).1
      simpa using this
    rw [List.getElem?_set_self hi] at q
    cases q
    exact ⟨v, List.getElem?_set_self (by rw [← h.1]; exact hi), r, n⟩
  · rw [List.getElem?_set_ne hj] at q
    rw [List.getElem?_set_ne hj]
    exact h.2 j e q
theorem RlE.none {ρ : Rho} {σ : L2.St} (h : RlE ws m H ρ σ) (i : Nat) : RlE ws m H (ρ.set i Option.none) (σ.set i Option.none) := by
  refine ⟨by simp [h.1], fun j e q => ?_⟩
  by_cases hj : i = j
  · subst hj
    have hi : i < ρ.length := by
      have := (List.getElem?_eq_some_iff.mp q).1
      simpa using this
    rw [List.getElem?_set_self hi] at q
    cases q
  · rw [List.getElem?_set_ne hj] at q
    rw [List.getElem?_set_ne hj]
    exact h.2 j e q
theorem RlE.wipe {ρ : Rho} {σ : L2.St} (h : RlE ws m H ρ σ) : ∀ own : List Nat, RlE ws m H (Mn.wipe ρ own) (L2.wipe σ own)
  | [] => h
  | v :: vs => RlE.none (RlE.wipe h vs) v
/-- all that the store's lists say stays -/
theorem Rl.mono (r : Rl ws m st H) (s : Step m H m H') (k : ∀ (n : Nat) (o : Ob) (a : Addr), st[n]? = some o → m[n]? = some a → ∀ vs, H a = some (.lst vs) → H' a = some (.lst vs)) : Rl ws m st H' := by
  refine ⟨r.len, r.nd, fun n o a e1 e2 => ?_⟩
  have q := r.obj n o a e1 e2
  cases o with
  | lst xs =>
    obtain ⟨vs, h, t⟩ := q
    exact ⟨vs, k n _ a e1 e2 vs h, t.mono s⟩
theorem Rl.alloc {p : Addr} {o : HO} (r : Rl ws m st H) (h : H p = none) : Rl ws m st (upd H p o) := r.mono (Step.alloc h) fun n u a _ _ vs e => by
  rw [upd_ne (ne_of_none e h)]
  exact e
theorem Rl.at (r : Rl ws m st H) {n : Nat} {o : Ob} (e : st[n]? = some o) : ∃ a, m[n]? = some a ∧ OV ws m H o a := by
  have hn : n < m.length := by
    rw [r.len]
    exact (List.getElem?_eq_some_iff.mp e).1
  exact ⟨m[n], List.getElem?_eq_getElem hn, r.obj n o _ e (List.getElem?_eq_getElem hn)⟩
theorem nodup_eq {l : List Addr} (h : l.Nodup) {i j : Nat} {a : Addr} (e1 : l[i]? = some a) (e2 : l[j]? = some a) : i = j := by
  obtain ⟨h1, q1⟩ := List.getElem?_eq_some_iff.mp e1
  obtain ⟨h2, q2⟩ := List.getElem?_eq_some_iff.mp e2
  exact (List.getElem_inj h).mp (q1.trans q2.symm)
theorem Rl.free {p : Addr} (r : Rl ws m st H) (h : H p = none) : p ∉ m := fun hm => by
  obtain ⟨n, hn⟩ := List.mem_iff_getElem?.mp hm
  have h1 : n < st.length := by
    rw [← r.len]
    exact (List.getElem?_eq_some_iff.mp hn).1
  have q := r.obj n _ p (List.getElem?_eq_getElem h1) hn
  cases e : st[n] with
  | lst xs =>
    rw [e] at q
    obtain ⟨vs, z, _⟩ := q
    rw [h] at z
    cases z
/-- a list of the store is changed -/
theorem Rl.write {n : Nat} {a : Addr} {xs ys : List D} {vs us : List V} (r : Rl ws m st H) (e : st[n]? = some (.lst xs)) (ha : m[n]? = some a) (hH : H a = some (.lst vs)) (t : DVs ws m H ys us) : Rl ws m (st.set n (.lst ys)) (upd H a (.lst us)) := by
  have hm : a ∈ m := List.mem_of_getElem? ha
  have s : Step m H m (upd H a (.lst us)) := Step.write hm hH
  have hn : n < st.length := (List.getElem?_eq_some_iff.mp e).1
  refine ⟨by simp [r.len], r.nd, fun k o b e1 e2 => ?_⟩
  by_cases hk : n = k
  · subst hk
    rw [ha] at e2
    cases e2
    rw [List.getElem?_set_self hn] at e1
    cases e1
    exact ⟨us, upd_same, t.mono s⟩
  · rw [List.getElem?_set_ne hk] at e1
    have hb : b ≠ a := fun z => hk (nodup_eq r.nd ha (z ▸ e2))
    have q := r.obj k o b e1 e2
    cases o with
    | lst zs =>
      obtain ⟨ws', h, t'⟩ := q
      exact ⟨ws', by rw [upd_ne hb]; exact h, t'.mono s⟩
/-- lists that are kept: the store's addresses may grow -/
theorem Step.more {l : List Addr} (s : Step m H m' H') (f : ∀ a ∈ l, H a = none) : Step m H (m' ++ l) H' := by
  refine ⟨?_, fun a h n => ?_, s.keep, s.tups, s.frz, s.there⟩
  · obtain ⟨k, e⟩ := s.pre
    exact ⟨k ++ l, by rw [e, List.append_assoc]⟩
  · rcases List.mem_append.mp h with h | h
    · exact s.new a h n
    · exact f a h
mutual
theorem DV.up (l : List Addr) : ∀ {d : D} {v : V}, notl d = true → DV ws m H d v → DV ws (m ++ l) H d v
  | _, _, _, .non => .non
  | _, _, _, .bl b => .bl b
  | _, _, _, .int i => .int i
  | _, _, _, .str x => .str x
  | _, _, _, .tup h r => .tup h (DVs.up l r)
  | _, _, n, .tl _ _ _ => by cases n
  | _, _, _, .kl h r => .kl h (DVs.up l r)
  | _, _, _, .il h r => .il h (DVs.up l r)
  | _, _, _, .lr h => .lr (by rw [List.getElem?_append_left (List.getElem?_eq_some_iff.mp h).1]; exact h)
  | _, _, _, .fn g => .fn g
theorem DVs.up (l : List Addr) : ∀ {ds : List D} {vs : List V}, DVs ws m H ds vs → DVs ws (m ++ l) H ds vs
  | _, _, .nil => .nil
  | _, _, .cons h n r => .cons (DV.up l n h) n (DVs.up l r)
end
theorem RlE.up {ρ : Rho} {σ : L2.St} (l : List Addr) (h : RlE ws m H ρ σ) : RlE ws (m ++ l) H ρ σ := ⟨h.1, fun i d e => by
  obtain ⟨v, e1, r, n⟩ := h.2 i d e
  exact ⟨v, e1, r.up l n, n⟩⟩
/-- a list just made goes into the store -/
theorem Rl.put {a : Addr} {xs : List D} {vs : List V} (r : Rl ws m st H) (n : a ∉ m) (e : H a = some (.lst vs)) (t : DVs ws m H xs vs) : Rl ws (m ++ [a]) (st ++ [.lst xs]) H := by
  refine ⟨by simp [r.len], ?_, fun k o b e1 e2 => ?_⟩
  · refine List.nodup_append.mpr ⟨r.nd, by simp, fun x hx y hy => ?_⟩
    have : y = a := by simpa using hy
    rw [this]
    rintro rfl
    exact n hx
  · by_cases hk : k < st.length
    · rw [List.getElem?_append_left hk] at e1
      rw [List.getElem?_append_left (by rw [r.len]; exact hk)] at e2
      have q := r.obj k o b e1 e2
      cases o with
      | lst zs =>
        obtain ⟨us, h, t'⟩ := q
        exact ⟨us, h, t'.up _⟩
    · have hk' : k = st.length := by
        have := (List.getElem?_eq_some_iff.mp e1).1
        simp at this
        omega
      subst hk'
      rw [← r.len] at e2
      simp at e1 e2
      subst e1 e2
      exact ⟨vs, e, t.up _⟩
end
/-! ### what a run leaves -/
/-- a list just made was not there -/
def Fr (H : Hp) (d : D) (v : V) : Prop := notl d = false → ∀ a, v = .ref a → H a = none
abbrev RD (ws : Ws) (H0 : Hp) (m : List Addr) (H : Hp) (d : D) (v : V) : Prop := DV ws m H d v ∧ Fr H0 d v
/-- the addresses of the lists just made, among arguments -/
def tls : List D → List V → List Addr
  | .tl _ :: ds, .ref a :: vs => a :: tls ds vs
  | _ :: ds, _ :: vs => tls ds vs
  | _, _ => []
inductive DAs (ws : Ws) (m : List Addr) (H : Hp) : List D → List V → Prop where
  | nil : DAs ws m H [] []
  | cons {d : D} {v : V} {ds : List D} {vs : List V} : DV ws m H d v → DAs ws m H ds vs → DAs ws m H (d :: ds) (v :: vs)
structure RA (ws : Ws) (H0 : Hp) (m : List Addr) (H : Hp) (ds : List D) (vs : List V) : Prop where
  as : DAs ws m H ds vs
  nd : (tls ds vs).Nodup
  fr : ∀ a ∈ tls ds vs, H0 a = none
section
variable {ws : Ws} {m m' m1 : List Addr} {H H' H0 H1 : Hp} {st st' : Sto}
theorem DAs.mono (s : Step m H m' H') : ∀ {ds : List D} {vs : List V}, DAs ws m H ds vs → DAs ws m' H' ds vs
  | _, _, .nil => .nil
  | _, _, .cons h r => .cons (h.mono s) (DAs.mono s r)
theorem DAs.length : ∀ {ds : List D} {vs : List V}, DAs ws m H ds vs → ds.length = vs.length
  | _, _, .nil => rfl
  | _, _, .cons _ r => by rw [List.length_cons, List.length_cons, r.length]
theorem tls_there : ∀ {ds : List D} {vs : List V}, DAs ws m H ds vs → ∀ a ∈ tls ds vs, a ∉ m ∧ ∃ us, H a = some (.lst us)
  | _, _, .nil, a, h => by simp [tls] at h
  | _, _, .cons (ds := ds) (vs := vs) h r, a, ha => by
    cases h with
    | tl n e t =>
      rcases List.mem_cons.mp ha with rfl | ha
      · exact ⟨n, _, e⟩
      · exact tls_there r a ha
    | non => exact tls_there r a ha
    | bl b => exact tls_there r a ha
    | int i => exact tls_there r a ha
    | str x => exact tls_there r a ha
    | tup _ _ => exact tls_there r a ha
    | kl _ _ => exact tls_there r a ha
    | il _ _ => exact tls_there r a ha
    | lr _ => exact tls_there r a ha
    | fn _ => exact tls_there r a ha
theorem RA.cons {d : D} {v : V} {ds : List D} {vs : List V} (h : RD ws H0 m H d v) (s : Step m H m' H') (s0 : ∀ a, H a = none → H0 a = none) (r : RA ws H m' H' ds vs) : RA ws H0 m' H' (d :: ds) (v :: vs) := by
  have hd := h.1.mono s
  refine ⟨.cons hd r.as, ?_, ?_⟩
  · cases hq : h.1 with
    | tl n e t =>
      refine List.nodup_cons.mpr ⟨fun z => ?_, r.nd⟩
      have := r.fr _ z
      rw [e] at this
      cases this
    | _ => exact r.nd
  · cases hq : h.1 with
    | tl n e t =>
      intro a ha
      rcases List.mem_cons.mp ha with rfl | ha
      · exact h.2 rfl _ rfl
      · exact s0 a (r.fr a ha)
    | _ => exact fun a ha => s0 a (r.fr a ha)
/-- one value kept -/
theorem mat_ok {d : D} {v : V} (r : Rl ws m st H) (h : DV ws m H d v) : Rl ws (m ++ tls [d] [v]) (mat d st).2 H ∧ DV ws (m ++ tls [d] [v]) H (mat d st).1 v ∧ notl (mat d st).1 = true := by
  cases h with
  | tl n e t =>
    refine ⟨r.put n e t, .lr ?_, rfl⟩
    rw [← r.len]
    simp [tls]
  | non => exact ⟨by simpa [tls, mat] using r, .non, rfl⟩
  | bl b => exact ⟨by simpa [tls, mat] using r, .bl b, rfl⟩
  | int i => exact ⟨by simpa [tls, mat] using r, .int i, rfl⟩
  | str x => exact ⟨by simpa [tls, mat] using r, .str x, rfl⟩
  | tup a b => exact ⟨by simpa [tls, mat] using r, by simpa [tls, mat] using DV.tup a b, rfl⟩
  | kl a b => exact ⟨by simpa [tls, mat] using r, by simpa [tls, mat] using DV.kl a b, rfl⟩
  | il a b => exact ⟨by simpa [tls, mat] using r, by simpa [tls, mat] using DV.il a b, rfl⟩
  | lr a => exact ⟨by simpa [tls, mat] using r, by simpa [tls, mat] using DV.lr a, rfl⟩
  | fn g => exact ⟨by simpa [tls, mat] using r, .fn g, rfl⟩
theorem tls_cons (d : D) (v : V) (ds : List D) (vs : List V) : tls (d :: ds) (v :: vs) = tls [d] [v] ++ tls ds vs := by
  cases d <;> cases v <;> simp [tls]
theorem DAs.up {l : List Addr} : ∀ {ds : List D} {vs : List V}, DAs ws m H ds vs → (∀ a ∈ tls ds vs, a ∉ l) → DAs ws (m ++ l) H ds vs
  | _, _, .nil, _ => .nil
  | d :: ds, v :: vs, .cons h r, f => by
    rw [tls_cons] at f
    refine .cons ?_ (DAs.up r fun a ha => f a (List.mem_append_right _ ha))
    cases h with
    | tl n e t =>
      refine .tl (fun z => ?_) e (t.up _)
      rcases List.mem_append.mp z with z | z
      · exact n z
      · exact f _ (by simp [tls]) z
    | non => exact .non
    | bl b => exact .bl b
    | int i => exact .int i
    | str x => exact .str x
    | tup a b => exact .tup a (b.up _)
    | kl a b => exact .kl a (b.up _)
    | il a b => exact .il a (b.up _)
    | lr a => exact .lr (by rw [List.getElem?_append_left (List.getElem?_eq_some_iff.mp a).1]; exact a)
    | fn g => exact .fn g
/-- .. several -/
theorem mats_ok : ∀ {ds : List D} {vs : List V} {m : List Addr} {st : Sto}, Rl ws m st H → DAs ws m H ds vs → (tls ds vs).Nodup → Rl ws (m ++ tls ds vs) (mats ds st).2 H ∧ DVs ws (m ++ tls ds vs) H (mats ds st).1 vs
  | _, _, m, st, r, .nil, _ => by simpa [tls, mats] using ⟨r, DVs.nil⟩
  | d :: ds, v :: vs, m, st, r, .cons h t, n => by
    rw [tls_cons] at n ⊢
    obtain ⟨n1, n2, n3⟩ := List.nodup_append.mp n
    obtain ⟨r1, h1, k1⟩ := mat_ok r h
    obtain ⟨r2, h2⟩ := mats_ok r1 (t.up fun a ha z => n3 a z a ha rfl) n2
    rw [← List.append_assoc]
    exact ⟨r2, .cons (h1.up _ k1) k1 h2⟩
theorem tls_one {d : D} {v : V} (h : Fr H0 d v) : ∀ a ∈ tls [d] [v], H0 a = none := fun a ha => by
  cases d with
  | tl xs =>
    cases v with
    | ref b =>
      have : a = b := by simpa [tls] using ha
      rw [this]
      exact h rfl b rfl
    | _ => simp [tls] at ha
  | _ => cases v <;> simp [tls] at ha
end
end Mn
/-! Mn3: the operations are the model's. -/
namespace Mn
open PySem PySem.Spec PyProof.Rows L2

/-- what a context must have for the operations -/
structure Gp (ws : Ws) (X : Cx) : Prop where
  K : X.K = ws.K
  calm : X.calm = true
  units : X.A.units + 66 < cLine

/-- an operation at values, asked by the small run -/
def rP (ws : Ws) (p : Pr) : List V → Hp → VK → Prop := fun vs H Q => ∃ (H0 : Hp) (m0 m : List Addr) (st : Sto) (ds : List D) (d : D) (st' : Sto), Step m0 H0 m H ∧ Rl ws m st H ∧ RA ws H0 m H ds vs ∧
  semP p ds st = some (d, st') ∧ ∀ m' H' v, Step m0 H0 m' H' → Rl ws m' st' H' → RD ws H0 m' H' d v → Q v H'
abbrev rP2 (ws : Ws) (p : Pr) : R2 := fun x y H Q => rP ws p [x, y] H Q

section
variable {ws : Ws} {X : Cx} {H0 H : Hp} {m0 m : List Addr} {st : Sto} {d a b : D} {x y v : V} {Q : VK}
theorem fr_of (h : notl d = true) : Fr H0 d v := fun h' => by rw [h] at h'; cases h'
theorem DAs.one {ds : List D} (h : DAs ws m H ds [x]) : ∃ a, ds = [a] ∧ DV ws m H a x := by
  cases h with
  | cons h t => cases t; exact ⟨_, rfl, h⟩
theorem DAs.two {ds : List D} (h : DAs ws m H ds [x, y]) : ∃ a b, ds = [a, b] ∧ DV ws m H a x ∧ DV ws m H b y := by
  cases h with
  | cons h t =>
    obtain ⟨b, rfl, h2⟩ := t.one
    exact ⟨_, b, rfl, h, h2⟩

/-! ### lists and tuples as they are read -/
theorem lst_ok (r : Rl ws m st H) (h : DV ws m H a x) {xs : List D} (e : lstOf st a = some xs) : ∃ p vs, x = .ref p ∧ SqL ws.K H p vs ∧ DVs ws m H xs vs := by
  cases h with
  | tl n q t => cases e; exact ⟨_, _, rfl, SqL.of q, t⟩
  | kl q t => cases e; exact ⟨_, _, rfl, q.sq, t⟩
  | il q t => cases e; exact ⟨_, _, rfl, .inl (.inr ⟨_, q⟩), t⟩
  | lr q =>
    rename_i n p
    simp only [lstOf] at e
    cases h1 : st[n]? with
    | none => rw [h1] at e; cases e
    | some o =>
      cases o with
      | lst ys =>
        rw [h1] at e
        cases e
        obtain ⟨p', q', vs, z, t⟩ := r.at h1
        rw [q] at q'
        cases q'
        exact ⟨p, vs, rfl, SqL.of z, t⟩
  | non => cases e
  | bl _ => cases e
  | int _ => cases e
  | str _ => cases e
  | tup _ _ => cases e
  | fn _ => cases e
theorem mlst_ok (r : Rl ws m st H) (h : DV ws m H a x) {xs : List D} (e : mlOf st a = some xs) : ∃ p vs, x = .ref p ∧ H p = some (.lst vs) ∧ DVs ws m H xs vs := by
  cases h with
  | tl n q t => cases e; exact ⟨_, _, rfl, q, t⟩
  | lr q =>
    rename_i n p
    simp only [mlOf] at e
    cases h1 : st[n]? with
    | none => rw [h1] at e; cases e
    | some o =>
      cases o with
      | lst ys =>
        rw [h1] at e
        cases e
        obtain ⟨p', q', vs, z, t⟩ := r.at h1
        rw [q] at q'
        cases q'
        exact ⟨p, vs, rfl, z, t⟩
  | kl _ _ => cases e
  | il _ _ => cases e
  | non => cases e
  | bl _ => cases e
  | int _ => cases e
  | str _ => cases e
  | tup _ _ => cases e
  | fn _ => cases e
theorem rd_ok (r : Rl ws m st H) (h : DV ws m H a x) {xs : List D} (e : rdOf st a = some xs) : ∃ p vs, x = .ref p ∧ Rd H p (.lst vs) ∧ DVs ws m H xs vs := by
  cases h with
  | il q t => cases e; exact ⟨_, _, rfl, .inr ⟨_, q⟩, t⟩
  | non => cases e
  | bl _ => cases e
  | int _ => cases e
  | str _ => cases e
  | tup _ _ => cases e
  | fn _ => cases e
  | kl _ _ => cases e
  | tl n q t => obtain ⟨p, vs, h1, h2, h3⟩ := mlst_ok r (.tl n q t) e; exact ⟨p, vs, h1, .inl h2, h3⟩
  | lr q => obtain ⟨p, vs, h1, h2, h3⟩ := mlst_ok r (.lr q) e; exact ⟨p, vs, h1, .inl h2, h3⟩
theorem seq_ok (r : Rl ws m st H) (h : DV ws m H a x) {xs : List D} (e : seqOf st a = some xs) : ∃ p vs, x = .ref p ∧ ((SqL ws.K H p vs ∧ ∀ ys, a ≠ .tup ys) ∨ (SqT ws.K H p vs ∧ a = .tup xs)) ∧ DVs ws m H xs vs := by
  cases h with
  | tup q t => cases e; exact ⟨_, _, rfl, .inr ⟨q, rfl⟩, t⟩
  | non => cases e
  | bl _ => cases e
  | int _ => cases e
  | str _ => cases e
  | fn _ => cases e
  | tl n q t => cases e; exact ⟨_, _, rfl, .inl ⟨SqL.of q, fun _ h => by cases h⟩, t⟩
  | kl q t => cases e; exact ⟨_, _, rfl, .inl ⟨q.sq, fun _ h => by cases h⟩, t⟩
  | il q t => cases e; exact ⟨_, _, rfl, .inl ⟨.inl (.inr ⟨_, q⟩), fun _ h => by cases h⟩, t⟩
  | lr q =>
    obtain ⟨p, vs, h1, h2, h3⟩ := lst_ok r (.lr q) e
    exact ⟨p, vs, h1, .inl ⟨h2, fun _ h => by cases h⟩, h3⟩

/-! ### the three ends -/
theorem end_sc (s0 : Step m0 H0 m H) (r : Rl ws m st H) (h : DV ws m H d v) (n : notl d = true) (k : ∀ m' H' v, Step m0 H0 m' H' → Rl ws m' st H' → RD ws H0 m' H' d v → Q v H') : Q v H := k m H v s0 r ⟨h, fr_of n⟩
theorem end_tup {xs : List D} {vs : List V} (s0 : Step m0 H0 m H) (r : Rl ws m st H) (t : DVs ws m H xs vs) (k : ∀ m' H' v, Step m0 H0 m' H' → Rl ws m' st H' → RD ws H0 m' H' (.tup xs) v → Q v H') : ∀ p, H p = none → Q (.ref p) (upd H p (.tup vs)) :=
  fun p hp => k m _ _ (s0.trans (Step.alloc hp)) (r.alloc hp) ⟨.tup (SqT.of upd_same) (t.mono (Step.alloc hp)), fr_of rfl⟩
theorem end_tl {xs : List D} {vs : List V} (s0 : Step m0 H0 m H) (r : Rl ws m st H) (t : DVs ws m H xs vs) (k : ∀ m' H' v, Step m0 H0 m' H' → Rl ws m' st H' → RD ws H0 m' H' (.tl xs) v → Q v H') : ∀ p, H p = none → Q (.ref p) (upd H p (.lst vs)) :=
  fun p hp => k m _ _ (s0.trans (Step.alloc hp)) (r.alloc hp) ⟨.tl (r.free hp) upd_same (t.mono (Step.alloc hp)), fun _ a e => by cases e; exact s0.there p hp⟩

/-! ### data, for == -/
theorem mapO_ok {α β : Type} {f : α → Option β} : ∀ {xs : List α} {ys : List β}, mapO f xs = some ys → Paired (fun x y => f x = some y) xs ys
  | [], ys, e => by cases e; exact .nil
  | x :: xs, ys, e => by
    unfold mapO at e
    cases h1 : f x with
    | none => rw [h1] at e; cases e
    | some y =>
      cases h2 : mapO f xs with
      | none => rw [h1, h2] at e; cases e
      | some zs => rw [h1, h2] at e; cases e; exact .cons h1 (mapO_ok h2)
theorem strOk_shape (s : Str) (h : PySem.PyData.strOk s = true) : PyData.canLay0 (.str s) = true := by
  unfold PyData.canLay0
  exact h
theorem toP_ok (r : Rl ws m st H) : ∀ (n : Nat) {a : D} {x : V} {p : PyData}, DV ws m H a x → toP st n a = some p → Dp ws.K H x p ∧ p.canLay0 = true ∧ p.depth ≤ n := by
  intro n
  induction n with
  | zero => intro a x p _ e; cases e
  | succ n ih =>
    have many : ∀ {xs : List D} {vs : List V} {ps : List PyData}, DVs ws m H xs vs → Paired (fun x y => toP st n x = some y) xs ps → DpAll ws.K H vs ps ∧ PyData.canLayAll0 ps = true ∧ PyData.depthAll ps ≤ n := by
      intro xs vs ps t q
      induction q generalizing vs with
      | nil => cases t; exact ⟨.nil, by simp [PyData.canLayAll0], by simp [PyData.depthAll]⟩
      | cons h _ ih2 =>
        cases t with
        | cons hd _ tl =>
          obtain ⟨a1, a2, a3⟩ := ih hd h
          obtain ⟨b1, b2, b3⟩ := ih2 tl
          exact ⟨.cons a1 b1, by simp [PyData.canLayAll0, a2, b2], by simp only [PyData.depthAll]; omega⟩
    intro a x p h e
    have lists : ∀ {xs : List D} {ps : List PyData}, lstOf st a = some xs → mapO (toP st n) xs = some ps → p = .list ps → Dp ws.K H x p ∧ p.canLay0 = true ∧ p.depth ≤ n + 1 := by
      intro xs ps e1 h2 e3
      obtain ⟨q, vs, rfl, sq, t⟩ := lst_ok r h e1
      subst e3
      obtain ⟨c1, c2, c3⟩ := many t (mapO_ok h2)
      exact ⟨.lst sq c1, by simpa [PyData.canLay0] using c2, by simp only [PyData.depth]; omega⟩
    cases h with
    | non => cases e; exact ⟨.non, by simp [PyData.canLay0], by simp [PyData.depth]⟩
    | bl b => cases e; exact ⟨.bl b, by simp [PyData.canLay0], by simp [PyData.depth]⟩
    | int i => cases e; exact ⟨.int i, by simp [PyData.canLay0], by simp [PyData.depth]⟩
    | str s =>
      simp only [toP] at e
      split at e
      · rename_i hs
        cases e
        exact ⟨.str _, strOk_shape _ hs, by simp [PyData.depth]⟩
      · cases e
    | tup sq t =>
      rename_i q vs xs
      simp only [toP] at e
      cases h2 : mapO (toP st n) xs with
      | none => rw [h2] at e; cases e
      | some ps =>
        rw [h2] at e
        cases e
        obtain ⟨c1, c2, c3⟩ := many t (mapO_ok h2)
        exact ⟨.tup sq c1, by simpa [PyData.canLay0] using c2, by simp only [PyData.depth]; omega⟩
    | fn g => simp [toP] at e
    | tl a b c =>
      rename_i _ _ xs
      simp only [toP, lstOf] at e
      cases h2 : mapO (toP st n) xs with
      | none => rw [h2] at e; cases e
      | some ps => rw [h2] at e; cases e; exact lists rfl h2 rfl
    | il a b =>
      rename_i _ _ _ xs
      simp only [toP, lstOf] at e
      cases h2 : mapO (toP st n) xs with
      | none => rw [h2] at e; cases e
      | some ps => rw [h2] at e; cases e; exact lists rfl h2 rfl
    | kl a b =>
      rename_i _ _ xs
      simp only [toP, lstOf] at e
      cases h2 : mapO (toP st n) xs with
      | none => rw [h2] at e; cases e
      | some ps => rw [h2] at e; cases e; exact lists rfl h2 rfl
    | lr a =>
      rename_i k _
      simp only [toP] at e
      cases h1 : lstOf st (D.lr k) with
      | none => rw [h1] at e; cases e
      | some xs =>
        rw [h1] at e
        cases h2 : mapO (toP st n) xs with
        | none => simp only [h2] at e; cases e
        | some ps => simp only [h2] at e; cases e; exact lists h1 h2 rfl
theorem toPs_ok (r : Rl ws m st H) {n : Nat} {xs : List D} {vs : List V} {ps : List PyData} (t : DVs ws m H xs vs) (e : mapO (toP st n) xs = some ps) : DpAll ws.K H vs ps ∧ PyData.canLayAll0 ps = true ∧ PyData.depthAll ps ≤ n := by
  have q := mapO_ok e
  induction q generalizing vs with
  | nil => cases t; exact ⟨.nil, by simp [PyData.canLayAll0], by simp [PyData.depthAll]⟩
  | @cons x y xs' ys' h h2 ih =>
    cases t with
    | cons hd _ tl =>
      obtain ⟨a1, a2, a3⟩ := toP_ok r n hd h
      have e' : mapO (toP st n) xs' = some ys' := by
        unfold mapO at e
        rw [h] at e
        cases z : mapO (toP st n) xs' with
        | none => rw [z] at e; cases e
        | some zs => rw [z] at e; cases e; rfl
      obtain ⟨b1, b2, b3⟩ := ih tl e'
      exact ⟨.cons a1 b1, by simp [PyData.canLayAll0, a2, b2], by simp only [PyData.depthAll]; omega⟩
theorem shaped_of {p : PyData} (h : p.canLay0 = true) (k : p.depth ≤ 16) : SeqAt.shaped p = true := by
  unfold SeqAt.shaped
  rw [h, Bool.true_and]
  exact decide_eq_true (by omega)
theorem eqD_ok (r : Rl ws m st H) (ha : DV ws m H a x) (hb : DV ws m H b y) {k : Bool} (e : eqD st a b = some k) : ∃ p q, Dp ws.K H x p ∧ Dp ws.K H y q ∧ SeqAt.shaped p = true ∧ SeqAt.shaped q = true ∧ PyData.eqv p q = k := by
  have gen : (match toP st 16 a, toP st 16 b with | some p, some q => some (PyData.eqv p q) | _, _ => none) = some k → ∃ p q, Dp ws.K H x p ∧ Dp ws.K H y q ∧ SeqAt.shaped p = true ∧ SeqAt.shaped q = true ∧ PyData.eqv p q = k := by
    intro e
    cases h1 : toP st 16 a with
    | none => rw [h1] at e; cases e
    | some p =>
      cases h2 : toP st 16 b with
      | none => rw [h1, h2] at e; cases e
      | some q =>
        rw [h1, h2] at e
        cases e
        obtain ⟨a1, a2, a3⟩ := toP_ok r 16 ha h1
        obtain ⟨b1, b2, b3⟩ := toP_ok r 16 hb h2
        exact ⟨p, q, a1, b1, shaped_of a2 a3, shaped_of b2 b3, rfl⟩
  unfold eqD at e
  split at e
  · cases ha; cases hb; cases e
    exact ⟨_, _, .int _, .int _, rfl, rfl, by simp only [PyData.eqv]; rfl⟩
  · cases ha; cases hb; cases e
    exact ⟨_, _, .bl _, .bl _, rfl, rfl, by simp only [PyData.eqv]; rename_i i j; cases i <;> cases j <;> rfl⟩
  · cases ha; cases hb; cases e
    exact ⟨_, _, .non, .non, rfl, rfl, by simp only [PyData.eqv]⟩
  · exact gen e
end
end Mn
/-! Mn4: the operations are the model's (operators, built-ins, methods). -/
namespace Mn
open PySem PySem.Spec PyProof.Rows L2
section
variable {ws : Ws} {X : Cx}

/-! ### arithmetic -/
theorem fdiv_any : OpR X (binaryOp .FloorDiv) (rI (fun _ j => j ≠ 0 ∧ j.natAbs.log2 < 9000) fun i j => .int (i.fdiv j)) := opI fun i j _ _ _ _ _ hc q =>
  floordiv_int hc.1 q (.inl (PyProof.noPylong_of_log2 hc.2))
theorem ifdiv_any : OpR X (inplaceOp .FloorDiv) (rI (fun _ j => j ≠ 0 ∧ j.natAbs.log2 < 9000) fun i j => .int (i.fdiv j)) := opI fun i j _ _ _ _ _ hc q =>
  ifloordiv_int hc.1 q (.inl (PyProof.noPylong_of_log2 hc.2))
theorem imod_any : OpR X (inplaceOp .Mod) (rI (fun _ j => j ≠ 0) fun i j => .int (i.fmod j)) := opI fun _ _ _ _ _ _ _ hc q => imod_int hc q
theorem imul_any : OpR X (inplaceOp .Mult) (rI CMulX fun i j => .int (i * j)) := opI fun _ _ _ _ _ _ _ hc q => imul_int q hc.ok
theorem cmulx {i j : Int} (h : Builtin.Int.intBits i + Builtin.Int.intBits j ≤ 134217728) : CMulX i j := by
  unfold CMulX
  omega

/-- an operator on ints alone -/
theorem or_ints {f : Value → Value → Sem Value} {p : Pr} {C : Int → Int → Prop} {g : Int → Int → V} (hf : OpR X f (rI C g))
    (h2 : ∀ a b st r, sem2 p a b st = some r → ∃ i j d, a = .int i ∧ b = .int j ∧ semI p i j = some d ∧ r = (d, st))
    (hI : ∀ i j d, semI p i j = some d → C i j ∧ notl d = true ∧ ∀ m H, DV ws m H d (g i j)) (hp : ∀ a b st, semP p [a, b] st = sem2 p a b st) : OpR X f (rP2 ws p) := by
  intro pins s σ H x y v u Q I rx ry h
  obtain ⟨H0, m0, m, st, ds, d, st', s0, r, ra, e, k⟩ := h
  obtain ⟨a, b, rfl, ha, hb⟩ := ra.as.two
  rw [hp] at e
  obtain ⟨i, j, d', rfl, rfl, e1, e2⟩ := h2 _ _ _ _ e
  cases e2
  cases ha
  cases hb
  obtain ⟨c, n, hd⟩ := hI _ _ _ e1
  exact hf pins s σ H _ _ v u Q I rx ry ⟨i, j, rfl, rfl, c, end_sc s0 r (hd m H) n k⟩
theorem inv_ints {p : Pr} (h1 : p = .sub ∨ p = .fdiv ∨ p = .mod ∨ p = .lt ∨ p = .le ∨ p = .gt ∨ p = .ge ∨ p = .max2 ∨ p = .min2 ∨ p = .xor) : ∀ a b st r, sem2 p a b st = some r → ∃ i j d, a = .int i ∧ b = .int j ∧ semI p i j = some d ∧ r = (d, st) := by
  intro a b st r e
  rcases h1 with rfl | rfl | rfl | rfl | rfl | rfl | rfl | rfl | rfl | rfl <;>
  · simp only [sem2] at e
    split at e
    · rename_i i j
      split at e
      · rename_i d hd
        cases e
        exact ⟨i, j, d, rfl, rfl, hd, rfl⟩
      · cases e
    all_goals cases e
theorem or_sub : OpR X (binaryOp .Sub) (rP2 ws .sub) := or_ints (C := fun _ _ => True) (g := fun i j => .int (i - j)) (fun pins s σ H x y v u Q I rx ry ⟨i, j, a, b, _, q⟩ => op_sub pins s σ H x y v u Q I rx ry ⟨i, j, a, b, q⟩) (inv_ints (by simp))
  (fun i j d e => by cases e; exact ⟨trivial, rfl, fun _ _ => .int _⟩) fun _ _ _ => rfl
theorem or_lt : OpR X (compareOp .Lt) (rP2 ws .lt) := or_ints (C := fun _ _ => True) (g := fun i j => .bl (decide (i < j))) (fun pins s σ H x y v u Q I rx ry ⟨i, j, a, b, _, q⟩ => op_lt pins s σ H x y v u Q I rx ry ⟨i, j, a, b, q⟩) (inv_ints (by simp))
  (fun i j d e => by cases e; exact ⟨trivial, rfl, fun _ _ => .bl _⟩) fun _ _ _ => rfl
theorem or_le : OpR X (compareOp .LtE) (rP2 ws .le) := or_ints (C := fun _ _ => True) (g := fun i j => .bl (decide (i ≤ j))) (fun pins s σ H x y v u Q I rx ry ⟨i, j, a, b, _, q⟩ => op_le pins s σ H x y v u Q I rx ry ⟨i, j, a, b, q⟩) (inv_ints (by simp))
  (fun i j d e => by cases e; exact ⟨trivial, rfl, fun _ _ => .bl _⟩) fun _ _ _ => rfl
theorem or_gt : OpR X (compareOp .Gt) (rP2 ws .gt) := or_ints (C := fun _ _ => True) (g := fun i j => .bl (decide (j < i))) (fun pins s σ H x y v u Q I rx ry ⟨i, j, a, b, _, q⟩ => op_gt pins s σ H x y v u Q I rx ry ⟨i, j, a, b, q⟩) (inv_ints (by simp))
  (fun i j d e => by cases e; exact ⟨trivial, rfl, fun _ _ => .bl _⟩) fun _ _ _ => rfl
theorem or_ge : OpR X (compareOp .GtE) (rP2 ws .ge) := or_ints (C := fun _ _ => True) (g := fun i j => .bl (decide (j ≤ i))) (fun pins s σ H x y v u Q I rx ry ⟨i, j, a, b, _, q⟩ => op_ge pins s σ H x y v u Q I rx ry ⟨i, j, a, b, q⟩) (inv_ints (by simp))
  (fun i j d e => by cases e; exact ⟨trivial, rfl, fun _ _ => .bl _⟩) fun _ _ _ => rfl
theorem or_fdiv : OpR X (binaryOp .FloorDiv) (rP2 ws .fdiv) := or_ints fdiv_any (inv_ints (by simp))
  (fun i j d e => by
    simp only [semI] at e
    split at e
    · cases e; exact ⟨by assumption, rfl, fun _ _ => .int _⟩
    · cases e) fun _ _ _ => rfl
theorem or_xor : OpR X (binaryOp .BitXor) (rP2 ws .xor) := or_ints (C := fun _ _ => True) (g := fun i j => .int (Builtin.bitXor i j)) (fun pins s σ H x y v u Q I rx ry ⟨i, j, a, b, _, q⟩ => op_xor pins s σ H x y v u Q I rx ry ⟨i, j, a, b, q⟩) (inv_ints (by simp))
  (fun i j d e => by cases e; exact ⟨trivial, rfl, fun _ _ => .int _⟩) fun _ _ _ => rfl
theorem or_mod : OpR X (binaryOp .Mod) (rP2 ws .mod) := or_ints op_modN (inv_ints (by simp))
  (fun i j d e => by
    simp only [semI] at e
    split at e
    · cases e; exact ⟨by assumption, rfl, fun _ _ => .int _⟩
    · cases e) fun _ _ _ => rfl
theorem toL {K : PySem.W.Frag} (e : X.K = K) {H : Hp} {a : Addr} {vs : List V} (h : SqL K H a vs) : SqL X.K H a vs := by rw [e]; exact h
theorem toT {K : PySem.W.Frag} (e : X.K = K) {H : Hp} {a : Addr} {vs : List V} (h : SqT K H a vs) : SqT X.K H a vs := by rw [e]; exact h
/-- list + list, read alone -/
theorem op_catR : OpR X (binaryOp .Add) fun x y H Q => ∃ l b xs zs, x = .ref l ∧ y = .ref b ∧ Rd H l (.lst xs) ∧ Rd H b (.lst zs) ∧ xs.length + zs.length ≤ sizeLine ∧ ∀ p, H p = none → Q (.ref p) (upd H p (.lst (xs ++ zs))) := by
  intro pins s σ H x y v u Q I rx ry h
  obtain ⟨l, b, xs, zs, rfl, rfl, hH, hB, hz, q⟩ := h
  cases rx
  cases ry
  obtain ⟨z, its, n, r, e⟩ := hH.ok I.hok
  obtain ⟨z2, its2, n2, r2, e2⟩ := hB.ok I.hok
  have hl := r.length
  have hl2 := r2.length
  refine PySem.P.add_list e e2 ?_ (by rw [List.size_toArray, List.size_toArray]; omega)
  have ea : its.toArray ++ its2.toArray = (its ++ its2).toArray := by simp
  rw [ea]
  exact ⟨.ref _, _, I.lnew (t' := s.toks) (r.append r2) (by rw [List.length_append]; omega), rfl, q _ I.fresh⟩
theorem or_add (G : Gp ws X) : OpR X (binaryOp .Add) (rP2 ws .add) := by
  intro pins s σ H x y v u Q I rx ry h
  obtain ⟨H0, m0, m, st, ds, d, st', s0, r, ra, e, k⟩ := h
  obtain ⟨a, b, rfl, ha, hb⟩ := ra.as.two
  simp only [semP, sem2] at e
  split at e
  · simp only [semI] at e
    cases e
    cases ha
    cases hb
    exact op_add pins s σ H _ _ v u Q I rx ry ⟨_, _, rfl, rfl, end_sc s0 r (.int _) rfl k⟩
  · rename_i xs ys
    split at e
    · rename_i hl
      cases e
      cases ha with
      | tup q1 t1 =>
        cases hb with
        | tup q2 t2 =>
          rename_i p1 us p2 zs
          refine op_catA pins s σ H _ _ v u Q I rx ry ⟨_, _, us, zs, rfl, rfl, toT G.K q1, toT G.K q2, by rw [← t1.length, ← t2.length]; exact hl, fun z => ?_, fun _ z => ?_, fun _ _ => end_tup s0 r (t1.append t2) k⟩
          · subst z
            cases t1
            exact end_sc s0 r (.tup q2 t2) rfl k
          · subst z
            cases t2
            rw [List.append_nil] at k
            exact end_sc s0 r (.tup q1 t1) rfl k
    · cases e
  · cases e
  · cases e
  · rename_i z1 z2 z3 z4
    split at e
    · rename_i xs ys e1 e2
      split at e
      · rename_i hl
        cases e
        obtain ⟨p1, us, rfl, q1, t1⟩ := rd_ok r ha e1
        obtain ⟨p2, zs, rfl, q2, t2⟩ := rd_ok r hb e2
        exact op_catR pins s σ H _ _ v u Q I rx ry ⟨_, _, us, zs, rfl, rfl, q1, q2, by rw [← t1.length, ← t2.length]; exact hl, end_tl s0 r (t1.append t2) k⟩
      · cases e
    · cases e
theorem or_mul (G : Gp ws X) : OpR X (binaryOp .Mult) (rP2 ws .mul) := by
  intro pins s σ H x y v u Q I rx ry h
  obtain ⟨H0, m0, m, st, ds, d, st', s0, r, ra, e, k⟩ := h
  obtain ⟨a, b, rfl, ha, hb⟩ := ra.as.two
  simp only [semP, sem2] at e
  split at e
  · simp only [semI] at e
    split at e
    · rename_i h1
      split at h1
      · rename_i h2
        cases h1
        cases e
        cases ha
        cases hb
        exact op_mulX pins s σ H _ _ v u Q I rx ry ⟨_, _, rfl, rfl, cmulx h2, end_sc s0 r (.int _) rfl k⟩
      · cases h1
    · cases e
  · cases e
  · split at e
    · rename_i hl
      cases e
      cases ha with
      | tup q1 t1 =>
        cases hb
        rename_i p1 us
        refine op_repT pins s σ H _ _ v u Q I rx ry ⟨_, _, us, rfl, rfl, toT G.K q1, ?_, hl.2.1, hl.2.2.1, by rw [← t1.length]; exact hl.2.2.2, end_tup s0 r (t1.flat _) k⟩
        rintro rfl
        cases t1
        simp at hl
    · cases e
  · rename_i z1 z2 z3
    split at e
    · rename_i xs e1
      split at e
      · rename_i hl
        cases e
        obtain ⟨p1, us, rfl, q1, t1⟩ := mlst_ok r ha e1
        cases hb
        exact op_rep pins s σ H _ _ v u Q I rx ry ⟨_, _, us, rfl, rfl, q1, hl.1, hl.2.1, by rw [← t1.length]; exact hl.2.2, end_tl s0 r (t1.flat _) k⟩
      · cases e
    · cases e
  · cases e
/-! ### comparisons -/
theorem or_eq (G : Gp ws X) : OpR X (compareOp .Eq) (rP2 ws .eq) := by
  intro pins s σ H x y v u Q I rx ry h
  obtain ⟨H0, m0, m, st, ds, d, st', s0, r, ra, e, k⟩ := h
  obtain ⟨a, b, rfl, ha, hb⟩ := ra.as.two
  simp only [semP, sem2] at e
  split at e
  · rename_i c hc
    cases e
    obtain ⟨p, q, h1, h2, h3, h4, h5⟩ := eqD_ok r ha hb hc
    refine op_eqD (by have := G.units; omega) pins s σ H _ _ v u Q I rx ry ⟨p, q, by rw [G.K]; exact h1, by rw [G.K]; exact h2, h3, h4, ?_⟩
    rw [h5]
    exact end_sc s0 r (.bl c) rfl k
  · cases e
theorem or_ne (G : Gp ws X) : OpR X (compareOp .NotEq) (rP2 ws .ne) := by
  intro pins s σ H x y v u Q I rx ry h
  obtain ⟨H0, m0, m, st, ds, d, st', s0, r, ra, e, k⟩ := h
  obtain ⟨a, b, rfl, ha, hb⟩ := ra.as.two
  simp only [semP, sem2] at e
  split at e
  · rename_i c hc
    cases e
    obtain ⟨p, q, h1, h2, h3, h4, h5⟩ := eqD_ok r ha hb hc
    refine op_neD (by have := G.units; omega) pins s σ H _ _ v u Q I rx ry ⟨p, q, by rw [G.K]; exact h1, by rw [G.K]; exact h2, h3, h4, ?_⟩
    rw [h5]
    exact end_sc s0 r (.bl _) rfl k
  · cases e
theorem non_iff {m : List Addr} {H : Hp} {a : D} {x : V} (h : DV ws m H a x) : decide (x = .non) = isNon a := by
  cases h <;> first | rfl | exact decide_eq_false (by intro z; cases z)
theorem or_isN (G : Gp ws X) : OpR X (compareOp .Is) (rP2 ws .isN) := by
  intro pins s σ H x y v u Q I rx ry h
  obtain ⟨H0, m0, m, st, ds, d, st', s0, r, ra, e, k⟩ := h
  obtain ⟨a, b, rfl, ha, hb⟩ := ra.as.two
  simp only [semP, sem2] at e
  split at e
  · cases hb
    refine op_isN pins s σ H _ _ v u Q I rx ry ⟨rfl, ?_⟩
    rw [non_iff ha]
    cases e
    exact end_sc s0 r (.bl _) rfl k
  · cases e
theorem or_notN (G : Gp ws X) : OpR X (compareOp .IsNot) (rP2 ws .notN) := by
  intro pins s σ H x y v u Q I rx ry h
  obtain ⟨H0, m0, m, st, ds, d, st', s0, r, ra, e, k⟩ := h
  obtain ⟨a, b, rfl, ha, hb⟩ := ra.as.two
  simp only [semP, sem2] at e
  split at e
  · cases hb
    refine op_notN pins s σ H _ _ v u Q I rx ry ⟨rfl, ?_⟩
    rw [non_iff ha]
    cases e
    exact end_sc s0 r (.bl _) rfl k
  · cases e
theorem flat_ok {m : List Addr} {H : Hp} {a : D} {x : V} (h : DV ws m H a x) (f : flat a = true) : flatV x = true := by
  cases h <;> first | rfl | cases f
theorem flats_ok {m : List Addr} {H : Hp} : ∀ {ds : List D} {vs : List V}, DVs ws m H ds vs → ds.all flat = true → vs.all flatV = true
  | _, _, .nil, _ => rfl
  | _, _, .cons h _ t, f => by
    rw [List.all_cons, Bool.and_eq_true] at f ⊢
    exact ⟨flat_ok h f.1, flats_ok t f.2⟩
theorem str_beq (a b : List Nat) : ((⟨a.toArray⟩ : Str) == ⟨b.toArray⟩) = (a == b) := by
  rw [← PyProof.Rows.toList_beq]
theorem eqF_ok {m : List Addr} {H : Hp} {a b : D} {x y : V} (h : DV ws m H a x) (k : DV ws m H b y) (f : flat a = true) (g : flat b = true) : eqV x y = eqF a b := by
  cases h <;> (try (cases f)) <;> cases k <;> first | rfl | exact str_beq _ _ | cases g
theorem any_ok {m : List Addr} {H : Hp} {a : D} {x : V} (h : DV ws m H a x) (f : flat a = true) : ∀ {ds : List D} {vs : List V}, DVs ws m H ds vs → ds.all flat = true → inV x vs = ds.any fun y => eqF y a
  | _, _, .nil, _ => rfl
  | _, _, .cons k _ t, g => by
    rw [List.all_cons, Bool.and_eq_true] at g
    show (eqV _ x || _) = _
    rw [List.any_cons, eqF_ok k h g.1 f]
    exact congrArg _ (any_ok h f t g.2)
theorem or_in (G : Gp ws X) : OpR X (compareOp .In) (rP2 ws .isin) := by
  intro pins s σ H x y v u Q I rx ry h
  obtain ⟨H0, m0, m, st, ds, d, st', s0, r, ra, e, k⟩ := h
  obtain ⟨a, b, rfl, ha, hb⟩ := ra.as.two
  simp only [semP, sem2] at e
  split at e
  · rename_i xs hx
    split at e
    · rename_i hf
      cases e
      rw [Bool.and_eq_true] at hf
      obtain ⟨p, vs, rfl, q, t⟩ := seq_ok r hb hx
      refine op_in_seq pins s σ H _ _ v u Q I rx ry ⟨p, vs, rfl, ?_, flat_ok ha hf.1, flats_ok t hf.2, ?_⟩
      · rcases q with q | q
        · exact .inl (toL G.K q.1)
        · exact .inr (toT G.K q.1)
      · rw [any_ok ha hf.1 t hf.2]
        exact end_sc s0 r (.bl _) rfl k
    · split at e
      · rename_i pa ps hp hps
        cases e
        obtain ⟨p, vs, rfl, q, t⟩ := seq_ok r hb hx
        obtain ⟨a1, a2, a3⟩ := toP_ok r 15 ha hp
        obtain ⟨b1, b2, b3⟩ := toPs_ok r t hps
        have fin := end_sc s0 r (.bl _) rfl k
        obtain ⟨as, r1⟩ := Dp.reads I pa x v (by rw [G.K]; exact a1) rx
        have hu := G.units
        have sh : SeqAt.shaped pa = true := shaped_of a2 (by omega)
        rcases q with q | q
        · obtain ⟨bs, r2⟩ := Dp.reads I (.list ps) _ u (by rw [G.K]; exact .lst q.1 b1) ry
          exact SeqAt.in_list_reads r2 r1 b2 a2 (room_in_shaped sh (by omega)) ⟨.bl _, H, I, rfl, fin⟩
        · obtain ⟨bs, r2⟩ := Dp.reads I (.tuple ps) _ u (by rw [G.K]; exact .tup q.1 b1) ry
          exact SeqAt.in_tuple_reads r2 r1 b2 a2 (room_in_shaped sh (by omega)) ⟨.bl _, H, I, rfl, fin⟩
      · cases e
  · cases e
theorem or_notin (G : Gp ws X) : OpR X (compareOp .NotIn) (rP2 ws .notin) := by
  intro pins s σ H x y v u Q I rx ry h
  obtain ⟨H0, m0, m, st, ds, d, st', s0, r, ra, e, k⟩ := h
  obtain ⟨a, b, rfl, ha, hb⟩ := ra.as.two
  simp only [semP, sem2] at e
  split at e
  · rename_i xs hx
    split at e
    · rename_i hf
      cases e
      rw [Bool.and_eq_true] at hf
      obtain ⟨p, vs, rfl, q, t⟩ := seq_ok r hb hx
      refine op_notIn_seq pins s σ H _ _ v u Q I rx ry ⟨p, vs, rfl, ?_, flat_ok ha hf.1, flats_ok t hf.2, ?_⟩
      · rcases q with q | q
        · exact .inl (toL G.K q.1)
        · exact .inr (toT G.K q.1)
      · rw [any_ok ha hf.1 t hf.2]
        exact end_sc s0 r (.bl _) rfl k
    · split at e
      · rename_i pa ps hp hps
        cases e
        obtain ⟨p, vs, rfl, q, t⟩ := seq_ok r hb hx
        obtain ⟨a1, a2, a3⟩ := toP_ok r 15 ha hp
        obtain ⟨b1, b2, b3⟩ := toPs_ok r t hps
        have fin := end_sc s0 r (.bl _) rfl k
        obtain ⟨as, r1⟩ := Dp.reads I pa x v (by rw [G.K]; exact a1) rx
        have hu := G.units
        have sh : SeqAt.shaped pa = true := shaped_of a2 (by omega)
        rcases q with q | q
        · obtain ⟨bs, r2⟩ := Dp.reads I (.list ps) _ u (by rw [G.K]; exact .lst q.1 b1) ry
          exact SeqAt.notIn_list_reads r2 r1 b2 a2 (room_in_shaped sh (by omega)) ⟨.bl _, H, I, rfl, fin⟩
        · obtain ⟨bs, r2⟩ := Dp.reads I (.tuple ps) _ u (by rw [G.K]; exact .tup q.1 b1) ry
          exact SeqAt.notIn_tuple_reads r2 r1 b2 a2 (room_in_shaped sh (by omega)) ⟨.bl _, H, I, rfl, fin⟩
      · cases e
  · cases e
/-! ### subscripts, slices -/
theorem atI_ok {m : List Addr} {H : Hp} {ds : List D} {vs : List V} (t : DVs ws m H ds vs) {i : Int} {d : D} (e : atI ds i = some d) : ∃ v, atI vs i = some v ∧ DV ws m H d v ∧ notl d = true := by
  unfold atI at e ⊢
  rw [← t.length]
  cases h : ixN ds.length i with
  | none => rw [h] at e; cases e
  | some j =>
    rw [h] at e
    exact t.get e
theorem ix_any (G : Gp ws X) : IxR X (rP2 ws .ix) := by
  intro value slice pins s σ H x y v u Q I rx ry h hs
  obtain ⟨H0, m0, m, st, ds, d, st', s0, r, ra, e, k⟩ := h
  obtain ⟨a, b, rfl, ha, hb⟩ := ra.as.two
  simp only [semP, sem2] at e
  split at e
  · cases hb
    split at e
    · rename_i xs hx
      split at e
      · rename_i c hc
        cases e
        obtain ⟨p, vs, rfl, q, t⟩ := seq_ok r ha hx
        obtain ⟨z, h1, h2, h3⟩ := atI_ok t hc
        rcases q with q | q
        · exact ix_list value slice pins s σ H _ _ v u Q I rx ry ⟨p, vs, _, z, rfl, rfl, toL G.K q.1, h1, end_sc s0 r h2 h3 k⟩ hs
        · exact ix_tup value slice pins s σ H _ _ v u Q I rx ry ⟨p, vs, _, z, rfl, rfl, toT G.K q.1, h1, end_sc s0 r h2 h3 k⟩ hs
      · cases e
    · cases e
  · cases e
/-- a slice by values -/
def rSl (ws : Ws) : V → Option Int → Option Int → Hp → VK → Prop := fun x lo hi H Q => ∃ (H0 : Hp) (m0 m : List Addr) (st : Sto) (a : D) (d : D) (st' : Sto), Step m0 H0 m H ∧ Rl ws m st H ∧ DV ws m H a x ∧
  semSl a lo hi st = some (d, st') ∧ ∀ m' H' v, Step m0 H0 m' H' → Rl ws m' st' H' → RD ws H0 m' H' d v → Q v H'
theorem cut_whole {α : Type} (xs : List α) {lo hi : Option Int} (h : HT.sIx xs.length 0 lo = 0 ∧ HT.sIx xs.length xs.length hi = xs.length) : cut xs lo hi = xs := by
  unfold cut
  rw [h.1, h.2, List.drop_zero, Nat.sub_zero, List.take_length]
theorem sl_any (G : Gp ws X) : SlR X (rSl ws) := by
  intro pins s σ H x v vl vu lo hi sl Q I rx hs pl pu h
  obtain ⟨H0, m0, m, st, a, d, st', s0, r, ha, e, k⟩ := h
  unfold semSl at e
  split at e
  · cases e
    cases ha with
    | tup q t =>
      refine sl_tupA pins s σ H _ v vl vu lo hi sl Q I rx hs pl pu ⟨_, _, rfl, toT G.K q, fun z => ?_, fun _ => end_tup s0 r (t.cut _ _) k⟩
      rw [← t.length] at z
      rw [cut_whole _ z] at k
      exact end_sc s0 r (.tup q t) rfl k
  · split at e
    · rename_i xs hx
      cases e
      obtain ⟨p, vs, rfl, q, t⟩ := lst_ok r ha hx
      exact sl_list pins s σ H _ v vl vu lo hi sl Q I rx hs pl pu ⟨p, vs, rfl, toL G.K q, end_tl s0 r (t.cut _ _) k⟩
    · cases e
end
end Mn
/-! Mn5: built-in functions and methods are the model's. -/
namespace Mn
open PySem PySem.Spec PyProof.Rows L2
section
variable {ws : Ws} {X : Cx}

theorem allB_ok {m : List Addr} {H : Hp} : ∀ {ds : List D} {vs : List V} {bs : List Bool}, DVs ws m H ds vs → allB ds = some bs → vs = bs.map V.bl
  | [], _, bs, .nil, e => by cases e; rfl
  | d :: ds, _, bs, .cons h _ t, e => by
    unfold allB mapO at e
    cases h with
    | bl b =>
      simp only at e
      cases h2 : mapO _ ds with
      | none => rw [h2] at e; cases e
      | some cs =>
        rw [h2] at e
        cases e
        rw [List.map_cons, allB_ok t h2]
    | _ => simp at e
theorem allI_ok {m : List Addr} {H : Hp} : ∀ {ds : List D} {vs : List V} {ns : List Int}, DVs ws m H ds vs → allI ds = some ns → vs = ns.map V.int
  | [], _, bs, .nil, e => by cases e; rfl
  | d :: ds, _, bs, .cons h _ t, e => by
    unfold allI mapO at e
    cases h with
    | int b =>
      simp only at e
      cases h2 : mapO _ ds with
      | none => rw [h2] at e; cases e
      | some cs =>
        rw [h2] at e
        cases e
        rw [List.map_cons, allI_ok t h2]
    | _ => simp at e
theorem maxI_ok : ∀ (ns : List Int) (n m : Int), m ∈ n :: ns → (∀ y ∈ n :: ns, y ≤ m) → m = maxI n ns
  | [], n, m, h, _ => by simpa [maxI] using h
  | x :: ns, n, m, h, k => by
    show m = maxI (if x > n then x else n) ns
    have hx := k x (by simp)
    have hn := k n (by simp)
    refine maxI_ok ns _ m ?_ fun y hy => ?_
    · rcases List.mem_cons.mp h with rfl | h
      · split
        · exfalso; omega
        · simp
      · rcases List.mem_cons.mp h with rfl | h
        · split
          · simp
          · have : m = n := by omega
            simp [this]
        · exact List.mem_cons_of_mem _ h
    · rcases List.mem_cons.mp hy with rfl | hy
      · split <;> omega
      · exact k y (by simp [hy])
theorem minI_ok : ∀ (ns : List Int) (n m : Int), m ∈ n :: ns → (∀ y ∈ n :: ns, m ≤ y) → m = minI n ns
  | [], n, m, h, _ => by simpa [minI] using h
  | x :: ns, n, m, h, k => by
    show m = minI (if x < n then x else n) ns
    have hx := k x (by simp)
    have hn := k n (by simp)
    refine minI_ok ns _ m ?_ fun y hy => ?_
    · rcases List.mem_cons.mp h with rfl | h
      · split
        · exfalso; omega
        · simp
      · rcases List.mem_cons.mp h with rfl | h
        · split
          · simp
          · have : m = n := by omega
            simp [this]
        · exact List.mem_cons_of_mem _ h
    · rcases List.mem_cons.mp hy with rfl | hy
      · split <;> omega
      · exact k y (by simp [hy])

/-- one argument: what the run says of it -/
theorem one_arg {p : Pr} {vs : List V} {H : Hp} {Q : VK} (hp : ∀ a st, semP p [a] st = sem1 p a st) (h2 : ∀ a b st, semP p [a, b] st = sem2 p a b st) (h3 : ∀ a b st, sem2 p a b st = none) (h : rP ws p vs H Q) :
    ∃ (H0 : Hp) (m0 m : List Addr) (st : Sto) (a : D) (x : V) (d : D) (st' : Sto), vs = [x] ∧ Step m0 H0 m H ∧ Rl ws m st H ∧ RA ws H0 m H [a] [x] ∧ DV ws m H a x ∧ sem1 p a st = some (d, st') ∧ ∀ m' H' v, Step m0 H0 m' H' → Rl ws m' st' H' → RD ws H0 m' H' d v → Q v H' := by
  obtain ⟨H0, m0, m, st, ds, d, st', s0, r, ra, e, k⟩ := h
  obtain ⟨as, nd, fr⟩ := ra
  cases as with
  | nil => cases e
  | cons h t =>
    cases t with
    | nil =>
      rw [hp] at e
      exact ⟨H0, m0, m, st, _, _, d, st', rfl, s0, r, ⟨.cons h .nil, nd, fr⟩, h, e, k⟩
    | cons h' t' =>
      cases t' with
      | nil => rw [h2, h3] at e; cases e
      | cons h'' t'' => cases e
theorem sem2_none {p : Pr} (h : p = .len ∨ p = .abs ∨ p = .toInt ∨ p = .all ∨ p = .any ∨ p = .sum ∨ p = .tuple ∨ p = .list ∨ p = .max ∨ p = .min ∨ p = .pop0 ∨ p = .neg ∨ p = .sorted) : ∀ a b st, sem2 p a b st = none := by
  intro a b st
  rcases h with rfl | rfl | rfl | rfl | rfl | rfl | rfl | rfl | rfl | rfl | rfl | rfl | rfl <;>
  · simp only [sem2]
    split <;> rfl
theorem cr_len (G : Gp ws X) : CallR X (.builtin "len") (rP ws .len) := by
  intro pins s σ H xs us Q I rv h
  obtain ⟨H0, m0, m, st, a, x, d, st', rfl, s0, r, ra, ha, e, k⟩ := one_arg (fun _ _ => rfl) (fun _ _ _ => rfl) (sem2_none (by simp)) h
  simp only [sem1] at e
  split at e
  · rename_i ys hy
    cases e
    obtain ⟨p, vs, rfl, q, t⟩ := seq_ok r ha hy
    refine call_len_seq pins s σ H _ us Q I rv ⟨p, vs, rfl, ?_, ?_⟩
    · rcases q with q | q
      · exact .inl (toL G.K q.1)
      · exact .inr (toT G.K q.1)
    · rw [← t.length]
      exact end_sc s0 r (.int _) rfl k
  · cases e
theorem cr_abs : CallR X (.builtin "abs") (rP ws .abs) := by
  intro pins s σ H xs us Q I rv h
  obtain ⟨H0, m0, m, st, a, x, d, st', rfl, s0, r, ra, ha, e, k⟩ := one_arg (fun _ _ => rfl) (fun _ _ _ => rfl) (sem2_none (by simp)) h
  simp only [sem1] at e
  split at e
  · cases e
    cases ha
    exact call_abs pins s σ H _ us Q I rv ⟨_, rfl, end_sc s0 r (.int _) rfl k⟩
  · cases e
theorem cr_int : CallR X (.type "int") (rP ws .toInt) := by
  intro pins s σ H xs us Q I rv h
  obtain ⟨H0, m0, m, st, a, x, d, st', rfl, s0, r, ra, ha, e, k⟩ := one_arg (fun _ _ => rfl) (fun _ _ _ => rfl) (sem2_none (by simp)) h
  simp only [sem1] at e
  split at e
  · cases e
    cases ha
    exact call_int1 pins s σ H _ us Q I rv (.inl ⟨_, rfl, end_sc s0 r (.int _) rfl k⟩)
  · cases e
    cases ha
    exact call_int1 pins s σ H _ us Q I rv (.inr ⟨_, rfl, end_sc s0 r (.int _) rfl k⟩)
  · cases e
theorem cr_allM (G : Gp ws X) : CallR X (.builtin "all") (rP ws .all) := by
  intro pins s σ H xs us Q I rv h
  obtain ⟨H0, m0, m, st, a, x, d, st', rfl, s0, r, ra, ha, e, k⟩ := one_arg (fun _ _ => rfl) (fun _ _ _ => rfl) (sem2_none (by simp)) h
  simp only [sem1] at e
  split at e
  · rename_i ys hy
    split at e
    · rename_i bs hb
      cases e
      obtain ⟨p, vs, rfl, q, t⟩ := lst_ok r ha hy
      rw [allB_ok t hb] at q
      exact cr_all G.calm pins s σ H _ us Q I rv ⟨p, bs, rfl, toL G.K q, end_sc s0 r (.bl _) rfl k⟩
    · cases e
  · cases e
theorem cr_anyM (G : Gp ws X) : CallR X (.builtin "any") (rP ws .any) := by
  intro pins s σ H xs us Q I rv h
  obtain ⟨H0, m0, m, st, a, x, d, st', rfl, s0, r, ra, ha, e, k⟩ := one_arg (fun _ _ => rfl) (fun _ _ _ => rfl) (sem2_none (by simp)) h
  simp only [sem1] at e
  split at e
  · rename_i ys hy
    split at e
    · rename_i bs hb
      cases e
      obtain ⟨p, vs, rfl, q, t⟩ := lst_ok r ha hy
      rw [allB_ok t hb] at q
      exact cr_any G.calm pins s σ H _ us Q I rv ⟨p, bs, rfl, toL G.K q, end_sc s0 r (.bl _) rfl k⟩
    · cases e
  · cases e
theorem cr_sumM (G : Gp ws X) : CallR X (.builtin "sum") (rP ws .sum) := by
  intro pins s σ H xs us Q I rv h
  obtain ⟨H0, m0, m, st, a, x, d, st', rfl, s0, r, ra, ha, e, k⟩ := one_arg (fun _ _ => rfl) (fun _ _ _ => rfl) (sem2_none (by simp)) h
  simp only [sem1] at e
  split at e
  · rename_i ys hy
    split at e
    · rename_i bs hb
      cases e
      obtain ⟨p, vs, rfl, q, t⟩ := lst_ok r ha hy
      rw [allI_ok t hb] at q
      exact cr_sum G.calm pins s σ H _ us Q I rv ⟨p, bs, rfl, toL G.K q, end_sc s0 r (.int _) rfl k⟩
    · cases e
  · cases e
theorem cr_max2 (G : Gp ws X) : CallR X (.builtin "max") (rP ws .max2) := by
  intro pins s σ H xs us Q I rv h
  obtain ⟨H0, m0, m, st, ds, d, st', s0, r, ra, e, k⟩ := h
  obtain ⟨as, nd, fr⟩ := ra
  cases as with
  | nil => cases e
  | cons ha t =>
    cases t with
    | nil => cases e
    | cons hb t' =>
      cases t' with
      | nil =>
        obtain ⟨i, j, c, rfl, rfl, e1, e2⟩ := inv_ints (p := .max2) (by simp) _ _ _ _ e
        cases e2
        cases e1
        cases ha
        cases hb
        exact call_max2 G.calm pins s σ H _ us Q I rv ⟨_, _, rfl, end_sc s0 r (.int _) rfl k⟩
      | cons _ t'' => cases e
theorem cr_min2 (G : Gp ws X) : CallR X (.builtin "min") (rP ws .min2) := by
  intro pins s σ H xs us Q I rv h
  obtain ⟨H0, m0, m, st, ds, d, st', s0, r, ra, e, k⟩ := h
  obtain ⟨as, nd, fr⟩ := ra
  cases as with
  | nil => cases e
  | cons ha t =>
    cases t with
    | nil => cases e
    | cons hb t' =>
      cases t' with
      | nil =>
        obtain ⟨i, j, c, rfl, rfl, e1, e2⟩ := inv_ints (p := .min2) (by simp) _ _ _ _ e
        cases e2
        cases e1
        cases ha
        cases hb
        exact call_min2 G.calm pins s σ H _ us Q I rv ⟨_, _, rfl, end_sc s0 r (.int _) rfl k⟩
      | cons _ t'' => cases e
theorem cr_maxM (G : Gp ws X) : CallR X (.builtin "max") (rP ws .max) := by
  intro pins s σ H xs us Q I rv h
  obtain ⟨H0, m0, m, st, a, x, d, st', rfl, s0, r, ra, ha, e, k⟩ := one_arg (fun _ _ => rfl) (fun _ _ _ => rfl) (sem2_none (by simp)) h
  simp only [sem1] at e
  split at e
  · rename_i ys hy
    split at e
    · rename_i n ns hb
      cases e
      obtain ⟨p, vs, rfl, q, t⟩ := lst_ok r ha hy
      rw [allI_ok t hb] at q
      refine cr_max G.calm pins s σ H _ us Q I rv ⟨p, n :: ns, rfl, toL G.K q, by simp, fun z h1 h2 => ?_⟩
      rw [maxI_ok ns n z h1 h2]
      exact end_sc s0 r (.int _) rfl k
    · cases e
  · cases e
theorem cr_minM (G : Gp ws X) : CallR X (.builtin "min") (rP ws .min) := by
  intro pins s σ H xs us Q I rv h
  obtain ⟨H0, m0, m, st, a, x, d, st', rfl, s0, r, ra, ha, e, k⟩ := one_arg (fun _ _ => rfl) (fun _ _ _ => rfl) (sem2_none (by simp)) h
  simp only [sem1] at e
  split at e
  · rename_i ys hy
    split at e
    · rename_i n ns hb
      cases e
      obtain ⟨p, vs, rfl, q, t⟩ := lst_ok r ha hy
      rw [allI_ok t hb] at q
      refine cr_min G.calm pins s σ H _ us Q I rv ⟨p, n :: ns, rfl, toL G.K q, by simp, fun z h1 h2 => ?_⟩
      rw [minI_ok ns n z h1 h2]
      exact end_sc s0 r (.int _) rfl k
    · cases e
  · cases e
theorem cr_tuple (G : Gp ws X) : CallR X (.type "tuple") (rP ws .tuple) := by
  intro pins s σ H xs us Q I rv h
  obtain ⟨H0, m0, m, st, a, x, d, st', rfl, s0, r, ra, ha, e, k⟩ := one_arg (fun _ _ => rfl) (fun _ _ _ => rfl) (sem2_none (by simp)) h
  simp only [sem1] at e
  split at e
  · rename_i ys hy
    cases e
    obtain ⟨p, vs, rfl, q, t⟩ := seq_ok r ha hy
    refine call_tuple_of pins s σ H _ us Q I rv ⟨p, vs, rfl, ?_⟩
    rcases q with q | q
    · exact .inl ⟨toL G.K q.1, end_tup s0 r t k⟩
    · exact .inr ⟨toT G.K q.1, end_sc s0 r (.tup q.1 t) rfl k⟩
  · cases e
theorem cr_list (G : Gp ws X) : CallR X (.type "list") (rP ws .list) := by
  intro pins s σ H xs us Q I rv h
  obtain ⟨H0, m0, m, st, a, x, d, st', rfl, s0, r, ra, ha, e, k⟩ := one_arg (fun _ _ => rfl) (fun _ _ _ => rfl) (sem2_none (by simp)) h
  simp only [sem1] at e
  split at e
  · rename_i ys hy
    cases e
    obtain ⟨p, vs, rfl, q, t⟩ := seq_ok r ha hy
    refine call_list_of pins s σ H _ us Q I rv ⟨p, vs, rfl, ?_, end_tl s0 r t k⟩
    rcases q with q | q
    · exact .inl (toL G.K q.1)
    · exact .inr (toT G.K q.1)
  · cases e
theorem un_negM : UnR X (unaryOp .USub) (fun x H Q => rP ws .neg [x] H Q) := by
  intro pins s σ H x v Q I rv h
  obtain ⟨H0, m0, m, st, a, x', d, st', e0, s0, r, ra, ha, e, k⟩ := one_arg (fun _ _ => rfl) (fun _ _ _ => rfl) (sem2_none (by simp)) h
  cases e0
  simp only [sem1] at e
  split at e
  · cases e
    cases ha
    exact un_neg pins s σ H _ v Q I rv ⟨_, rfl, end_sc s0 r (.int _) rfl k⟩
  · cases e

/-! ### isinstance -/
def tyN : Option Ty → String
  | none => "NoneType"
  | some .int => "int"
  | some .bool => "bool"
  | some .str => "str"
  | some .tuple => "tuple"
  | some .list => "list"
def subO : Option Ty → Ty → Bool
  | none, _ => false
  | some t, u => subTy t u
theorem kit_all (t : Option Ty) (u : Ty) : kitB (tyN t) (tyN (some u)) = some (subO t u) := by
  cases t with
  | none => cases u <;> decide +kernel
  | some t => cases t <;> cases u <;> decide +kernel
theorem ty_ok {m : List Addr} {H : Hp} {st : Sto} {a : D} {x : V} (K : X.K = ws.K) (r : Rl ws m st H) (h : DV ws m H a x) {t : Option Ty} (e : tyOf st a = some t) : TyX X.K H x (.type (tyN t)) := by
  cases h with
  | non => cases e; exact .base .non
  | bl b => cases e; exact .base (.bl b)
  | int i => cases e; exact .base (.int i)
  | str s => cases e; exact .base (.str _)
  | tup q t =>
    cases e
    rcases q with (q | ⟨o, q⟩) | ⟨o, its, n, q, c, _⟩
    · exact .base (.tup q)
    · exact .fTuple q
    · exact .kTuple (by rw [K]; exact q) c
  | tl n q t => cases e; exact .base (.lst q)
  | il q t => cases e; exact .base (.frz q)
  | kl q t =>
    cases e
    rcases q with ⟨o, q⟩ | ⟨o, its, n, q, c, _⟩
    · exact .base (.frz q)
    · exact .kList (by rw [K]; exact q) c
  | lr q =>
    rename_i n p
    simp only [tyOf] at e
    cases h1 : st[n]? with
    | none => rw [h1] at e; cases e
    | some o =>
      cases o with
      | lst ys =>
        rw [h1] at e
        cases e
        obtain ⟨p', q', vs, z, t⟩ := r.at h1
        rw [q] at q'
        cases q'
        exact .base (.lst z)
  | fn g => cases e
/-- isinstance(x, T): the class a built-in type -/
theorem cr_inst1 (G : Gp ws X) (t : Ty) : CallR X (.builtin "isinstance") (fun vs H Q => ∃ x, vs = [x, .ty (tyN (some t))] ∧ rP ws (.inst [t]) [x] H Q) := by
  intro pins s σ H xs us Q I rv h
  obtain ⟨x, rfl, H0, m0, m, st, ds, d, st', s0, r, ra, e, k⟩ := h
  obtain ⟨a, rfl, ha⟩ := ra.as.one
  simp only [semP, sem1] at e
  have fin : ∀ o, tyOf st a = some o → (.bl (subO o t), st) = (d, st') → wpAny (model X.prog X.w) X.A (call (.builtin "isinstance") us) (EP X pins σ Q) X.xe s := by
    intro o h1 h2
    cases h2
    exact call_isi pins s σ H _ us Q I rv ⟨_, _, _, _, subO o t, rfl, .ty _, ty_ok G.K r ha h1, kit_ty (kit_all o t), end_sc s0 r (.bl _) rfl k⟩
  split at e
  · rename_i u hu
    refine fin _ hu ?_
    rw [← Option.some.inj e]
    simp [subO]
  · rename_i hu
    refine fin _ hu ?_
    rw [← Option.some.inj e]
    rfl
  · cases e
/-- isinstance(x, (T, ..)) -/
theorem kit_any (o : Option Ty) {K : PySem.W.Frag} : ∀ ts : List Ty, PySem.W.kitAny K (.type (tyN o)) (ts.map fun t => Value.type (tyN (some t))) = some (ts.any (subO o))
  | [] => kitAny_nil
  | t :: ts => by
    rw [List.map_cons]
    refine kitAny_cons (kit_ty (kit_all o t)) (fun h => ?_) (fun h => ?_)
    · rw [kit_any o ts, List.any_cons, h, Bool.false_or]
    · rw [List.any_cons, h, Bool.true_or]
theorem clss : ∀ ts : List Ty, Paired ClsV (ts.map fun t => V.ty (tyN (some t))) (ts.map fun t => Value.type (tyN (some t)))
  | [] => .nil
  | t :: ts => .cons (.ty _) (clss ts)
theorem cr_instT (G : Gp ws X) (ts : List Ty) : CallR X (.builtin "isinstance") (fun vs H Q => ∃ x tp, vs = [x, .ref tp] ∧ H tp = some (.tup (ts.map fun t => V.ty (tyN (some t)))) ∧ rP ws (.inst ts) [x] H Q) := by
  intro pins s σ H xs us Q I rv h
  obtain ⟨x, tp, rfl, ht, H0, m0, m, st, ds, d, st', s0, r, ra, e, k⟩ := h
  obtain ⟨a, rfl, ha⟩ := ra.as.one
  simp only [semP, sem1] at e
  have fin : ∀ o, tyOf st a = some o → (.bl (ts.any (subO o)), st) = (d, st') → wpAny (model X.prog X.w) X.A (call (.builtin "isinstance") us) (EP X pins σ Q) X.xe s := by
    intro o h1 h2
    cases h2
    exact call_isiT pins s σ H _ us Q I rv ⟨_, tp, _, _, _, _, rfl, ht, clss ts, ty_ok G.K r ha h1, kit_any o ts, end_sc s0 r (.bl _) rfl k⟩
  split at e
  · rename_i u hu
    refine fin _ hu ?_
    rw [← Option.some.inj e]
    rfl
  · rename_i hu
    refine fin _ hu ?_
    rw [← Option.some.inj e]
    have : ts.any (subO none) = false := by
      rw [List.any_eq_false]
      intro t _
      simp [subO]
    rw [this]
  · cases e

/-! ### methods of lists, stores -/
/-- a method: the receiver ahead -/
abbrev rM (ws : Ws) (p : Pr) : V → List V → Hp → VK → Prop := fun x xs H Q => rP ws p (x :: xs) H Q
theorem lr_of {m : List Addr} {st : Sto} {H : Hp} {n : Nat} {x : V} {xs : List D} (r : Rl ws m st H) (h : DV ws m H (.lr n) x) (e : st[n]? = some (.lst xs)) : ∃ p vs, x = .ref p ∧ m[n]? = some p ∧ H p = some (.lst vs) ∧ DVs ws m H xs vs := by
  cases h with
  | lr q =>
    obtain ⟨p', q', vs, z, t⟩ := r.at e
    rw [q] at q'
    cases q'
    exact ⟨_, vs, rfl, q, z, t⟩
/-- the store's list n is written -/
theorem end_wr {H0 H : Hp} {m0 m : List Addr} {st : Sto} {n : Nat} {p : Addr} {xs ys : List D} {vs us : List V} (s0 : Step m0 H0 m H) (r : Rl ws m st H) (e : st[n]? = some (.lst xs)) (q : m[n]? = some p) (z : H p = some (.lst vs)) (t : DVs ws m H ys us) :
    Step m0 H0 m (upd H p (.lst us)) ∧ Rl ws m (st.set n (.lst ys)) (upd H p (.lst us)) ∧ Step m H m (upd H p (.lst us)) :=
  ⟨s0.trans (Step.write (List.mem_of_getElem? q) z), r.write e q z t, Step.write (List.mem_of_getElem? q) z⟩
theorem mt_appendM : MtR X "list.append" (rM ws .append) := by
  intro pins s σ H x xs v us Q I rx rv h
  obtain ⟨H0, m0, m, st, ds, d, st', s0, r, ra, e, k⟩ := h
  obtain ⟨as, nd, fr⟩ := ra
  cases as with
  | cons ha t =>
    rename_i a as
    cases t with
    | nil => simp only [semP, sem1] at e; cases e
    | cons hb t' =>
      rename_i b y bs ys
      cases t' with
      | nil =>
        simp only [semP, sem2] at e
        split at e
        · rename_i n
          split at e
          · rename_i zs hz
            split at e
            · rename_i hl
              cases e
              obtain ⟨p, vs, rfl, q, z, t⟩ := lr_of r ha hz
              obtain ⟨r1, h1, k1⟩ := mat_ok r hb
              have s1 : Step m0 H0 (m ++ tls [b] [y]) H := s0.more fun c hc => fr c (by rw [tls_cons]; exact List.mem_append_right _ hc)
              have e1 : (mat b st).2[n]? = some (.lst zs) := by
                have hn : n < st.length := (List.getElem?_eq_some_iff.mp hz).1
                cases b <;> first | exact hz | (show (st ++ _)[n]? = _; rw [List.getElem?_append_left hn]; exact hz)
              have q1 : (m ++ tls [b] [y])[n]? = some p := by
                rw [List.getElem?_append_left (List.getElem?_eq_some_iff.mp q).1]
                exact q
              obtain ⟨w1, w2, w3⟩ := end_wr s1 r1 e1 q1 z ((t.up _).append (.cons h1 k1 .nil))
              exact mt_append pins s σ H _ _ v us Q I rx rv ⟨p, vs, y, rfl, rfl, z, by rw [← t.length]; exact hl, k _ _ _ w1 w2 ⟨.non, fr_of rfl⟩⟩
            · cases e
          · cases e
        · cases e
      | cons _ t'' => cases e
theorem mt_pop0 : MtR X "list.pop" (fun x xs H Q => xs = [] ∧ rM ws .pop0 x [] H Q) := by
  intro pins s σ H x xs v us Q I rx rv h
  obtain ⟨rfl, H0, m0, m, st, ds, d, st', s0, r, ra, e, k⟩ := h
  obtain ⟨a, rfl, ha⟩ := ra.as.one
  simp only [semP, sem1] at e
  split at e
  · rename_i n
    split at e
    · rename_i zs hz
      split at e
      · rename_i c hc
        cases e
        obtain ⟨p, vs, rfl, q, z, t⟩ := lr_of r ha hz
        obtain ⟨y, h1, h2, h3⟩ := t.get hc
        have e2 : vs.dropLast = vs.take (vs.length - 1) := List.dropLast_eq_take
        have e3 : zs.dropLast = zs.take (vs.length - 1) := by rw [← t.length]; exact List.dropLast_eq_take
        obtain ⟨w1, w2, w3⟩ := end_wr (ys := zs.dropLast) (us := vs.dropLast) s0 r hz q z (by rw [e2, e3]; exact t.take _)
        exact mt_pop pins s σ H _ _ v us Q I rx rv ⟨p, vs, y, rfl, rfl, z, by rw [← t.length]; exact h1, k _ _ _ w1 w2 ⟨h2.mono w3, fr_of h3⟩⟩
      · cases e
    · cases e
  · cases e
theorem mt_pop1 : MtR X "list.pop" (fun x xs H Q => ∃ y, xs = [y] ∧ rM ws .pop1 x [y] H Q) := by
  intro pins s σ H x xs v us Q I rx rv h
  obtain ⟨y, rfl, H0, m0, m, st, ds, d, st', s0, r, ra, e, k⟩ := h
  obtain ⟨a, b, rfl, ha, hb⟩ := ra.as.two
  simp only [semP, sem2] at e
  split at e
  · rename_i n i
    split at e
    · rename_i zs hz
      split at e
      · rename_i j hj
        split at e
        · rename_i c hc
          cases e
          obtain ⟨p, vs, rfl, q, z, t⟩ := lr_of r ha hz
          obtain ⟨y', h1, h2, h3⟩ := t.get hc
          obtain ⟨w1, w2, w3⟩ := end_wr (ys := zs.eraseIdx j) (us := vs.eraseIdx j) s0 r hz q z (t.eraseIdx j)
          cases hb
          obtain ⟨its, n2, _, _, hsz⟩ := I.lst z
          rw [t.length] at hj
          obtain ⟨g1, g2, g3, g4⟩ := ixN_seq hj
          have hL : (sizeLine : Nat) < 2 ^ 63 := by decide
          exact mt_popAt pins s σ H _ _ v us Q I rx rv ⟨p, vs, i, j, y', rfl, rfl, z, by omega, by omega, g1, h1, k _ _ _ w1 w2 ⟨h2.mono w3, fr_of h3⟩⟩
        · cases e
      · cases e
    · cases e
  · cases e
/-- o[i] = v -/
theorem set_any : PSet X (fun o i v H Q => ∃ (H0 : Hp) (m0 m : List Addr) (st st' : Sto) (a b c : D), Step m0 H0 m H ∧ Rl ws m st H ∧ DV ws m H a o ∧ DV ws m H b i ∧ DV ws m H c v ∧ Fr H0 c v ∧ setD a b c st = some st' ∧
    ∀ m' H', Step m0 H0 m' H' → Rl ws m' st' H' → Q H') := by
  intro pins s σ H o i v ov iv u Q I ro ri rv h
  obtain ⟨H0, m0, m, st, st', a, b, c, s0, r, ha, hb, hc, fr, e, k⟩ := h
  unfold setD at e
  split at e
  · rename_i n j
    split at e
    · rename_i zs hz
      split at e
      · rename_i l hl
        cases e
        obtain ⟨p, vs, rfl, q, z, t⟩ := lr_of r ha hz
        cases hb
        obtain ⟨r1, h1, k1⟩ := mat_ok r hc
        have s1 : Step m0 H0 (m ++ tls [c] [v]) H := s0.more (tls_one fr)
        have e1 : (mat c st).2[n]? = some (.lst zs) := by
          have hn : n < st.length := (List.getElem?_eq_some_iff.mp hz).1
          cases c <;> first | exact hz | (show (st ++ _)[n]? = _; rw [List.getElem?_append_left hn]; exact hz)
        have q1 : (m ++ tls [c] [v])[n]? = some p := by
          rw [List.getElem?_append_left (List.getElem?_eq_some_iff.mp q).1]
          exact q
        obtain ⟨w1, w2, w3⟩ := end_wr s1 r1 e1 q1 z (DVs.set h1 k1 l (t.up _))
        exact set_list pins s σ H _ _ v ov iv u Q I ro ri rv ⟨p, vs, j, l, rfl, rfl, z, by rw [← t.length]; exact hl, k _ _ w1 w2⟩
      · cases e
    · cases e
  · cases e
end
end Mn
/-! Mn5b: sorted(..). -/
namespace Mn
open PySem PySem.Spec PySem.Calls PyProof.Rows L2
/-! ### a sort under a function -/
section
variable {α β : Type} {f : α → β} {le : α → α → Bool} {le' : β → β → Bool}
theorem merge_mapF (h : ∀ a b, le a b = le' (f a) (f b)) : ∀ xs ys : List α, (List.merge xs ys le).map f = List.merge (xs.map f) (ys.map f) le'
  | [], ys => by simp
  | x :: xs, [] => by simp
  | x :: xs, y :: ys => by
    rw [List.cons_merge_cons, List.map_cons, List.map_cons, List.cons_merge_cons, ← h]
    split
    · rw [List.map_cons, merge_mapF h xs (y :: ys), List.map_cons]
    · rw [List.map_cons, merge_mapF h (x :: xs) ys, List.map_cons]
theorem mergeSort_mapF (h : ∀ a b, le a b = le' (f a) (f b)) : ∀ (n : Nat) (xs : List α), xs.length ≤ n → (xs.mergeSort le).map f = (xs.map f).mergeSort le'
  | _, [], _ => by simp
  | _, [a], _ => by simp
  | 0, a :: b :: xs, hn => by simp at hn
  | n + 1, a :: b :: xs, hn => by
    rw [List.mergeSort, List.map_cons, List.map_cons, List.mergeSort]
    dsimp only [List.MergeSort.Internal.splitInTwo]
    rw [merge_mapF h]
    have hl : (f a :: f b :: xs.map f) = (a :: b :: xs).map f := rfl
    congr 1
    · rw [mergeSort_mapF h n _ (by simp at hn ⊢; omega)]
      simp [List.map_take]
    · rw [mergeSort_mapF h n _ (by simp at hn ⊢; omega)]
      simp [List.map_drop]
end
/-! ### sorted of a list or tuple -/
section
open PySem.W
variable {prog : Program} {w : World} {A : Around} {E : Value → Shared → Prop} {s : Shared}
/-- a list's or tuple's object -/
def SeqObj (h : Heap) (l : Addr) (vs : List Value) : Prop := ∃ (o : Obj) (n : Nat), h.get? l = some o ∧ (o.cls = .type "list" ∨ o.cls = .type "tuple") ∧ o.data = .seq vs.toArray n
theorem collect_seqObj {l : Addr} {vs : List Value} {Q : List Value → Shared → Prop} (hl : SeqObj s.heap l vs) (hsz : vs.length ≤ sizeLine)
    (h : Q vs { s with heap := (s.heap.push (seqObj "list" #[] 0)).update s.heap.objs.size (Obj.mapSeq (· ++ vs.toArray)) }) : wpAny (model prog w) A (collect (.ref l)) Q E s := by
  obtain ⟨o, n, ho, hc, hd⟩ := hl
  have new : (s.heap.push (seqObj "list" #[] 0)).get? s.heap.objs.size = some (seqObj "list" #[] 0) := Heap.get?_push_size _ rfl
  have old : (s.heap.push (seqObj "list" #[] 0)).get? l = some o := Heap.get?_push_of_some _ ho
  unfold collect
  refine wpAny_bind (wpAny_runValue (codeAny_builtin entry_proto_collect' ?_))
  show wpAny _ _ (do again (.builtin "list.__iadd__" ⟨[← newList [], .ref l], []⟩)) _ _ s
  refine wpAny_bind (wpAny_newList (wpAny_pure ⟨Code.quiet_builtin _ (by decide +kernel), codeAny_builtin entry_list_iadd' ?_⟩))
  show wpAny _ _ (Builtin.List.listExtendWith _ _ _) _ _ { s with heap := s.heap.push (seqObj "list" #[] 0) }
  unfold Builtin.List.listExtendWith
  obtain ⟨T, hT, ht⟩ : ∃ T, o.cls = .type T ∧ ((Value.type T == Value.type "list") || (Value.type T == Value.type "tuple")) = true := by
    rcases hc with hc | hc
    · exact ⟨_, hc, rfl⟩
    · exact ⟨_, hc, rfl⟩
  refine wpAny_bind (wpAny_typeOf (T := T) ⟨o, old, hT⟩ ?_)
  rw [if_pos (by rw [Bool.or_assoc, ht, Bool.or_true])]
  refine wpAny_bind (listItems_at old hd (wpAny_bind (listItems_at new rfl ?_)))
  rw [if_neg (by simp)]
  refine wpAny_bind (listUpdate_at new rfl (wpAny_pure ?_) (Nat.zero_le _) (by show (#[] ++ vs.toArray).size ≤ _; simp; omega))
  refine wpAny_bind (wpAny_load (get?_update_seq new _) ?_)
  show wpAny _ _ (pure ((#[] : Array Value) ++ vs.toArray).toList) Q E _
  have e : ((#[] : Array Value) ++ vs.toArray).toList = vs := by simp
  rw [e]
  exact wpAny_pure h
theorem sorted_seqObj {l : Addr} {vs : List Value} {Q : Value → Shared → Prop} {κ : KeyKind} (hl : SeqObj s.heap l vs) (S : SortsAt prog w A.in1.in1 { s with heap := sortingHeap (copyHeap s.heap vs) (s.heap.objs.size + 1) vs } κ vs) (hL : vs.length ≤ sizeLine)
    (h : Q (.ref (s.heap.objs.size + 1)) { s with heap := sortedAll s.heap vs (sortVals κ false vs vs).toArray }) : wpAny (model prog w) A (call (.builtin "sorted") [.ref l]) Q E s := by
  refine call_function_entry kind_sorted plain_sorted entry_sorted (args_sorted1 _) ?_
  unfold Builtin.«sorted»
  refine wpAny_bind (m := checkCount "sorted" 1 1 _) (wpAny_pure (wpAny_bind (collect_seqObj hl hL (wpAny_bind (wpAny_newList ?_ hL)))))
  have hsz : ((s.heap.push (seqObj "list" #[] 0)).update s.heap.objs.size (Obj.mapSeq (· ++ vs.toArray))).objs.size = s.heap.objs.size + 1 := by simp [Heap.size_update, size_push']
  show wpAny _ _ _ _ _ { s with heap := copyHeap s.heap vs }
  rw [hsz]
  refine wpAny_bind (wpAny_holding (wpAny_call_entry slot_list_sort ⟨_, copyHeap_at s.heap vs, rfl⟩ entry_list_sort ?_ (args_list_sort _)))
  exact list_sort_vals (s := { s with heap := copyHeap s.heap vs }) (copyHeap_at s.heap vs) S hL ⟨_, rfl, wpAny_pure ⟨_, rfl, h⟩⟩
end
/-! ### by the small run -/
section
open PySem.W
variable {ws : Ws} {X : Cx}
/-- an item: what it is in the small run, in the layer, as data -/
abbrev Tri := D × V × PyData
theorem each_of {H : Hp} {s : Shared} {pins : List (Addr × Obj)} {σ : L2.St} (I : Inv X pins σ H s) : ∀ {ts : List Tri} {us : List Value}, Vals (ts.map fun t => t.2.1) us → DpAll X.K H (ts.map fun t => t.2.1) (ts.map fun t => t.2.2) →
    EachIs (fun u (t : Tri) => RelV t.2.1 u) us ts ∧ EachIs (fun u (t : Tri) => ∃ as, Reads s.heap u t.2.2 as) us ts
  | [], _, r, _ => by
    cases r
    exact ⟨.nil, .nil⟩
  | t :: ts, _, r, d => by
    cases r with
    | cons r1 r2 =>
      cases d with
      | cons d1 d2 =>
        obtain ⟨a, b⟩ := each_of I (ts := ts) r2 d2
        exact ⟨.cons r1 a, .cons (Dp.reads I _ _ _ d1 r1) b⟩
theorem each_vals : ∀ {us : List Value} {ts : List Tri}, EachIs (fun u (t : Tri) => RelV t.2.1 u) us ts → Vals (ts.map fun t => t.2.1) us
  | _, _, .nil => .nil
  | _, _, .cons h t => .cons h (each_vals t)
theorem tri_of {m : List Addr} {H : Hp} : ∀ {xs : List D} {vs : List V} {ps : List PyData}, DVs ws m H xs vs → DpAll ws.K H vs ps → ∃ ts : List Tri, ts.map (fun t => t.1) = xs ∧ ts.map (fun t => t.2.1) = vs ∧ ts.map (fun t => t.2.2) = ps ∧ ts.map (fun t => (t.1, t.2.2)) = xs.zip ps ∧ ∀ t ∈ ts, DV ws m H t.1 t.2.1 ∧ notl t.1 = true
  | _, _, _, .nil, .nil => ⟨[], rfl, rfl, rfl, rfl, fun _ h => by cases h⟩
  | _, _, _, .cons h n t, .cons (d := d) h2 t2 => by
    obtain ⟨ts, a, b, c, e, f⟩ := tri_of t t2
    exact ⟨(_, _, d) :: ts, by rw [List.map_cons, a], by rw [List.map_cons, b], by rw [List.map_cons, c], by rw [List.map_cons, e, List.zip_cons_cons], fun t ht => by
      rcases List.mem_cons.mp ht with rfl | ht
      · exact ⟨h, n⟩
      · exact f t ht⟩
theorem dvs_of {m : List Addr} {H : Hp} : ∀ {ts : List Tri}, (∀ t ∈ ts, DV ws m H t.1 t.2.1 ∧ notl t.1 = true) → DVs ws m H (ts.map fun t => t.1) (ts.map fun t => t.2.1)
  | [], _ => .nil
  | t :: ts, h => .cons (h t (by simp)).1 (h t (by simp)).2 (dvs_of fun u hu => h u (by simp [hu]))
theorem sortOk_alike {ps : List PyData} (h : sortOk ps = true) : AllAlike ps ∧ Sortable ps := by
  unfold sortOk at h
  rw [Bool.and_eq_true, Bool.or_eq_true] at h
  refine ⟨fun d hd d' hd' => List.all_eq_true.mp (List.all_eq_true.mp h.1 d hd) d' hd', ?_⟩
  rcases h.2 with h | h
  · refine .inl fun d hd => ?_
    have := List.all_eq_true.mp h d hd
    unfold neTupP at this
    split at this
    · exact ⟨_, _, rfl⟩
    · cases this
  · refine .inr fun d hd => ?_
    have := List.all_eq_true.mp h d hd
    unfold noTupP at this
    split at this
    · cases this
    · cases this
    · rename_i h1 h2
      exact ⟨h1, h2⟩
theorem cr_sortM (G : Gp ws X) : CallR X (.builtin "sorted") (rP ws .sorted) := by
  intro pins s σ H xs us Q I rv h
  obtain ⟨H0, m0, m, st, a, x, d, st', rfl, s0, r, ra, ha, e, k⟩ := one_arg (fun _ _ => rfl) (fun _ _ _ => rfl) (sem2_none (by simp)) h
  simp only [sem1] at e
  split at e
  · rename_i ys hy
    split at e
    · rename_i zs hz
      cases e
      unfold sortD at hz
      split at hz
      · rename_i ps hps
        split at hz
        · rename_i hok
          cases hz
          obtain ⟨p, vs, rfl, q, t⟩ := seq_ok r ha hy
          obtain ⟨b1, b2, b3⟩ := toPs_ok r t hps
          obtain ⟨u, rfl, ru⟩ := vals1 rv
          obtain rfl : u = Value.ref p := ru
          obtain ⟨ts, t1, t2, t3, t4, t5⟩ := tri_of t b1
          obtain ⟨al, so⟩ := sortOk_alike hok
          obtain ⟨its, rvs, sq, hlen⟩ : ∃ its : List Value, Vals vs its ∧ SeqObj s.heap p its ∧ its.length ≤ sizeLine := by
            rcases q with q | q
            · obtain ⟨its, rv', il, hz'⟩ := I.list (toL G.K q.1)
              obtain ⟨o, ho, hc, n, hd⟩ := il.isList
              exact ⟨its, rv', ⟨o, n, ho, .inl hc, hd⟩, by rw [← rv'.length]; exact hz'⟩
            · obtain ⟨its, rv', it, hz'⟩ := I.tuple (toT G.K q.1)
              obtain ⟨o, ho, hc, n, hd⟩ := it
              exact ⟨its, rv', ⟨o, n, ho, .inr hc, hd⟩, by rw [← rv'.length]; exact hz'⟩
          have hu := G.units
          rw [← G.K] at b1
          obtain ⟨e1, e2⟩ := each_of I (ts := ts) (us := its) (by rw [t2]; exact rvs) (by rw [t2, t3]; exact b1)
          have hbd : ∀ d, d ∈ ts.map (fun t => t.2.2) → X.A.in1.in1.units + d.depth < cLine := fun d hd => by
            have : d.depth ≤ PyData.depthAll ps := by
              rw [t3] at hd
              exact PySem.PyData.depth_le_depthAll ps d hd
            show X.A.units + 1 + 1 + d.depth < cLine
            omega
          have er' : EachIs (fun v (t : Tri) => ∃ as, Reads (sortingHeap (copyHeap s.heap its) (s.heap.objs.size + 1) its) v t.2.2 as) its ts := e2.mono fun _ _ ⟨as, r⟩ => ⟨as, PyProof.Rows.Reads.keeps (fun _ _ => sorting_copy_old) r⟩
          refine sorted_seqObj sq (SortsAt.data (s := { s with heap := sortingHeap (copyHeap s.heap its) (s.heap.objs.size + 1) its }) (each_map (R := fun v d => ∃ as, Reads (sortingHeap (copyHeap s.heap its) (s.heap.objs.size + 1) its) v d as) (fun t : Tri => t.2.2) er') (by rw [t3]; exact al) (by rw [t3]; exact so) hbd) hlen ?_
          have out := sortVals_data (enc := fun t : Tri => t.2.2) false e1 er' (by rw [t3]; exact al)
          have es : ((ys.zip ps).mergeSort fun a b => !PySem.W.dataLt b.2 a.2).map (fun t => t.1) = (ts.mergeSort (dataLe false fun t : Tri => t.2.2)).map fun t => t.1 := by
            rw [← t4, ← mergeSort_mapF (f := fun t : Tri => (t.1, t.2.2)) (le := dataLe false fun t : Tri => t.2.2) (fun a b => by rw [dataLe_eq]; rfl) _ _ (Nat.le_refl _), List.map_map]
            rfl
          have perm := List.mergeSort_perm ts (dataLe false fun t : Tri => t.2.2)
          have t6 := dvs_of (ws := ws) (m := m) (H := H) (ts := ts.mergeSort (dataLe false fun t : Tri => t.2.2)) fun t ht => t5 t (perm.mem_iff.mp ht)
          have ov := each_vals out
          have hp : H (s.heap.objs.size + 1) = none := I.hok.fresh (Nat.le_succ _)
          have lenO : ((ts.mergeSort (dataLe false fun t : Tri => t.2.2)).map fun t => t.2.1).length ≤ sizeLine := by
            rw [List.length_map, perm.length_eq, ← List.length_map (f := fun t : Tri => t.2.1), t2, rvs.length]
            exact hlen
          obtain ⟨n, hn⟩ := sortedAll_at s.heap its (sortVals (dataKind (sortingHeap (copyHeap s.heap its) (s.heap.objs.size + 1) its) (ts.map fun t => t.2.2)) false its its).toArray
          refine ⟨.ref (s.heap.objs.size + 1), _, I.laid (t' := s.toks) (o := .lst _) (fun b o e => sortedAll_old e) (Nat.le_succ _) ⟨lenO, _, n, ov, hn⟩, rfl, ?_⟩
          exact end_tl s0 r t6 (fun m' H' v s' r' q' => k m' H' v s' r' (by rw [es]; exact q')) _ hp
        · cases hz
      · cases hz
    · cases e
  · cases e
end
end Mn
/-! Mn5c: count and extend. -/
namespace Mn
open PySem PySem.Spec PySem.Calls PyProof.Rows L2
section
variable {ws : Ws} {X : Cx}
theorem toP_plain {st : Sto} : ∀ (n : Nat) {a : D} {p : PyData}, toP st n a = some p → p.plain = true := by
  intro n
  induction n with
  | zero => intro a p e; cases e
  | succ n ih =>
    have many : ∀ {xs : List D} {ps : List PyData}, Paired (fun x y => toP st n x = some y) xs ps → PyData.plainAll ps = true := by
      intro xs ps q
      induction q with
      | nil => simp [PyData.plainAll]
      | cons h _ ih2 => simp [PyData.plainAll, ih h, ih2]
    intro a p e
    cases a with
    | non => cases e; simp [PyData.plain]
    | bl b => cases e; simp [PyData.plain]
    | int i => cases e; simp [PyData.plain]
    | str s =>
      simp only [toP] at e
      split at e
      · cases e; simp [PyData.plain]
      · cases e
    | tup xs =>
      simp only [toP] at e
      cases h : mapO (toP st n) xs with
      | none => rw [h] at e; cases e
      | some ps => rw [h] at e; cases e; simpa [PyData.plain] using many (mapO_ok h)
    | fn g => simp [toP] at e
    | _ =>
      simp only [toP] at e
      split at e
      · split at e
        · rename_i ps h
          cases e
          simpa [PyData.plain] using many (mapO_ok h)
        · cases e
      · cases e
theorem toPs_plain {st : Sto} {n : Nat} : ∀ {xs : List D} {ps : List PyData}, mapO (toP st n) xs = some ps → PyData.plainAll ps = true := fun {xs ps} e => by
  have q := mapO_ok e
  induction q with
  | nil => simp [PyData.plainAll]
  | cons h _ ih => 
    simp only [PyData.plainAll, toP_plain _ h, Bool.true_and]
    exact ih (by
      unfold mapO at e
      rw [h] at e
      split at e
      · rename_i h1 h2; cases h1; cases e; exact h2
      · cases e)
theorem mt_countM (G : Gp ws X) : MtR X "list.count" (rM ws .count) := by
  intro pins s σ H x xs v us Q I rx rv h
  obtain ⟨H0, m0, m, st, ds, d, st', s0, r, ra, e, k⟩ := h
  obtain ⟨as, nd, fr⟩ := ra
  cases as with
  | cons hd1 t1 =>
    rename_i da das
    cases t1 with
    | nil => simp only [semP, sem1] at e; cases e
    | cons hd2 t2 =>
      rename_i db y dbs ys2
      cases t2 with
      | cons _ _ => cases e
      | nil =>
        simp only [semP, sem2] at e
        split at e
        · rename_i zs pd hz hp
          split at e
          · rename_i ps hps
            cases e
            obtain ⟨u, rfl, ru⟩ := vals1 rv
            obtain ⟨p, vs, rfl, sq, t⟩ := lst_ok r hd1 hz
            obtain ⟨a1, a2, a3⟩ := toP_ok r 15 hd2 hp
            obtain ⟨b1, b2, b3⟩ := toPs_ok r t hps
            rw [← G.K] at a1 b1 sq
            obtain ⟨its, rv', il, hsz⟩ := I.list sq
            obtain ⟨as', ra'⟩ := Dp.readsAll I ps vs its b1 rv'
            obtain ⟨bs', rb'⟩ := Dp.reads I pd y u a1 ru
            have hu := G.units
            obtain rfl : v = Value.ref p := rx
            exact PySem.SeqAt.count_list_data (vs := its.toArray) il.isList ra' rb' (toPs_plain hps) (toP_plain _ hp) (by show X.A.units + 1 + min (PyData.depthAll ps) pd.depth < cLine; omega) (by
              refine ⟨.int _, _, I.tok _, ⟨_, rfl⟩, ?_⟩
              exact end_sc s0 r (.int _) rfl k)
          · cases e
        · cases e
theorem ml_ok {m : List Addr} {st : Sto} {H : Hp} {a : D} {x : V} (r : Rl ws m st H) (h : DV ws m H a x) {xs : List D} (e : mlOf st a = some xs) : ∃ p vs, x = .ref p ∧ H p = some (.lst vs) ∧ DVs ws m H xs vs := by
  cases h with
  | tl n q t => cases e; exact ⟨_, _, rfl, q, t⟩
  | lr q =>
    simp only [mlOf] at e
    split at e
    · rename_i xs hx
      cases e
      obtain ⟨p, q', vs, z, t⟩ := r.at hx
      rw [q] at q'
      cases q'
      exact ⟨_, vs, rfl, z, t⟩
    · cases e
  | _ => cases e
theorem mt_extendM : MtR X "list.extend" (rM ws .extend) := by
  intro pins s σ H x xs v us Q I rx rv h
  obtain ⟨H0, m0, m, st, ds, d, st', s0, r, ra, e, k⟩ := h
  obtain ⟨as, nd, fr⟩ := ra
  cases as with
  | cons ha t =>
    rename_i a as
    cases t with
    | nil => simp only [semP, sem1] at e; cases e
    | cons hb t' =>
      rename_i b y bs ys
      cases t' with
      | nil =>
        simp only [semP, sem2] at e
        split at e
        · rename_i n
          split at e
          · rename_i zs ys' hz hy
            split at e
            · rename_i hl
              cases e
              obtain ⟨p, vs, rfl, q, z, t⟩ := lr_of r ha hz
              obtain ⟨p2, vs2, rfl, z2, t2⟩ := ml_ok r hb hy
              obtain ⟨w1, w2, w3⟩ := end_wr s0 r hz q z (t.append t2)
              exact mt_extend pins s σ H _ _ v us Q I rx rv ⟨p, p2, vs, vs2, rfl, rfl, z, z2, by rw [← t.length, ← t2.length]; exact hl, k _ _ _ w1 w2 ⟨.non, fr_of rfl⟩⟩
            · cases e
          · cases e
        · cases e
      | cons _ t'' => cases e
end
end Mn
/-! Mn6: contexts, readings of the small language, how they join. -/
namespace Mn
open PySem PySem.Spec PyProof.Rows L2

/-! ### what a run leaves, in a context -/
/-- an exception of the small run -/
def ExV (ws : Ws) (m : List Addr) (H : Hp) (c : Nat) (p : List D) (cls : Value) (dx : Option Addr) : Prop :=
  ∃ C an, ws.ec c = some (C, an) ∧ cls = .ref C ∧ (match an with
    | none => dx = none ∧ p = []
    | some f => ∃ d v pd, dx = some d ∧ p = [pd] ∧ H d = some (.xd [(f, v)]) ∧ DV ws m H pd v ∧ notl pd = true)
section
variable {α β γ δ : Type}
/-- R: how a result stands for one of the layer's, from the heap at the start -/
def Aft (ws : Ws) (W : WX) (n : Nat) (m : List Addr) (H : Hp) (R : Hp → List Addr → Hp → α → β → Prop) (Q : β → Hp → Prop) : Out α → Prop
  | .ok a st' => ∀ m' H' b, Step m H m' H' → Rl ws m' st' H' → R H m' H' a b → Q b H'
  | .ex c p st' => ∀ m' H' cls dx (σ' : L2.St), Step m H m' H' → Rl ws m' st' H' → ExV ws m' H' c p cls dx → σ'.length = n → W cls dx σ' H'
  | .no => False
variable {ws : Ws} {W : WX} {n : Nat} {m m1 : List Addr} {H H1 : Hp}
theorem Aft.bind {R : Hp → List Addr → Hp → α → β → Prop} {S : Hp → List Addr → Hp → γ → δ → Prop} {Q : δ → Hp → Prop} {Q1 : β → Hp → Prop} {x : Out α} {f : α → Sto → Out γ} (h : Aft ws W n m H S Q (x.bind f))
    (k : ∀ a st1 m1 H1 b, x = .ok a st1 → Step m H m1 H1 → Rl ws m1 st1 H1 → R H m1 H1 a b → Aft ws W n m H S Q (f a st1) → Q1 b H1) : Aft ws W n m H R Q1 x := by
  cases x with
  | ok a st => exact fun m' H' b s r q => k a st m' H' b rfl s r q h
  | ex c p st => exact h
  | no => exact h
/-- from a later state -/
theorem Aft.shift {S : Hp → List Addr → Hp → γ → δ → Prop} {Q : δ → Hp → Prop} {x : Out γ} (h : Aft ws W n m H S Q x) (s : Step m H m1 H1) (hS : ∀ m' H' a b, S H1 m' H' a b → S H m' H' a b) : Aft ws W n m1 H1 S Q x := by
  cases x with
  | ok a st => exact fun m' H' b s' r q => h m' H' b (s.trans s') r (hS _ _ _ _ q)
  | ex c p st => exact fun m' H' cls dx σ' s' r q l => h m' H' cls dx σ' (s.trans s') r q l
  | no => exact h
theorem Aft.imp {S : Hp → List Addr → Hp → γ → δ → Prop} {Q Q' : δ → Hp → Prop} {x : Out γ} (h : Aft ws W n m H S Q x) (k : ∀ b H', Q b H' → Q' b H') : Aft ws W n m H S Q' x := by
  cases x with
  | ok a st => exact fun m' H' b s' r q => k _ _ (h m' H' b s' r q)
  | ex c p st => exact h
  | no => exact h
end
theorem RD.back {ws : Ws} {m1 m' : List Addr} {H H1 H' : Hp} {m : List Addr} {d : D} {v : V} (s : Step m H m1 H1) (h : RD ws H1 m' H' d v) : RD ws H m' H' d v := ⟨h.1, fun n a e => s.there a (h.2 n a e)⟩
theorem RA.back {ws : Ws} {m1 m' : List Addr} {H H1 H' : Hp} {m : List Addr} {ds : List D} {vs : List V} (s : Step m H m1 H1) (h : RA ws H1 m' H' ds vs) : RA ws H m' H' ds vs := ⟨h.as, h.nd, fun a e => s.there a (h.fr a e)⟩

theorem evEs_length {cf : Cf} : ∀ {es : List E} {ρ : Rho} {st st' : Sto} {ds : List D}, evEs cf es ρ st = .ok ds st' → ds.length = es.length
  | [], ρ, st, st', ds, h => by
    unfold evEs at h
    cases h
    rfl
  | e :: es, ρ, st, st', ds, h => by
    unfold evEs at h
    cases h1 : evE cf e ρ st with
    | ok d st1 =>
      rw [h1] at h
      cases h2 : evEs cf es ρ st1 with
      | ok ds' st2 =>
        have h' : Out.ok (d :: ds') st2 = .ok ds st' := by
          have := h
          simp only [Out.bind, h2] at this
          exact this
        cases h'
        rw [List.length_cons, List.length_cons, evEs_length h2]
      | ex c p st2 => simp only [Out.bind, h2] at h; cases h
      | no => simp only [Out.bind, h2] at h; cases h
    | ex c p st1 => rw [h1] at h; cases h
    | no => rw [h1] at h; cases h

/-! ### the readings -/
section
variable (ws : Ws) (cf : Cf) (W : WX) (n : Nat)
def tE (e : E) : TE := fun σ H Q => ∃ ρ st m, RlE ws m H ρ σ ∧ Rl ws m st H ∧ σ.length = n ∧ Aft ws W n m H (RD ws) Q (evE cf e ρ st)
def tEs (es : List E) : TA := fun σ H Q => ∃ ρ st m, RlE ws m H ρ σ ∧ Rl ws m st H ∧ σ.length = n ∧ Aft ws W n m H (RA ws) Q (evEs cf es ρ st)
def RB : Hp → List Addr → Hp → Bool → Bool → Prop := fun _ _ _ a b => a = b
def tT (e : E) : TT := fun σ H Q => ∃ ρ st m, RlE ws m H ρ σ ∧ Rl ws m st H ∧ σ.length = n ∧ Aft ws W n m H RB Q ((evE cf e ρ st).bind asB)
end
/-! weaker readings -/
theorem PE.imp {X : Cx} {e : Expr} {t u : TE} (h : PE X e t) (k : ∀ σ H Q, u σ H Q → t σ H Q) : PE X e u := ⟨fun pins s σ H Q I q => h.run pins s σ H Q I (k _ _ _ q)⟩
theorem PT.imp {X : Cx} {e : Expr} {t u : TT} (h : PT X e t) (k : ∀ σ H Q, u σ H Q → t σ H Q) : PT X e u := ⟨fun pins s σ H Q I q => h.run pins s σ H Q I (k _ _ _ q)⟩
theorem PW.imp {X : Cx} {e : Expr} {t u : TT} (h : PW X e t) (k : ∀ σ H Q, u σ H Q → t σ H Q) : PW X e u := ⟨fun wh pins s σ H Q I q => h.run wh pins s σ H Q I (k _ _ _ q)⟩
theorem PA.imp {X : Cx} {es : List Expr} {t u : TA} (h : PA X es t) (k : ∀ σ H Q, u σ H Q → t σ H Q) : PA X es u := ⟨fun pos pins s σ H Q I q => h.run pos pins s σ H Q I (k _ _ _ q)⟩
theorem PS.imp {X : Cx} {e : Stmt} {t u : TS} (h : PS X e t) (k : ∀ D σ H, u D σ H → t D σ H) : PS X e u := ⟨fun pins s σ H D I q => h.run pins s σ H D I (k _ _ _ q)⟩
theorem PSs.imp {X : Cx} {e : List Stmt} {t u : TS} (h : PSs X e t) (k : ∀ D σ H, u D σ H → t D σ H) : PSs X e u := ⟨fun pins s σ H D I q => h.run pins s σ H D I (k _ _ _ q)⟩
theorem PG.imp {X : Cx} {e : Expr} {t u : TG} (h : PG X e t) (k : ∀ v σ H Q, u v σ H Q → t v σ H Q) : PG X e u := ⟨fun pins s σ H v w Q I r q => h.run pins s σ H v w Q I r (k _ _ _ _ q)⟩
theorem PI.imp {X : Cx} {tg e : Expr} {t u : TI} (h : PI X tg e t) (k : ∀ σ H R, u σ H R → t σ H R) : PI X tg e u := ⟨fun pins s σ H R I q => h.run pins s σ H R I (k _ _ _ q)⟩

section
variable {ws : Ws} {cf : Cf} {W : WX} {n : Nat} {σ : L2.St} {H : Hp}
/-- one expression, then more -/
theorem tE_bind {e : E} {ρ : Rho} {st : Sto} {m : List Addr} {γ δ : Type} {S : Hp → List Addr → Hp → γ → δ → Prop} {Q : δ → Hp → Prop} {Q1 : VK} {f : D → Sto → Out γ} (hρ : RlE ws m H ρ σ) (r : Rl ws m st H) (hl : σ.length = n)
    (h : Aft ws W n m H S Q ((evE cf e ρ st).bind f))
    (k : ∀ d st1 m1 H1 v, evE cf e ρ st = .ok d st1 → Step m H m1 H1 → Rl ws m1 st1 H1 → RlE ws m1 H1 ρ σ → RD ws H m1 H1 d v → Aft ws W n m H S Q (f d st1) → Q1 v H1) : tE ws cf W n e σ H Q1 :=
  ⟨ρ, st, m, hρ, r, hl, Aft.bind h fun d st1 m1 H1 v e1 s r1 q a => k d st1 m1 H1 v e1 s r1 (hρ.mono s) q a⟩
theorem tEs_bind {es : List E} {ρ : Rho} {st : Sto} {m : List Addr} {γ δ : Type} {S : Hp → List Addr → Hp → γ → δ → Prop} {Q : δ → Hp → Prop} {Q1 : List V → Hp → Prop} {f : List D → Sto → Out γ} (hρ : RlE ws m H ρ σ) (r : Rl ws m st H) (hl : σ.length = n)
    (h : Aft ws W n m H S Q ((evEs cf es ρ st).bind f))
    (k : ∀ ds st1 m1 H1 vs, evEs cf es ρ st = .ok ds st1 → Step m H m1 H1 → Rl ws m1 st1 H1 → RlE ws m1 H1 ρ σ → RA ws H m1 H1 ds vs → Aft ws W n m H S Q (f ds st1) → Q1 vs H1) : tEs ws cf W n es σ H Q1 :=
  ⟨ρ, st, m, hρ, r, hl, Aft.bind h fun d st1 m1 H1 v e1 s r1 q a => k d st1 m1 H1 v e1 s r1 (hρ.mono s) q a⟩
theorem tE_one {e : E} {Q : VK} {ρ : Rho} {st : Sto} {m : List Addr} (hρ : RlE ws m H ρ σ) (r : Rl ws m st H) (hl : σ.length = n) (h : Aft ws W n m H (RD ws) Q (evE cf e ρ st)) : tE ws cf W n e σ H Q := ⟨ρ, st, m, hρ, r, hl, h⟩
theorem bind_ok {α : Type} (x : Out α) : (x.bind fun a st => .ok a st) = x := by cases x <;> rfl
theorem bind_assoc {α β γ : Type} (x : Out α) (f : α → Sto → Out β) (g : β → Sto → Out γ) : (x.bind f).bind g = x.bind fun a st => (f a st).bind g := by cases x <;> rfl
/-- an operation behind its arguments -/
theorem aft_prim {m0 m : List Addr} {H0 H : Hp} {st : Sto} {p : Pr} {ds : List D} {vs : List V} {Q : VK} (s : Step m0 H0 m H) (r : Rl ws m st H) (a : RA ws H0 m H ds vs) (h : Aft ws W n m0 H0 (RD ws) Q (binds (semP p ds st))) : rP ws p vs H Q := by
  cases e : semP p ds st with
  | none => rw [e] at h; exact h.elim
  | some ds' =>
    obtain ⟨d, st'⟩ := ds'
    rw [e] at h
    exact ⟨H0, m0, m, st, ds, d, st', s, r, a, e, fun m' H' v s' r' q => h m' H' v s' r' q⟩
/-- arguments one by one -/
theorem tEs_cons {e : E} {es : List E} {Q : List V → Hp → Prop} (h : tEs ws cf W n (e :: es) σ H Q) : tCons (tE ws cf W n e) (tEs ws cf W n es) σ H Q := by
  obtain ⟨ρ, st, m, hρ, r, hl, h⟩ := h
  unfold evEs at h
  refine tE_bind hρ r hl h fun d st1 m1 H1 v _ s1 r1 hρ1 q1 h1 => ?_
  refine ⟨ρ, st1, m1, hρ1, r1, hl, ?_⟩
  cases x : evEs cf es ρ st1 with
  | ok ds st2 =>
    rw [x] at h1
    intro m2 H2 vs s2 r2 q2
    exact h1 m2 H2 (v :: vs) (s1.trans s2) r2 (q2.cons q1 s2 s1.there)
  | ex c p st2 =>
    rw [x] at h1
    exact fun m' H' cls dx σ' s' r q l => h1 m' H' cls dx σ' (s1.trans s') r q l
  | no => rw [x] at h1; exact h1
theorem tEs_nil {Q : List V → Hp → Prop} (h : tEs ws cf W n [] σ H Q) : tNil σ H Q := by
  obtain ⟨ρ, st, m, hρ, r, hl, h⟩ := h
  exact h m H [] (Step.refl m H) r ⟨.nil, by simp [tls], by simp [tls]⟩
theorem tE_mono {e : E} {Q Q' : VK} (h : tE ws cf W n e σ H Q) (k : ∀ v H', Q v H' → Q' v H') : tE ws cf W n e σ H Q' := by
  obtain ⟨ρ, st, m, hρ, r, hl, h⟩ := h
  exact ⟨ρ, st, m, hρ, r, hl, h.imp k⟩
theorem tE_prim {p : Pr} {es : List E} {Q : VK} (h : tE ws cf W n (.prim p es) σ H Q) : tEs ws cf W n es σ H (fun vs H1 => rP ws p vs H1 Q) := by
  obtain ⟨ρ, st, m, hρ, r, hl, h⟩ := h
  unfold evE at h
  exact tEs_bind hρ r hl h fun ds st1 m1 H1 vs _ s1 r1 hρ1 q1 h1 => aft_prim s1 r1 q1 h1
theorem tEs_one {a : E} {Q : List V → Hp → Prop} (h : tEs ws cf W n [a] σ H Q) : tE ws cf W n a σ H fun x H1 => Q [x] H1 := tE_mono (tEs_cons h) fun _ _ k => tEs_nil k
theorem tEs_two {a b : E} {Q : List V → Hp → Prop} (h : tEs ws cf W n [a, b] σ H Q) : tE ws cf W n a σ H fun x H1 => tE ws cf W n b σ H1 fun y H2 => Q [x, y] H2 := tE_mono (tEs_cons h) fun _ _ k => tEs_one k
theorem tEs_three {a b c : E} {Q : List V → Hp → Prop} (h : tEs ws cf W n [a, b, c] σ H Q) : tE ws cf W n a σ H fun x H1 => tE ws cf W n b σ H1 fun y H2 => tE ws cf W n c σ H2 fun z H3 => Q [x, y, z] H3 := tE_mono (tEs_cons h) fun _ _ k => tEs_two k
/-- a two-place operation -/
theorem tE_op {p : Pr} {a b : E} {Q : VK} (h : tE ws cf W n (.prim p [a, b]) σ H Q) : tOp (rP2 ws p) (tE ws cf W n a) (tE ws cf W n b) σ H Q := tEs_two (tE_prim h)
theorem asB_inv {d : D} {st : Sto} {α : Type} {f : Bool → Sto → Out α} (x : Out α) (h : x ≠ .no) (e : (asB d st).bind f = x) : ∃ b, d = .bl b ∧ f b st = x := by
  cases d with
  | bl b => exact ⟨b, rfl, e⟩
  | _ => exact absurd e.symm h
theorem aft_no {α β : Type} {m : List Addr} {R : Hp → List Addr → Hp → α → β → Prop} {Q : β → Hp → Prop} {x : Out α} (h : Aft ws W n m H R Q x) : x ≠ .no := fun e => by rw [e] at h; exact h
/-- a test, then more -/
theorem tT_bind {e : E} {ρ : Rho} {st : Sto} {m : List Addr} {γ δ : Type} {S : Hp → List Addr → Hp → γ → δ → Prop} {Q : δ → Hp → Prop} {Q1 : Bool → Hp → Prop} {f : Bool → Sto → Out γ} (hρ : RlE ws m H ρ σ) (r : Rl ws m st H) (hl : σ.length = n)
    (h : Aft ws W n m H S Q (((evE cf e ρ st).bind asB).bind f))
    (k : ∀ b st1 m1 H1, Step m H m1 H1 → Rl ws m1 st1 H1 → RlE ws m1 H1 ρ σ → Aft ws W n m H S Q (f b st1) → Q1 b H1) : tT ws cf W n e σ H Q1 :=
  ⟨ρ, st, m, hρ, r, hl, Aft.bind h fun b st1 m1 H1 b' e1 s r1 q a => by
    cases q
    exact k b st1 m1 H1 s r1 (hρ.mono s) a⟩
/-- a test by a value -/
theorem tT_val {e : E} {Q : Bool → Hp → Prop} (h : tT ws cf W n e σ H Q) : tB (tE ws cf W n e) σ H Q := by
  obtain ⟨ρ, st, m, hρ, r, hl, h⟩ := h
  refine tE_bind hρ r hl h fun d st1 m1 H1 v _ s1 r1 hρ1 q1 h1 => ?_
  obtain ⟨b, rfl, _⟩ := asB_inv (f := fun b st => .ok b st) (asB d st1) (aft_no h1) (bind_ok _)
  cases q1.1
  exact ⟨b, rfl, h1 m1 H1 b s1 r1 rfl⟩
theorem tT_not {e : E} {Q : Bool → Hp → Prop} (h : tT ws cf W n (.not e) σ H Q) : tNot (tT ws cf W n e) σ H Q := by
  obtain ⟨ρ, st, m, hρ, r, hl, h⟩ := h
  unfold evE at h
  rw [bind_assoc] at h
  exact tT_bind hρ r hl h fun b st1 m1 H1 s1 r1 hρ1 h1 => h1 m1 H1 _ s1 r1 rfl
theorem tE_not {e : E} {Q : VK} (h : tE ws cf W n (.not e) σ H Q) : tNotV (tE ws cf W n e) σ H Q := by
  obtain ⟨ρ, st, m, hρ, r, hl, h⟩ := h
  unfold evE at h
  rw [bind_assoc] at h
  refine tE_bind hρ r hl h fun d st1 m1 H1 v _ s1 r1 hρ1 q1 h1 => ?_
  obtain ⟨b, rfl, _⟩ := asB_inv _ (aft_no h1) rfl
  cases q1.1
  exact ⟨b, rfl, h1 m1 H1 _ s1 r1 ⟨.bl _, fr_of rfl⟩⟩
theorem tT_and {a b : E} {Q : Bool → Hp → Prop} (h : tT ws cf W n (.and a b) σ H Q) : tAnd (tT ws cf W n a) (tT ws cf W n b) σ H Q := by
  obtain ⟨ρ, st, m, hρ, r, hl, h⟩ := h
  unfold evE at h
  rw [bind_assoc] at h
  refine tT_bind hρ r hl h fun c st1 m1 H1 s1 r1 hρ1 h1 => ?_
  cases c with
  | true => exact ⟨ρ, st1, m1, hρ1, r1, hl, h1.shift s1 fun _ _ _ _ h => h⟩
  | false => exact h1 m1 H1 _ s1 r1 rfl
theorem tE_and {a b : E} {Q : VK} (h : tE ws cf W n (.and a b) σ H Q) : tAndV (tE ws cf W n a) (tE ws cf W n b) σ H Q := by
  obtain ⟨ρ, st, m, hρ, r, hl, h⟩ := h
  unfold evE at h
  rw [bind_assoc] at h
  refine tE_bind hρ r hl h fun d st1 m1 H1 v _ s1 r1 hρ1 q1 h1 => ?_
  obtain ⟨c, rfl, _⟩ := asB_inv _ (aft_no h1) rfl
  cases q1.1
  refine ⟨c, rfl, ?_⟩
  cases c with
  | true => exact ⟨ρ, st1, m1, hρ1, r1, hl, Aft.shift (x := evE cf b ρ st1) h1 s1 fun _ _ _ _ h => RD.back s1 h⟩
  | false => exact h1 m1 H1 _ s1 r1 ⟨.bl _, fr_of rfl⟩
theorem tT_or {a b : E} {Q : Bool → Hp → Prop} (h : tT ws cf W n (.or a b) σ H Q) : tOr (tT ws cf W n a) (tT ws cf W n b) σ H Q := by
  obtain ⟨ρ, st, m, hρ, r, hl, h⟩ := h
  unfold evE at h
  rw [bind_assoc] at h
  refine tT_bind hρ r hl h fun c st1 m1 H1 s1 r1 hρ1 h1 => ?_
  cases c with
  | false => exact ⟨ρ, st1, m1, hρ1, r1, hl, h1.shift s1 fun _ _ _ _ h => h⟩
  | true => exact h1 m1 H1 _ s1 r1 rfl
theorem tE_or {a b : E} {Q : VK} (h : tE ws cf W n (.or a b) σ H Q) : tOrV (tE ws cf W n a) (tE ws cf W n b) σ H Q := by
  obtain ⟨ρ, st, m, hρ, r, hl, h⟩ := h
  unfold evE at h
  rw [bind_assoc] at h
  refine tE_bind hρ r hl h fun d st1 m1 H1 v _ s1 r1 hρ1 q1 h1 => ?_
  obtain ⟨c, rfl, _⟩ := asB_inv _ (aft_no h1) rfl
  cases q1.1
  refine ⟨c, rfl, ?_⟩
  cases c with
  | false => exact ⟨ρ, st1, m1, hρ1, r1, hl, Aft.shift (x := evE cf b ρ st1) h1 s1 fun _ _ _ _ h => RD.back s1 h⟩
  | true => exact h1 m1 H1 _ s1 r1 ⟨.bl _, fr_of rfl⟩
theorem tE_ite {c a b : E} {Q : VK} (h : tE ws cf W n (.ite c a b) σ H Q) : tIf (tT ws cf W n c) (tE ws cf W n a) (tE ws cf W n b) σ H Q := by
  obtain ⟨ρ, st, m, hρ, r, hl, h⟩ := h
  unfold evE at h
  refine tT_bind hρ r hl h fun c st1 m1 H1 s1 r1 hρ1 h1 => ?_
  cases c with
  | true => exact ⟨ρ, st1, m1, hρ1, r1, hl, Aft.shift (x := evE cf a ρ st1) h1 s1 fun _ _ _ _ h => RD.back s1 h⟩
  | false => exact ⟨ρ, st1, m1, hρ1, r1, hl, Aft.shift (x := evE cf b ρ st1) h1 s1 fun _ _ _ _ h => RD.back s1 h⟩
def isCmp (p : Pr) : Bool := match p with
  | .lt => true
  | .le => true
  | .gt => true
  | .ge => true
  | _ => false
theorem cmp_sem {p : Pr} (h : isCmp p = true) {i j : Int} {b : Bool} (e : semI p i j = some (.bl b)) (st : Sto) : semP p [.int i, .int j] st = some (.bl b, st) := by
  cases p <;> first | exact absurd h (by decide) | (cases e <;> rfl)
theorem RA.one {H0 : Hp} {m : List Addr} {d : D} {v : V} (h : RD ws H0 m H d v) : RA ws H0 m H [d] [v] := ⟨.cons h.1 .nil, by
  cases d <;> cases v <;> simp [tls], tls_one h.2⟩
theorem tE_chain {p q : Pr} (hp : isCmp p = true) {a b c : E} {Q : VK} (h : tE ws cf W n (.chain p q a b c) σ H Q) : tChain (rP2 ws p) (rP2 ws q) (tE ws cf W n a) (tE ws cf W n b) (tE ws cf W n c) σ H Q := by
  obtain ⟨ρ, st, m, hρ, r, hl, h⟩ := h
  unfold evE at h
  refine tE_bind hρ r hl h fun x st1 m1 H1 v e1 s1 r1 hρ1 q1 h1 => ?_
  clear e1
  refine tE_bind hρ1 r1 hl (Aft.shift h1 s1 fun _ _ _ _ h => RD.back s1 h) fun y st2 m2 H2 u e2 s2 r2 hρ2 q2 h2 => ?_
  clear e2
  split at h2
  · rename_i i j
    cases q1.1
    cases q2.1
    have r0 : RA ws H2 m2 H2 [.int i, .int j] [.int i, .int j] := ⟨.cons (.int i) (.cons (.int j) .nil), by simp [tls], by simp [tls]⟩
    cases e : semI p i j with
    | none => rw [e] at h2; exact h2.elim
    | some d =>
      rw [e] at h2
      cases d with
      | bl t =>
        refine ⟨H2, m2, m2, st2, [.int i, .int j], .bl t, st2, Step.refl _ _, r2, r0, cmp_sem hp e st2, fun m3 H3 w s3 r3 q3 => ?_⟩
        cases q3.1
        refine ⟨t, rfl, ?_⟩
        cases t with
        | true =>
          have h3 : Aft ws W n m3 H3 (RD ws) Q ((evE cf c ρ st2).bind fun z st => binds (semP q [.int j, z] st)) := Aft.shift (x := (evE cf c ρ st2).bind fun z st => binds (semP q [.int j, z] st)) h2 (s2.trans s3) fun _ _ _ _ h => RD.back (s2.trans s3) h
          exact tE_bind (hρ2.mono s3) r3 hl h3 fun z st4 m4 H4 w _ s4 r4 hρ4 q4 h4 => aft_prim s4 r4 (RA.cons (H0 := H3) ⟨.int j, fr_of rfl⟩ s4 (fun _ h => h) (RA.one q4)) h4
        | false => exact h2 m3 H3 _ (s2.trans s3) r3 ⟨.bl _, fr_of rfl⟩
      | _ => exact h2.elim
  · exact h2.elim
/-! displays -/
theorem tE_tup {es : List E} (hes : es.length ≤ 1000) {Q : VK} (h : tE ws cf W n (.tupE es) σ H Q) : tTup (tEs ws cf W n es) σ H Q := by
  obtain ⟨ρ, st, m, hρ, r, hl, h⟩ := h
  unfold evE at h
  refine tEs_bind hρ r hl h fun ds st1 m1 H1 vs e1 s1 r1 hρ1 q1 h1 => ?_
  have hlen : ds.length = es.length := evEs_length e1
  refine ⟨by rw [← q1.as.length, hlen]; exact Nat.le_trans hes (by decide), fun p hp => ?_⟩
  obtain ⟨r2, t2⟩ := mats_ok r1 q1.as q1.nd
  have s2 : Step m H (m1 ++ tls ds vs) H1 := s1.more q1.fr
  exact h1 _ _ _ (s2.trans (Step.alloc hp)) (r2.alloc hp) ⟨.tup (SqT.of upd_same) (t2.mono (Step.alloc hp)), fr_of rfl⟩
theorem tE_lst {es : List E} (hes : es.length ≤ 1000) {Q : VK} (h : tE ws cf W n (.lstE es) σ H Q) : tLst (tEs ws cf W n es) σ H Q := by
  obtain ⟨ρ, st, m, hρ, r, hl, h⟩ := h
  unfold evE at h
  refine tEs_bind hρ r hl h fun ds st1 m1 H1 vs e1 s1 r1 hρ1 q1 h1 => ?_
  have hlen : ds.length = es.length := evEs_length e1
  refine ⟨by rw [← q1.as.length, hlen]; exact Nat.le_trans hes (by decide), fun p hp => ?_⟩
  obtain ⟨r2, t2⟩ := mats_ok r1 q1.as q1.nd
  have s2 : Step m H (m1 ++ tls ds vs) H1 := s1.more q1.fr
  exact h1 _ _ _ (s2.trans (Step.alloc hp)) (r2.alloc hp) ⟨.tl (r2.free hp) upd_same (t2.mono (Step.alloc hp)), fun _ a e => by cases e; exact s1.there p hp⟩
/-! names and constants -/
theorem tE_var {i : Nat} {Q : VK} (h : tE ws cf W n (.var i) σ H Q) : tVar i σ H Q := by
  obtain ⟨ρ, st, m, hρ, r, hl, h⟩ := h
  unfold evE at h
  split at h
  · rename_i d e
    obtain ⟨v, e1, q, k⟩ := hρ.2 i d e
    exact ⟨v, e1, h m H v (Step.refl m H) r ⟨q, fr_of k⟩⟩
  · exact h.elim
theorem tE_cst {d : D} {v : V} (hd : ∀ m H, DV ws m H d v) (hn : notl d = true) {Q : VK} (h : tE ws cf W n (.cst d) σ H Q) : tC v σ H Q := by
  obtain ⟨ρ, st, m, hρ, r, hl, h⟩ := h
  unfold evE at h
  exact h m H v (Step.refl m H) r ⟨hd m H, fr_of hn⟩
/-! slices -/
theorem tE_sl00 {a : E} {Q : VK} (h : tE ws cf W n (.prim (.sl false false) [a]) σ H Q) : tSl (rSl ws) (tE ws cf W n a) tNoPart tNoPart σ H Q := by
  obtain ⟨ρ, st, m, hρ, r, hl, h⟩ := h
  unfold evE evEs evEs at h
  rw [bind_assoc] at h
  refine tE_bind hρ r hl h fun x st1 m1 H1 v _ s1 r1 hρ1 q1 h1 => ?_
  have h1' : Aft ws W n m H (RD ws) Q (binds (semSl x none none st1)) := h1
  cases e : semSl x none none st1 with
  | none => rw [e] at h1'; exact h1'.elim
  | some z => rw [e] at h1'; exact ⟨H, m, m1, st1, x, z.1, z.2, s1, r1, q1.1, by rw [e], fun m' H' v s r q => h1' m' H' v s r q⟩
theorem tE_sl10 {a b : E} {Q : VK} (h : tE ws cf W n (.prim (.sl true false) [a, b]) σ H Q) : tSl (rSl ws) (tE ws cf W n a) (tPart (tE ws cf W n b)) tNoPart σ H Q := by
  obtain ⟨ρ, st, m, hρ, r, hl, h⟩ := h
  unfold evE evEs evEs evEs at h
  rw [bind_assoc] at h
  refine tE_bind hρ r hl h fun x st1 m1 H1 v _ s1 r1 hρ1 q1 h1 => ?_
  rw [bind_assoc, bind_assoc] at h1
  refine tE_bind hρ1 r1 hl (h1.shift s1 fun _ _ _ _ h => RD.back s1 h) fun y st2 m2 H2 u _ s2 r2 hρ2 q2 h2 => ?_
  have h2' : Aft ws W n m1 H1 (RD ws) Q (binds (semP (.sl true false) [x, y] st2)) := h2
  cases y with
  | int i =>
    cases q2.1
    refine ⟨i, rfl, ?_⟩
    have h3 : Aft ws W n m1 H1 (RD ws) Q (binds (semSl x (some i) none st2)) := h2'
    cases e : semSl x (some i) none st2 with
    | none => rw [e] at h3; exact h3.elim
    | some z => rw [e] at h3; exact ⟨H1, m1, m2, st2, x, z.1, z.2, s2, r2, q1.1.mono s2, by rw [e], fun m' H' v s r q => h3 m' H' v s r q⟩
  | _ => exact h2'.elim
theorem tE_sl01 {a b : E} {Q : VK} (h : tE ws cf W n (.prim (.sl false true) [a, b]) σ H Q) : tSl (rSl ws) (tE ws cf W n a) tNoPart (tPart (tE ws cf W n b)) σ H Q := by
  obtain ⟨ρ, st, m, hρ, r, hl, h⟩ := h
  unfold evE evEs evEs evEs at h
  rw [bind_assoc] at h
  refine tE_bind hρ r hl h fun x st1 m1 H1 v _ s1 r1 hρ1 q1 h1 => ?_
  rw [bind_assoc, bind_assoc] at h1
  refine tE_bind hρ1 r1 hl (h1.shift s1 fun _ _ _ _ h => RD.back s1 h) fun y st2 m2 H2 u _ s2 r2 hρ2 q2 h2 => ?_
  have h2' : Aft ws W n m1 H1 (RD ws) Q (binds (semP (.sl false true) [x, y] st2)) := h2
  cases y with
  | int i =>
    cases q2.1
    refine ⟨i, rfl, ?_⟩
    have h3 : Aft ws W n m1 H1 (RD ws) Q (binds (semSl x none (some i) st2)) := h2'
    cases e : semSl x none (some i) st2 with
    | none => rw [e] at h3; exact h3.elim
    | some z => rw [e] at h3; exact ⟨H1, m1, m2, st2, x, z.1, z.2, s2, r2, q1.1.mono s2, by rw [e], fun m' H' v s r q => h3 m' H' v s r q⟩
  | _ => exact h2'.elim
theorem tE_sl11 {a b c : E} {Q : VK} (h : tE ws cf W n (.sl3 a b c) σ H Q) : tSl (rSl ws) (tE ws cf W n a) (tPart (tE ws cf W n b)) (tPart (tE ws cf W n c)) σ H Q := by
  obtain ⟨ρ, st, m, hρ, r, hl, h⟩ := h
  unfold evE at h
  refine tE_bind hρ r hl h fun x st1 m1 H1 v _ s1 r1 hρ1 q1 h1 => ?_
  refine tE_bind hρ1 r1 hl (h1.shift s1 fun _ _ _ _ h => RD.back s1 h) fun y st2 m2 H2 u _ s2 r2 hρ2 q2 h2 => ?_
  cases y with
  | int i =>
    cases q2.1
    refine ⟨i, rfl, ?_⟩
    refine tE_bind hρ2 r2 hl (h2.shift s2 fun _ _ _ _ h => RD.back s2 h) fun z st3 m3 H3 w _ s3 r3 hρ3 q3 h3 => ?_
    cases z with
    | int j =>
      cases q3.1
      refine ⟨j, rfl, ?_⟩
      have h4 : Aft ws W n m2 H2 (RD ws) Q (binds (semSl x (some i) (some j) st3)) := h3
      cases e : semSl x (some i) (some j) st3 with
      | none => rw [e] at h4; exact h4.elim
      | some z => rw [e] at h4; exact ⟨H2, m2, m3, st3, x, z.1, z.2, s3, r3, q1.1.mono (s2.trans s3), by rw [e], fun m' H' v s r q => h4 m' H' v s r q⟩
    | _ => exact h3.elim
  | _ => exact h2.elim
end
end Mn
/-! enumerate over a tuple -/
namespace PySem
open Sem (wp)
open Builtin Builtin.Str
theorem meets_enumerate_new1 {v : Value} {o : Obj} {H : Heap → Prop} (B : Begins v o H) :
    Meets (Builtin.«enumerate.__new__» ⟨[.type "enumerate", v], []⟩) (fun _ R s => H s.heap ∧
      R (.ok (.ret (.ref (s.heap.push o).objs.size))) { s with heap := (s.heap.push o).push { cls := .type "enumerate", data := .fields #[.none, .bool false, .ref s.heap.objs.size, rawInt 0, .none, .none] } }) :=
  .of_wp fun prog w A R s h => by
    obtain ⟨hp, g, d, tk, os⟩ := s; obtain ⟨h1, h⟩ := h
    have hsub := sub_enumerate
    have q1 : ∀ {A' : Around} {E : Value → Shared → Prop} {Q : Value → Shared → Prop}, Q (.ref hp.objs.size) ⟨hp.push o, g, d, tk, os⟩ → wpAny (model prog w) A' (pyIter v) Q E ⟨hp, g, d, tk, os⟩ :=
      fun q => B.iter prog w _ _ ⟨hp, g, d, tk, os⟩ _ h1 q
    wp_walk using q1
    refine wpAny_stack_any fun st => wpAny_pure ?_
    split
    · rename_i c _ _ _ _ _
      cases (c == Value.type "enumerate")
      · wp_walk using q1
        exact ⟨_, rfl, h⟩
      · wp_walk using q1
        exact ⟨_, rfl, h⟩
    · wp_walk using q1
      exact ⟨_, rfl, h⟩
section
variable {prog : Program} {w : World} {A : Around} {E : Value → Shared → Prop} {s : Shared}
theorem enum_begins1 {v : Value} {o : Obj} {H : Heap → Prop} {Q : Value → Shared → Prop} (B : Begins v o H) (h1 : H s.heap)
    (h : ∀ h', IsEnum h' (s.heap.objs.size + 1) s.heap.objs.size 0 .none → h'.get? s.heap.objs.size = some o → h'.objs.size = s.heap.objs.size + 2 →
      (∀ b o, s.heap.get? b = some o → h'.get? b = some o) → Q (.ref (s.heap.objs.size + 1)) { s with heap := h' }) :
    wpAny (model prog w) A (call (.type "enumerate") [v]) Q E s := by
  refine callType_new F.called_enumerate (by decide) (F.typeCall_enumerate_1 _) (F.newCall_enumerate_1 _) (fun obj => F.args_object_init_2 obj _) F.entry_enumerate_new
    (meets_enumerate_new1 B) ⟨h1, ?_⟩
  have hz : (s.heap.push o).objs.size = s.heap.objs.size + 1 := Heap.size_push ..
  show _ ∧ _
  rw [hz]
  have he : IsEnum ((s.heap.push o).push { cls := .type "enumerate", data := .fields #[.none, .bool false, .ref s.heap.objs.size, rawInt 0, .none, .none] }) (s.heap.objs.size + 1) s.heap.objs.size 0 .none := by
    have := Heap.get?_push_size (s.heap.push o) (o := { cls := .type "enumerate", data := .fields #[.none, .bool false, .ref s.heap.objs.size, rawInt 0, .none, .none] }) rfl
    rw [hz] at this; exact this
  refine ⟨⟨_, he, rfl⟩, h _ he (Heap.get?_push_of_some _ (Heap.get?_push_size _ B.free)) (by rw [Heap.size_push, hz]) fun b o x => Heap.get?_push_of_some _ (Heap.get?_push_of_some _ x)⟩
end
end PySem
namespace L2
open PySem PySem.Spec PyProof.Rows
/-- the tuple at a, each item in a new pair -/
def IteT (K : PySem.W.Frag) (a : Addr) : It :=
  ⟨fun i H => ∃ (xs : List V) (x : V), SqT K H a xs ∧ xs[i]? = some x, fun i H v H' => ∃ T x, v = .ref T ∧ H T = none ∧ H' = upd H T (.tup [.int (i : Nat), x]) ∧ ∀ xs, SqT K H a xs → xs[i]? = some x, fun i H => ∃ xs : List V, SqT K H a xs ∧ xs.length ≤ i⟩
theorem turn_enumT {P : Program} {w : World} {K : PySem.W.Frag} {elts : List Expr} {kk : Nat} {tpos : Pos} (a e it : Addr) :
    Turn P w K (.Tuple elts kk tpos) (IteT K a) [e, it] e (fun i h => (∃ old, IsEnum h e it ((i : Nat) : Int) old) ∧ h.IsTupleIter it a i ∧ e ≠ it) where
  mem := by simp
  obj := fun i h st b hb => by
    obtain ⟨⟨old, he⟩, ⟨o, ho, hc, hd⟩, _⟩ := st
    have e' : b = e ∨ b = it := by simpa using hb
    rcases e' with z | z
    · rw [z]; exact ⟨_, he, fun v q => nomatch q⟩
    · rw [z]; exact ⟨o, ho, fun v q => by rw [hd] at q; cases q⟩
  keep := fun i h h' st k => let ⟨⟨old, he⟩, hi, hne⟩ := st; ⟨⟨old, k e (by simp) _ he⟩, hi.at fun o q => k it (by simp) o q, hne⟩
  item := by
    intro X hP hw hK hc i pins s σ H E I hf st hg
    subst hP hw hK
    obtain ⟨⟨old, he⟩, hit, hne⟩ := st
    obtain ⟨xs, x, hq, hx⟩ := hg
    obtain ⟨its, rv, p, hz⟩ := I.tuple hq
    have p : s.heap.IsTuple a its.toArray := p
    obtain ⟨u, hu, ru⟩ := rv.get hx
    have hel : e < s.heap.objs.size := Heap.lt_size he
    have hil : it < s.heap.objs.size := by obtain ⟨_, q, _⟩ := hit; exact Heap.lt_size q
    have hae : a ≠ e := fun z => by
      obtain ⟨o, q, c, _⟩ := p
      rw [z, he] at q
      have q := Option.some.inj q
      rw [← q] at c
      exact absurd (Value.type.inj c) (by decide)
    have hai : a ≠ it := fun z => by
      obtain ⟨o, q, c, _⟩ := p
      obtain ⟨o', q', c', _⟩ := hit
      rw [z, q'] at q
      cases q
      rw [c'] at c
      exact absurd (Value.type.inj c) (by decide)
    have hlt : i < its.toArray.size := by
      have := (List.getElem?_eq_some_iff.mp hu).1
      simpa using this
    refine wpAny_pyNext_enum_itemD (Draws.tuple (A := X.A.in1) (I.ok.hd hc) it a hai its.toArray) he ⟨hit, p⟩ hlt hne (by simp [hne, Ne.symm hae]) fun x' h' tk hP ho hst' hT hsz hk => ?_
    have ex : x' = u := by
      have hP : its.toArray[i]? = some x' := hP
      rw [List.getElem?_toArray, hu] at hP
      cases hP; rfl
    subst ex
    refine ⟨_, rfl, wpAny_letOwnedTupleGo_enum (s := { s with heap := h', toks := tk + 1 }) ho fun h'' he' sb => ?_⟩
    have hT2 : h''.get? s.heap.objs.size = some { cls := .type "tuple", data := .seq #[.int i tk, x'] } := (sb.2 _ (Nat.ne_of_gt hel)).trans hT
    have new : ObjOk X.prog X.w (upd H s.heap.objs.size (.tup [.int (i : Nat), x])) h'' s.heap.objs.size (.tup [.int (i : Nat), x]) :=
      ⟨by show 2 ≤ sizeLine; decide, [.int i tk, x'], .cons ⟨_, rfl⟩ (.cons ru .nil), ⟨_, hT2, rfl, _, rfl⟩⟩
    have I1 : Inv X pins σ (upd H s.heap.objs.size (.tup [.int (i : Nat), x])) { s with heap := h'', toks := tk + 1 } :=
      I.turnedNew (ch := [e, it]) (fun b ob hb q => (sb.2 b (fun z => hb (by simp [z]))).trans (hk b ob (fun z => hb (by simp [z])) (fun z => hb (by simp [z])) q)) hf (Nat.le_refl _) new
    refine ⟨.ref s.heap.objs.size, _, I1, rfl, ⟨_, x, rfl, I.hok.fresh (Nat.le_refl _), rfl, fun ys hy => by rw [I.tuple_inj hy hq]; exact hx⟩, ⟨⟨x', ?_⟩, hst'.1.at fun o q => (sb.2 it (Ne.symm hne)).trans q, hne⟩, fun b hb => ?_⟩
    · have e1 : ((i + 1 : Nat) : Int) = (i : Int) + 1 := by omega
      rw [e1]; exact he'
    · have hb' : b < s.heap.objs.size := by
        have e' : b = e ∨ b = it := by simpa using hb
        rcases e' with z | z
        · rw [z]; exact hel
        · rw [z]; exact hil
      rw [upd_ne (Nat.ne_of_lt hb')]
      exact (hf b hb).1
  done := by
    intro X hP hw hK hc i pins s σ H E I hf st hg
    subst hP hw hK
    obtain ⟨⟨old, he⟩, hit, hne⟩ := st
    obtain ⟨xs, hq, hx⟩ := hg
    obtain ⟨its, rv, p, hz⟩ := I.tuple hq
    have p : s.heap.IsTuple a its.toArray := p
    obtain ⟨f0, f1, f2, f3, f4, f5⟩ := hf it (by simp)
    have hl := rv.length
    have hT : s.TypeIs (.ref e) "enumerate" := ⟨_, he, rfl⟩
    unfold pyNext
    refine wpAny_bind (wpAny_attempt (wpAny_callSpecial?_slot (name := Str.ofString "__next__") hT F.slot_enumerate_next
      (wpAny_call_entry F.slot_enumerate_next hT F.entry_enumerate_next ?_ (F.args_enumerate_next_1 _))))
    show wpAny _ _ (field (.ref e) 2 >>= _) _ _ _
    refine wpAny_bind (wpAny_field he rfl (x := .ref it) rfl ?_)
    refine wpAny_bind (wpAny_nextOf_tuple_end (A := X.A.in1) (I.ok.hd hc) hit p (i := i) (by simp; omega) fun h' x he' hx' => ?_)
    obtain ⟨o, ho, hc'⟩ := hx'
    refine wpAny_bind (wpAny_isInstance (T := "StopIteration") (b := true) ⟨o, ho, hc'⟩ isSubtype_stop ?_)
    exact wpAny_pure ⟨rfl, I.turned (t' := s.toks) (fun b o hb q => he' b o hb q) f0 f1 f3 f4 f5⟩
  self := fun A i s Q E st h => let ⟨⟨_, he⟩, _⟩ := st; wpAny_pyIter_enum he h
def iEnumT (K : PySem.W.Frag) (ta : TA) : TI := fun σ H R => ta σ H fun vs H1 => ∃ a xs, vs = [.ref a] ∧ SqT K H1 a xs ∧ R (IteT K a) H1
theorem pi_enumT {X : Cx} {e : Expr} {ta : TA} {p pos tpos : Pos} {elts : List Expr} {kk : Nat} (hg : Gl X "enumerate") (hm : X.mg "enumerate" = none) (ha : PA X [e] ta) (hs : starEach [e] X.env = [(false, eval e X.env)] := by rfl) :
    PI X (.Tuple elts kk tpos) (.Call (.Name "enumerate" p) [e] [] pos) (iEnumT X.K ta) := by
  refine ⟨fun pins s σ H R I h => ?_⟩
  refine Call_ (ld_blt I hg hm boot_enumerate (PyProof.Rows.callWith_type1 (thn (ha.run pos pins s σ H _ I h) fun us s1 ⟨vs, H1, I1, r1, q1⟩ => ?_) hs rfl))
  obtain ⟨a, xs, ex, hq, q⟩ := q1
  subst ex
  cases r1 with
  | cons r rr =>
    cases rr
    cases r
    obtain ⟨its, rv, p', hz⟩ := I1.tuple hq
    refine enum_begins1 (begins_tuple _ its.toArray) (show s1.heap.IsTuple a its.toArray from p') fun h' he hit hsz hk => wpAny_pyIter_enum he ?_
    have I2 : Inv X pins σ H1 { s1 with heap := h' } := I1.kept (t' := s1.toks) hk
    refine ⟨s1.heap.objs.size + 1, [s1.heap.objs.size + 1, s1.heap.objs.size], _, _, H1, rfl, I2, turn_enumT a (s1.heap.objs.size + 1) s1.heap.objs.size, ⟨⟨.none, he⟩, ⟨_, hit, rfl, rfl⟩, Nat.succ_ne_self _⟩, fun b hb => ?_, q⟩
    have e' : b = s1.heap.objs.size + 1 ∨ b = s1.heap.objs.size := by simpa using hb
    have hle : s1.heap.objs.size ≤ b := by
      rcases e' with z | z
      · rw [z]; exact Nat.le_add_right _ _
      · rw [z]; exact Nat.le_refl _
    exact I1.fpOk hle (I1.hok.fresh hle)
end L2
/-! Mn7: calls, targets, sources, comprehensions: readings. -/
namespace Mn
open PySem PySem.Spec PyProof.Rows L2
section
variable {ws : Ws} {cf : Cf} {W : WX} {n : Nat} {σ : L2.St} {H : Hp}
/-! ### calls -/
/-- a def's promise by the small run -/
def spF (ws : Ws) (cf : Cf) (g : Nat) : Sp := fun vs H Q E => ∃ m st ds, Rl ws m st H ∧ DVs ws m H ds vs ∧ Aft ws (fun cls d _ H' => E cls d H') 0 m H (RD ws) Q (cf.call g ds st)
theorem aft_sp {g : Nat} {m0 m : List Addr} {H0 H1 : Hp} {st : Sto} {ds : List D} {vs : List V} {Q : VK} (hl : σ.length = n) (s : Step m0 H0 m H1) (r : Rl ws m st H1) (a : RA ws H0 m H1 ds vs) (h : Aft ws W n m0 H0 (RD ws) Q (cf.call g (mats ds st).1 (mats ds st).2)) :
    spF ws cf g vs H1 Q (WE W σ) := by
  obtain ⟨r2, t2⟩ := mats_ok r a.as a.nd
  have s2 := s.more a.fr
  refine ⟨_, _, _, r2, t2, ?_⟩
  cases e : cf.call g (mats ds st).1 (mats ds st).2 with
  | ok d st' =>
    rw [e] at h
    exact fun m' H' v s' r' q => h m' H' v (s2.trans s') r' (RD.back s2 q)
  | ex c p st' =>
    rw [e] at h
    exact fun m' H' cls dx σ' s' r' q _ => h m' H' cls dx σ (s2.trans s') r' q hl
  | no => rw [e] at h; exact h.elim
theorem tE_call {g : Nat} {es : List E} {Q : VK} (h : tE ws cf W n (.call g es) σ H Q) : tCallS (spF ws cf g) (WE W) (tEs ws cf W n es) σ H Q := by
  obtain ⟨ρ, st, m, hρ, r, hl, h⟩ := h
  unfold evE at h
  exact tEs_bind hρ r hl h fun ds st1 m1 H1 vs e1 s1 r1 hρ1 q1 h1 => aft_sp hl s1 r1 q1 h1
theorem tE_callv {i : Nat} {es : List E} {Q : VK} (h : tE ws cf W n (.callv i es) σ H Q) : ∃ g, g < cf.nf ∧ σ[i]? = some (some (.ref (ws.fa g))) ∧ tEs ws cf W n es σ H fun vs H1 => spF ws cf g vs H1 Q (WE W σ) := by
  obtain ⟨ρ, st, m, hρ, r, hl, h⟩ := h
  unfold evE at h
  split at h
  · rename_i g e
    obtain ⟨v, e1, q, _⟩ := hρ.2 i _ e
    cases q
    split at h
    · rename_i hg
      exact ⟨g, Nat.blt_eq.mp hg, e1, tEs_bind hρ r hl h fun ds st1 m1 H1 vs e1 s1 r1 hρ1 q1 h1 => aft_sp hl s1 r1 q1 h1⟩
    · exact h.elim
  · exact h.elim

/-! ### targets -/
theorem tE_bind0 {e : E} {ρ : Rho} {st : Sto} {m0 m : List Addr} {H0 : Hp} {γ δ : Type} {S : Hp → List Addr → Hp → γ → δ → Prop} {Q : δ → Hp → Prop} {Q1 : VK} {f : D → Sto → Out γ} (s0 : Step m0 H0 m H) (hρ : RlE ws m H ρ σ) (r : Rl ws m st H) (hl : σ.length = n)
    (h : Aft ws W n m0 H0 S Q ((evE cf e ρ st).bind f))
    (k : ∀ d st1 m1 H1 v, evE cf e ρ st = .ok d st1 → Step m H m1 H1 → Rl ws m1 st1 H1 → RlE ws m1 H1 ρ σ → RD ws H m1 H1 d v → Aft ws W n m0 H0 S Q (f d st1) → Q1 v H1) : tE ws cf W n e σ H Q1 := by
  refine ⟨ρ, st, m, hρ, r, hl, ?_⟩
  cases x : evE cf e ρ st with
  | ok d st1 =>
    rw [x] at h
    exact fun m1 H1 v s1 r1 q1 => k d st1 m1 H1 v x s1 r1 (hρ.mono s1) q1 h
  | ex c p st1 =>
    rw [x] at h
    exact fun m' H' cls dx σ' s' r' q l => h m' H' cls dx σ' (s0.trans s') r' q l
  | no => rw [x] at h; exact h
mutual
/-- the slots that a target stores -/
def tgS : Tg → List Nat
  | .nm i => [i]
  | .tp ts => tgSs ts
  | .sb _ _ => []
def tgSs : List Tg → List Nat
  | [] => []
  | t :: ts => tgS t ++ tgSs ts
end
theorem wipe_set (σ : L2.St) (i : Nat) (x : Option V) : ∀ vs : List Nat, i ∈ vs → L2.wipe (σ.set i x) vs = L2.wipe σ vs
  | v :: vs, h => by
    show (L2.wipe (σ.set i x) vs).set v none = (L2.wipe σ vs).set v none
    by_cases hv : i ∈ vs
    · rw [wipe_set σ i x vs hv]
    · have e : i = v := (List.mem_cons.mp h).resolve_right hv
      subst e
      have : ∀ us : List Nat, i ∉ us → L2.wipe (σ.set i x) us = (L2.wipe σ us).set i x := fun us => by
        induction us with
        | nil => intro _; rfl
        | cons u us ih =>
          intro hn
          have h1 : i ≠ u := fun z => hn (by simp [z])
          have h2 : i ∉ us := fun z => hn (List.mem_cons_of_mem _ z)
          show (L2.wipe (σ.set i x) us).set u none = ((L2.wipe σ us).set u none).set i x
          rw [ih h2, List.set_comm _ _ (h1)]
      rw [this vs hv, List.set_set]
def RG (ws : Ws) (n : Nat) (σ0 : L2.St) (sl : List Nat) : Hp → List Addr → Hp → Rho → L2.St → Prop := fun _ m' H' ρ' σ' => RlE ws m' H' ρ' σ' ∧ σ'.length = n ∧ ∀ vs : List Nat, (∀ i ∈ sl, i ∈ vs) → L2.wipe σ' vs = L2.wipe σ0 vs
variable (ws cf W n) in
def gT (t : Tg) : TG := fun v σ H Q => ∃ H0 m0 m st ρ d, Step m0 H0 m H ∧ Rl ws m st H ∧ RlE ws m0 H0 ρ σ ∧ RD ws H0 m H d v ∧ σ.length = n ∧ Aft ws W n m0 H0 (RG ws n σ (tgS t)) Q (evTg cf t d ρ st)
variable (ws cf W n) in
def gTs (ts : List Tg) : TGs := fun vs σ H Q => ∃ m st ρ ds, Rl ws m st H ∧ RlE ws m H ρ σ ∧ DVs ws m H ds vs ∧ vs.length = ts.length ∧ σ.length = n ∧ Aft ws W n m H (RG ws n σ (tgSs ts)) Q (evTgs cf ts ds ρ st)
theorem gT_nm {i : Nat} {v : V} {Q : L2.St → Hp → Prop} (h : gT ws cf W n (.nm i) v σ H Q) : gName i v σ H Q := by
  obtain ⟨H0, m0, m, st, ρ, d, s, r, hρ, q, hl, h⟩ := h
  unfold evTg at h
  obtain ⟨r1, h1, k1⟩ := mat_ok r q.1
  refine h _ _ _ (s.more (tls_one q.2)) r1 ⟨((hρ.mono s).up _).set h1 k1 i, by simpa using hl, fun vs hv => ?_⟩
  exact wipe_set σ i _ vs (hv i (by simp [tgS]))
theorem gT_tp {ts : List Tg} {v : V} {Q : L2.St → Hp → Prop} (h : gT ws cf W n (.tp ts) v σ H Q) : gTup ws.K ts.length (gTs ws cf W n ts) v σ H Q ∨ gLst ws.K ts.length (gTs ws cf W n ts) v σ H Q := by
  obtain ⟨H0, m0, m, st, ρ, d, s, r, hρ, q, hl, h⟩ := h
  unfold evTg at h
  split at h
  · rename_i xs hx
    split at h
    · rename_i hlen
      obtain ⟨p, vs, rfl, z, t⟩ := seq_ok r q.1 hx
      have g : gTs ws cf W n ts vs σ H Q := ⟨m, st, ρ, xs, r, hρ.mono s, t, by rw [← t.length]; exact hlen, hl, h.shift s fun _ _ _ _ k => k⟩
      rcases z with z | z
      · exact .inr ⟨p, vs, rfl, z.1, by rw [← t.length]; exact hlen, g⟩
      · exact .inl ⟨p, vs, rfl, z.1, by rw [← t.length]; exact hlen, g⟩
    · exact h.elim
  · exact h.elim
theorem gTs_nil {vs : List V} {Q : L2.St → Hp → Prop} (h : gTs ws cf W n [] vs σ H Q) : gNil vs σ H Q := by
  obtain ⟨m, st, ρ, ds, r, hρ, t, hv, hl, h⟩ := h
  refine ⟨List.eq_nil_of_length_eq_zero hv, ?_⟩
  unfold evTgs at h
  exact h m H σ (Step.refl _ _) r ⟨hρ, hl, fun _ _ => rfl⟩
theorem gTs_cons {t : Tg} {ts : List Tg} {vs : List V} {Q : L2.St → Hp → Prop} (h : gTs ws cf W n (t :: ts) vs σ H Q) : gCons (gT ws cf W n t) (gTs ws cf W n ts) vs σ H Q := by
  obtain ⟨m, st, ρ, ds, r, hρ, q, hv, hl, h⟩ := h
  cases q with
  | nil => simp at hv
  | cons hd nd tl =>
    rename_i d v ds vs
    refine ⟨v, vs, rfl, H, m, m, st, ρ, d, Step.refl _ _, r, hρ, ⟨hd, fr_of nd⟩, hl, ?_⟩
    unfold evTgs at h
    refine Aft.bind h fun ρ1 st1 m1 H1 σ1 _ s1 r1 q1 h1 => ?_
    refine ⟨m1, st1, ρ1, ds, r1, q1.1, tl.mono s1, by simpa using hv, q1.2.1, ?_⟩
    refine Aft.shift (S := RG ws n σ1 (tgSs ts)) ?_ s1 fun _ _ _ _ k => k
    cases e : evTgs cf ts ds ρ1 st1 with
    | ok ρ2 st2 =>
      rw [e] at h1
      exact fun m' H' σ' s' r' q' => h1 m' H' σ' s' r' ⟨q'.1, q'.2.1, fun us hu => (q'.2.2 us fun i hi => hu i (List.mem_append_right _ hi)).trans (q1.2.2 us fun i hi => hu i (List.mem_append_left _ hi))⟩
    | ex c p st2 => rw [e] at h1; exact h1
    | no => rw [e] at h1; exact h1
theorem gT_sb {o i : E} {v : V} {Q : L2.St → Hp → Prop} (h : gT ws cf W n (.sb o i) v σ H Q) :
    gSub (tE ws cf W n o) (tE ws cf W n i) (fun o i v H Q => ∃ (H0 : Hp) (m0 m : List Addr) (st st' : Sto) (a b c : D), Step m0 H0 m H ∧ Rl ws m st H ∧ DV ws m H a o ∧ DV ws m H b i ∧ DV ws m H c v ∧ Fr H0 c v ∧ setD a b c st = some st' ∧
      ∀ m' H', Step m0 H0 m' H' → Rl ws m' st' H' → Q H') v σ H Q := by
  obtain ⟨H0, m0, m, st, ρ, d, s, r, hρ, q, hl, h⟩ := h
  unfold evTg at h
  refine tE_bind0 s (hρ.mono s) r hl h fun x st1 m1 H1 xv _ s1 r1 hρ1 q1 h1 => ?_
  refine tE_bind0 (s.trans s1) hρ1 r1 hl h1 fun y st2 m2 H2 yv _ s2 r2 hρ2 q2 h2 => ?_
  split at h2
  · rename_i st3 e
    refine ⟨H0, m0, m2, st2, st3, x, y, d, (s.trans s1).trans s2, r2, q1.1.mono s2, q2.1, q.1.mono (s1.trans s2), q.2, e, fun m' H' s' r' => ?_⟩
    exact h2 m' H' σ s' r' ⟨hρ.mono s', hl, fun _ _ => rfl⟩
  · exact h2.elim

/-! ### sources -/
/-- a later state, but for the things at g -/
structure StepG (g : Addr → Prop) (m : List Addr) (H : Hp) (m' : List Addr) (H' : Hp) : Prop where
  pre : ∃ l, m' = m ++ l
  keep : ∀ a o, a ∉ m → ¬ g a → H a = some o → H' a = some o
  tups : ∀ a xs, H a = some (.tup xs) → H' a = some (.tup xs)
  frz : ∀ a o u, H a = some (.frz o u) → H' a = some (.frz o u)
  there : ∀ a, H' a = none → H a = none
theorem Step.toG {g : Addr → Prop} {m m' : List Addr} {H H' : Hp} (s : Step m H m' H') : StepG g m H m' H' := ⟨s.pre, fun a o n _ e => s.keep a o n e, s.tups, s.frz, s.there⟩
theorem StepG.get {g : Addr → Prop} {m m' : List Addr} {H H' : Hp} (s : StepG g m H m' H') {n : Nat} {a : Addr} (h : m[n]? = some a) : m'[n]? = some a := by
  obtain ⟨l, e⟩ := s.pre
  rw [e, List.getElem?_append_left (List.getElem?_eq_some_iff.mp h).1]
  exact h
theorem StepG.sqT {K : PySem.W.Frag} {g : Addr → Prop} {m m' : List Addr} {H H' : Hp} (s : StepG g m H m' H') {a : Addr} {vs : List V} (h : SqT K H a vs) : SqT K H' a vs := by
  rcases h with (h | ⟨o, h⟩) | h
  · exact .inl (.inl (s.tups _ _ h))
  · exact .inl (.inr ⟨o, s.frz _ _ _ h⟩)
  · exact .inr h
theorem StepG.fz {g : Addr → Prop} {m m' : List Addr} {H H' : Hp} {a : Addr} {vs : List V} (s : StepG g m H m' H') (h : FzL ws H a vs) : FzL ws H' a vs := by
  rcases h with ⟨o, h⟩ | h
  · exact .inl ⟨o, s.frz _ _ _ h⟩
  · exact .inr h
mutual
theorem DV.monoG {g : Addr → Prop} {m m' : List Addr} {H H' : Hp} (s : StepG g m H m' H') : ∀ {d : D} {v : V}, notl d = true → DV ws m H d v → DV ws m' H' d v
  | _, _, _, .non => .non
  | _, _, _, .bl b => .bl b
  | _, _, _, .int i => .int i
  | _, _, _, .str x => .str x
  | _, _, _, .tup h r => .tup (s.sqT h) (DVs.monoG s r)
  | _, _, n, .tl _ _ _ => by cases n
  | _, _, _, .kl h r => .kl (s.fz h) (DVs.monoG s r)
  | _, _, _, .il h r => .il (s.frz _ _ _ h) (DVs.monoG s r)
  | _, _, _, .lr h => .lr (s.get h)
  | _, _, _, .fn g => .fn g
theorem DVs.monoG {g : Addr → Prop} {m m' : List Addr} {H H' : Hp} (s : StepG g m H m' H') : ∀ {ds : List D} {vs : List V}, DVs ws m H ds vs → DVs ws m' H' ds vs
  | _, _, .nil => .nil
  | _, _, .cons h n r => .cons (DV.monoG s n h) n (DVs.monoG s r)
end
/-- the small walk stands for the layer's -/
def SvOk (ws : Ws) (g : Addr → Prop) (m1 : List Addr) (H1 : Hp) (sv : Sv) (cnt : Nat) (J : It) : Prop := ∀ m' H' st', StepG g m1 H1 m' H' → Rl ws m' st' H' →
  (∀ i d, i < cnt → sv.item st' i = some d → J.go i H' ∧ ∀ x H'', J.yld i H' x H'' → Step m' H' m' H'' ∧ Rl ws m' st' H'' ∧ DV ws m' H'' d x ∧ notl d = true) ∧ (sv.ends st' cnt = true → J.stop cnt H')
/-- lists that are no one's but the walk's around -/
def Own (H0 : Hp) (m : List Addr) (g : Addr → Prop) : Prop := ∀ a, g a → a ∉ m ∧ ∃ us, H0 a = some (.lst us)
def RI (ws : Ws) : Hp → List Addr → Hp → Sv × Nat → It → Prop := fun H0 m H s J => ∀ g, Own H0 m g → SvOk ws g m H s.1 s.2 J
variable (ws cf W n) in
def iS (s : Src) : TI := fun σ H R => ∃ ρ st m, RlE ws m H ρ σ ∧ Rl ws m st H ∧ σ.length = n ∧ Aft ws W n m H (RI ws) R (evSrc cf s ρ st)
/-- a list that is read, at each later state -/
theorem lst_later {g : Addr → Prop} {m m' : List Addr} {H H' : Hp} {p : Addr} {vs : List V} {xs : List D} (h : (p ∉ m ∧ ¬ g p ∧ H p = some (.lst vs)) ∨ FzL ws H p vs) (t : DVs ws m H xs vs) (s : StepG g m H m' H') : SqL ws.K H' p vs ∧ DVs ws m' H' xs vs := by
  refine ⟨?_, t.monoG s⟩
  rcases h with ⟨h1, h2, h3⟩ | h
  · exact SqL.of (s.keep _ _ h1 h2 h3)
  · exact (s.fz h).sq
theorem sv_fixL {g : Addr → Prop} {m : List Addr} {p : Addr} {vs : List V} {xs : List D} {cnt : Nat} (h : (p ∉ m ∧ ¬ g p ∧ H p = some (.lst vs)) ∨ FzL ws H p vs) (t : DVs ws m H xs vs) : SvOk ws g m H (.fix xs) cnt (Itl ws.K p) := by
  intro m' H' st' s r
  obtain ⟨q, t'⟩ := lst_later h t s
  refine ⟨fun i d _ e => ?_, fun e => ⟨vs, q, ?_⟩⟩
  · obtain ⟨v, e1, h1, n1⟩ := t'.get e
    refine ⟨⟨vs, v, q, e1⟩, fun x H'' hy => ?_⟩
    obtain ⟨rfl, f⟩ := hy
    have := (f vs q).symm.trans e1
    cases this
    exact ⟨Step.refl _ _, r, h1, n1⟩
  · have : xs.length = cnt := by simpa [Sv.ends] using e
    rw [← t.length]
    omega
theorem sv_cell {g : Addr → Prop} {m : List Addr} {p : Addr} {k cnt : Nat} (h : m[k]? = some p) : SvOk ws g m H (.cell k) cnt (Itl ws.K p) := by
  intro m' H' st' s r
  refine ⟨fun i d _ e => ?_, fun e => ?_⟩
  · simp only [Sv.item] at e
    split at e
    · rename_i xs hx
      obtain ⟨p', vs, e0, q, t⟩ := lst_ok r (DV.lr (s.get h)) hx
      cases e0
      obtain ⟨v, e1, h1, n1⟩ := t.get e
      refine ⟨⟨vs, v, q, e1⟩, fun x H'' hy => ?_⟩
      obtain ⟨rfl, f⟩ := hy
      have := (f vs q).symm.trans e1
      cases this
      exact ⟨Step.refl _ _, r, h1, n1⟩
    · cases e
  · simp only [Sv.ends] at e
    split at e
    · rename_i xs hx
      obtain ⟨p', vs, e0, q, t⟩ := lst_ok r (DV.lr (s.get h)) hx
      cases e0
      have : xs.length = cnt := by simpa using e
      exact ⟨vs, q, by rw [← t.length]; omega⟩
    · cases e
theorem sv_fixT {g : Addr → Prop} {m : List Addr} {p : Addr} {vs : List V} {xs : List D} {cnt : Nat} (h : SqT ws.K H p vs) (t : DVs ws m H xs vs) : SvOk ws g m H (.fix xs) cnt (Itt ws.K p) := by
  intro m' H' st' s r
  have q := s.sqT h
  have t' := t.monoG s
  refine ⟨fun i d _ e => ?_, fun e => ⟨vs, q, ?_⟩⟩
  · obtain ⟨v, e1, h1, n1⟩ := t'.get e
    refine ⟨⟨vs, v, q, e1⟩, fun x H'' hy => ?_⟩
    obtain ⟨rfl, f⟩ := hy
    have := (f vs q).symm.trans e1
    cases this
    exact ⟨Step.refl _ _, r, h1, n1⟩
  · have : xs.length = cnt := by simpa [Sv.ends] using e
    rw [← t.length]
    omega
theorem sv_rng {g : Addr → Prop} {m : List Addr} {lo : Int} {cnt : Nat} : SvOk ws g m H (.rng lo 1) cnt (Itr lo cnt) := by
  intro m' H' st' s r
  refine ⟨fun i d hi e => ⟨hi, fun x H'' hy => ?_⟩, fun _ => Nat.le_refl _⟩
  obtain ⟨rfl, rfl⟩ := hy
  cases e
  refine ⟨Step.refl _ _, r, ?_, rfl⟩
  rw [Int.mul_one]
  exact .int _
theorem sv_rngC {g : Addr → Prop} {m : List Addr} {lo c : Int} {cnt : Nat} : SvOk ws g m H (.rng lo c) cnt (Itc lo c cnt) := by
  intro m' H' st' s r
  refine ⟨fun i d hi e => ⟨hi, fun x H'' hy => ?_⟩, fun _ => Nat.le_refl _⟩
  obtain ⟨rfl, rfl⟩ := hy
  cases e
  exact ⟨Step.refl _ _, r, .int _, rfl⟩
/-- a pair made on the way -/
theorem pair_ok {m : List Addr} {H : Hp} {st : Sto} {T : Addr} {x y : V} {d e : D} (r : Rl ws m st H) (hT : H T = none) (hd : DV ws m H d x) (nd : notl d = true) (he : DV ws m H e y) (ne : notl e = true) :
    Step m H m (upd H T (.tup [x, y])) ∧ Rl ws m st (upd H T (.tup [x, y])) ∧ DV ws m (upd H T (.tup [x, y])) (.tup [d, e]) (.ref T) ∧ notl (.tup [d, e]) = true := by
  have s : Step m H m (upd H T (.tup [x, y])) := Step.alloc hT
  exact ⟨s, r.alloc hT, .tup (SqT.of upd_same) (.cons (hd.mono s) nd (.cons (he.mono s) ne .nil)), rfl⟩
theorem sv_enu {g : Addr → Prop} {m : List Addr} {p : Addr} {sv : Sv} {cnt : Nat} (h : SvOk ws g m H sv cnt (Itl ws.K p)) : SvOk ws g m H (.enu sv) cnt (Ite ws.K p) := by
  intro m' H' st' s r
  obtain ⟨h1, h2⟩ := h m' H' st' s r
  refine ⟨fun i d hi e => ?_, fun e => h2 e⟩
  simp only [Sv.item] at e
  split at e
  · rename_i d' e'
    cases e
    obtain ⟨g, y⟩ := h1 i d' hi e'
    refine ⟨g, fun v H'' hy => ?_⟩
    obtain ⟨T, x, rfl, hT, rfl, f⟩ := hy
    obtain ⟨_, _, q1, q2⟩ := y x H' ⟨rfl, f⟩
    exact pair_ok r hT (.int _) rfl q1 q2
  · cases e
theorem sv_enuT {g : Addr → Prop} {m : List Addr} {p : Addr} {sv : Sv} {cnt : Nat} (h : SvOk ws g m H sv cnt (Itt ws.K p)) : SvOk ws g m H (.enu sv) cnt (IteT ws.K p) := by
  intro m' H' st' s r
  obtain ⟨h1, h2⟩ := h m' H' st' s r
  refine ⟨fun i d hi e => ?_, fun e => h2 e⟩
  simp only [Sv.item] at e
  split at e
  · rename_i d' e'
    cases e
    obtain ⟨g, y⟩ := h1 i d' hi e'
    refine ⟨g, fun v H'' hy => ?_⟩
    obtain ⟨T, x, rfl, hT, rfl, f⟩ := hy
    obtain ⟨_, _, q1, q2⟩ := y x H' ⟨rfl, f⟩
    exact pair_ok r hT (.int _) rfl q1 q2
  · cases e
theorem sv_zipL {g : Addr → Prop} {m : List Addr} {p q : Addr} {sv tv : Sv} {n : Nat} (h : SvOk ws g m H sv n (Itl ws.K p)) (k : SvOk ws g m H tv n (Itl ws.K q)) (hp : ∀ m' H' st', StepG g m H m' H' → Rl ws m' st' H' → ∃ vs, SqL ws.K H' p vs)
    (hq : ∀ m' H' st', StepG g m H m' H' → Rl ws m' st' H' → ∃ vs, SqL ws.K H' q vs) : SvOk ws g m H (.zip sv tv) n (Itz ws.K p q) := by
  intro m' H' st' s r
  obtain ⟨h1, h2⟩ := h m' H' st' s r
  obtain ⟨k1, k2⟩ := k m' H' st' s r
  refine ⟨fun i d hi e => ?_, fun e => ?_⟩
  · simp only [Sv.item] at e
    split at e
    · rename_i d1 d2 e1 e2
      cases e
      obtain ⟨⟨xs, x, g1, g2⟩, y1⟩ := h1 i d1 hi e1
      obtain ⟨⟨ys, y, g3, g4⟩, y2⟩ := k1 i d2 hi e2
      refine ⟨⟨xs, ys, x, y, g1, g3, g2, g4⟩, fun v H'' hy => ?_⟩
      obtain ⟨T, x, y, rfl, hT, rfl, f1, f2⟩ := hy
      obtain ⟨_, _, q1, n1⟩ := y1 x H' ⟨rfl, f1⟩
      obtain ⟨_, _, q2, n2⟩ := y2 y H' ⟨rfl, f2⟩
      exact pair_ok r hT q1 n1 q2 n2
    · cases e
  · obtain ⟨xs, gx⟩ := hp m' H' st' s r
    obtain ⟨ys, gy⟩ := hq m' H' st' s r
    simp only [Sv.ends, Bool.or_eq_true] at e
    rcases e with e | e
    · obtain ⟨zs, g, l⟩ := h2 e
      exact ⟨zs, ys, g, gy, .inl l⟩
    · obtain ⟨zs, g, l⟩ := k2 e
      exact ⟨xs, zs, gx, g, .inr l⟩
theorem sv_zipT {g : Addr → Prop} {m : List Addr} {p q : Addr} {sv tv : Sv} {n : Nat} (h : SvOk ws g m H sv n (Itt ws.K p)) (k : SvOk ws g m H tv n (Itt ws.K q)) (hp : ∀ m' H' st', StepG g m H m' H' → Rl ws m' st' H' → ∃ vs, SqT ws.K H' p vs)
    (hq : ∀ m' H' st', StepG g m H m' H' → Rl ws m' st' H' → ∃ vs, SqT ws.K H' q vs) : SvOk ws g m H (.zip sv tv) n (RZ.ItzT ws.K p q) := by
  intro m' H' st' s r
  obtain ⟨h1, h2⟩ := h m' H' st' s r
  obtain ⟨k1, k2⟩ := k m' H' st' s r
  refine ⟨fun i d hi e => ?_, fun e => ?_⟩
  · simp only [Sv.item] at e
    split at e
    · rename_i d1 d2 e1 e2
      cases e
      obtain ⟨⟨xs, x, g1, g2⟩, y1⟩ := h1 i d1 hi e1
      obtain ⟨⟨ys, y, g3, g4⟩, y2⟩ := k1 i d2 hi e2
      refine ⟨⟨xs, ys, x, y, g1, g3, g2, g4⟩, fun v H'' hy => ?_⟩
      obtain ⟨T, x, y, rfl, hT, rfl, f1, f2⟩ := hy
      obtain ⟨_, _, q1, n1⟩ := y1 x H' ⟨rfl, f1⟩
      obtain ⟨_, _, q2, n2⟩ := y2 y H' ⟨rfl, f2⟩
      exact pair_ok r hT q1 n1 q2 n2
    · cases e
  · obtain ⟨xs, gx⟩ := hp m' H' st' s r
    obtain ⟨ys, gy⟩ := hq m' H' st' s r
    simp only [Sv.ends, Bool.or_eq_true] at e
    rcases e with e | e
    · obtain ⟨zs, g, l⟩ := h2 e
      exact ⟨zs, ys, g, gy, .inl l⟩
    · obtain ⟨zs, g, l⟩ := k2 e
      exact ⟨xs, zs, gx, g, .inr l⟩
/-- a list as a source: where it stands, its walk at each count, that it is there later -/
theorem src_lst {H0 : Hp} {m : List Addr} {st : Sto} {d : D} {v : V} {sv : Sv} {c : Nat} (r : Rl ws m st H) (h : DV ws m H d v) (fr : Fr H0 d v) (nt : isTup d = false) (e : svOf st d = some (sv, c)) :
    ∃ p vs, v = .ref p ∧ SqL ws.K H p vs ∧ ∀ g, Own H0 m g → (∀ cnt, SvOk ws g m H sv cnt (Itl ws.K p)) ∧ ∀ m' H' st', StepG g m H m' H' → Rl ws m' st' H' → ∃ vs, SqL ws.K H' p vs := by
  cases h with
  | tl nm q t =>
    cases e
    refine ⟨_, _, rfl, SqL.of q, fun g o => ?_⟩
    have hg : ¬ g _ := fun z => by
      obtain ⟨_, us, z2⟩ := o _ z
      rw [fr rfl _ rfl] at z2
      cases z2
    exact ⟨fun cnt => sv_fixL (.inl ⟨nm, hg, q⟩) t, fun m' H' st' s r' => ⟨_, (lst_later (.inl ⟨nm, hg, q⟩) t s).1⟩⟩
  | il q t => cases e; exact ⟨_, _, rfl, .inl (.inr ⟨_, q⟩), fun g _ => ⟨fun cnt => sv_fixL (.inr (.inl ⟨_, q⟩)) t, fun m' H' st' s r' => ⟨_, (lst_later (.inr (.inl ⟨_, q⟩)) t s).1⟩⟩⟩
  | kl q t => cases e; exact ⟨_, _, rfl, q.sq, fun g _ => ⟨fun cnt => sv_fixL (.inr q) t, fun m' H' st' s r' => ⟨_, (lst_later (.inr q) t s).1⟩⟩⟩
  | lr q =>
    rename_i k p
    simp only [svOf] at e
    split at e
    · rename_i xs hx
      cases e
      obtain ⟨p', vs, e0, g, t⟩ := lst_ok r (DV.lr q) hx
      cases e0
      refine ⟨p, vs, rfl, g, fun _ _ => ⟨fun cnt => sv_cell q, fun m' H' st' s r' => ?_⟩⟩
      have hk : k < st'.length := by
        rw [← r'.len]
        exact (List.getElem?_eq_some_iff.mp (s.get q)).1
      cases ho : st'[k] with
      | lst ys =>
        obtain ⟨p'', vs', e0, g', _⟩ := lst_ok r' (DV.lr (s.get q)) (xs := ys) (by simp only [lstOf]; rw [List.getElem?_eq_getElem hk, ho])
        cases e0
        exact ⟨vs', g'⟩
    · cases e
  | tup _ _ => cases nt
  | non => cases e
  | bl _ => cases e
  | int _ => cases e
  | str _ => cases e
  | fn _ => cases e
theorem src_tup {m : List Addr} {st : Sto} {d : D} {v : V} {sv : Sv} {c : Nat} (h : DV ws m H d v) (nt : isTup d = true) (e : svOf st d = some (sv, c)) :
    ∃ p vs, v = .ref p ∧ SqT ws.K H p vs ∧ ∀ g, (∀ cnt, SvOk ws g m H sv cnt (Itt ws.K p)) ∧ ∀ m' H' (st' : Sto), StepG g m H m' H' → Rl ws m' st' H' → ∃ vs, SqT ws.K H' p vs := by
  cases h with
  | tup q t => cases e; exact ⟨_, _, rfl, q, fun g => ⟨fun cnt => sv_fixT q t, fun m' H' st' s r' => ⟨_, s.sqT q⟩⟩⟩
  | _ => cases nt

theorem fr1 {H0 : Hp} {d : D} {v : V} (h : ∀ a ∈ tls [d] [v], H0 a = none) : Fr H0 d v := fun n a e => by
  subst e
  cases d with
  | tl xs => exact h a (by simp [tls])
  | _ => cases n
/-! ### what a for walks, by the small run -/
section
variable {X : Cx} {tg : Expr}
theorem iS_ex {e : Expr} {e' : E} (K : X.K = ws.K) (he : PE X e (tE ws cf W n e')) : PI X tg e (iS ws cf W n (.ex e')) := by
  refine ⟨fun pins s σ H R I h => ?_⟩
  obtain ⟨ρ, st, m, hρ, r, hl, h⟩ := h
  unfold evSrc at h
  have goL : (∀ d st1, evE cf e' ρ st = .ok d st1 → isTup d = false) → iList X.K (tE ws cf W n e') σ H R := fun f =>
    tE_bind hρ r hl h fun d st1 m1 H1 v e1 s1 r1 hρ1 q1 h1 => by
      split at h1
      · rename_i z hz
        obtain ⟨p, vs, rfl, g1, g2⟩ := src_lst r1 q1.1 q1.2 (f d st1 e1) (sv := z.1) (c := z.2) hz
        exact ⟨p, rfl, ⟨vs, toL K g1⟩, by rw [K]; exact h1 m1 H1 _ s1 r1 fun g o => (g2 g o).1 _⟩
      · exact h1.elim
  have goT : (∀ d st1, evE cf e' ρ st = .ok d st1 → isTup d = true) → iTup X.K (tE ws cf W n e') σ H R := fun f =>
    tE_bind hρ r hl h fun d st1 m1 H1 v e1 s1 r1 hρ1 q1 h1 => by
      split at h1
      · rename_i z hz
        obtain ⟨p, vs, rfl, g1, g2⟩ := src_tup q1.1 (f d st1 e1) (sv := z.1) (c := z.2) hz
        exact ⟨p, rfl, ⟨vs, toT K g1⟩, by rw [K]; exact h1 m1 H1 _ s1 r1 fun g _ => (g2 g).1 _⟩
      · exact h1.elim
  cases x : evE cf e' ρ st with
  | ok d st1 =>
    cases t : isTup d with
    | false => exact (pi_list he).run pins s σ H R I (goL fun d' st' e1 => by rw [x] at e1; cases e1; exact t)
    | true => exact (pi_tup he).run pins s σ H R I (goT fun d' st' e1 => by rw [x] at e1; cases e1; exact t)
  | ex c p st1 => exact (pi_list he).run pins s σ H R I (goL fun d' st' e1 => by rw [x] at e1; cases e1)
  | no => rw [x] at h; exact h.elim
theorem evEs_one {cf : Cf} {e' : E} {ρ : Rho} {st st1 : Sto} {d : D} (x : evE cf e' ρ st = .ok d st1) : evEs cf [e'] ρ st = .ok [d] st1 := by
  unfold evEs evEs
  rw [x]
  rfl
theorem iS_enu {e : Expr} {e' : E} {p pos tpos : Pos} {elts : List Expr} {kk : Nat} (K : X.K = ws.K) (hg : Gl X "enumerate") (hm : X.mg "enumerate" = none) (ha : PA X [e] (tEs ws cf W n [e'])) (hs : starEach [e] X.env = [(false, eval e X.env)]) :
    PI X (.Tuple elts kk tpos) (.Call (.Name "enumerate" p) [e] [] pos) (iS ws cf W n (.enu e')) := by
  refine ⟨fun pins s σ H R I h => ?_⟩
  obtain ⟨ρ, st, m, hρ, r, hl, h⟩ := h
  unfold evSrc at h
  have h' : Aft ws W n m H (RI ws) R ((evEs cf [e'] ρ st).bind fun ds st => match ds with
      | [d] => (match svOf st d with
        | some (s, n) => .ok (.enu s, n) st
        | none => .no)
      | _ => .no) := by
    unfold evEs evEs
    rw [bind_assoc]
    exact h
  have goL : (∀ d st1, evE cf e' ρ st = .ok d st1 → isTup d = false) → (∃ d st1, evE cf e' ρ st = .ok d st1) ∨ (∀ d st1, evE cf e' ρ st ≠ .ok d st1) → iEnum X.K (tEs ws cf W n [e']) σ H R := fun f _ => by
    refine tEs_bind hρ r hl h' fun ds st1 m1 H1 vs e1 s1 r1 hρ1 q1 h1 => ?_
    split at h1
    · rename_i d
      have ht : isTup d = false := by
        cases x : evE cf e' ρ st with
        | ok d2 st2 =>
          rw [evEs_one x] at e1
          cases e1
          exact f _ _ x
        | ex c p st2 => unfold evEs at e1; rw [x] at e1; cases e1
        | no => unfold evEs at e1; rw [x] at e1; cases e1
      obtain ⟨q1, qn, qf⟩ := q1
      cases q1 with
      | cons q1 q2 =>
        cases q2
        split at h1
        · rename_i z c hc
          obtain ⟨p, vs, rfl, g1, g2⟩ := src_lst r1 q1 (fr1 qf) ht hc
          exact ⟨p, vs, rfl, toL K g1, by rw [K]; exact h1 m1 H1 _ s1 r1 fun g o => sv_enu ((g2 g o).1 _)⟩
        · exact h1.elim
    · exact h1.elim
  have goT : (∃ d st1, evE cf e' ρ st = .ok d st1 ∧ isTup d = true) → iEnumT X.K (tEs ws cf W n [e']) σ H R := fun ⟨d2, st2, x, ht2⟩ => by
    refine tEs_bind hρ r hl h' fun ds st1 m1 H1 vs e1 s1 r1 hρ1 q1 h1 => ?_
    rw [evEs_one x] at e1
    cases e1
    obtain ⟨q1, qn, qf⟩ := q1
    cases q1 with
    | cons q1 q2 =>
      cases q2
      cases hz : svOf st2 d2 with
      | none =>
        simp only [hz] at h1
        exact h1.elim
      | some z =>
        simp only [hz] at h1
        obtain ⟨p, vs, rfl, g1, g2⟩ := src_tup q1 ht2 hz
        exact ⟨p, vs, rfl, toT K g1, by rw [K]; exact h1 m1 H1 _ s1 r1 fun g _ => sv_enuT ((g2 g).1 _)⟩
  cases x : evE cf e' ρ st with
  | ok d st1 =>
    cases t : isTup d with
    | false => exact (pi_enum hg hm ha hs).run pins s σ H R I (goL (fun d' st' e1 => by rw [x] at e1; cases e1; exact t) (.inl ⟨_, _, x⟩))
    | true => exact (pi_enumT hg hm ha hs).run pins s σ H R I (goT ⟨_, _, x, t⟩)
  | ex c p st1 => exact (pi_enum hg hm ha hs).run pins s σ H R I (goL (fun d' st' e1 => by rw [x] at e1; cases e1) (.inr fun d' st' e1 => by rw [x] at e1; cases e1))
  | no => rw [x] at h; exact h.elim
theorem iS_zip {e f : Expr} {e' f' : E} {p pos tpos : Pos} {elts : List Expr} {kk : Nat} (K : X.K = ws.K) (hg : Gl X "zip") (hm : X.mg "zip" = none) (ha : PA X [e, f] (tEs ws cf W n [e', f'])) (hs : starEach [e, f] X.env = (false, eval e X.env) :: starEach [f] X.env)
    (hpl : (backTo pos (starEach [f] X.env)).any (·.1) = false) : PI X (.Tuple elts kk tpos) (.Call (.Name "zip" p) [e, f] [] pos) (iS ws cf W n (.zip e' f')) := by
  refine ⟨fun pins s σ H R I h => ?_⟩
  obtain ⟨ρ, st, m, hρ, r, hl, h⟩ := h
  unfold evSrc at h
  refine (RZ.pi_zipA hg hm ha hs hpl).run pins s σ H R I ?_
  have h' : Aft ws W n m H (RI ws) R ((evEs cf [e', f'] ρ st).bind fun ds st => match ds with
      | [x, y] => (match isTup x == isTup y, svOf st x, svOf st y with
        | true, some (s, n), some (t, m) => .ok (.zip s t, min n m) st
        | _, _, _ => .no)
      | _ => .no) := by
    unfold evEs evEs evEs
    rw [bind_assoc]
    have : (fun a st => (((evE cf f' ρ st).bind fun d st => (Out.ok ([] : List D) st).bind fun ds st => Out.ok (d :: ds) st).bind fun ds st => Out.ok (a :: ds) st).bind fun ds st => (match ds with
      | [x, y] => (match isTup x == isTup y, svOf st x, svOf st y with
        | true, some (s, n), some (t, m) => Out.ok (Sv.zip s t, min n m) st
        | _, _, _ => .no)
      | _ => .no)) = fun x st => (evE cf f' ρ st).bind fun y st => (match isTup x == isTup y, svOf st x, svOf st y with
        | true, some (s, n), some (t, m) => .ok (.zip s t, min n m) st
        | _, _, _ => .no) := by
      funext x st
      rw [bind_assoc, bind_assoc]
      rfl
    rw [this]
    exact h
  refine tEs_bind hρ r hl h' fun ds st1 m1 H1 vs e1 s1 r1 hρ1 q1 h1 => ?_
  split at h1
  · rename_i x y
    obtain ⟨q1, qn, qf⟩ := q1
    cases q1 with
    | cons q1 q2 =>
      cases q2 with
      | cons q2 q3 =>
        cases q3
        split at h1
        · rename_i z1 c1 z2 c2 hz hc1 hc2
          cases t : isTup x with
          | false =>
            have t2 : isTup y = false := by
              rw [t] at hz
              simpa using hz
            rw [tls_cons] at qf
            obtain ⟨p, vs, rfl, g1, g2⟩ := src_lst r1 q1 (fr1 fun a ha => qf a (List.mem_append_left _ ha)) t hc1
            obtain ⟨q, us, rfl, k1, k2⟩ := src_lst r1 q2 (fr1 fun a ha => qf a (List.mem_append_right _ ha)) t2 hc2
            exact ⟨p, q, vs, us, rfl, .inl ⟨toL K g1, toL K k1, by rw [K]; exact h1 m1 H1 _ s1 r1 fun g o => sv_zipL ((g2 g o).1 _) ((k2 g o).1 _) (g2 g o).2 (k2 g o).2⟩⟩
          | true =>
            have t2 : isTup y = true := by
              rw [t] at hz
              simpa using hz
            obtain ⟨p, vs, rfl, g1, g2⟩ := src_tup q1 t hc1
            obtain ⟨q, us, rfl, k1, k2⟩ := src_tup q2 t2 hc2
            exact ⟨p, q, vs, us, rfl, .inr ⟨toT K g1, toT K k1, by rw [K]; exact h1 m1 H1 _ s1 r1 fun g _ => sv_zipT ((g2 g).1 _) ((k2 g).1 _) (g2 g).2 (k2 g).2⟩⟩
        · exact h1.elim
  · exact h1.elim
theorem inR_ok {i : Int} (h : inR i = true) : -(2 ^ 62) ≤ i ∧ i < 2 ^ 62 := by
  unfold inR at h
  rw [Bool.and_eq_true] at h
  exact ⟨of_decide_eq_true h.1, of_decide_eq_true h.2⟩
theorem iS_rng1 {a : Expr} {a' : E} {p pos : Pos} (hg : Gl X "range") (hm : X.mg "range" = none) (ha : PA X [a] (tEs ws cf W n [a'])) (hs : starEach [a] X.env = [(false, eval a X.env)]) :
    PI X tg (.Call (.Name "range" p) [a] [] pos) (iS ws cf W n (.rng [a'])) := by
  refine PI.imp (pi_range1 hg hm ha hs) fun σ H R h => ?_
  obtain ⟨ρ, st, m, hρ, r, hl, h⟩ := h
  unfold evSrc at h
  refine tEs_bind hρ r hl h fun ds st1 m1 H1 vs e1 s1 r1 hρ1 q1 h1 => ?_
  have hlen := evEs_length e1
  split at h1
  · rename_i z hz
    obtain ⟨q1, qn, qf⟩ := q1
    unfold rngOf at hz
    split at hz
    · rename_i j
      split at hz
      · rename_i hj
        cases hz
        cases q1 with
        | cons q1 q2 =>
          cases q2
          cases q1
          obtain ⟨b1, b2⟩ := inR_ok hj
          exact ⟨j, rfl, b1, b2, h1 m1 H1 _ s1 r1 fun _ _ => sv_rng⟩
      · cases hz
    · simp at hlen
    · simp at hlen
    · cases hz
  · exact h1.elim
theorem iS_rng2 {a b : Expr} {a' b' : E} {p pos : Pos} (hg : Gl X "range") (hm : X.mg "range" = none) (ha : PA X [a, b] (tEs ws cf W n [a', b'])) (hs : starEach [a, b] X.env = [(false, eval a X.env), (false, eval b X.env)]) (hs2 : starEach [b] X.env = [(false, eval b X.env)]) :
    PI X tg (.Call (.Name "range" p) [a, b] [] pos) (iS ws cf W n (.rng [a', b'])) := by
  refine PI.imp (pi_range2 hg hm ha hs hs2) fun σ H R h => ?_
  obtain ⟨ρ, st, m, hρ, r, hl, h⟩ := h
  unfold evSrc at h
  refine tEs_bind hρ r hl h fun ds st1 m1 H1 vs e1 s1 r1 hρ1 q1 h1 => ?_
  have hlen := evEs_length e1
  split at h1
  · rename_i z hz
    obtain ⟨q1, qn, qf⟩ := q1
    unfold rngOf at hz
    split at hz
    · simp at hlen
    · rename_i i j
      split at hz
      · rename_i hj
        cases hz
        rw [Bool.and_eq_true] at hj
        cases q1 with
        | cons q1 q2 =>
          cases q2 with
          | cons q2 q3 =>
            cases q3
            cases q1
            cases q2
            obtain ⟨b1, b2⟩ := inR_ok hj.1
            obtain ⟨b3, b4⟩ := inR_ok hj.2
            exact ⟨i, j, rfl, ⟨b1, b2, b3, b4⟩, h1 m1 H1 _ s1 r1 fun _ _ => sv_rng⟩
      · cases hz
    · simp at hlen
    · cases hz
  · exact h1.elim
theorem iS_rng3 {a b c : Expr} {a' b' c' : E} {p pos : Pos} (hg : Gl X "range") (hm : X.mg "range" = none) (ha : PA X [a, b, c] (tEs ws cf W n [a', b', c'])) (hs : starEach [a, b, c] X.env = (false, eval a X.env) :: starEach [b, c] X.env)
    (hpl : (backTo pos (starEach [b, c] X.env)).any (·.1) = false) : PI X tg (.Call (.Name "range" p) [a, b, c] [] pos) (iS ws cf W n (.rng [a', b', c'])) := by
  refine PI.imp (pi_range3 hg hm ha hs hpl) fun σ H R h => ?_
  obtain ⟨ρ, st, m, hρ, r, hl, h⟩ := h
  unfold evSrc at h
  refine tEs_bind hρ r hl h fun ds st1 m1 H1 vs e1 s1 r1 hρ1 q1 h1 => ?_
  have hlen := evEs_length e1
  split at h1
  · rename_i z hz
    obtain ⟨q1, qn, qf⟩ := q1
    unfold rngOf at hz
    split at hz
    · simp at hlen
    · simp at hlen
    · rename_i i j c
      split at hz
      · rename_i hj
        cases hz
        rw [Bool.and_eq_true, Bool.and_eq_true] at hj
        have hc : c = -1 := by simpa using hj.2
        subst hc
        cases q1 with
        | cons q1 q2 =>
          cases q2 with
          | cons q2 q3 =>
            cases q3 with
            | cons q3 q4 =>
              cases q4
              cases q1
              cases q2
              cases q3
              obtain ⟨b1, b2⟩ := inR_ok hj.1.1
              obtain ⟨b3, b4⟩ := inR_ok hj.1.2
              exact ⟨i, j, -1, _, rfl, RgC.neg b1 b2 b3 b4, h1 m1 H1 _ s1 r1 fun _ _ => sv_rngC⟩
      · cases hz
    · cases hz
  · exact h1.elim
end
end
end Mn
/-! Mn8: comprehensions by the small run. -/
namespace Mn
open PySem PySem.Spec PyProof.Rows L2
abbrev W0 : WX := fun _ _ _ _ => False
section
variable {ws : Ws} {cf : Cf} {W : WX} {n : Nat} {σ : L2.St} {H : Hp}
theorem Aft.peel {α β γ δ : Type} {R : Hp → List Addr → Hp → α → β → Prop} {S : Hp → List Addr → Hp → γ → δ → Prop} {Q : δ → Hp → Prop} {Q1 : β → Hp → Prop} {m m' : List Addr} {H H' : Hp} {x : Out α} {f : α → Sto → Out γ}
    (h : Aft ws W n m H S Q (noEx (x.bind f))) (k : ∀ a st1 m1 H1 b, x = .ok a st1 → Step m' H' m1 H1 → Rl ws m1 st1 H1 → R H' m1 H1 a b → Aft ws W n m H S Q (noEx (f a st1)) → Q1 b H1) : Aft ws W0 n m' H' R Q1 x := by
  cases x with
  | ok a st => exact fun m1 H1 b s r q => k a st m1 H1 b rfl s r q h
  | ex c p st => exact h.elim
  | no => exact h.elim
mutual
/-- the list in the making is not told by values that are kept -/
theorem DV.loc {m : List Addr} {H : Hp} {p : Addr} {us : List V} {o : HO} (hp : H p = some (.lst us)) : ∀ {d : D} {v : V}, notl d = true → DV ws m H d v → DV ws m (upd H p o) d v
  | _, _, _, .non => .non
  | _, _, _, .bl b => .bl b
  | _, _, _, .int i => .int i
  | _, _, _, .str x => .str x
  | _, _, _, .tup h r => .tup (by
      rcases h with (h | ⟨z, h⟩) | h
      · exact .inl (.inl (by rw [upd_ne (ne_of h hp (by intro e; cases e))]; exact h))
      · exact .inl (.inr ⟨z, by rw [upd_ne (ne_of h hp (by intro e; cases e))]; exact h⟩)
      · exact .inr h) (DVs.loc hp r)
  | _, _, n, .tl _ _ _ => by cases n
  | _, _, _, .kl h r => .kl (by
      rcases h with ⟨z, h⟩ | h
      · exact .inl ⟨z, by rw [upd_ne (ne_of h hp (by intro e; cases e))]; exact h⟩
      · exact .inr h) (DVs.loc hp r)
  | _, _, _, .il h r => .il (by rw [upd_ne (ne_of h hp (by intro e; cases e))]; exact h) (DVs.loc hp r)
  | _, _, _, .lr h => .lr h
  | _, _, _, .fn g => .fn g
theorem DVs.loc {m : List Addr} {H : Hp} {p : Addr} {us : List V} {o : HO} (hp : H p = some (.lst us)) : ∀ {ds : List D} {vs : List V}, DVs ws m H ds vs → DVs ws m (upd H p o) ds vs
  | _, _, .nil => .nil
  | _, _, .cons h n r => .cons (DV.loc hp n h) n (DVs.loc hp r)
end
theorem Rl.loc {m : List Addr} {st : Sto} {H : Hp} {p : Addr} {us : List V} {o : HO} (hp : H p = some (.lst us)) (n : p ∉ m) (r : Rl ws m st H) : Rl ws m st (upd H p o) := by
  refine ⟨r.len, r.nd, fun k b a e1 e2 => ?_⟩
  have q := r.obj k b a e1 e2
  have ne : a ≠ p := fun z => n (z ▸ List.mem_of_getElem? e2)
  cases b with
  | lst xs =>
    obtain ⟨vs, h, t⟩ := q
    exact ⟨vs, by rw [upd_ne ne]; exact h, t.loc hp⟩
theorem Step.own {m m' : List Addr} {H H' : Hp} {p : Addr} {o : HO} (s : Step m H m' H') (h : H p = none) : Step m H m' (upd H' p o) := by
  refine ⟨s.pre, s.new, fun a u n e => ?_, fun a xs e => ?_, fun a u z e => ?_, fun a e => ?_⟩
  · rw [upd_ne (ne_of_none e h)]; exact s.keep a u n e
  · rw [upd_ne (ne_of_none e h)]; exact s.tups a xs e
  · rw [upd_ne (ne_of_none e h)]; exact s.frz a u z e
  · by_cases z : a = p
    · rw [z]; exact h
    · rw [upd_ne z] at e; exact s.there a e
/-- a list in the making: at p, what is made so far -/
structure Lc (ws : Ws) (m1 : List Addr) (H1 : Hp) (p : Addr) (m : List Addr) (st : Sto) (H : Hp) (acc : List D) : Prop where
  sp : Step m1 H1 m H
  rl : Rl ws m st H
  out : p ∉ m
  at_ : ∃ vs, H p = some (.lst vs) ∧ DVs ws m H acc vs
theorem Lc.step {m1 m m' : List Addr} {H1 H H' : Hp} {p : Addr} {st st' : Sto} {acc : List D} (l : Lc ws m1 H1 p m st H acc) (s : Step m H m' H') (r : Rl ws m' st' H') : Lc ws m1 H1 p m' st' H' acc := by
  obtain ⟨vs, h, t⟩ := l.at_
  exact ⟨l.sp.trans s, r, s.notin l.out h, vs, s.keep _ _ l.out h, t.mono s⟩
/-- one more item -/
theorem Lc.add {m1 m2 m : List Addr} {H1 H2 H : Hp} {p : Addr} {st2 st : Sto} {acc : List D} {x : D} {y : V} (hp : H1 p = none) (l : Lc ws m1 H1 p m2 st2 H2 acc) (s : Step m2 H2 m H) (r : Rl ws m st H) (q : RD ws H2 m H x y) :
    ∃ vs, H p = some (.lst vs) ∧ vs.length = acc.length ∧ Lc ws m1 H1 p (m ++ tls [x] [y]) (mat x st).2 (upd H p (.lst (vs ++ [y]))) (acc ++ [(mat x st).1]) := by
  have l' := l.step s r
  obtain ⟨vs, h, t⟩ := l'.at_
  obtain ⟨r1, h1, k1⟩ := mat_ok r q.1
  have fr : ∀ a ∈ tls [x] [y], H2 a = none := tls_one q.2
  have s1 : Step m1 H1 (m ++ tls [x] [y]) H := l'.sp.more fun a ha => l.sp.there a (fr a ha)
  have out : p ∉ m ++ tls [x] [y] := fun z => by
    rcases List.mem_append.mp z with z | z
    · exact l'.out z
    · have := fr p z
      obtain ⟨us, g, _⟩ := l.at_
      rw [g] at this
      cases this
  refine ⟨vs, h, t.length.symm, s1.own hp, r1.loc h out, out, vs ++ [y], upd_same, ?_⟩
  exact ((t.up _).append (.cons h1 k1 .nil)).loc h
theorem wipe_wipe (σ : L2.St) (us : List Nat) : ∀ vs : List Nat, (∀ v ∈ vs, v ∈ us) → L2.wipe (L2.wipe σ vs) us = L2.wipe σ us
  | [], _ => rfl
  | v :: vs, h => by
    show L2.wipe ((L2.wipe σ vs).set v none) us = _
    rw [wipe_set _ _ _ us (h v (by simp))]
    exact wipe_wipe σ us vs fun w hw => h w (List.mem_cons_of_mem _ hw)
variable (ws cf n) in
def tCs (cs : List E) : TT := fun σ H Q => ∃ ρ st m, RlE ws m H ρ σ ∧ Rl ws m st H ∧ σ.length = n ∧ Aft ws W0 n m H RB Q (evCs cf cs ρ st)
theorem turns_zero (sv : Sv) (body : D → List D → Sto → Out (List D)) (i : Nat) (acc : List D) (st : Sto) : turns sv body 0 i acc st = if sv.ends st i then .ok acc st else .no := by rw [turns]
theorem turns_succ (sv : Sv) (body : D → List D → Sto → Out (List D)) (k i : Nat) (acc : List D) (st : Sto) : turns sv body (k + 1) i acc st = (match sv.item st i with
    | some d => (body d acc st).bind fun acc st => turns sv body k (i + 1) acc st
    | none => .no) := by
  rw [turns]
  all_goals (cases sv.item st i <;> rfl)
/-- the element of a comprehension -/
theorem lc_elt {γ δ : Type} {S : Hp → List Addr → Hp → γ → δ → Prop} {Q : δ → Hp → Prop} {m m1 m3 : List Addr} {H1 H3 : Hp} {p : Addr} {st3 : Sto} {acc : List D} {ρ : Rho} {elt : E} {f : List D → Sto → Out γ} {P : Hp → Prop} (hp : H1 p = none)
    (l : Lc ws m1 H1 p m3 st3 H3 acc) (hρ : RlE ws m3 H3 ρ σ) (hl : σ.length = n)
    (h : Aft ws W n m H S Q (noEx ((if acc.length < sizeLine then (evE cf elt ρ st3).bind fun x st => .ok (acc ++ [(mat x st).1]) (mat x st).2 else .no).bind f)))
    (k : ∀ m5 st5 H5 acc', Lc ws m1 H1 p m5 st5 H5 acc' → Aft ws W n m H S Q (noEx (f acc' st5)) → P H5) :
    tE ws cf W0 n elt σ H3 fun y H4 => ∃ av, H4 p = some (.lst av) ∧ av.length < sizeLine ∧ P (upd H4 p (.lst (av ++ [y]))) := by
  split at h
  · rename_i hz
    rw [bind_assoc] at h
    refine ⟨ρ, st3, m3, hρ, l.rl, hl, Aft.peel h fun x st4 m4 H4 y _ s4 r4 q4 h4 => ?_⟩
    obtain ⟨vs, h5, h6, h7⟩ := Lc.add hp l s4 r4 q4
    exact ⟨vs, h5, by rw [h6]; exact hz, k _ _ _ _ h7 h4⟩
  · exact h.elim
/-- a comprehension of one clause -/
theorem tE_comp {elt : E} {tg : Tg} {src : Src} {cs : List E} {own : List Nat} (ho : ∀ i ∈ tgS tg, i ∈ own) {Q : VK} (h : tE ws cf W n (.comp elt tg src cs own) σ H Q) :
    tLc (iS ws cf W n src) (gT ws cf W0 n tg) (tCs ws cf n cs) (tE ws cf W0 n elt) own σ H Q := by
  obtain ⟨ρ, st, m, hρ, r, hl, h⟩ := h
  unfold evE at h
  refine ⟨ρ, st, m, hρ, r, hl, Aft.bind h fun sv st1 m1 H1 J _ s1 r1 q1 h1 p hp => ?_⟩
  generalize hb : (fun (d : D) (acc : List D) (st : Sto) => (evTg cf tg d (wipe ρ own) st).bind fun ρ st => (evCs cf cs ρ st).bind fun b st =>
        if b = true then (if acc.length < sizeLine then (evE cf elt ρ st).bind fun x st => .ok (acc ++ [(mat x st).1]) (mat x st).2 else .no) else .ok acc st) = body at h1
  have hbody : ∀ d acc st, body d acc st = (evTg cf tg d (wipe ρ own) st).bind fun ρ st => (evCs cf cs ρ st).bind fun b st =>
        if b = true then (if acc.length < sizeLine then (evE cf elt ρ st).bind fun x st => .ok (acc ++ [(mat x st).1]) (mat x st).2 else .no) else .ok acc st := fun d acc st => by rw [← hb]
  clear hb
  refine ⟨fun i k Hc => i + k = sv.2 ∧ ∃ m' st' acc, Lc ws m1 H1 p m' st' Hc acc ∧ Aft ws W n m H (RD ws) Q (noEx ((turns sv.1 body k i acc st').bind fun acc st => .ok (.tl acc) st)),
    ⟨sv.2, by omega, m1, st1, [], ⟨Step.alloc hp, r1.alloc hp, r1.free hp, [], upd_same, .nil⟩, h1⟩, fun i k Hc hW => ?_⟩
  obtain ⟨hik, m', st', acc, l, h2⟩ := hW
  obtain ⟨g1, g2⟩ := q1 (fun _ => False) (fun _ z => z.elim) m' Hc st' l.sp.toG l.rl
  cases k with
  | zero =>
    unfold turns at h2
    split at h2
    · rename_i he
      have : i = sv.2 := by omega
      subst this
      refine .inl ⟨g2 he, ?_⟩
      obtain ⟨vs, h3, h4⟩ := l.at_
      exact h2 m' Hc _ (s1.trans l.sp) l.rl ⟨.tl l.out h3 h4, fun _ a e => by cases e; exact s1.there p hp⟩
    · exact h2.elim
  | succ k =>
    unfold turns at h2
    split at h2
    · rename_i d hd
      obtain ⟨j1, j2⟩ := g1 i d (by omega) hd
      refine .inr ⟨j1, fun H' => i + 1 + k = sv.2 ∧ ∃ m' st' acc, Lc ws m1 H1 p m' st' H' acc ∧ Aft ws W n m H (RD ws) Q (noEx ((turns sv.1 body k (i + 1) acc st').bind fun acc st => .ok (.tl acc) st)), fun H' hN => ⟨k, by omega, hN⟩, fun x H' hy => ?_⟩
      obtain ⟨s3, r3, d3, n3⟩ := j2 x H' hy
      have l3 := l.step s3 r3
      have hρ3 : RlE ws m' H' (wipe ρ own) (L2.wipe σ own) := (((hρ.mono s1).mono l3.sp)).wipe own
      rw [hbody, bind_assoc, bind_assoc] at h2
      refine ⟨H', m', m', st', wipe ρ own, d, Step.refl _ _, r3, hρ3, ⟨d3, fr_of n3⟩, by rw [L2.wipe_length]; exact hl, Aft.peel h2 fun ρ4 st4 m4 H4 σ4 _ s4 r4 q4 h4 => ?_⟩
      refine ⟨(q4.2.2 own ho).trans (wipe_wipe σ own own fun _ h => h), ρ4, st4, m4, q4.1, r4, q4.2.1, ?_⟩
      rw [bind_assoc] at h4
      refine Aft.peel h4 fun b st5 m5 H5 b' _ s5 r5 q5 h5 => ?_
      cases q5
      have l5 := (l3.step s4 r4).step s5 r5
      cases b with
      | true =>
        rw [if_pos rfl] at h5 ⊢
        exact lc_elt (P := fun H' => i + 1 + k = sv.2 ∧ ∃ m' st' acc, Lc ws m1 H1 p m' st' H' acc ∧ Aft ws W n m H (RD ws) Q (noEx ((turns sv.1 body k (i + 1) acc st').bind fun acc st => .ok (.tl acc) st))) hp l5 (q4.1.mono s5) q4.2.1 h5 fun m6 st6 H6 acc' l6 h6 => ⟨by omega, m6, st6, acc', l6, h6⟩
      | false =>
        rw [if_neg Bool.false_ne_true] at h5 ⊢
        exact ⟨by omega, m5, st5, acc, l5, h5⟩
    · exact h2.elim
theorem StepG.trans {g : Addr → Prop} {m m1 m2 : List Addr} {H H1 H2 : Hp} (a : StepG g m H m1 H1) (b : Step m1 H1 m2 H2) (k : ∀ x o, x ∉ m → ¬ g x → H x = some o → x ∉ m1) : StepG g m H m2 H2 := by
  refine ⟨?_, fun x o n ng e => b.keep x o (k x o n ng e) (a.keep x o n ng e), fun x xs e => b.tups _ _ (a.tups _ _ e), fun x o u e => b.frz _ _ _ (a.frz _ _ _ e), fun x e => a.there x (b.there x e)⟩
  obtain ⟨l, e⟩ := a.pre
  obtain ⟨l', e'⟩ := b.pre
  exact ⟨l ++ l', by rw [e', e, List.append_assoc]⟩
/-- the inner walk's state: the list at p grows, all else goes on -/
structure Lg (ws : Ws) (m1 : List Addr) (H1 : Hp) (p : Addr) (m5 : List Addr) (H5 : Hp) (m : List Addr) (st : Sto) (H : Hp) (acc : List D) : Prop where
  lc : Lc ws m1 H1 p m st H acc
  sg : StepG (fun a => a = p) m5 H5 m H
  nw : ∀ a, a ∈ m → a ∉ m5 → H5 a = none
theorem Lg.step {m1 m5 m m' : List Addr} {H1 H5 H H' : Hp} {p : Addr} {st st' : Sto} {acc : List D} (l : Lg ws m1 H1 p m5 H5 m st H acc) (s : Step m H m' H') (r : Rl ws m' st' H') : Lg ws m1 H1 p m5 H5 m' st' H' acc :=
  ⟨l.lc.step s r, l.sg.trans s (fun x o n _ e z => by
    rw [l.nw x z n] at e
    cases e), fun a h n => by
    by_cases z : a ∈ m
    · exact l.nw a z n
    · exact l.sg.there a (s.new a h z)⟩
theorem Lg.add {m1 m5 m2 m : List Addr} {H1 H5 H2 H : Hp} {p : Addr} {st2 st : Sto} {acc : List D} {x : D} {y : V} (hp : H1 p = none) (l : Lg ws m1 H1 p m5 H5 m2 st2 H2 acc) (s : Step m2 H2 m H) (r : Rl ws m st H) (q : RD ws H2 m H x y) :
    ∃ vs, H p = some (.lst vs) ∧ vs.length = acc.length ∧ Lg ws m1 H1 p m5 H5 (m ++ tls [x] [y]) (mat x st).2 (upd H p (.lst (vs ++ [y]))) (acc ++ [(mat x st).1]) := by
  obtain ⟨vs, h5, h6, h7⟩ := Lc.add hp l.lc s r q
  have l' := l.step s r
  have fr : ∀ a ∈ tls [x] [y], H2 a = none := tls_one q.2
  refine ⟨vs, h5, h6, h7, ⟨?_, fun a u n ng e => ?_, fun a xs e => ?_, fun a u z e => ?_, fun a e => ?_⟩, fun a h n => ?_⟩
  · obtain ⟨k, e⟩ := l'.sg.pre
    exact ⟨k ++ tls [x] [y], by rw [e, List.append_assoc]⟩
  · rw [upd_ne ng]
    exact l'.sg.keep a u n ng e
  · have := l'.sg.tups a xs e
    rw [upd_ne (ne_of this h5 (by intro z; cases z))]
    exact this
  · have := l'.sg.frz a u z e
    rw [upd_ne (ne_of this h5 (by intro z; cases z))]
    exact this
  · by_cases z : a = p
    · rw [z, upd_same] at e; cases e
    · rw [upd_ne z] at e; exact l'.sg.there a e
  · rcases List.mem_append.mp h with h | h
    · exact l'.nw a h n
    · exact l.sg.there a (fr a h)
theorem lg_elt {γ δ : Type} {S : Hp → List Addr → Hp → γ → δ → Prop} {Q : δ → Hp → Prop} {m m1 m5 m3 : List Addr} {H1 H5 H3 : Hp} {p : Addr} {st3 : Sto} {acc : List D} {ρ : Rho} {elt : E} {f : List D → Sto → Out γ} {P : Hp → Prop} (hp : H1 p = none)
    (l : Lg ws m1 H1 p m5 H5 m3 st3 H3 acc) (hρ : RlE ws m3 H3 ρ σ) (hl : σ.length = n)
    (h : Aft ws W n m H S Q (noEx ((if acc.length < sizeLine then (evE cf elt ρ st3).bind fun x st => .ok (acc ++ [(mat x st).1]) (mat x st).2 else .no).bind f)))
    (k : ∀ m5' st5 H5' acc', Lg ws m1 H1 p m5 H5 m5' st5 H5' acc' → Aft ws W n m H S Q (noEx (f acc' st5)) → P H5') :
    tE ws cf W0 n elt σ H3 fun y H4 => ∃ av, H4 p = some (.lst av) ∧ av.length < sizeLine ∧ P (upd H4 p (.lst (av ++ [y]))) := by
  split at h
  · rename_i hz
    rw [bind_assoc] at h
    refine ⟨ρ, st3, m3, hρ, l.lc.rl, hl, Aft.peel h fun x st4 m4 H4 y _ s4 r4 q4 h4 => ?_⟩
    obtain ⟨vs, h5, h6, h7⟩ := Lg.add hp l s4 r4 q4
    exact ⟨vs, h5, by rw [h6]; exact hz, k _ _ _ _ h7 h4⟩
  · exact h.elim
theorem RlE.monoG {ρ : Rho} {σ : L2.St} {g : Addr → Prop} {m m' : List Addr} {H H' : Hp} (s : StepG g m H m' H') (h : RlE ws m H ρ σ) : RlE ws m' H' ρ σ := ⟨h.1, fun i d e => by
  obtain ⟨v, e1, r, n⟩ := h.2 i d e
  exact ⟨v, e1, r.monoG s n, n⟩⟩
/-- a comprehension of two clauses -/
theorem tE_comp2 {elt : E} {tg tg1 : Tg} {src src1 : Src} {cs cs1 : List E} {own own1 : List Nat} (ho : ∀ i ∈ tgS tg, i ∈ own) (ho1 : ∀ i ∈ tgS tg1, i ∈ own1) (hsub : ∀ i ∈ own1, i ∈ own) {Q : VK} (h : tE ws cf W n (.comp2 elt tg src cs tg1 src1 cs1 own own1) σ H Q) :
    tLc2 (iS ws cf W n src) (gT ws cf W0 n tg) (tCs ws cf n cs) (iS ws cf W0 n src1) (gT ws cf W0 n tg1) (tCs ws cf n cs1) (tE ws cf W0 n elt) own own1 σ H Q := by
  obtain ⟨ρ, st, m, hρ, r, hl, h⟩ := h
  unfold evE at h
  refine ⟨ρ, st, m, hρ, r, hl, Aft.bind h fun sv st1 m1 H1 J _ s1 r1 q1 h1 p hp => ?_⟩
  generalize hb1 : (fun (ρ : Rho) (d : D) (acc : List D) (st : Sto) => (evTg cf tg1 d (wipe ρ own1) st).bind fun ρ st => (evCs cf cs1 ρ st).bind fun b st =>
        if b = true then (if acc.length < sizeLine then (evE cf elt ρ st).bind fun x st => .ok (acc ++ [(mat x st).1]) (mat x st).2 else .no) else .ok acc st) = body1
  have hbody1 : ∀ ρ d acc st, body1 ρ d acc st = (evTg cf tg1 d (wipe ρ own1) st).bind fun ρ st => (evCs cf cs1 ρ st).bind fun b st =>
        if b = true then (if acc.length < sizeLine then (evE cf elt ρ st).bind fun x st => .ok (acc ++ [(mat x st).1]) (mat x st).2 else .no) else .ok acc st := fun ρ d acc st => by rw [← hb1]
  generalize hb : (fun (d : D) (acc : List D) (st : Sto) => (evTg cf tg d (wipe ρ own) st).bind fun ρ st => (evCs cf cs ρ st).bind fun b st =>
        if b = true then ((evSrc cf src1 ρ st).bind fun sv1 st => turns sv1.1 (body1 ρ) sv1.2 0 acc st) else .ok acc st) = body
  have hbody : ∀ d acc st, body d acc st = (evTg cf tg d (wipe ρ own) st).bind fun ρ st => (evCs cf cs ρ st).bind fun b st =>
        if b = true then ((evSrc cf src1 ρ st).bind fun sv1 st => turns sv1.1 (body1 ρ) sv1.2 0 acc st) else .ok acc st := fun d acc st => by rw [← hb]
  have h1 : Aft ws W n m H (RD ws) Q (noEx ((turns sv.1 body sv.2 0 [] st1).bind fun acc st => .ok (.tl acc) st)) := by
    rw [← hb, ← hb1]
    exact h1
  clear hb hb1
  refine ⟨fun i k Hc => i + k = sv.2 ∧ ∃ m' st' acc, Lc ws m1 H1 p m' st' Hc acc ∧ Aft ws W n m H (RD ws) Q (noEx ((turns sv.1 body k i acc st').bind fun acc st => .ok (.tl acc) st)),
    ⟨sv.2, by omega, m1, st1, [], ⟨Step.alloc hp, r1.alloc hp, r1.free hp, [], upd_same, .nil⟩, h1⟩, fun i k Hc hW => ?_⟩
  obtain ⟨hik, m', st', acc, l, h2⟩ := hW
  obtain ⟨g1, g2⟩ := q1 (fun _ => False) (fun _ z => z.elim) m' Hc st' l.sp.toG l.rl
  cases k with
  | zero =>
    unfold turns at h2
    split at h2
    · rename_i he
      have : i = sv.2 := by omega
      subst this
      refine .inl ⟨g2 he, ?_⟩
      obtain ⟨vs, h3, h4⟩ := l.at_
      exact h2 m' Hc _ (s1.trans l.sp) l.rl ⟨.tl l.out h3 h4, fun _ a e => by cases e; exact s1.there p hp⟩
    · exact h2.elim
  | succ k =>
    unfold turns at h2
    split at h2
    · rename_i d hd
      obtain ⟨j1, j2⟩ := g1 i d (by omega) hd
      refine .inr ⟨j1, fun H' => i + 1 + k = sv.2 ∧ ∃ m' st' acc, Lc ws m1 H1 p m' st' H' acc ∧ Aft ws W n m H (RD ws) Q (noEx ((turns sv.1 body k (i + 1) acc st').bind fun acc st => .ok (.tl acc) st)), fun H' hN => ⟨k, by omega, hN⟩, fun x H' hy => ?_⟩
      obtain ⟨s3, r3, d3, n3⟩ := j2 x H' hy
      have l3 := l.step s3 r3
      have hρ3 : RlE ws m' H' (wipe ρ own) (L2.wipe σ own) := (((hρ.mono s1).mono l3.sp)).wipe own
      rw [hbody, bind_assoc, bind_assoc] at h2
      refine ⟨H', m', m', st', wipe ρ own, d, Step.refl _ _, r3, hρ3, ⟨d3, fr_of n3⟩, by rw [L2.wipe_length]; exact hl, Aft.peel h2 fun ρ4 st4 m4 H4 σ4 _ s4 r4 q4 h4 => ?_⟩
      refine ⟨(q4.2.2 own ho).trans (wipe_wipe σ own own fun _ h => h), ρ4, st4, m4, q4.1, r4, q4.2.1, ?_⟩
      rw [bind_assoc] at h4
      refine Aft.peel h4 fun b st5 m5 H5 b' _ s5 r5 q5 h5 => ?_
      cases q5
      have l5 := (l3.step s4 r4).step s5 r5
      have hρ5 := q4.1.mono s5
      cases b with
      | false =>
        rw [if_neg Bool.false_ne_true] at h5 ⊢
        exact ⟨by omega, m5, st5, acc, l5, h5⟩
      | true =>
        rw [if_pos rfl] at h5 ⊢
        rw [bind_assoc] at h5
        refine ⟨ρ4, st5, m5, hρ5, r5, q4.2.1, Aft.peel h5 fun sv1 st6 m6 H6 J1 _ s6 r6 q6 h6 => ?_⟩
        have l6 := l5.step s6 r6
        have hρ6 := hρ5.mono s6
        have hown : Own H5 m6 (fun a => a = p) := fun a z => by
          subst z
          obtain ⟨us, g, _⟩ := l5.at_
          exact ⟨l6.out, us, g⟩
        refine ⟨fun j kk Hj => j + kk = sv1.2 ∧ ∃ m' st' acc, Lg ws m1 H1 p m6 H6 m' st' Hj acc ∧ Aft ws W n m H (RD ws) Q (noEx ((turns sv1.1 (body1 ρ4) kk j acc st').bind fun acc st => (turns sv.1 body k (i + 1) acc st).bind fun acc st => .ok (.tl acc) st)),
          ⟨sv1.2, by omega, m6, st6, acc, ⟨l6, (Step.refl m6 H6).toG, fun a z n => absurd z n⟩, h6⟩, fun j kk Hj hV => ?_⟩
        obtain ⟨hjk, m7, st7, acc7, l7, h7⟩ := hV
        obtain ⟨e1, e2⟩ := q6 _ hown m7 Hj st7 l7.sg l7.lc.rl
        cases kk with
        | zero =>
          rw [turns_zero] at h7
          split at h7
          · rename_i he
            have : j = sv1.2 := by omega
            subst this
            exact .inl ⟨e2 he, by omega, m7, st7, acc7, l7.lc, h7⟩
          · exact h7.elim
        | succ kk =>
          rw [turns_succ] at h7
          split at h7
          · rename_i d' hd'
            obtain ⟨j3, j4⟩ := e1 j d' (by omega) hd'
            refine .inr ⟨j3, fun H' => j + 1 + kk = sv1.2 ∧ ∃ m' st' acc, Lg ws m1 H1 p m6 H6 m' st' H' acc ∧ Aft ws W n m H (RD ws) Q (noEx ((turns sv1.1 (body1 ρ4) kk (j + 1) acc st').bind fun acc st => (turns sv.1 body k (i + 1) acc st).bind fun acc st => .ok (.tl acc) st)), fun H' hN => ⟨kk, by omega, hN⟩, fun x H' hy => ?_⟩
            obtain ⟨s8, r8, d8, n8⟩ := j4 x H' hy
            have l8 := l7.step s8 r8
            have hρ8 : RlE ws m7 H' (wipe ρ4 own1) (L2.wipe σ4 own1) := (hρ6.monoG l8.sg).wipe own1
            rw [hbody1, bind_assoc, bind_assoc] at h7
            refine ⟨H', m7, m7, st7, wipe ρ4 own1, d', Step.refl _ _, r8, hρ8, ⟨d8, fr_of n8⟩, by rw [L2.wipe_length]; exact q4.2.1, Aft.peel h7 fun ρ9 st9 m9 H9 σ9 _ s9 r9 q9 h9 => ?_⟩
            refine ⟨(q9.2.2 own1 ho1).trans (wipe_wipe σ4 own1 own1 fun _ h => h), ρ9, st9, m9, q9.1, r9, q9.2.1, ?_⟩
            rw [bind_assoc] at h9
            refine Aft.peel h9 fun b sta ma Ha b' _ sa ra qa ha => ?_
            cases qa
            have la := (l8.step s9 r9).step sa ra
            cases b with
            | true =>
              rw [if_pos rfl] at ha ⊢
              exact lg_elt (P := fun H' => j + 1 + kk = sv1.2 ∧ ∃ m' st' acc, Lg ws m1 H1 p m6 H6 m' st' H' acc ∧ Aft ws W n m H (RD ws) Q (noEx ((turns sv1.1 (body1 ρ4) kk (j + 1) acc st').bind fun acc st => (turns sv.1 body k (i + 1) acc st).bind fun acc st => .ok (.tl acc) st))) hp la (q9.1.mono sa) q9.2.1 ha fun mb stb Hb acc' lb hb => ⟨by omega, mb, stb, acc', lb, hb⟩
            | false =>
              rw [if_neg Bool.false_ne_true] at ha ⊢
              exact ⟨by omega, ma, sta, acc7, la, ha⟩
          · exact h7.elim
    · exact h2.elim
end
end Mn
/-! Mn8b: a list that no one changes any more; [::-1]; a call of what an expression gives. -/
namespace Mn
open PySem PySem.Spec PyProof.Rows L2
section
variable {ws : Ws} {cf : Cf} {W : WX} {n : Nat} {σ : L2.St} {H : Hp} {X : Cx}
def tFrz (t : TE) : TE := fun σ H Q => t σ H fun v H1 => Q v H1 ∨ ∃ a vs, v = .ref a ∧ H1 a = some (.lst vs) ∧ ∀ od, Q v (upd H1 a (.frz od (.lst vs)))
theorem pe_frz {e : Expr} {t : TE} (h : PE X e t) : PE X e (tFrz t) := ⟨fun pins s σ H Q I q => by
  refine thn (h.run pins s σ H _ I q) fun v s1 ⟨x, H1, I1, r1, q1⟩ => ?_
  rcases q1 with q1 | ⟨a, vs, _, ha, q1⟩
  · exact ⟨x, H1, I1, r1, q1⟩
  · obtain ⟨od, I2⟩ := I1.lock ha trivial
    exact ⟨x, _, I2, r1, q1 od⟩⟩
theorem tE_frz {e : E} {Q : VK} (h : tE ws cf W n (.frz e) σ H Q) : tFrz (tE ws cf W n e) σ H Q := by
  obtain ⟨ρ, st, m, hρ, r, hl, h⟩ := h
  unfold evE at h
  refine tE_bind hρ r hl h fun d st1 m1 H1 v _ s1 r1 hρ1 q1 h1 => ?_
  have h1' : ∀ m' H' b, Step m H m' H' → Rl ws m' st1 H' → RD ws H m' H' (frzD d) b → Q b H' := h1
  by_cases hd : notl d = true
  · have e : frzD d = d := by cases d <;> first | rfl | cases hd
    rw [e] at h1'
    exact .inl (h1' m1 H1 v s1 r1 q1)
  · cases d with
    | tl xs =>
      obtain ⟨q, f⟩ := q1
      cases q with
      | tl nm z t =>
        have ha := f rfl _ rfl
        exact .inr ⟨_, _, rfl, z, fun od => h1' m1 _ _ (s1.own ha) (r1.loc z nm) ⟨.il upd_same (t.loc z), fr_of rfl⟩⟩
    | _ => exact absurd rfl hd
/-! ### from the last to the first -/
theorem DVs.snoc {m : List Addr} {d : D} {v : V} {ds : List D} {vs : List V} (r : DVs ws m H ds vs) (h : DV ws m H d v) (k : notl d = true) : DVs ws m H (ds ++ [d]) (vs ++ [v]) := r.append (.cons h k .nil)
theorem DVs.reverse {m : List Addr} : ∀ {ds : List D} {vs : List V}, DVs ws m H ds vs → DVs ws m H ds.reverse vs.reverse
  | _, _, .nil => .nil
  | d :: ds, v :: vs, .cons h k r => by
    rw [List.reverse_cons, List.reverse_cons]
    exact (DVs.reverse r).snoc h k
section
variable {prog : Program} {w : World} {A : Around} {E : Value → Shared → Prop} {s : Shared}
theorem adjust_neg (n : Nat) : Builtin.Slice.sliceAdjust none none (-1) (n : Int) = ((n : Int) - 1, -1) := by
  unfold Builtin.Slice.sliceAdjust
  simp only [show ((-1 : Int) < 0) = True by simp, if_true]
theorem places_neg (n : Nat) : Builtin.Slice.slicePlaces ((n : Int) - 1) (-1) (-1) = n := by
  unfold Builtin.Slice.slicePlaces
  simp only [show ¬ ((-1 : Int) > 0) by decide, if_false]
  split
  · simp
  · omega
theorem fm_congr {α β : Type} {f g : α → Option β} : ∀ {l : List α}, (∀ a ∈ l, f a = g a) → l.filterMap f = l.filterMap g
  | [], _ => rfl
  | a :: l, h => by
    rw [List.filterMap_cons, List.filterMap_cons, h a (by simp), fm_congr fun b hb => h b (List.mem_cons_of_mem _ hb)]
theorem fm_all {α : Type} : ∀ n (k : List α), k.length = n → (List.range n).filterMap (fun m : Nat => k[m]?) = k
  | 0, [], _ => rfl
  | n + 1, x :: k, h => by
    rw [List.range_succ_eq_map, List.filterMap_cons]
    simp only [List.getElem?_cons_zero, List.filterMap_map]
    congr 1
    exact fm_all n k (by simpa using h)
theorem fm_rev {α : Type} (l : List α) : (List.range l.length).filterMap (fun m : Nat => l[((l.length : Int) - 1 + (m : Int) * -1).toNat]?) = l.reverse := by
  rw [fm_congr (g := fun m : Nat => l.reverse[m]?) fun m hm => ?_]
  · exact fm_all _ _ (by simp)
  · have hm' := List.mem_range.mp hm
    rw [List.getElem?_reverse hm']
    congr 1
    omega
theorem pick_neg (xs : Array Value) : ((List.range xs.size).filterMap fun (m : Nat) => xs[((xs.size : Int) - 1 + (m : Int) * -1).toNat]?).toArray = xs.toList.reverse.toArray := by
  have := fm_rev xs.toList
  simp only [Array.length_toList, Array.getElem?_toList] at this
  rw [this]
theorem applied_rev {sl : Addr} {vl vu vs : Value} {k : Nat} {Q : Int × Int × Nat → Shared → Prop} (hs : s.heap.IsSliceOf sl vl vu vs) (pl : IsPart vl none) (pu : IsPart vu none) (ps : IsPart vs (some (-1)))
    (h : Q ((k : Int) - 1, -1, k) s) : wpAny (model prog w) A (Builtin.Slice.sliceApplied (.ref sl) (pure (k : Int))) Q E s := by
  obtain ⟨os, z1, z2, z3⟩ := id hs
  unfold Builtin.Slice.sliceApplied Builtin.Slice.sliceFields
  refine wpAny_bind ?_
  refine wpAny_bind (wpAny_field z1 z3 (x := vl) rfl ?_)
  refine wpAny_bind (wpAny_field z1 z3 (x := vu) rfl ?_)
  refine wpAny_bind (wpAny_field z1 z3 (x := vs) rfl ?_)
  refine wpAny_pure ?_
  refine wpAny_bind (HT.slicePart_ ps ?_)
  show wpAny _ _ (if ((-1 : Int) == 0) = true then _ else _) _ _ s
  rw [if_neg (by decide)]
  refine wpAny_bind (HT.slicePart_ pl ?_)
  refine wpAny_bind (HT.slicePart_ pu ?_)
  refine wpAny_bind (wpAny_pure ?_)
  show wpAny _ _ (match Builtin.Slice.sliceAdjust none none (-1) (k : Int) with | (a, b) => pure (a, (-1 : Int), Builtin.Slice.slicePlaces a b (-1))) _ _ s
  rw [adjust_neg k]
  show wpAny _ _ (pure ((k : Int) - 1, (-1 : Int), Builtin.Slice.slicePlaces ((k : Int) - 1) (-1) (-1))) _ _ s
  rw [places_neg]
  exact wpAny_pure h
theorem tuple_rev {t sl : Addr} {its : Array Value} {vl vu vs : Value} {Q : Value → Shared → Prop} (ht : IsTup s.heap t its) (hs : s.heap.IsSliceOf sl vl vu vs) (pl : IsPart vl none) (pu : IsPart vu none) (ps : IsPart vs (some (-1))) (hsz : its.size ≤ sizeLine)
    (h : Q (.ref s.heap.objs.size) { s with heap := s.heap.push { cls := .type "tuple", data := .seq its.toList.reverse.toArray } }) : wpAny (model prog w) A (getItem (.ref t) (.ref sl)) Q E s := by
  have fit : sizeOk (.seq its.toList.reverse.toArray) := by
    show its.toList.reverse.toArray.size ≤ sizeLine
    rw [List.size_toArray, List.length_reverse, Array.length_toList]
    exact hsz
  obtain ⟨os, z1, z2, z3⟩ := id hs
  have ty : s.TypeIs (.ref sl) "slice" := ⟨os, z1, z2⟩
  unfold getItem
  try with_reducible refine wpAny_holding ?_
  first
    | refine wpAny_bind (wpAny_pure ?_)
    | skip
  have ht2 := ht.typeIs
  refine wpAny_bind (wpAny_sequenceKey ht2 (by decide) ?_)
  refine wpAny_bind (wpAny_callSpecial?_slot (name := Str.ofString "__getitem__") ht2 slot_tuple_getitem (wpAny_call_entry slot_tuple_getitem ht2 entry_tuple_getitem ?_ (args_tuple_getitem _ _)))
  show wpAny _ _ (Builtin.Tuple.tupleItemsOf (.ref t) >>= fun _ => _) _ _ s
  refine wpAny_bind (tupleItemsOf_ ht (wpAny_bind (wpAny_typeOf ty ?_)))
  rw [if_pos (show _ = true by decide)]
  refine wpAny_bind (applied_rev hs pl pu ps ?_)
  have no : ¬ ((((its.size : Int) - 1) == 0 && (-1 : Int) == 1 && its.size == its.size) = true) := by simp
  show wpAny _ _ (if ((((its.size : Int) - 1) == 0 && (-1 : Int) == 1 && its.size == its.size) = true) then _ else _) _ _ s
  rw [if_neg no, pick_neg]
  first
    | exact wpAny_bind (m := Builtin.Tuple.tupleExact _) (wpAny_newObj_type (wpAny_pure ⟨_, rfl, wpAny_pure h⟩) fit)
    | exact wpAny_bind (m := Builtin.Tuple.tupleExact _) (wpAny_newObj_type (wpAny_bind (wpAny_pure (wpAny_pure ⟨_, rfl, wpAny_pure h⟩))) fit)
    | exact wpAny_bind (wpAny_bind (m := Builtin.Tuple.tupleExact _) (wpAny_newObj_type (wpAny_pure (wpAny_pure ⟨_, rfl, wpAny_pure h⟩)) fit))
    | exact wpAny_bind (wpAny_bind (m := Builtin.Tuple.tupleExact _) (wpAny_newObj_type (wpAny_pure ⟨_, rfl, wpAny_pure h⟩) fit))
end
/-- e[::-1], a list or a tuple -/
def tRevA (K : PySem.W.Frag) (te : TE) : TE := fun σ H Q => te σ H fun x H1 => ∃ a xs, x = .ref a ∧ ((SqL K H1 a xs ∧ ∀ p, H1 p = none → Q (.ref p) (upd H1 p (.lst xs.reverse))) ∨ (SqT K H1 a xs ∧ ∀ p, H1 p = none → Q (.ref p) (upd H1 p (.tup xs.reverse))))
theorem pe_revA {e : Expr} {te : TE} {k : Nat} {p1 p2 p3 pos : Pos} (he : PE X e te) : PE X (.Subscript e (.Slice none none (some (.UnaryOp .USub (.Constant (.int 1) k p1) p2)) p3) pos) (tRevA X.K te) := by
  refine ⟨fun pins s σ H Q I h => ?_⟩
  refine Subscript_ (thn (he.run pins s σ H _ I h) fun v s1 ⟨x, H1, I1, r1, a, xs, ex, q⟩ => ?_)
  subst ex
  cases r1
  have step : PO X (some (.UnaryOp .USub (.Constant (.int 1) k p1) p2)) (tPart (tUn (rU fun i => .int (-i)) (tC (.int 1)))) := po_some (pe_un un_neg pe_int)
  refine wpAny_Slice (thn (po_none.run pins s1 σ H1 (fun o G => o = none ∧ G = H1) I1 ⟨rfl, rfl⟩) fun vl s2 ⟨l, H2, I2, pl, el, e2⟩ => ?_)
  subst el e2
  refine thn (po_none.run pins s2 σ H2 (fun o G => o = none ∧ G = H2) I2 ⟨rfl, rfl⟩) fun vu s3 ⟨u, H3, I3, pu, eu, e3⟩ => ?_
  subst eu e3
  refine thn (step.run pins s3 σ H3 (fun o G => o = some (-1) ∧ G = H3) I3 ⟨1, rfl, -1, rfl, rfl, rfl⟩) fun vs s4 ⟨o, H4, I4, ps, eo, e4⟩ => ?_
  subst eo e4
  have I5 : Inv X pins σ H4 { s4 with heap := s4.heap.push { cls := .type "slice", data := .fields #[vl, vu, vs] } } := I4.kept (t' := s4.toks) fun b ob q => Heap.get?_push_of_some _ q
  show wpAny _ X.A (subscriptTail e (.Slice none none (some (.UnaryOp .USub (.Constant (.int 1) k p1) p2)) p3) (.ref a) (.ref s4.heap.objs.size)) (EP X pins σ Q) X.xe { s4 with heap := s4.heap.push { cls := .type "slice", data := .fields #[vl, vu, vs] } }
  rcases q with ⟨hx, q⟩ | ⟨hx, q⟩
  · obtain ⟨its, r, ht, hz⟩ := I5.list hx
    have hlen := r.length
    refine tail_any (ops := [.ref a, .ref s4.heap.objs.size]) ht.isList.typeIs (PySem.slot_list_getitem.lookup) ?_ (by with_unfolding_all rfl)
    refine wpAny_getItem_list_slice ht.isList (Heap.IsSliceOf.new _ vl vu vs) pl pu ps (by decide) ?_ (by rw [List.size_toArray]; omega)
    rw [PySem.W.krv_pick]
    exact ⟨.ref _, _, I5.laid (t' := s4.toks) (o := .lst xs.reverse) (fun b ob q => Heap.get?_push_of_some _ q) (Nat.le_refl _) ⟨by rw [List.length_reverse]; exact hz, _, 0, r.reverse, Heap.get?_push_size _ rfl⟩, rfl, q _ (I5.hok.fresh (Nat.le_refl _))⟩
  · obtain ⟨its, r, ht, hz⟩ := I5.tuple hx
    have hlen := r.length
    refine tail_any (ops := [.ref a, .ref s4.heap.objs.size]) ht.typeIs slot_tuple_getitem.lookup ?_ (by with_unfolding_all rfl)
    refine tuple_rev ht (Heap.IsSliceOf.new _ vl vu vs) pl pu ps (by rw [List.size_toArray]; omega) ?_
    exact ⟨.ref _, _, I5.laid (t' := s4.toks) (o := .tup xs.reverse) (fun b ob q => Heap.get?_push_of_some _ q) (Nat.le_refl _) ⟨by rw [List.length_reverse]; exact hz, _, r.reverse, IsTup.new _ _⟩, rfl, q _ (I5.hok.fresh (Nat.le_refl _))⟩
theorem tE_rev (K : X.K = ws.K) {a : E} {Q : VK} (h : tE ws cf W n (.prim .rev [a]) σ H Q) : tRevA X.K (tE ws cf W n a) σ H Q := by
  refine tE_mono (tEs_one (tE_prim h)) fun x H1 k => ?_
  obtain ⟨H0, m0, m, st, ds, d, st', s0, r, ra, e, k⟩ := k
  obtain ⟨a, rfl, ha⟩ := ra.as.one
  simp only [semP, sem1] at e
  split at e
  · cases e
    cases ha with
    | tup q t => exact ⟨_, _, rfl, .inr ⟨toT K q, end_tup s0 r t.reverse k⟩⟩
  · split at e
    · rename_i xs hx
      cases e
      obtain ⟨p, vs, rfl, q, t⟩ := lst_ok r ha hx
      exact ⟨_, _, rfl, .inl ⟨toL K q, end_tl s0 r t.reverse k⟩⟩
    · cases e
/-! ### a call of what an expression gives -/
theorem tE_calle {f : E} {es : List E} {Q : VK} (h : tE ws cf W n (.calle f es) σ H Q) : tE ws cf W n f σ H fun v H1 => ∃ g, g < cf.nf ∧ v = .ref (ws.fa g) ∧ tEs ws cf W n es σ H1 fun vs H2 => spF ws cf g vs H2 Q (WE W σ) := by
  obtain ⟨ρ, st, m, hρ, r, hl, h⟩ := h
  unfold evE at h
  refine tE_bind hρ r hl h fun x st1 m1 H1 v e0 s1 r1 hρ1 q1 h1 => ?_
  clear e0
  split at h1
  · rename_i g
    obtain ⟨q, _⟩ := q1
    cases q
    split at h1
    · rename_i hg
      refine ⟨g, Nat.blt_eq.mp hg, rfl, ?_⟩
      exact tEs_bind hρ1 r1 hl (Aft.shift h1 s1 fun _ _ _ _ h => RD.back s1 h) fun ds st2 m2 H2 vs e1 s2 r2 hρ2 q2 h2 => aft_sp hl s2 r2 q2 h2
    · exact h1.elim
  · exact h1.elim
theorem eval_callS (v ix : Expr) (p : Pos) (args : List Expr) (kws : List Keyword) (pos : Pos) (env : Env) : eval (.Call (.Subscript v ix p) args kws pos) env = (do
    callWith pos (← eval (.Subscript v ix p) env) [] (backTo pos (starEach args env)) (backToKw pos (keywordEach kws env))) := rfl
/-! ### a range as a list or a tuple -/
theorem rgD_ok {m : List Addr} (a b : Int) : DVs ws m H (rgD a b) (rgV a b) := by
  unfold rgD rgV
  generalize List.range (b - a).toNat = l
  induction l with
  | nil => exact .nil
  | cons i l ih => exact .cons (.int _) rfl ih
theorem rgOk_ok {a b : Int} (h : rgOk a b = true) : RgOk a b := by
  unfold rgOk inR at h
  simp only [Bool.and_eq_true, decide_eq_true_eq] at h
  obtain ⟨⟨⟨h1, h2⟩, h3, h4⟩, h5⟩ := h
  exact ⟨h1, h2, h3, h4, Nat.le_of_ble_eq_true h5⟩
abbrev tRgA (t : Bool) (te : L2.St → Hp → (Int → Int → Hp → Prop) → Prop) : TE := if t then tTupRg te else tLstRg te
theorem rg_end {t : Bool} {a b : Int} {st : Sto} {m m1 : List Addr} {H0 : Hp} {Q : VK} (hok : rgOk a b = true) (s1 : Step m H0 m1 H) (r1 : Rl ws m1 st H)
    (h : Aft ws W n m H0 (RD ws) Q (.ok (if t then D.tup (rgD a b) else D.tl (rgD a b)) st)) : RgOk a b ∧ ∀ q, H q = none → Q (.ref q) (upd H q (if t then .tup (rgV a b) else .lst (rgV a b))) := by
  refine ⟨rgOk_ok hok, ?_⟩
  cases t with
  | true => exact end_tup s1 r1 (rgD_ok a b) fun m' H' v s r q => h m' H' v s r q
  | false => exact end_tl s1 r1 (rgD_ok a b) fun m' H' v s r q => h m' H' v s r q
theorem tE_rg1 {t : Bool} {a : E} {Q : VK} (h : tE ws cf W n (.rngL t [a]) σ H Q) : tE ws cf W n a σ H fun x H1 => ∃ j, x = .int j ∧ RgOk 0 j ∧ ∀ q, H1 q = none → Q (.ref q) (upd H1 q (if t then .tup (rgV 0 j) else .lst (rgV 0 j))) := by
  obtain ⟨ρ, st, m, hρ, r, hl, h⟩ := h
  unfold evE evEs evEs at h
  rw [bind_assoc] at h
  refine tE_bind hρ r hl h fun x st1 m1 H1 v _ s1 r1 hρ1 q1 h1 => ?_
  have h1' : Aft ws W n m H (RD ws) Q (match rgL t [x] with | some d => Out.ok d st1 | none => .no) := h1
  cases x with
  | int j =>
    cases q1.1
    refine ⟨j, rfl, ?_⟩
    simp only [rgL] at h1'
    split at h1'
    · rename_i d hd
      split at hd
      · rename_i hok
        cases hd
        exact rg_end hok s1 r1 h1'
      · cases hd
    · exact h1'.elim
  | _ => exact h1'.elim
theorem tE_rg2 {t : Bool} {a b : E} {Q : VK} (h : tE ws cf W n (.rngL t [a, b]) σ H Q) : tE ws cf W n a σ H fun x H1 => tE ws cf W n b σ H1 fun y H2 => ∃ i j, x = .int i ∧ y = .int j ∧ RgOk i j ∧ ∀ q, H2 q = none → Q (.ref q) (upd H2 q (if t then .tup (rgV i j) else .lst (rgV i j))) := by
  obtain ⟨ρ, st, m, hρ, r, hl, h⟩ := h
  unfold evE evEs evEs evEs at h
  rw [bind_assoc] at h
  refine tE_bind hρ r hl h fun x st1 m1 H1 v _ s1 r1 hρ1 q1 h1 => ?_
  rw [bind_assoc, bind_assoc] at h1
  refine tE_bind hρ1 r1 hl (h1.shift s1 fun _ _ _ _ h => RD.back s1 h) fun y st2 m2 H2 u _ s2 r2 hρ2 q2 h2 => ?_
  have h2' : Aft ws W n m1 H1 (RD ws) Q (match rgL t [x, y] with | some d => Out.ok d st2 | none => .no) := h2
  cases x with
  | int i =>
    cases q1.1
    cases y with
    | int j =>
      cases q2.1
      refine ⟨i, j, rfl, rfl, ?_⟩
      simp only [rgL] at h2'
      split at h2'
      · rename_i d hd
        split at hd
        · rename_i hok
          cases hd
          exact rg_end hok s2 r2 h2'
        · cases hd
      · exact h2'.elim
    | _ => exact h2'.elim
  | _ => exact h2'.elim
end
end Mn
/-! Mn9: statements by the small run. -/
namespace Mn
open PySem PySem.Spec PyProof.Rows L2
/-- where a statement leads, on the layer's side -/
inductive Ev where
  | nx (σ : L2.St) | bk (σ : L2.St) | ct (σ : L2.St) | rt (v : V)
def QE (D : Ends) : Ev → Hp → Prop
  | .nx σ, H => D.nx σ H
  | .bk σ, H => D.bk σ H
  | .ct σ, H => D.ct σ H
  | .rt v, H => D.rt v H
def RF (ws : Ws) (n : Nat) : Hp → List Addr → Hp → Fl × Rho → Ev → Prop := fun H0 m H fr ev => match fr, ev with
  | (.nx, ρ), .nx σ => RlE ws m H ρ σ ∧ σ.length = n
  | (.brk, ρ), .bk σ => RlE ws m H ρ σ ∧ σ.length = n
  | (.cnt, ρ), .ct σ => RlE ws m H ρ σ ∧ σ.length = n
  | (.ret d, _), .rt v => RD ws H0 m H d v
  | _, _ => False
section
variable (ws : Ws) (cf : Cf) (W : WX) (n : Nat)
def tS (s : S) : TS := fun D σ H => ∃ ρ st m, RlE ws m H ρ σ ∧ Rl ws m st H ∧ σ.length = n ∧ Aft ws W n m H (RF ws n) (QE D) (exS cf s ρ st)
def tSs (ss : List S) : TS := fun D σ H => ∃ ρ st m, RlE ws m H ρ σ ∧ Rl ws m st H ∧ σ.length = n ∧ Aft ws W n m H (RF ws n) (QE D) (exSs cf ss ρ st)
end
section
variable {ws : Ws} {cf : Cf} {W : WX} {n : Nat} {σ : L2.St} {H : Hp} {De : Ends}
theorem RF.back {m1 m' m : List Addr} {H H1 H' : Hp} (s : Step m H m1 H1) {fr : Fl × Rho} {ev : Ev} (h : RF ws n H1 m' H' fr ev) : RF ws n H m' H' fr ev := by
  obtain ⟨fl, ρ⟩ := fr
  cases fl <;> cases ev <;> first | exact h | exact RD.back s h
theorem Aft.shiftF {Q : Ev → Hp → Prop} {m m1 : List Addr} {H H1 : Hp} {x : Out (Fl × Rho)} (h : Aft ws W n m H (RF ws n) Q x) (s : Step m H m1 H1) : Aft ws W n m1 H1 (RF ws n) Q x := h.shift s fun _ _ _ _ h => RF.back s h
theorem tS_ex {e : E} (h : tS ws cf W n (.ex e) De σ H) : tDrop (tE ws cf W n e) De σ H := by
  obtain ⟨ρ, st, m, hρ, r, hl, h⟩ := h
  unfold exS at h
  exact tE_bind hρ r hl h fun d st1 m1 H1 v _ s1 r1 hρ1 q1 h1 => h1 m1 H1 (.nx σ) s1 r1 ⟨hρ1, hl⟩
theorem tS_ret {e : E} (h : tS ws cf W n (.ret e) De σ H) : tRet (tE ws cf W n e) De σ H := by
  obtain ⟨ρ, st, m, hρ, r, hl, h⟩ := h
  unfold exS at h
  exact tE_bind hρ r hl h fun d st1 m1 H1 v _ s1 r1 hρ1 q1 h1 => h1 m1 H1 (.rt v) s1 r1 q1
theorem tS_ret0 (h : tS ws cf W n .ret0 De σ H) : tRetN De σ H := by
  obtain ⟨ρ, st, m, hρ, r, hl, h⟩ := h
  unfold exS at h
  exact h m H (.rt .non) (Step.refl _ _) r ⟨.non, fr_of rfl⟩
theorem tS_pas (h : tS ws cf W n .pas De σ H) : tNext De σ H := by
  obtain ⟨ρ, st, m, hρ, r, hl, h⟩ := h
  unfold exS at h
  exact h m H (.nx σ) (Step.refl _ _) r ⟨hρ, hl⟩
theorem tS_brk (h : tS ws cf W n .brk De σ H) : tBreak De σ H := by
  obtain ⟨ρ, st, m, hρ, r, hl, h⟩ := h
  unfold exS at h
  exact h m H (.bk σ) (Step.refl _ _) r ⟨hρ, hl⟩
theorem tS_cnt (h : tS ws cf W n .cnt De σ H) : tCont De σ H := by
  obtain ⟨ρ, st, m, hρ, r, hl, h⟩ := h
  unfold exS at h
  exact h m H (.ct σ) (Step.refl _ _) r ⟨hρ, hl⟩
theorem tSs_nil (h : tSs ws cf W n [] De σ H) : tNext De σ H := by
  obtain ⟨ρ, st, m, hρ, r, hl, h⟩ := h
  unfold exSs at h
  exact h m H (.nx σ) (Step.refl _ _) r ⟨hρ, hl⟩
theorem tSs_cons {s : S} {ss : List S} (h : tSs ws cf W n (s :: ss) De σ H) : tSeq (tS ws cf W n s) (tSs ws cf W n ss) De σ H := by
  obtain ⟨ρ, st, m, hρ, r, hl, h⟩ := h
  unfold exSs seqS at h
  refine ⟨ρ, st, m, hρ, r, hl, Aft.bind h fun fr st1 m1 H1 ev _ s1 r1 q1 h1 => ?_⟩
  obtain ⟨fl, ρ1⟩ := fr
  cases fl with
  | nx =>
    cases ev with
    | nx σ1 => exact ⟨ρ1, st1, m1, q1.1, r1, q1.2, Aft.shiftF h1 s1⟩
    | _ => exact q1.elim
  | brk => cases ev <;> first | exact q1.elim | exact h1 m1 H1 (.bk _) s1 r1 q1
  | cnt => cases ev <;> first | exact q1.elim | exact h1 m1 H1 (.ct _) s1 r1 q1
  | ret d => cases ev <;> first | exact q1.elim | exact h1 m1 H1 (.rt _) s1 r1 q1
theorem tS_asg {t : Tg} {e : E} (h : tS ws cf W n (.asg t e) De σ H) : tAsg (tE ws cf W n e) (gT ws cf W n t) De σ H := by
  obtain ⟨ρ, st, m, hρ, r, hl, h⟩ := h
  unfold exS at h
  refine tE_bind hρ r hl h fun d st1 m1 H1 v _ s1 r1 hρ1 q1 h1 => ?_
  exact ⟨H, m, m1, st1, ρ, d, s1, r1, hρ, q1, hl, Aft.bind h1 fun ρ2 st2 m2 H2 σ2 _ s2 r2 q2 h2 => h2 m2 H2 (.nx σ2) s2 r2 ⟨q2.1, q2.2.1⟩⟩
/-- a, b = x, y by the stores from the right -/
theorem tS_par {i j : Nat} {a b : E} (h : tS ws cf W n (.asg (.tp [.nm i, .nm j]) (.tupE [a, b])) De σ H) : tPar i j (tEs ws cf W n [a, b]) De σ H := by
  obtain ⟨ρ, st, m, hρ, r, hl, h⟩ := h
  unfold exS evE at h
  rw [bind_assoc] at h
  refine tEs_bind hρ r hl h fun ds st1 m1 H1 vs e1 s1 r1 hρ1 q1 h1 => ?_
  have hlen := evEs_length e1
  obtain ⟨r2, t2⟩ := mats_ok r1 q1.as q1.nd
  have s2 := s1.more q1.fr
  have h2 : Aft ws W n m H (RF ws n) (QE De) ((evTg cf (.tp [.nm i, .nm j]) (.tup (mats ds st1).1) ρ (mats ds st1).2).bind fun ρ st => .ok (.nx, ρ) st) := h1
  generalize (mats ds st1).1 = es at h2 t2
  have hρ2 : RlE ws (m1 ++ tls ds vs) H1 ρ σ := hρ1.up _
  obtain ⟨v, w, rfl⟩ : ∃ v w, vs = [v, w] := by
    have := q1.as.length
    rw [hlen] at this
    match vs, this with
    | [v, w], _ => exact ⟨v, w, rfl⟩
  cases t2 with
  | cons hv nv t3 =>
    rename_i d1 ds1
    cases t3 with
    | cons hw nw t4 =>
      rename_i d2 ds2
      cases t4
      refine ⟨v, w, rfl, ?_⟩
      unfold evTg at h2
      simp only [seqOf] at h2
      rw [if_pos (show [d1, d2].length = [Tg.nm i, Tg.nm j].length from rfl)] at h2
      unfold evTgs evTgs evTgs evTg at h2
      obtain ⟨k1, k2⟩ : (∀ st, mat d1 st = (d1, st)) ∧ ∀ st, mat d2 st = (d2, st) := by
        constructor
        · intro st; cases d1 <;> first | rfl | cases nv
        · intro st; cases d2 <;> first | rfl | cases nw
      simp only [Out.bind, k1, k2] at h2
      exact h2 _ _ (.nx _) s2 r2 ⟨(hρ2.set hv nv i).set hw nw j, by simpa using hl⟩
theorem tS_par3 {i j l : Nat} {a b c : E} (h : tS ws cf W n (.asg (.tp [.nm i, .nm j, .nm l]) (.tupE [a, b, c])) De σ H) : tPar3 i j l (tEs ws cf W n [a, b, c]) De σ H := by
  obtain ⟨ρ, st, m, hρ, r, hl, h⟩ := h
  unfold exS evE at h
  rw [bind_assoc] at h
  refine tEs_bind hρ r hl h fun ds st1 m1 H1 vs e1 s1 r1 hρ1 q1 h1 => ?_
  have hlen := evEs_length e1
  obtain ⟨r2, t2⟩ := mats_ok r1 q1.as q1.nd
  have s2 := s1.more q1.fr
  have h2 : Aft ws W n m H (RF ws n) (QE De) ((evTg cf (.tp [.nm i, .nm j, .nm l]) (.tup (mats ds st1).1) ρ (mats ds st1).2).bind fun ρ st => .ok (.nx, ρ) st) := h1
  generalize (mats ds st1).1 = es at h2 t2
  have hρ2 : RlE ws (m1 ++ tls ds vs) H1 ρ σ := hρ1.up _
  obtain ⟨u, v, w, rfl⟩ : ∃ u v w, vs = [u, v, w] := by
    have := q1.as.length
    rw [hlen] at this
    match vs, this with
    | [u, v, w], _ => exact ⟨u, v, w, rfl⟩
  cases t2 with
  | cons hu nu t2 =>
  rename_i d0 ds0
  cases t2 with
  | cons hv nv t3 =>
    rename_i d1 ds1
    cases t3 with
    | cons hw nw t4 =>
      rename_i d2 ds2
      cases t4
      refine ⟨u, v, w, rfl, ?_⟩
      unfold evTg at h2
      simp only [seqOf] at h2
      rw [if_pos (show [d0, d1, d2].length = [Tg.nm i, Tg.nm j, Tg.nm l].length from rfl)] at h2
      unfold evTgs evTgs evTgs evTgs evTg at h2
      obtain ⟨k0, k1, k2⟩ : (∀ st, mat d0 st = (d0, st)) ∧ (∀ st, mat d1 st = (d1, st)) ∧ ∀ st, mat d2 st = (d2, st) := by
        refine ⟨?_, ?_, ?_⟩
        · intro st; cases d0 <;> first | rfl | cases nu
        · intro st; cases d1 <;> first | rfl | cases nv
        · intro st; cases d2 <;> first | rfl | cases nw
      simp only [Out.bind, k0, k1, k2] at h2
      exact h2 _ _ (.nx _) s2 r2 ⟨((hρ2.set hu nu i).set hv nv j).set hw nw l, by simpa using hl⟩
/-- an int by an int, in place -/
def ipS (p : Pr) : TIp := fun x y H Q => ∃ i j k, x = .int i ∧ y = .int j ∧ semI p i j = some (.int k) ∧ Q (.int k) H
theorem semI_int {p : Pr} (hp : isArith p = true) {i j : Int} {d : D} (e : semI p i j = some d) : ∃ k, d = .int k := by
  cases p
  case add => exact ⟨_, (Option.some.inj e).symm⟩
  case sub => exact ⟨_, (Option.some.inj e).symm⟩
  case mul =>
    simp only [semI] at e
    split at e
    · exact ⟨_, (Option.some.inj e).symm⟩
    · cases e
  case fdiv =>
    simp only [semI] at e
    split at e
    · exact ⟨_, (Option.some.inj e).symm⟩
    · cases e
  case mod =>
    simp only [semI] at e
    split at e
    · exact ⟨_, (Option.some.inj e).symm⟩
    · cases e
  all_goals cases hp
theorem tS_aug {i : Nat} {p : Pr} (hp : isArith p = true) {e : E} (h : tS ws cf W n (.aug i p e) De σ H) : tAug i (tE ws cf W n e) (ipS p) De σ H := by
  obtain ⟨ρ, st, m, hρ, r, hl, h⟩ := h
  unfold exS at h
  split at h
  · rename_i x hx
    obtain ⟨v, e1, q, _⟩ := hρ.2 i x hx
    refine ⟨v, e1, tE_bind hρ r hl h fun y st1 m1 H1 w _ s1 r1 hρ1 q1 h1 => ?_⟩
    split at h1
    · rename_i _ _ a b
      split at h1
      · rename_i d hd
        obtain ⟨k, rfl⟩ := semI_int hp hd
        cases q
        cases q1.1
        exact ⟨_, _, k, rfl, rfl, hd, h1 m1 H1 (.nx _) s1 r1 ⟨hρ1.set (.int k) rfl i, by simpa using hl⟩⟩
      · exact h1.elim
    · exact h1.elim
  · exact h.elim
abbrev setR (ws : Ws) : TSet := fun o i v H Q => ∃ (H0 : Hp) (m0 m : List Addr) (st st' : Sto) (a b c : D), Step m0 H0 m H ∧ Rl ws m st H ∧ DV ws m H a o ∧ DV ws m H b i ∧ DV ws m H c v ∧ Fr H0 c v ∧ setD a b c st = some st' ∧
    ∀ m' H', Step m0 H0 m' H' → Rl ws m' st' H' → Q H'
theorem sem_ix {x k y : D} {st st' : Sto} (e : sem2 .ix x k st = some (y, st')) : st' = st ∧ ∃ i, k = .int i := by
  simp only [sem2] at e
  split at e
  · split at e
    · split at e
      · cases e; exact ⟨rfl, _, rfl⟩
      · cases e
    · cases e
  · cases e
theorem tS_augS {o i e : E} {p : Pr} (hp : isArith p = true) (h : tS ws cf W n (.augS o i p e) De σ H) : tAugS (tE ws cf W n o) (tE ws cf W n i) (tE ws cf W n e) (rP2 ws .ix) (ipS p) (setR ws) De σ H := by
  obtain ⟨ρ, st, m, hρ, r, hl, h⟩ := h
  unfold exS at h
  refine tE_bind hρ r hl h fun x st1 m1 H1 xv _ s1 r1 hρ1 q1 h1 => ?_
  refine tE_bind0 s1 hρ1 r1 hl h1 fun k st2 m2 H2 kv _ s2 r2 hρ2 q2 h2 => ?_
  split at h2
  · rename_i y st3 hx hy
    obtain ⟨e3, i, rfl⟩ := sem_ix hy
    subst e3
    have nx : notl x = true := by
      cases x <;> first | rfl | cases hx
    have t0 : tls [x, .int i] [xv, kv] = [] := by
      cases x <;> cases xv <;> cases kv <;> first | rfl | cases hx
    refine ⟨H2, m2, m2, st3, [x, .int i], y, st3, Step.refl _ _, r2, ⟨.cons (q1.1.mono s2) (.cons q2.1 .nil), by rw [t0]; simp, by rw [t0]; simp⟩, hy, fun m3 H3 yv s3 r3 q3 => ?_⟩
    have s13 := (s1.trans s2).trans s3
    refine tE_bind0 s13 (hρ2.mono s3) r3 hl h2 fun z st4 m4 H4 zv _ s4 r4 hρ4 q4 h4 => ?_
    split at h4
    · rename_i _ _ a b _ _
      split at h4
      · rename_i d hd
        obtain ⟨c, rfl⟩ := semI_int hp hd
        split at h4
        · rename_i st5 e5
          cases q3.1
          cases q4.1
          refine ⟨_, _, c, rfl, rfl, hd, H, m, m4, st4, st5, x, .int i, .int c, s13.trans s4, r4, q1.1.mono ((s2.trans s3).trans s4), q2.1.mono (s3.trans s4), .int c, fr_of rfl, e5, fun m' H' s' r' => ?_⟩
          exact h4 m' H' (.nx σ) s' r' ⟨hρ.mono s', hl⟩
        · exact h4.elim
      · exact h4.elim
    · exact h4.elim
  · exact h2.elim
theorem tT_bindS {e : E} {ρ : Rho} {st : Sto} {m0 m : List Addr} {H0 : Hp} {γ δ : Type} {S : Hp → List Addr → Hp → γ → δ → Prop} {Q : δ → Hp → Prop} {Q1 : Bool → Hp → Prop} {f : Bool → Sto → Out γ} (s0 : Step m0 H0 m H) (hρ : RlE ws m H ρ σ) (r : Rl ws m st H) (hl : σ.length = n)
    (h : Aft ws W n m0 H0 S Q (((evE cf e ρ st).bind asB).bind f))
    (k : ∀ b st1 m1 H1, Step m H m1 H1 → Rl ws m1 st1 H1 → RlE ws m1 H1 ρ σ → Aft ws W n m0 H0 S Q (f b st1) → Q1 b H1) : tT ws cf W n e σ H Q1 := by
  refine ⟨ρ, st, m, hρ, r, hl, ?_⟩
  cases x : (evE cf e ρ st).bind asB with
  | ok b st1 =>
    rw [x] at h
    exact fun m1 H1 b' s1 r1 q1 => by cases q1; exact k b st1 m1 H1 s1 r1 (hρ.mono s1) h
  | ex c p st1 =>
    rw [x] at h
    exact fun m' H' cls dx σ' s' r' q l => h m' H' cls dx σ' (s0.trans s') r' q l
  | no => rw [x] at h; exact h
theorem tS_if {c : E} {a b : List S} (h : tS ws cf W n (.ifS c a b) De σ H) : tIfS (tT ws cf W n c) (tSs ws cf W n a) (tSs ws cf W n b) De σ H := by
  obtain ⟨ρ, st, m, hρ, r, hl, h⟩ := h
  unfold exS at h
  refine tT_bind hρ r hl h fun t st1 m1 H1 s1 r1 hρ1 h1 => ?_
  cases t with
  | true => exact ⟨ρ, st1, m1, hρ1, r1, hl, Aft.shiftF h1 s1⟩
  | false => exact ⟨ρ, st1, m1, hρ1, r1, hl, Aft.shiftF h1 s1⟩
theorem loopF_zero (sv : Sv) (body : D → Rho → Sto → Out (Fl × Rho)) (i : Nat) (ρ : Rho) (st : Sto) : loopF sv body 0 i ρ st = if sv.ends st i then .ok (.nx, ρ) st else .no := by rw [loopF]
theorem loopF_succ (sv : Sv) (body : D → Rho → Sto → Out (Fl × Rho)) (k i : Nat) (ρ : Rho) (st : Sto) : loopF sv body (k + 1) i ρ st = (match sv.item st i with
    | some d => (body d ρ st).bind fun fr st => (match fr with
      | (.nx, ρ) => loopF sv body k (i + 1) ρ st
      | (.cnt, ρ) => loopF sv body k (i + 1) ρ st
      | (.brk, ρ) => .ok (.nx, ρ) st
      | (.ret d, ρ) => .ok (.ret d, ρ) st)
    | none => .no) := by
  rw [loopF]
  all_goals (cases sv.item st i <;> rfl)
theorem tS_for {t : Tg} {src : Src} {b : List S} (h : tS ws cf W n (.for t src b) De σ H) : tFor (iS ws cf W n src) (gT ws cf W n t) (tSs ws cf W n b) De σ H := by
  obtain ⟨ρ, st, m, hρ, r, hl, h⟩ := h
  unfold exS at h
  refine ⟨ρ, st, m, hρ, r, hl, Aft.bind h fun sv st1 m1 H1 J _ s1 r1 q1 h1 => ?_⟩
  generalize hb : (fun (d : D) (ρ : Rho) (st : Sto) => (evTg cf t d ρ st).bind fun ρ st => exSs cf b ρ st) = body at h1
  have hbody : ∀ d ρ st, body d ρ st = (evTg cf t d ρ st).bind fun ρ st => exSs cf b ρ st := fun d ρ st => by rw [← hb]
  clear hb
  refine ⟨fun i k σ' H' => i + k = sv.2 ∧ ∃ m' st' ρ', Step m1 H1 m' H' ∧ Rl ws m' st' H' ∧ RlE ws m' H' ρ' σ' ∧ σ'.length = n ∧ Aft ws W n m' H' (RF ws n) (QE De) (loopF sv.1 body k i ρ' st'),
    ⟨sv.2, by omega, m1, st1, ρ, Step.refl _ _, r1, hρ.mono s1, hl, Aft.shiftF h1 s1⟩, fun i k σ' H' hW => ?_⟩
  obtain ⟨hik, m', st', ρ', s2, r2, hρ2, hl2, h2⟩ := hW
  obtain ⟨g1, g2⟩ := q1 (fun _ => False) (fun _ z => z.elim) m' H' st' s2.toG r2
  cases k with
  | zero =>
    rw [loopF_zero] at h2
    split at h2
    · rename_i he
      have : i = sv.2 := by omega
      subst this
      exact .inl ⟨g2 he, h2 m' H' (.nx σ') (Step.refl _ _) r2 ⟨hρ2, hl2⟩⟩
    · exact h2.elim
  | succ k =>
    rw [loopF_succ] at h2
    split at h2
    · rename_i d hd
      obtain ⟨j1, j2⟩ := g1 i d (by omega) hd
      refine .inr ⟨j1, fun σ'' H'' => i + 1 + k = sv.2 ∧ ∃ m' st' ρ', Step m1 H1 m' H'' ∧ Rl ws m' st' H'' ∧ RlE ws m' H'' ρ' σ'' ∧ σ''.length = n ∧ Aft ws W n m' H'' (RF ws n) (QE De) (loopF sv.1 body k (i + 1) ρ' st'), fun σ'' H'' hN => ⟨k, by omega, hN⟩, fun x H3 hy => ?_⟩
      obtain ⟨s3, r3, d3, n3⟩ := j2 x H3 hy
      rw [hbody, bind_assoc] at h2
      refine ⟨H', m', m', st', ρ', d, s3, r3, hρ2, ⟨d3, fr_of n3⟩, hl2, ?_⟩
      refine Aft.bind h2 fun ρ4 st4 m4 H4 σ4 _ s4 r4 q4 h4 => ?_
      refine ⟨ρ4, st4, m4, q4.1, r4, q4.2.1, ?_⟩
      refine Aft.bind (Aft.shiftF h4 s4) fun fr st5 m5 H5 ev _ s5 r5 q5 h5 => ?_
      have s15 : Step m1 H1 m5 H5 := (s2.trans s4).trans s5
      obtain ⟨fl, ρ5⟩ := fr
      cases fl with
      | nx => cases ev <;> first | exact q5.elim | exact ⟨by omega, m5, st5, ρ5, s15, r5, q5.1, q5.2, Aft.shiftF h5 s5⟩
      | cnt => cases ev <;> first | exact q5.elim | exact ⟨by omega, m5, st5, ρ5, s15, r5, q5.1, q5.2, Aft.shiftF h5 s5⟩
      | brk => cases ev <;> first | exact q5.elim | exact h5 m5 H5 (.nx _) s5 r5 q5
      | ret d => cases ev <;> first | exact q5.elim | exact h5 m5 H5 (.rt _) s5 r5 q5
    · exact h2.elim
theorem loopW_succ (c : Rho → Sto → Out Bool) (body : Rho → Sto → Out (Fl × Rho)) (k : Nat) (ρ : Rho) (st : Sto) : loopW c body (k + 1) ρ st = (c ρ st).bind fun t st => if t then (body ρ st).bind fun fr st => (match fr with
      | (.nx, ρ) => loopW c body k ρ st
      | (.cnt, ρ) => loopW c body k ρ st
      | (.brk, ρ) => .ok (.nx, ρ) st
      | (.ret d, ρ) => .ok (.ret d, ρ) st)
    else .ok (.nx, ρ) st := by
  rw [loopW]
  all_goals rfl
theorem tS_whl {c : E} {b : List S} (h : tS ws cf W n (.whl c b) De σ H) : tWhile (tT ws cf W n c) (tSs ws cf W n b) De σ H := by
  obtain ⟨ρ, st, m, hρ, r, hl, h⟩ := h
  unfold exS at h
  refine ⟨fun k σ' H' => ∃ m' st' ρ', Rl ws m' st' H' ∧ RlE ws m' H' ρ' σ' ∧ σ'.length = n ∧ Aft ws W n m' H' (RF ws n) (QE De) (loopW (fun ρ st => (evE cf c ρ st).bind asB) (fun ρ st => exSs cf b ρ st) k ρ' st'),
    ⟨cf.wf, m, st, ρ, r, hρ, hl, h⟩, fun k σ' H' hW => ?_⟩
  obtain ⟨m', st', ρ', r2, hρ2, hl2, h2⟩ := hW
  cases k with
  | zero => exact h2.elim
  | succ k =>
    rw [loopW_succ] at h2
    refine tT_bind hρ2 r2 hl2 h2 fun t st1 m1 H1 s1 r1 hρ1 h1 => ?_
    cases t with
    | false => exact h1 m1 H1 (.nx σ') s1 r1 ⟨hρ1, hl2⟩
    | true =>
      refine ⟨fun σ'' H'' => ∃ m' st' ρ', Rl ws m' st' H'' ∧ RlE ws m' H'' ρ' σ'' ∧ σ''.length = n ∧ Aft ws W n m' H'' (RF ws n) (QE De) (loopW (fun ρ st => (evE cf c ρ st).bind asB) (fun ρ st => exSs cf b ρ st) k ρ' st'),
        fun σ'' H'' hN => ⟨k, by omega, hN⟩, ?_⟩
      refine ⟨ρ', st1, m1, hρ1, r1, hl2, ?_⟩
      refine Aft.bind (Aft.shiftF h1 s1) fun fr st5 m5 H5 ev _ s5 r5 q5 h5 => ?_
      obtain ⟨fl, ρ5⟩ := fr
      cases fl with
      | nx => cases ev <;> first | exact q5.elim | exact ⟨m5, st5, ρ5, r5, q5.1, q5.2, Aft.shiftF h5 s5⟩
      | cnt => cases ev <;> first | exact q5.elim | exact ⟨m5, st5, ρ5, r5, q5.1, q5.2, Aft.shiftF h5 s5⟩
      | brk => cases ev <;> first | exact q5.elim | exact h5 m5 H5 (.nx _) s5 r5 q5
      | ret d => cases ev <;> first | exact q5.elim | exact h5 m5 H5 (.rt _) s5 r5 q5
end
end Mn
/-! Mn10: raise, try, by the small run. -/
namespace Mn
open PySem PySem.Spec PyProof.Rows L2
/-- a clause: its class, the slot of its name, its suite's reading -/
structure Cl where
  c : Value
  nm : Option Nat
  ts : Addr → Value → Option Addr → TS
def Cl.wish (k : Cl) (De : Ends) (a : Addr) (cls : Value) (d : Option Addr) (σ : L2.St) (H : Hp) : Prop := match k.nm with
  | none => k.ts a cls d De σ H
  | some i => k.ts a cls d { nx := fun σ' H' => De.nx (σ'.set i none) H', rt := De.rt, bk := fun σ' H' => De.bk (σ'.set i none) H', ct := fun σ' H' => De.ct (σ'.set i none) H' } (σ.set i (some (.ref a))) H
/-- what the clauses wish of an exception of the body -/
def wU (K : PySem.W.Frag) (Wout : WX) (De : Ends) : List Cl → WX
  | [] => Wout
  | k :: r => fun cls d σ H => ∃ b, PySem.W.exmOne K cls k.c = some b ∧ (b = true → ∀ a, H a = none → k.wish De a cls d σ H) ∧ (b = false → wU K Wout De r cls d σ H)
inductive ClsOk (X : Cx) : List ExceptHandler → List Cl → Prop
  | nil : ClsOk X [] []
  | one {x : Str} {c : Value} {ts : Addr → Value → Option Addr → TS} {b₀ : Stmt} {suite : List Stmt} {np pos' : Pos} {hds : List ExceptHandler} {l : List Cl} (hc : Names X x c)
      (hsu : ∀ (a : Addr) (oe : Obj) (cls : Value) (d : Option Addr) (pn : List (Addr × Obj)), Zc cls d oe → (∃ vs, oe.data = .fields vs) → PSs (X.suite a ((a, oe) :: pn)) (b₀ :: suite) (ts a cls d)) (r : ClsOk X hds l) :
      ClsOk X (.ExceptHandler (some (.Name x np)) none (b₀ :: suite) pos' :: hds) (⟨c, none, ts⟩ :: l)
  | named {x n : Str} {i : Nat} {c : Value} {ts : Addr → Value → Option Addr → TS} {b₀ : Stmt} {suite : List Stmt} {np pos' : Pos} {hds : List ExceptHandler} {l : List Cl} (hN : X.N.Nodup) (hi : X.N[i]? = some n) (hln : X.env.kindOf n = some .local) (hc : Names X x c)
      (hsu : ∀ (a : Addr) (oe : Obj) (cls : Value) (d : Option Addr) (pn : List (Addr × Obj)), Zc cls d oe → (∃ vs, oe.data = .fields vs) → PSs (X.suite a ((a, oe) :: pn)) (b₀ :: suite) (ts a cls d)) (r : ClsOk X hds l) :
      ClsOk X (.ExceptHandler (some (.Name x np)) (some n) (b₀ :: suite) pos' :: hds) (⟨c, some i, ts⟩ :: l)
section
variable {X : Cx} {body : List Stmt} {h₀ : ExceptHandler} {hds : List ExceptHandler} {l : List Cl} {pos : Pos} {tb : WX → TS} {Wout : WX}
theorem ps_tryU (hs : X.stack = X.env :: X.outer) (hf : X.env.frame = some X.env.locals) (tk : Takes X Wout)
    (hb : ∀ (W : WX) (pn : List (Addr × Obj)) (xe : Value → Shared → Prop), Takes (X.tr pn xe) W → PassesOwn (model X.prog X.w) X.A X.env xe → PSs (X.tr pn xe) body (tb W))
    (hh : ClsOk X (h₀ :: hds) l) : PS X (.Try body (h₀ :: hds) [] [] pos) (fun De σ H => tb (wU X.K Wout De l) De σ H) := by
  refine ⟨fun pins s σ H De I h => ?_⟩
  have ok := I.ok
  have hfr : X.A.frames = some (X.env :: X.outer) := by rw [ok.frames, hs]
  refine wpAny_Try_except ?_
  refine wpAny_mono ((hb (wU X.K Wout De l) (X.pn ++ pins) (fun e s₁ => wpAny (model X.prog X.w) X.A (noteFrame e X.env) (fun _ s₂ => wpAny (model X.prog X.w) X.A (setFlight e none) (fun _ s₃ =>
    wpAny (model X.prog X.w) X.A (handleBy e X.env (h₀ :: hds)) (SP X pins De) X.xe s₃) X.xe s₂) X.xe s₁) (fun u s' xx => ?_) PassesOwn.looking).run [] s σ H De (I.toTry _) h) (fun f s1 hsp => ?_) (fun e s1 he => he)
  · obtain ⟨a, B, sI, pins', σ', H', cls, d, rfl, J', nb, up, sky, na, os, ag, w⟩ := xx
    have J : Inv X pins σ' H' sI := J'.ofTry ok
    have sky' : Sky B (X.env :: X.outer) a (Zc cls d) X.env.locals s'.heap := by rw [← hs]; exact sky
    show wpAny (model X.prog X.w) X.A (noteFrame (.ref a) X.env) _ _ _
    refine Sky.land Zc.steady hfr hf sky' fun h3 fl3 up3 => ?_
    have J3 : Inv X pins σ' H' { s' with heap := h3 } := J.landed nb fl3.1 (up.trans up3) os ag
    obtain ⟨oe3, vs3, he3, hz3, hd3⟩ := fl3.there
    have notFr : ∀ {h : Heap} {o : Obj} {vs : Array Value}, h.FunFrames B (X.env :: X.outer) → h.get? a = some o → o.data = .fields vs → a ∉ frs (X.env :: X.outer) := fun {h o vs} ff e dd hm => by
      obtain ⟨_, o', e', hnf⟩ := ff.mem hm
      rw [e] at e'; cases e'
      exact hnf _ dd
    have nfr := notFr fl3.2.2.1 he3 hd3
    have nL : a ≠ X.env.locals := fun z => nfr (List.mem_filterMap.mpr ⟨X.env, List.mem_cons_self, by rw [hf, z]⟩)
    have nF : a ∉ X.fs := fun hm => by
      obtain ⟨e, he, q⟩ := List.mem_filterMap.mp hm
      exact nfr (List.mem_filterMap.mpr ⟨e, List.mem_cons_of_mem _ he, q⟩)
    have S3 := J3.suite he3 hd3 na nL nF
    have test : ∀ {x : Str} {c : Value} {np : Pos} {Q : Value → Shared → Prop} {E : Value → Shared → Prop}, Names X x c → Q c { s' with heap := h3 } → wpAny (model X.prog X.w) (X.A.mark (some (.ref a))) (eval (.Name x np) X.env) Q E { s' with heap := h3 } := fun {x c np Q E} hc q => by
      obtain ⟨hg, hdbg, hm | ⟨hm, hv, hnn⟩⟩ := hc
      · exact ld_glob (X := X.suite a ((a, oe3) :: (X.pn ++ pins))) S3 hg hm q hdbg
      · exact ld_blt (X := X.suite a ((a, oe3) :: (X.pn ++ pins))) S3 hg hm hv q hnn hdbg
    have LT : PySem.W.Looks (model X.prog X.w) h3 (typeOf (.ref a)) cls := fun A Q E s k q => wpAny_typeOf_ref (k _ _ he3) (by rw [hz3.1]; exact q)
    have go : ∀ {hds' : List ExceptHandler} {l' : List Cl}, ClsOk X hds' l' → wU X.K Wout De l' cls d σ' H' →
        wpAny (model X.prog X.w) X.A (handleBy (.ref a) X.env hds') (SP X pins De) X.xe { s' with heap := h3 } := by
      intro hds' l' hk
      induction hk with
      | nil =>
        intro w
        refine wpAny_handleBy_nil ?_
        obtain ⟨k1, k2, k3, oe, vs, T, oT, ts', he, hz, hd, h1, hr⟩ := id fl3
        unfold PySem.passOn
        refine wpAny_bind (wpAny_field he hd h1 ?_)
        rw [if_neg (show ¬ ((Value.ref T == Value.none) = true) from by simp)]
        have fin : wpAny (model X.prog X.w) X.A (setFlight (.ref a) X.env.frame) (fun _ s4 => wpAny (model X.prog X.w) X.A (throw (.ref a) : Sem Flow) (SP X pins De) X.xe s4) X.xe { s' with heap := h3 } := by
          rw [hf]
          refine HandSPX.setFlight_upZ fl3 fun h4 hh4 up4 => wpAny_throw (tk _ _ ?_)
          exact ⟨a, B, sI, pins, σ', H', cls, d, rfl, J, nb, (up.trans up3).trans up4, .inr (.inr (by rw [hs]; exact hh4)), na, os, ag, w⟩
        first
          | exact wpAny_bind (wpAny_pure (wpAny_bind fin))
          | exact wpAny_bind fin
      | @one x c ts b₀ suite np pos' hds2 l2 hc hsu r ih =>
        intro w
        obtain ⟨b, hb1, hyes, hno⟩ := w
        refine wpAny_handleBy_cons (codeAny_handlers_test ?_) (by intro q; cases q)
        have LM := PySem.W.exm_one (M := model X.prog X.w) (J3.kIn) LT hb1
        refine test hc (LM.here ?_)
        cases b with
        | true =>
          refine codeAny_handlers_suite ?_
          refine HandSPX.lands_againZ fl3 fun h4 fl4 up4 => ?_
          have J4 : Inv X pins σ' H' { s' with heap := h4 } := J.landed nb fl4.1 ((up.trans up3).trans up4) os ag
          obtain ⟨oe4, vs4, he4, hz4, hd4⟩ := fl4.there
          have S4 := J4.suite he4 hd4 na nL nF
          refine wpAny_mono ((hsu a oe4 cls d (X.pn ++ pins) hz4 ⟨_, hd4⟩).run [] _ _ H' _ S4 (hyes rfl a na)) (fun f s6 hsp => ?_) (fun _ _ z => False.elim z)
          cases f with
          | next =>
            obtain ⟨σ6, H6, S6, q6⟩ := hsp
            exact ⟨_, _, S6.unsuite ok, q6⟩
          | brk =>
            obtain ⟨σ6, H6, S6, q6⟩ := hsp
            exact ⟨_, _, S6.unsuite ok, q6⟩
          | cont =>
            obtain ⟨σ6, H6, S6, q6⟩ := hsp
            exact ⟨_, _, S6.unsuite ok, q6⟩
          | ret u =>
            obtain ⟨v6, σ6, H6, S6, r6, q6⟩ := hsp
            exact ⟨_, _, _, S6.unsuite ok, r6, q6⟩
        | false =>
          show wpAny _ X.A (handleBy (.ref a) X.env hds2) _ _ _
          exact ih (hno rfl)
      | @named x n i c ts b₀ suite np pos' hds2 l2 hN hi hln hc hsu r ih =>
        intro w
        obtain ⟨b, hb1, hyes, hno⟩ := w
        have hloc : Loc X.env.scope n := .inl hln
        refine wpAny_handleBy_cons (codeAny_handlers_test ?_) (by intro q; cases q)
        have LM := PySem.W.exm_one (M := model X.prog X.w) (J3.kIn) LT hb1
        refine test hc (LM.here ?_)
        cases b with
        | true =>
          refine codeAny_handlers_suite_as ?_
          refine HandSPX.lands_againZ fl3 fun h4 fl4 up4 => ?_
          have J4 : Inv X pins σ' H' { s' with heap := h4 } := J.landed nb fl4.1 ((up.trans up3).trans up4) os ag
          obtain ⟨oe4, vs4, he4, hz4, hd4⟩ := fl4.there
          have S4 := J4.suite he4 hd4 na nL nF
          refine store_ok (X := X.suite a ((a, oe4) :: (X.pn ++ pins))) (v := .ref a) S4 hN hi hloc rfl (fun s5 S5 => ?_) (.inr hln)
          refine wpAny_mono ((hsu a oe4 cls d (X.pn ++ pins) hz4 ⟨_, hd4⟩).run [] s5 _ H' _ S5 (hyes rfl a na)) (fun f s6 hsp => ?_) (fun _ _ z => False.elim z)
          have end_ : ∀ {σ6 : L2.St} {H6 : Hp} {Q : Shared → Prop}, Inv (X.suite a ((a, oe4) :: (X.pn ++ pins))) [] σ6 H6 s6 → (∀ s7, Inv X pins (σ6.set i none) H6 s7 → Q s7) →
              wpAny (model X.prog X.w) X.A (do bindName X.env n .none; unbindBehindTheSuite X.env n pos') (fun _ s7 => Q s7) X.xe s6 := fun {σ6 H6 Q} S6 hq => gone_ok (S6.unsuite ok) hN hi hln hq
          cases f with
          | next =>
            obtain ⟨σ6, H6, S6, q6⟩ := hsp
            exact end_ S6 fun s7 J7 => ⟨_, _, J7, q6⟩
          | brk =>
            obtain ⟨σ6, H6, S6, q6⟩ := hsp
            exact end_ S6 fun s7 J7 => ⟨_, _, J7, q6⟩
          | cont =>
            obtain ⟨σ6, H6, S6, q6⟩ := hsp
            exact end_ S6 fun s7 J7 => ⟨_, _, J7, q6⟩
          | ret u =>
            obtain ⟨v6, σ6, H6, S6, r6, q6⟩ := hsp
            exact end_ S6 fun s7 J7 => ⟨_, _, _, J7, r6, q6⟩
        | false =>
          show wpAny _ X.A (handleBy (.ref a) X.env hds2) _ _ _
          exact ih (hno rfl)
    exact go hh w
  · cases f with
    | next =>
      obtain ⟨σ', H', J', q⟩ := hsp
      exact wpAny_execs_nil ⟨σ', H', J'.ofTry ok, q⟩
    | brk =>
      obtain ⟨σ', H', J', q⟩ := hsp
      exact ⟨σ', H', J'.ofTry ok, q⟩
    | cont =>
      obtain ⟨σ', H', J', q⟩ := hsp
      exact ⟨σ', H', J'.ofTry ok, q⟩
    | ret u =>
      obtain ⟨v, σ', H', J', r, q⟩ := hsp
      exact ⟨v, σ', H', J'.ofTry ok, r, q⟩
end
/-- the classes of exceptions, told apart -/
structure EcOk (ws : Ws) : Prop where
  mt : ∀ (c : Nat) (C : Addr) (an : Option Str) (k : Nat) (C' : Addr) (an' : Option Str), ws.ec c = some (C, an) → ws.ec k = some (C', an') → PySem.W.exmOne ws.K (.ref C) (.ref C') = some (decide (k = c))
  fld : ∀ (c : Nat) (C : Addr) (f : Str), ws.ec c = some (C, some f) → XfC ws.K C ∧ PySem.W.findIn ws.K (.ref C) f = some none
section
variable {ws : Ws} {cf : Cf} {W : WX} {n : Nat} {σ : L2.St} {H : Hp} {De : Ends}
variable (ws) in
/-- a suite that gives back written values and what the error bears -/
def tSu (c : Nat) (nm : Option Nat) (su : Su) (a : Addr) (cls : Value) (dx : Option Addr) : TS := fun De σ H => ∃ m st p d, Rl ws m st H ∧ ExV ws m H c p cls dx ∧ suRet p su = some d ∧ (∀ i, nm = some i → i < σ.length → σ[i]? = some (some (.ref a))) ∧
  ∀ m' H' v, Step m H m' H' → Rl ws m' st H' → RD ws H m' H' d v → De.rt v H'
/-- the clauses of a try: their classes' numbers, the slots, the suites -/
structure Hd where
  k : Nat
  C : Addr
  an : Option Str
  nm : Option Nat
  su : Su
def Hd.cl (ws : Ws) (h : Hd) : Cl := ⟨.ref h.C, h.nm, fun a cls d De σ H => cls = .ref h.C ∧ tSu ws h.k h.nm h.su a cls d De σ H⟩
theorem tS_try (E : EcOk ws) {b : List S} {hs : List Hd} (he : ∀ h ∈ hs, ws.ec h.k = some (h.C, h.an)) (hn : ∀ h ∈ hs, ∀ i, h.nm = some i → i < n) (h : tS ws cf W n (.tryS b (hs.map fun h => (h.k, h.su))) De σ H) : tSs ws cf (wU ws.K W De (hs.map (Hd.cl ws))) n b De σ H := by
  obtain ⟨ρ, st, m, hρ, r, hl, h⟩ := h
  refine ⟨ρ, st, m, hρ, r, hl, ?_⟩
  unfold exS at h
  cases x : exSs cf b ρ st with
  | ok fr st1 => rw [x] at h; exact h
  | no => rw [x] at h; exact h.elim
  | ex c p st1 =>
    rw [x] at h
    have h' : Aft ws W n m H (RF ws n) (QE De) (handle c p ρ st1 (hs.map fun h => (h.k, h.su))) := h
    clear h x
    intro m' H' cls dx σ' s' r' q l
    induction hs with
    | nil => exact h' m' H' cls dx σ' s' r' q l
    | cons hd hs ih =>
      obtain ⟨C, an, e1, e2, e3⟩ := id q
      subst e2
      refine ⟨_, E.mt c C an hd.k hd.C hd.an e1 (he hd List.mem_cons_self), fun hk a ha => ?_, fun hk => ?_⟩
      · have hk : hd.k = c := of_decide_eq_true hk
        unfold handle at h'
        have h2 : Aft ws W n m H (RF ws n) (QE De) (match suRet p hd.su with
          | some d => .ok (.ret d, ρ) st1
          | none => .no) := by
          have := h'
          simp only [List.map_cons] at this
          rw [if_pos hk] at this
          exact this
        split at h2
        · rename_i d hd'
          have hC : hd.C = C := by
            have := he hd List.mem_cons_self
            rw [hk, e1] at this
            cases this
            rfl
          have fin : ∀ m'' H'' v, Step m' H' m'' H'' → Rl ws m'' st1 H'' → RD ws H' m'' H'' d v → De.rt v H'' := fun m'' H'' v s'' r'' q'' => h2 m'' H'' (.rt v) (s'.trans s'') r'' (RD.back s' q'')
          unfold Cl.wish Hd.cl
          dsimp only
          cases hnm : hd.nm with
          | none =>
            exact ⟨by rw [hC], m', st1, p, d, r', by rw [hk]; exact q, hd', (fun i z => by cases z), fin⟩
          | some i =>
            refine ⟨by rw [hC], m', st1, p, d, r', by rw [hk]; exact q, hd', fun j z hj => ?_, fin⟩
            cases z
            exact List.getElem?_set_self (by simpa using hj)
        · exact h2.elim
      · have hk : ¬ hd.k = c := of_decide_eq_false hk
        refine ih (fun h hh => he h (List.mem_cons_of_mem _ hh)) (fun h hh => hn h (List.mem_cons_of_mem _ hh)) ?_
        have := h'
        simp only [List.map_cons] at this
        unfold handle at this
        rw [if_neg hk] at this
        exact this
/-! ### the suites -/
variable {X : Cx} {a : Addr} {oe : Obj} {pn : List (Addr × Obj)}
variable (ws) in
def tO (c : Nat) (nm : Option Nat) (o : Option D) (a : Addr) (cls : Value) (dx : Option Addr) : TE := fun σ H Q => ∃ m p d, ExV ws m H c p cls dx ∧ suD p o = some d ∧ (∀ i, nm = some i → i < σ.length → σ[i]? = some (some (.ref a))) ∧ σ.length = n ∧ ∀ v, DV ws m H d v → notl d = true → Q v H
end
end Mn
/-! Mn11: a text of the model against one of the small language: the check. -/
namespace Mn
open PySem PySem.Spec PyProof.Rows L2
mutual
def beqD : D → D → Bool
  | .non, .non => true
  | .bl a, .bl b => a == b
  | .int a, .int b => decide (a = b)
  | .str a, .str b => decide (a = b)
  | .tup xs, .tup ys => beqDs xs ys
  | .fn a, .fn b => decide (a = b)
  | _, _ => false
def beqDs : List D → List D → Bool
  | [], [] => true
  | x :: xs, y :: ys => beqD x y && beqDs xs ys
  | _, _ => false
end
mutual
theorem beqD_ok : ∀ {a b : D}, beqD a b = true → a = b
  | .non, .non, _ => rfl
  | .bl a, .bl b, h => by
    have : a = b := by simpa [beqD] using h
    rw [this]
  | .int a, .int b, h => by
    have : a = b := by simpa [beqD] using h
    rw [this]
  | .str a, .str b, h => by
    have : a = b := by simpa [beqD] using h
    rw [this]
  | .tup xs, .tup ys, h => by
    rw [beqDs_ok (show beqDs xs ys = true by simpa [beqD] using h)]
  | .fn a, .fn b, h => by
    have : a = b := by simpa [beqD] using h
    rw [this]
theorem beqDs_ok : ∀ {a b : List D}, beqDs a b = true → a = b
  | [], [], _ => rfl
  | x :: xs, y :: ys, h => by
    have h' : beqD x y = true ∧ beqDs xs ys = true := by simpa [beqDs] using h
    rw [beqD_ok h'.1, beqDs_ok h'.2]
end
/-! ### the module, a def -/
structure Md where
  fns : List Str
  con : List (Str × D)
  cls : List (Str × Nat × Option Str)
  bl : List Str
  rs : List Str
  file : Str
structure Cc where
  N : List Str
  sc : Scope
  fnc : Option Scope
  md : Md
def visB (sc : Scope) (x : Str) : Bool := match sc.names.lookup x with
  | some .local => true
  | some .cell => true
  | some .free => true
  | _ => false
def locB (cx : Cc) (i : Nat) (x : Str) : Bool := decide (cx.N[i]? = some x) && visB cx.sc x && !(x == ("__debug__" : Str)) && !(x == ("__classdict__" : Str))
def fncB (cx : Cc) (x : Str) : Bool := match cx.fnc with
  | none => true
  | some s => s.names.lookup x == some .cell
def stoB (cx : Cc) (i : Nat) (x : Str) : Bool := decide (cx.N[i]? = some x) && (match cx.sc.names.lookup x with
  | some .local => true
  | some .cell => fncB cx x
  | _ => false)
def locl (cx : Cc) (i : Nat) (x : Str) : Bool := decide (cx.N[i]? = some x) && (match cx.sc.names.lookup x with
  | some .local => true
  | _ => false)
def globB (cx : Cc) (x : Str) : Bool := (match cx.sc.names.lookup x with
  | some .globalImplicit => true
  | _ => false) && !(x == ("__debug__" : Str))
def blB (cx : Cc) (x : Str) : Bool := globB cx x && cx.md.bl.contains x
def ckC : D → Const → Bool
  | .non, .none => true
  | .bl a, .bool b => a == b
  | .int a, .int b => decide (a = b)
  | .str a, .str b => decide (b = (⟨a.toArray⟩ : Str))
  | _, _ => false
def noSet : Expr → Bool
  | .Set .. => false
  | _ => true
def noStar : Expr → Bool
  | .Starred .. => false
  | _ => true
def noSlice : Expr → Bool
  | .Slice .. => false
  | _ => true
def noCall : Expr → Bool
  | .Call .. => false
  | _ => true
def noLc : Expr → Bool
  | .ListComp .. => false
  | .SetComp .. => false
  | .DictComp .. => false
  | _ => true
def noTup : Expr → Bool
  | .Tuple .. => false
  | .List .. => false
  | _ => true
def noTpl : Expr → Bool
  | .Tuple .. => false
  | _ => true
/-- its test is its value's truth -/
def plainT : Expr → Bool
  | .UnaryOp .. => false
  | .BoolOp .. => false
  | .IfExp .. => false
  | .Compare .. => false
  | _ => true
def binP : Pr → Operator → Bool
  | .add, .Add => true
  | .sub, .Sub => true
  | .mul, .Mult => true
  | .fdiv, .FloorDiv => true
  | .mod, .Mod => true
  | _, _ => false
/-- .. in an expression -/
def binX (p : Pr) (o : Operator) : Bool := match p, o with
  | .xor, .BitXor => true
  | p, o => binP p o
def cmpP : Pr → CmpOp → Bool
  | .eq, .Eq => true
  | .ne, .NotEq => true
  | .lt, .Lt => true
  | .le, .LtE => true
  | .gt, .Gt => true
  | .ge, .GtE => true
  | .isN, .Is => true
  | .notN, .IsNot => true
  | .isin, .In => true
  | .notin, .NotIn => true
  | _, _ => false
def blN : Pr → Option Str
  | .len => some "len"
  | .abs => some "abs"
  | .toInt => some "int"
  | .all => some "all"
  | .any => some "any"
  | .sum => some "sum"
  | .tuple => some "tuple"
  | .list => some "list"
  | .max => some "max"
  | .min => some "min"
  | .max2 => some "max"
  | .min2 => some "min"
  | .sorted => some "sorted"
  | _ => none
def mtN : Pr → Option Str
  | .append => some "append"
  | .pop0 => some "pop"
  | .pop1 => some "pop"
  | .extend => some "extend"
  | .count => some "count"
  | _ => none
def tyS : Ty → Str
  | .int => "int"
  | .bool => "bool"
  | .str => "str"
  | .tuple => "tuple"
  | .list => "list"
def ckTy (cx : Cc) (t : Ty) : Expr → Bool
  | .Name x _ => decide (x = tyS t) && blB cx x
  | _ => false
def ckTys (cx : Cc) : List Ty → List Expr → Bool
  | [], [] => true
  | t :: ts, e :: es => ckTy cx t e && ckTys cx ts es
  | _, _ => false
def ownOf (N : List Str) (own : List Nat) : List (Str × Nat) := own.map fun i => (N.getD i "", i)
def subL (a b : List Nat) : Bool := a.all fun i => b.contains i
def Cc.blk (cx : Cc) (scope : Scope) : Cc := ⟨cx.N, relS scope cx.sc, some scope, cx.md⟩
mutual
def ckE : Nat → Cc → E → Expr → Bool
  | 0, _, _, _ => false
  | n + 1, cx, e', e => match e' with
    | .var i => (match e with
      | .Name x _ => locB cx i x
      | _ => false)
    | .cst d => (match e with
      | .Constant c _ _ => ckC d c
      | .Name x _ => globB cx x && (match d with
        | .fn g => decide (cx.md.fns[g]? = some x)
        | d => (match cx.md.con.lookup x with
          | some d' => beqD d d'
          | none => false))
      | _ => false)
    | .tupE es => (match e with
      | .Tuple xs _ _ => Nat.ble es.length 1000 && ckEs n cx es xs
      | _ => false)
    | .lstE es => (match e with
      | .List xs _ => Nat.ble es.length 1000 && ckEs n cx es xs
      | _ => false)
    | .prim p es => (match e with
      | .BinOp a o b _ => (match es with
        | [a', b'] => binX p o && ckE n cx a' a && ckE n cx b' b
        | _ => false)
      | .Compare .. => ckCmp n cx (.prim p es) e
      | .UnaryOp o a _ => (match p, o, es with
        | .neg, .USub, [a'] => ckE n cx a' a
        | _, _, _ => false)
      | .Subscript a s _ => (match s with
        | .Slice none none (some (.UnaryOp .USub (.Constant (.int 1) _ _) _)) _ => (match p, es with
          | .rev, [a'] => ckE n cx a' a
          | _, _ => false)
        | .Slice lo hi none _ => (match p, es, lo, hi with
          | .sl false false, [a'], none, none => ckE n cx a' a
          | .sl true false, [a', b'], some b, none => ckE n cx a' a && ckE n cx b' b
          | .sl false true, [a', b'], none, some b => ckE n cx a' a && ckE n cx b' b
          | _, _, _, _ => false)
        | s => (match p, es with
          | .ix, [a', b'] => noSlice s && ckE n cx a' a && ckE n cx b' s
          | _, _ => false))
      | .Call (.Name x _) args [] _ => blB cx x && (match p with
        | .inst ts => (match es, args with
          | [a'], [a, t] => decide (x = "isinstance") && noStar a && ckE n cx a' a && (match t with
            | .Tuple ys _ _ => ckTys cx ts ys && Nat.ble ys.length 100
            | t => (match ts with
              | [ty] => ckTy cx ty t
              | _ => false))
          | _, _ => false)
        | p => decide (blN p = some x) && ckEs n cx es args)
      | _ => false)
    | .frz e1 => ckE n cx e1 e
    | .calle f es => (match e with
      | .Call (.Subscript v ix p) args [] _ => ckE n cx f (.Subscript v ix p) && ckEs n cx es args
      | _ => false)
    | .rngL t es => (match e with
      | .Call (.Name x _) [.Call (.Name y _) args [] _] [] _ => decide (x = if t then "tuple" else "list") && blB cx x && decide (y = "range") && blB cx y && (match args, es with
        | [a], [a'] => noStar a && ckE n cx a' a
        | [a, b], [a', b'] => noStar a && noStar b && ckE n cx a' a && ckE n cx b' b
        | _, _ => false)
      | _ => false)
    | .meth p o es => (match e with
      | .Call (.Attribute ov m apos) args [] pos => decide (mtN p = some m) && (apos.endLine == pos.line) && Nat.ble args.length 10 && noCall ov && ckE n cx o ov && ckEs n cx es args
      | _ => false)
    | .and a b => (match e with
      | .BoolOp .And vs _ => ckAnd n cx a b vs
      | _ => false)
    | .or a b => (match e with
      | .BoolOp .Or vs _ => ckOr n cx a b vs
      | _ => false)
    | .not a => (match e with
      | .UnaryOp .Not x _ => ckE n cx a x
      | _ => false)
    | .ite c a b => (match e with
      | .IfExp t x y _ => ckT n cx c t && ckE n cx a x && ckE n cx b y
      | _ => false)
    | .chain p q a b c => ckCmp n cx (.chain p q a b c) e
    | .sl3 a b c => (match e with
      | .Subscript x (.Slice (some y) (some z) none _) _ => ckE n cx a x && ckE n cx b y && ckE n cx c z
      | _ => false)
    | .call g es => (match e with
      | .Call (.Name x _) args [] _ => globB cx x && decide (cx.md.fns[g]? = some x) && ckEs n cx es args
      | _ => false)
    | .callv i es => (match e with
      | .Call (.Name x _) args [] _ => locB cx i x && ckEs n cx es args
      | _ => false)
    | .comp elt tg src cs own => (match e with
      | .ListComp x [⟨t, it, ifs, k⟩] scope _ => decide (k = 0) && blkC cx.N cx.sc scope (ownOf cx.N own) && subL (tgS tg) own && noSet it && ckSrc n cx src t it && ckTg n (cx.blk scope) tg t && ckCs n (cx.blk scope) cs ifs && ckE n (cx.blk scope) elt x
      | _ => false)
    | .comp2 elt tg src cs tg1 src1 cs1 own own1 => (match e with
      | .ListComp x [⟨t, it, ifs, k⟩, ⟨t1, it1, ifs1, k1⟩] scope _ => decide (k = 0) && decide (k1 = 0) && blkC cx.N cx.sc scope (ownOf cx.N own) && subL (tgS tg) own && subL (tgS tg1) own1 && subL own1 own && noSet it && noSet it1 && ckSrc n cx src t it && ckTg n (cx.blk scope) tg t && ckCs n (cx.blk scope) cs ifs &&
          ckSrc n (cx.blk scope) src1 t1 it1 && ckTg n (cx.blk scope) tg1 t1 && ckCs n (cx.blk scope) cs1 ifs1 && ckE n (cx.blk scope) elt x
      | _ => false)
def ckEs : Nat → Cc → List E → List Expr → Bool
  | 0, _, _, _ => false
  | n + 1, cx, es', es => match es', es with
    | [], [] => true
    | e' :: es', e :: es => noStar e && ckE n cx e' e && ckEs n cx es' es
    | _, _ => false
def ckCmp : Nat → Cc → E → Expr → Bool
  | 0, _, _, _ => false
  | n + 1, cx, e', e => match e' with
    | .prim p [a', b'] => (match e with
      | .Compare a [o] [b] _ => cmpP p o && noSet b && ckE n cx a' a && ckE n cx b' b
      | _ => false)
    | .chain p q a' b' c' => (match e with
      | .Compare a [o, o1] [b, c] _ => isCmp p && cmpP p o && cmpP q o1 && noSet c && ckE n cx a' a && ckE n cx b' b && ckE n cx c' c
      | _ => false)
    | _ => false
def ckAnd : Nat → Cc → E → E → List Expr → Bool
  | 0, _, _, _, _ => false
  | n + 1, cx, a', b', vs => match vs with
    | [x, y] => ckE n cx a' x && ckE n cx b' y
    | x :: y :: z :: r => ckE n cx a' x && (match b' with
      | .and a1 b1 => ckAnd n cx a1 b1 (y :: z :: r)
      | _ => false)
    | _ => false
def ckOr : Nat → Cc → E → E → List Expr → Bool
  | 0, _, _, _, _ => false
  | n + 1, cx, a', b', vs => match vs with
    | [x, y] => ckE n cx a' x && ckE n cx b' y
    | x :: y :: z :: r => ckE n cx a' x && (match b' with
      | .or a1 b1 => ckOr n cx a1 b1 (y :: z :: r)
      | _ => false)
    | _ => false
def ckT : Nat → Cc → E → Expr → Bool
  | 0, _, _, _ => false
  | n + 1, cx, e', e => match e with
    | .Compare .. => ckCmp n cx e' e
    | .UnaryOp .Not x _ => (match e' with
      | .not a => ckT n cx a x
      | _ => false)
    | .BoolOp .And vs _ => (match e' with
      | .and a b => ckAndT n cx a b vs
      | _ => false)
    | .BoolOp .Or vs _ => (match e' with
      | .or a b => ckOrT n cx a b vs
      | _ => false)
    | e => plainT e && ckE n cx e' e
def ckAndT : Nat → Cc → E → E → List Expr → Bool
  | 0, _, _, _, _ => false
  | n + 1, cx, a', b', vs => match vs with
    | [x, y] => ckT n cx a' x && ckT n cx b' y
    | x :: y :: z :: r => ckT n cx a' x && (match b' with
      | .and a1 b1 => ckAndT n cx a1 b1 (y :: z :: r)
      | _ => false)
    | _ => false
def ckOrT : Nat → Cc → E → E → List Expr → Bool
  | 0, _, _, _, _ => false
  | n + 1, cx, a', b', vs => match vs with
    | [x, y] => ckT n cx a' x && ckT n cx b' y
    | x :: y :: z :: r => ckT n cx a' x && (match b' with
      | .or a1 b1 => ckOrT n cx a1 b1 (y :: z :: r)
      | _ => false)
    | _ => false
def ckCs : Nat → Cc → List E → List Expr → Bool
  | 0, _, _, _ => false
  | n + 1, cx, cs', cs => match cs', cs with
    | [], [] => true
    | [c'], [c] => ckT n cx c' c
    | _, _ => false
def ckTg : Nat → Cc → Tg → Expr → Bool
  | 0, _, _, _ => false
  | n + 1, cx, t', t => match t' with
    | .nm i => (match t with
      | .Name x _ => stoB cx i x
      | _ => false)
    | .tp ts => (match t with
      | .Tuple es _ _ => ckTgs n cx ts es
      | _ => false)
    | .sb o i => (match t with
      | .Subscript ov iv _ => noSlice iv && ckE n cx o ov && ckE n cx i iv
      | _ => false)
def ckTgs : Nat → Cc → List Tg → List Expr → Bool
  | 0, _, _, _ => false
  | n + 1, cx, ts', ts => match ts', ts with
    | [], [] => true
    | t' :: ts', t :: ts => noStar t && ckTg n cx t' t && ckTgs n cx ts' ts
    | _, _ => false
def ckSrc : Nat → Cc → Src → Expr → Expr → Bool
  | 0, _, _, _, _ => false
  | n + 1, cx, s', t, e => match s' with
    | .ex e' => ckE n cx e' e
    | .rng es => (match e with
      | .Call (.Name x _) args [] _ => decide (x = "range") && blB cx x && Nat.ble 1 args.length && Nat.ble args.length 3 && ckEs n cx es args
      | _ => false)
    | .enu e' => (match e, t with
      | .Call (.Name x _) [a] [] _, .Tuple .. => decide (x = "enumerate") && blB cx x && ckEs n cx [e'] [a]
      | _, _ => false)
    | .zip a' b' => (match e, t with
      | .Call (.Name x _) [a, b] [] _, .Tuple .. => decide (x = "zip") && blB cx x && ckEs n cx [a', b'] [a, b]
      | _, _ => false)
end
/-- the exchange: name = [..] on one line -/
def swB (cx : Cc) (value tg : Expr) : Bool := match value, tg with
  | .ListComp _ _ s _, .Name t pos => (match cx.sc.kind with | .function => true | _ => false) && (cx.sc.names.lookup t == some .local) && (pos.line == value.pos.line) && !(s.names.any fun (n, k) => n == t && (k == .local || k == .cell))
  | _, _ => false
def bkS (sc : Scope) : ScopeKind := if sc.kind.isAnnotationScope then .function else sc.kind
/-- the stores from the right -/
def swS (sc : Scope) (ts vs : List Expr) : Option (Option (List Str)) :=
  if !(ts.length == 2 || ts.length == 3) || vs.length != ts.length || bkS sc != .function then some none
  else if vs.any fun | .Starred .. => true | _ => false then some none
  else
    let line := (ts.head?.map (·.pos.line)).getD 0
    let names := ts.filterMap fun
      | .Name id pos => if sc.names.lookup id == some .local && pos.line == line then some id else none
      | _ => none
    if names.length != ts.length || names.eraseDups.length != names.length then some none
    else if vs.all (foldedForSure 8) then some none
    else if vs.all (constantsAlone 8) then none
    else some (some names)
/-- an except clause: the class, the name's slot, the suite -/
def ckO (cx : Cc) (nm : Option Str) (an : Option Str) : Option D → Expr → Bool
  | some d, .Constant c _ _ => ckC d c
  | none, .Attribute (.Name y _) f _ => decide (nm = some y) && decide (an = some f) && !(y == ("__debug__" : Str)) && !(y == ("__classdict__" : Str))
  | _, _ => false
def ckOs (cx : Cc) (nm : Option Str) (an : Option Str) : List (Option D) → List Expr → Bool
  | [], [] => true
  | o :: os, e :: es => noStar e && ckO cx nm an o e && ckOs cx nm an os es
  | _, _ => false
def slotB (cx : Cc) : Option Str → Bool
  | none => true
  | some y => cx.N.contains y && (cx.sc.names.lookup y == some .local)
def ckH (cx : Cc) (h : Nat × Su) : ExceptHandler → Bool
  | .ExceptHandler (some (.Name x _)) nm [.Return (some e) _] _ => globB cx x && slotB cx nm && (match cx.md.cls.lookup x with
    | some (k, an) => decide (k = h.1) && (match h.2 with
      | .one o => ckO cx nm an o e
      | .tup os => (match e with
        | .Tuple es _ _ => Nat.ble os.length 1000 && ckOs cx nm an os es
        | _ => false))
    | none => false)
  | _ => false
def ckHs (cx : Cc) : List (Nat × Su) → List ExceptHandler → Bool
  | [], [] => true
  | h :: hs, e :: es => ckH cx h e && ckHs cx hs es
  | _, _ => false
mutual
def ckS : Nat → Cc → S → Stmt → Bool
  | 0, _, _, _ => false
  | n + 1, cx, s', s => match s' with
    | .ex e' => (match s with
      | .Expr e _ => noLc e && ckE n cx e' e
      | _ => false)
    | .ret e' => (match s with
      | .Return (some e) _ => ckE n cx e' e
      | _ => false)
    | .ret0 => (match s with
      | .Return none _ => true
      | _ => false)
    | .pas => (match s with
      | .Pass _ => true
      | _ => false)
    | .brk => (match s with
      | .Break _ => true
      | _ => false)
    | .cnt => (match s with
      | .Continue _ => true
      | _ => false)
    | .asg t' e' => (match s with
      | .Assign [t] e _ => noStar t && (match e with
        | .ListComp .. => (match t, t' with
          | .Name x _, .nm i => (if swB cx e t then locl cx i x else ckTg n cx t' t) && ckE n cx e' e
          | _, _ => false)
        | .Tuple vs _ _ => (match t with
          | .Tuple ts _ _ => (match swS cx.sc ts vs with
            | some none => ckTg n cx t' t && ckE n cx e' e
            | some (some names) => (match ts, vs, t', e' with
              | [.Name x _, .Name y _], [a, b], .tp [.nm i, .nm j], .tupE es => decide (names = [x, y]) && !(decide (i = j)) && locl cx i x && locl cx j y && ckEs n cx es vs
              | [.Name x _, .Name y _, .Name z _], [a, b, c], .tp [.nm i, .nm j, .nm l], .tupE es => decide (names = [x, y, z]) && !(decide (i = j)) && !(decide (i = l)) && !(decide (j = l)) && locl cx i x && locl cx j y && locl cx l z && ckEs n cx es vs
              | _, _, _, _ => false)
            | none => false)
          | .List .. => false
          | t => noTup t && ckTg n cx t' t && ckE n cx e' e)
        | e => noLc e && noTpl e && ckTg n cx t' t && ckE n cx e' e)
      | _ => false)
    | .aug i p e' => (match s with
      | .AugAssign (.Name x _) o e _ => binP p o && stoB cx i x && ckE n cx e' e
      | _ => false)
    | .augS o i p e' => (match s with
      | .AugAssign (.Subscript ov iv _) op e _ => binP p op && noSlice iv && ckE n cx o ov && ckE n cx i iv && ckE n cx e' e
      | _ => false)
    | .ifS c a b => (match s with
      | .If t x y _ => ckT n cx c t && ckSs n cx a x && ckSs n cx b y
      | _ => false)
    | .whl c b => (match s with
      | .While t x [] _ => ckT n cx c t && ckSs n cx b x
      | _ => false)
    | .for t' src b => (match s with
      | .For t it x [] _ => noSet it && ckSrc n cx src t it && ckTg n cx t' t && ckSs n cx b x
      | _ => false)
    | .rse c es => (match s with
      | .Raise (some (.Call (.Name x _) [a] [] _)) none _ => globB cx x && (match cx.md.cls.lookup x with
        | some (k, none) => decide (k = c) && es.isEmpty && (match a with
          | .Constant (.str _) _ _ => true
          | _ => false)
        | some (k, some _) => decide (k = c) && cx.md.rs.contains x && (match es with
          | [a'] => noStar a && ckE n cx a' a
          | _ => false)
        | _ => false)
      | _ => false)
    | .tryS b hs => (match s with
      | .Try x (h :: hds) [] [] _ => ckSs n cx b x && ckHs cx hs (h :: hds)
      | _ => false)
def ckSs : Nat → Cc → List S → List Stmt → Bool
  | 0, _, _, _ => false
  | n + 1, cx, ss', ss => match ss', ss with
    | [], [] => true
    | s' :: ss', s :: ss => ckS n cx s' s && ckSs n cx ss' ss
    | _, _ => false
end
end Mn
/-! Rf1: an own exception class over ValueError whose __init__ says super().__init__(x); slf.f = x. -/
namespace Mn
open PySem PySem.Spec PySem.Calls PyProof.Rows L2

/-- its __init__, as a text -/
def siBody (x f slf : Str) (p0 p1 p2 p3 p4 p5 p6 p7 p8 p9 : Pos) : List Stmt :=
  [.Expr (.Call (.Attribute (.Call (.Name "super" p0) [] [] p1) "__init__" p2) [.Name x p3] [] p4) p5, .Assign [.Attribute (.Name slf p6) f p7] (.Name x p8) p9]
/-- what it promises -/
def spSi (K : PySem.W.Frag) (C : Addr) (f : Str) : Sp := fun vs H Q _ => ∃ (a : Addr) (y : V), vs = [.ref a, y] ∧ H a = some (exo a C none) ∧ ∀ dx, H dx = none → dx ≠ a → Q .non (upd (upd H dx (exd dx [(f, y)])) a (exo a C (some dx)))
/-- the context of its body -/
def siCx (CX : CXT) (P : Program) (w : World) (K : PySem.W.Frag) (mg : Str → Option Value) (base : Heap) (N : List Str) (qual : Str) (scope : Scope) (f cc : Addr) (cd : Value) (A : Around) (outer : List Env) (s : Shared) (H : Hp) (E : XK) : Cx where
  prog := P
  w := w
  K := K
  mg := mg
  base := base
  A := A.deeper (PySem.W.ksEnv qual scope s.heap.objs.size f cd cc)
  N := N
  s_0 := s
  H_0 := H
  env := PySem.W.ksEnv qual scope s.heap.objs.size f cd cc
  outer := outer
  stack := PySem.W.ksEnv qual scope s.heap.objs.size f cd cc :: outer
  ex := []
  calm := true
  fn := fun _ => false
  pn := []
  xe := fun e s' => wpAny (model P w) (A.deeper (PySem.W.ksEnv qual scope s.heap.objs.size f cd cc)) (leaving (PySem.W.ksEnv qual scope s.heap.objs.size f cd cc) e) (fun _ s'' => CX outer H s E e s'') (fun e' s'' => CX outer H s E e' s'') s'
structure SiFacts (P : Program) (K : PySem.W.Frag) (C fI cc cda : Addr) (slf x f qual : Str) (scope : Scope) (fd : FuncData) : Prop where
  oex : OexC K C
  lk : ∃ oc od osl, K.lookup fI = some ⟨oc, od, .func fd, osl⟩
  fd : ∃ name params body dV kV doc pm an ct, fd = PySem.W.ksFn name qual params body scope dV kV doc pm an (.ref cda) ct cc ∧ (∃ ar, (params.posonlyargs ++ params.args).head? = some ar ∧ ar.arg = slf) ∧
    ∃ p0 p1 p2 p3 p4 p5 p6 p7 p8 p9, (p2.endLine == p4.line) = true ∧ body = siBody x f slf p0 p1 p2 p3 p4 p5 p6 p7 p8 p9
  code : PySem.W.codeIn K (.ref cda) qual = true
  codeO : ∃ ccl cdd vs ccs file tf, K.lookup cda = some ⟨ccl, cdd, .fields vs, ccs⟩ ∧ vs[2]? = some (.str file tf) ∧ ((P.main.file : Str) == file) = true
  cell : ∃ cl cld csl, K.lookup cc = some ⟨cl, cld, .cell (some (.ref C)), csl⟩
  cls : ∃ cd, PySem.W.clsIn K C = some cd
  slfM : PySem.W.mroIn K C (.ref C) = some true
  opq : PySem.W.nsIn K cStatics "thirdparty.any" = some none
  along : PySem.W.ks_superIn K C C "__init__" = some (some (.builtin "ValueError.__init__"))
  sub : PySem.W.subIn K (.ref C) (.type "ValueError") = some true
  nof : PySem.W.findIn K (.ref C) f = some none
  top : (P.main.scope.names.lookup ("super" : Str)).isSome = false
  kind : scope.kind = .function
  co : scope.isCoroutine = false
  gen : scope.isGenerator = false
  ks : scope.names.lookup ("super" : Str) = some .globalImplicit
  kc : scope.names.lookup ("__class__" : Str) = some .free
  ka : scope.names.lookup slf = some .local
  kx : scope.names.lookup x = some .local
  nocell : ∀ y ∈ scope.names, y.2 ≠ .cell
  frees : ∀ y, scope.names.lookup y = some .free → y = "__class__"
  sx : slf ≠ x
  db : ∀ z ∈ [slf, x], (z == ("__debug__" : Str)) = false ∧ (z == ("__classdict__" : Str)) = false
section
variable {P : Program} {w : World} {K : PySem.W.Frag} {mg : Str → Option Value} {base : Heap} {CX : CXT} {C fI cc cda : Addr} {slf x f qual : Str} {scope : Scope} {fd : FuncData}
theorem si_ok (S : SiFacts P K C fI cc cda slf x f qual scope fd) (hmg : mg "super" = none) (k : Nat) : FnOk P w K mg base CX (k + 1) fI fd [slf, x] (spSi K C f) := by
  obtain ⟨oc, od, osl, lk⟩ := S.lk
  obtain ⟨name, params, body, dV, kV, doc, pm, an, ct, rfl, ⟨ar, har, haa⟩, p0, p1, p2, p3, p4, p5, p6, p7, p8, p9, hline, rfl⟩ := S.fd
  refine ⟨fun vs H Q E h => ?_, fun A outer s H args us vs Q E hr e0 hb r hsp => ?_⟩
  · obtain ⟨a, y, rfl, _⟩ := h
    rfl
  obtain ⟨a, y, rfl, ha, hq⟩ := hsp
  have KX : K.In s.heap := e0.mod.kin.keeps fun b o e => (e0.bs b o e).1
  have lim : s.heap.NoLimit := e0.mod.nolimit.keeps fun b o e => (e0.bs b o e).1
  obtain ⟨u1, u2, rfl, r1, r2⟩ := vals2 r
  obtain rfl : u1 = Value.ref a := r1
  have hloc : ∀ z ∈ [slf, x].zip [Value.ref a, u2], scope.names.lookup z.1 = some .local := fun z hz => by
    have : z = (slf, Value.ref a) ∨ z = (x, u2) := by simpa using hz
    rcases this with rfl | rfl
    · exact S.ka
    · exact S.kx
  refine PySem.ks_codeAny_call_defAt (fd := PySem.W.ksFn name qual params _ scope dV kV doc pm an (.ref cda) ct cc) hr.depth (KX _ _ lk) rfl lim (PySem.W.codeRec_of KX S.code) rfl hb S.nocell hloc (fun h₁ hns hk₁ => ?_) S.co S.gen S.kind
  have nsx : (slf == x) = false := by simpa using S.sx
  have lk0 : List.lookup slf ([slf, x].zip [Value.ref a, u2]).reverse = some (.ref a) := by simp [List.lookup, nsx]
  have lk1 : List.lookup x ([slf, x].zip [Value.ref a, u2]).reverse = some u2 := by simp [List.lookup]
  have hcc : ∃ o, base.get? cc = some o ∧ o.data = .cell (some (.ref C)) := by
    obtain ⟨cl, cld, csl, e⟩ := S.cell
    exact ⟨_, e0.mod.kin _ _ e, rfl⟩
  have hcells : ∀ y c, (siCx CX P w K mg base [slf, x] qual scope fI cc (.ref cda) A outer s H E).env.cells.lookup y = some c → y = "__class__" ∧ c = cc := fun y c h => by
    have h : List.lookup y [(("__class__" : Str), cc)] = some c := h
    rw [List.lookup_cons] at h
    cases hy : (y == ("__class__" : Str)) with
    | true => rw [hy] at h; exact ⟨by simpa using hy, (Option.some.inj h).symm⟩
    | false => rw [hy] at h; simp at h
  have I : Inv (siCx CX P w K mg base [slf, x] qual scope fI cc (.ref cda) A outer s H E) [] [some (.ref a), some y] H { s with heap := h₁, toks := s.toks + ([slf, x].zip [Value.ref a, u2]).length } := by
    have noA : ∀ b : Addr, b ∉ (siCx CX P w K mg base [slf, x] qual scope fI cc (.ref cda) A outer s H E).ex := fun b z => absurd (show b ∈ ([] : List Addr) from z) (by simp)
    refine ⟨⟨e0.mod, S.kind, rfl, rfl, Nat.le_refl _, fun y z c h1 h2 => ?_, fun y hy => ?_, fun y c h _ => ?_, fun _ => hr.hd, Around.frames_deeper e0.frames, .inr ⟨rfl, rfl⟩, fun b z => absurd z (noA b), e0.bs, e0.bsz, fun b _ _ => noA b, fun b z => absurd z (noA b), e0.funs, e0.frf⟩,
      rfl, e0.bare, Un.kept hk₁, ⟨_, hns, fun i z v h1 h2 h3 => ?_⟩, fun y c h => ?_, e0.hok.fresh (Nat.le_refl _), fun y c h => ?_, fun p hp => absurd (show p ∈ ([] : List (Addr × Obj)) from hp) (by simp), e0.hok.kept hk₁, rfl⟩
    · rw [(hcells _ _ h1).1, (hcells _ _ h2).1]
    · rcases hy with hy | hy
      · exact absurd rfl (S.nocell _ (PySem.mem_of_lookup (show scope.names.lookup y = some .cell from hy)))
      · have := S.frees y hy
        subst this
        exact ⟨cc, rfl⟩
    · cases h
    · match i, h1, h2 with
      | 0, h1, h2 =>
        have h1 : slf = z := by simpa [siCx] using h1
        have h2 : V.ref a = v := by simpa using h2
        subst h1 h2
        exact ⟨.ref a, rfl, .inl ⟨S.ka, lk0⟩⟩
      | 1, h1, h2 =>
        have h1 : x = z := by simpa [siCx] using h1
        have h2 : y = v := by simpa using h2
        subst h1 h2
        exact ⟨u2, r2, .inl ⟨S.kx, lk1⟩⟩
      | i + 2, h1, h2 => simp at h2
    · obtain ⟨rfl, rfl⟩ := hcells _ _ h
      obtain ⟨o, e, d⟩ := hcc
      exact ⟨_, o, hk₁ _ _ (e0.bs _ _ e).1, d⟩
    · obtain ⟨rfl, rfl⟩ := hcells _ _ h
      obtain ⟨o, e, d⟩ := hcc
      exact (e0.bs _ _ e).2
  have hns' := hns
  generalize hs1 : ({ s with heap := h₁, toks := s.toks + ([slf, x].zip [Value.ref a, u2]).length } : Shared) = s1 at I ⊢
  have fin : ∀ {fl : Flow} {s' : Shared}, (∃ v H', Inv (siCx CX P w K mg base [slf, x] qual scope fI cc (.ref cda) A outer s H E) [] [some (.ref a), some y] H' s' ∧ L2.RelV v (match fl with | .ret v => v | _ => .none) ∧ Q v H') → CR CX outer P w H s Q E (.ok (.ret (match fl with | .ret v => v | _ => .none))) s' := fun {fl s'} ⟨v, H', J, rv, q⟩ => ⟨v, H', J.os, J.bare, J.base, J.hok, rv, q⟩
  refine PySem.ks_wpAt_mono (Q := fun fl s' => ∃ v H', Inv (siCx CX P w K mg base [slf, x] qual scope fI cc (.ref cda) A outer s H E) [] [some (.ref a), some y] H' s' ∧ L2.RelV v (match fl with | .ret v => v | _ => .none) ∧ Q v H') ?_ (fun fl s' h => fin h) (fun _ _ h => h)
  have hint : interactive (PySem.W.ksEnv qual scope s.heap.objs.size fI (.ref cda) cc) = false := by
    unfold interactive
    simp [S.kind]
  show PySem.wpAt (model P w) (A.deeper (PySem.W.ksEnv qual scope s.heap.objs.size fI (.ref cda) cc)) (.func (siBody x f slf p0 p1 p2 p3 p4 p5 p6 p7 p8 p9) (PySem.W.ksEnv qual scope s.heap.objs.size fI (.ref cda) cc)) (execs (siBody x f slf p0 p1 p2 p3 p4 p5 p6 p7 p8 p9) (PySem.W.ksEnv qual scope s.heap.objs.size fI (.ref cda) cc)) _ _ _
  refine PySem.ks_wpAt_execs_cons (PySem.ks_wpAt_Expr_any (PySem.ks_wpAt_MethodCall (pl := plainOf (.Call (.Name "super" p0) [] [] p1) (PySem.W.ksEnv qual scope s.heap.objs.size fI (.ref cda) cc)) ?_ (by
    show (do
      let ov ← attributeBase (.Call (.Name "super" p0) [] [] p1) "__init__" (PySem.W.ksEnv qual scope s.heap.objs.size fI (.ref cda) cc) (eval (.Call (.Name "super" p0) [] [] p1) (PySem.W.ksEnv qual scope s.heap.objs.size fI (.ref cda) cc))
      standAt p2.atName
      methodCall (.Call (.Name "super" p0) [] [] p1) "__init__" p2 p4 (PySem.W.ksEnv qual scope s.heap.objs.size fI (.ref cda) cc) ov 1 (backTo p4 (starEach [.Name x p3] (PySem.W.ksEnv qual scope s.heap.objs.size fI (.ref cda) cc))) []) = _
    simp only [mcall_line (show methodCallForm 1 (backTo p4 (starEach [Expr.Name x p3] (PySem.W.ksEnv qual scope s.heap.objs.size fI (.ref cda) cc))) [] = true from rfl) hline])) hint rfl)
  obtain ⟨ccl, cdd, vs, ccs, file, tf, hco, hvs, hfile⟩ := S.codeO
  refine PySem.ks_wpAt_super_base (env := PySem.W.ksEnv qual scope s.heap.objs.size fI (.ref cda) cc) S.ks S.kc (by decide) rfl (I.kIn _ _ lk) rfl har rfl (I.kIn _ _ hco) rfl hvs hfile S.top ?_
  obtain ⟨mb, hb1, hb2⟩ := I.mod.blt
  refine PySem.W.ks_loadName_global (env := PySem.W.ksEnv qual scope s.heap.objs.size fI (.ref cda) cc) S.kind S.ks (loadGlobal_builtin (I.mod.glob.keeps I.bk) hmg (hb1.keeps I.bk) ((hb2 "super" (by decide)).trans PyProof.Rows.Boot.«super») ⟨rfl, ?_⟩)
  obtain ⟨cl, cld, csl, hcell⟩ := S.cell
  refine wpAny_loadName_free (env := PySem.W.ksEnv qual scope s.heap.objs.size fI (.ref cda) cc) S.kind S.kc rfl ⟨_, I.kIn _ _ hcell, rfl⟩ ?_
  rw [haa]
  obtain ⟨t1, ho⟩ := exo_at I.hok ha
  obtain ⟨cdD, hD⟩ := S.cls
  obtain ⟨oD, hD1, hD2⟩ : ∃ oD, s1.heap.get? C = some oD ∧ oD.data = .cls cdD := by
    unfold PySem.W.clsIn at hD
    split at hD
    · rename_i c d cd' sl ho
      cases hD
      exact ⟨_, I.kIn _ _ ho, rfl⟩
    · cases hD
  have hns1 : s1.heap.Ns s.heap.objs.size (fun z => List.lookup z ([slf, x].zip [Value.ref a, u2]).reverse) := by
    subst hs1
    exact hns
  refine wpAny_loadName_local (env := PySem.W.ksEnv qual scope s.heap.objs.size fI (.ref cda) cc) S.kind S.ka hns1 lk0 ?_
  refine PySem.ks_wpAny_isType_cls hD1 hD2 ⟨rfl, ?_⟩
  have KI := I.kIn
  obtain ⟨hh, g, d, t, os⟩ := s1
  refine PySem.ks_wpAny_call_super hD1 hD2 ho rfl (fun c e => by cases e) (PySem.W.looks_mroIn KI S.slfM) (fun h' e1 k1 => ?_)
  have I1 : Inv (siCx CX P w K mg base [slf, x] qual scope fI cc (.ref cda) A outer s H E) [] [some (.ref a), some y] H ⟨h', g, d, t, os⟩ := I.kept (t' := t) k1
  have KI1 := I1.kIn
  have hI : PySem.W.Looks (model P w) h' (isInstance (.ref a) (.type "ValueError")) true := PySem.W.InstAt.type (od := none) ⟨k1 _ _ ho, rfl, rfl, trivial⟩ |>.andThen (PySem.W.looks_subIn KI1 S.sub)
  have along := S.along
  unfold PySem.W.ks_superIn at along
  rw [hD] at along
  have hKF := PySem.W.kxs_ValueError
  refine PySem.W.kxs_getMethod hKF e1 (PySem.W.looks_opaque KI1 S.opq) (l₀ := cdD.mro) (fun A Q E s k q => wpAny_bind ((PySem.W.looks_clsIn KI1 hD) A _ E s k (wpAny_pure q))) rfl KI1 along hI (PySem.W.ks_ne (odx := none) KI1 ⟨k1 _ _ ho, rfl, rfl, trivial⟩ hD) (by decide) ?_
  have kp : ∀ b o, h'.get? b = some o → (h'.push (PySem.W.kxs_mw "ValueError.__init__" a)).get? b = some o := fun b o e => Heap.get?_push_of_some _ e
  have gu : (h'.push (PySem.W.kxs_mw "ValueError.__init__" a)).get? h'.objs.size = some (PySem.W.kxs_mw "ValueError.__init__" a) := Heap.get?_push_size _ rfl
  have nu : H h'.objs.size = none := I1.hok.fresh (Nat.le_refl _)
  have I2 : Inv (siCx CX P w K mg base [slf, x] qual scope fI cc (.ref cda) A outer s H E) [(h'.objs.size, PySem.W.kxs_mw "ValueError.__init__" a)] [some (.ref a), some y] H ⟨h'.push (PySem.W.kxs_mw "ValueError.__init__" a), g, d, t + 1, os⟩ :=
    (I1.kept (t' := t + 1) kp).pins_of fun p hp => by
      have : p = (h'.objs.size, PySem.W.kxs_mw "ValueError.__init__" a) := by simpa [siCx] using hp
      subst this
      exact ⟨gu, nu, Nat.ne_of_gt I1.lt, I1.nofs (Nat.le_refl _), fun v e => by cases e⟩
  have hA : PA (siCx CX P w K mg base [slf, x] qual scope fI cc (.ref cda) A outer s H E) [.Name x p3] _ := pa_cons (pe_var (i := 1) rfl (.inl S.kx) (S.db x (by simp)).1 (S.db x (by simp)).2) pa_nil
  have run := hA.run p4 _ _ _ _ (fun vs H1 => vs = [y] ∧ H1 = H) I2 ⟨y, rfl, rfl, rfl⟩
  refine PySem.W.kxs_callWith (i := "ValueError.__init__") (x := a) rfl (evalArgs_plain (wpAny_mono run (fun us s3 ⟨vs, H3, I3, r3, q3⟩ => ?_) (fun _ _ h => h)))
  obtain ⟨rfl, rfl⟩ := q3
  obtain ⟨u3, rfl, ru3⟩ := vals1 r3
  have gu3 : s3.heap.get? h'.objs.size = some (PySem.W.kxs_mw "ValueError.__init__" a) := (I3.pin (h'.objs.size, PySem.W.kxs_mw "ValueError.__init__" a) (by simp [siCx])).1
  refine ⟨gu3, ?_⟩
  obtain ⟨t3, ho3⟩ := exo_at I3.hok ha
  obtain ⟨nm, q, N, bs, bm, sn, sub, ab, col, dd, k0, k1', k2, k3, k5, hC, hbm⟩ := S.oex.cls
  have KI3 := I3.kIn
  have I3' : Inv (siCx CX P w K mg base [slf, x] qual scope fI cc (.ref cda) A outer s _ E) [] _ _ s3 := I3.pins_of (pins' := []) (by simp [siCx])
  obtain ⟨h3, g3, d3, tk3, os3⟩ := s3
  refine wpAny_call (codeAny_of_tree ?_)
  show wpAny _ _ (callAny (.ref h'.objs.size) ⟨[u3], []⟩) _ _ _
  simp only [callAny]
  refine wpAny_bind (wpAny_load gu3 ?_)
  simp only [PySem.W.kxs_mw, show (Value.type "method-wrapper" == Value.type "method" || Value.type "method-wrapper" == Value.type "builtin_function_or_method" || Value.type "method-wrapper" == Value.type "method-wrapper") = true by decide, if_true]
  refine PySem.W.KFB.if_so (by decide) ?_
  refine wpAny_bind (PySem.W.check_bound_init PySem.F.excBase_ValueError.toExcCallFacts (KI3 _ _ hC) ho3 rfl ?_)
  refine wpAny_bind (wpAny_pure (wpAny_pure ?_))
  refine ⟨plainId_quiet PySem.F.excBase_ValueError.init.plain _, ?_⟩
  refine PySem.codeAny_builtin PySem.F.excBase_ValueError.initEntry ?_
  refine PySem.W.exc_init_tree (cls := .ref C) (t0 := t3) (dv := none) (c2 := .none) (c3 := .none) (b4 := .bool false) ho3 (by rw [sizeLine_eq]; show 1 ≤ 16777216; decide) fun h4 k4 hx4 _ => ?_
  have eu : upd H3 a (exo a C none) = H3 := by
    funext b
    by_cases hb : b = a
    · rw [hb, upd_same, ha]
    · rw [upd_ne hb]
  have I4 := I3'.write (t' := tk3) (x := a) (e := a) (o := exo a C none) (by rw [ha]; exact True.intro) (.inl rfl) k4 ⟨_, hx4⟩ (exo_ok hx4)
  rw [eu] at I4
  refine PySem.wpAt_of_wpAny ?_
  have hS : PSs (siCx CX P w K mg base [slf, x] qual scope fI cc (.ref cda) A outer s H3 E) [.Assign [.Attribute (.Name slf p6) f p7] (.Name x p8) p9] _ := pss_one (ps_ost (pe_var (i := 0) rfl (.inl S.ka) (S.db slf (by simp)).1 (S.db slf (by simp)).2) (pe_var (i := 1) rfl (.inl S.kx) (S.db x (by simp)).1 (S.db x (by simp)).2))
  refine wpAny_mono (hS.run [] _ _ _ { nx := fun σ' H' => σ' = [some (.ref a), some y] ∧ Q .non H', rt := fun _ _ => False } I4 ⟨y, rfl, .ref a, rfl, a, C, rfl, S.oex, S.nof, .inl ⟨ha, fun dx h1 h2 => ⟨rfl, hq dx h1 h2⟩⟩⟩) (fun fl s6 hsp => ?_) (fun _ _ h => h)
  cases fl with
  | next =>
    obtain ⟨σ', H', J, rfl, q⟩ := hsp
    exact ⟨.non, H', J, rfl, q⟩
  | ret u => obtain ⟨_, _, _, _, _, q⟩ := hsp; exact q.elim
  | brk => obtain ⟨_, _, _, q⟩ := hsp; exact q.elim
  | cont => obtain ⟨_, _, _, q⟩ := hsp; exact q.elim
end
end Mn
/-! Mn12: the check is sound: expressions. -/
namespace Mn
open PySem PySem.Spec PyProof.Rows L2
/-! ### forms -/
theorem star_cons {e : Expr} {es : List Expr} {env : Env} (h : noStar e = true) : starEach (e :: es) env = (false, eval e env) :: starEach es env := by
  cases e <;> first | rfl | cases h
theorem asg_cons {e : Expr} {es : List Expr} {env : Env} (h : noStar e = true) : assignEach (e :: es) env = (false, assign e env) :: assignEach es env := by
  cases e <;> first | rfl | cases h
theorem asg_len {env : Env} : ∀ {es : List Expr}, (assignEach es env).length = es.length
  | [] => rfl
  | e :: es => by
    cases e <;> (show (_ :: assignEach es env).length = _; rw [List.length_cons, List.length_cons, asg_len])
theorem plainIx {b : Expr} (h : noSlice b = true) : PlainIx b := fun o i => by cases b <;> first | rfl | cases h
theorem asg_sub {o i : Expr} {pos : Pos} {env : Env} (h : noSlice i = true) (v : Value) : assign (.Subscript o i pos) env v = (do
      let ov ← holding [v] (eval o env)
      let iv ← holding [v, ov] (eval i env)
      standAt pos
      holding [v, ov, iv] (setItem ov iv v)
      release [v, ov, iv] []) := by
  cases i <;> first | rfl | cases h
theorem aug_sub {i : Expr} (h : noSlice i = true) (ov iv new : Value) : augStore i ov iv new = (do holding [new, ov, iv] (setItem ov iv new); release [new, ov, iv] []; pure .next) := by
  cases i <;> first | rfl | cases h
theorem nomarkS {op : CmpOp} {b : Expr} (h : noSet b = true) : behindInMarks op b = false := by
  cases b <;> first | rfl | cases h
theorem plain_test {e : Expr} {env : Env} (h : plainT e = true) (whole : Sem Value) : isTrue e env whole = (do let v ← whole; standAt e.pos; holding [v] (truthy v)) := by
  cases e <;> first | rfl | cases h
theorem fold_set {e : Expr} {env : Env} (h : noSet e = true) (x : Value) : foldedSetIterable e env x = pure x := by
  cases e <;> first | rfl | cases h
theorem attr_base {o : Expr} {a : Str} {env : Env} (h : noCall o = true) (w : Sem Value) : attributeBase o a env w = w := by
  cases o <;> first | rfl | cases h
theorem swaps_no {e : Expr} {t : Option Expr} {l : Nat} {env : Env} (h : noLc e = true) : swapsWith e t l env = pure false := by
  cases e <;> first | rfl | cases h
inductive PlainEs : List Expr → Prop
  | nil : PlainEs []
  | cons {e : Expr} {es : List Expr} : noStar e = true → PlainEs es → PlainEs (e :: es)
theorem PlainEs.any {env : Env} {pos : Pos} : ∀ {es : List Expr}, PlainEs es → (backTo pos (starEach es env)).any (·.1) = false
  | _, .nil => rfl
  | _, .cons h r => by
    rw [star_cons h]
    show (false || (backTo pos (starEach _ env)).any (·.1)) = false
    rw [r.any]
    rfl
theorem PlainEs.all {env : Env} {pos : Pos} : ∀ {es : List Expr}, PlainEs es → (backTo pos (starEach es env)).all (fun x => !x.1) = true
  | _, .nil => rfl
  | _, .cons h r => by
    rw [star_cons h]
    show ((!false) && (backTo pos (starEach _ env)).all (fun x => !x.1)) = true
    rw [r.all]
    rfl
theorem PlainEs.find {env : Env} : ∀ {es : List Expr}, PlainEs es → (assignEach es env).findIdx? (·.1) = none
  | _, .nil => rfl
  | _, .cons h r => by
    rw [asg_cons h, List.findIdx?_cons]
    simp [r.find]
/-! ### what a context must have -/
/-- a class that may be raised with a text -/
def Rse (X : Cx) (C : Addr) : Prop := ∃ B newId initId bmB, ExcBaseFacts B newId initId bmB ∧ PySem.W.excIn X.K C bmB newId = true ∧ PySem.W.keepIn X.K (.ref C) = true ∧ Raises X (.ref C)
/-- .. with what it bears: its __init__ is the one that says super().__init__(x); self.f = x -/
def Rsf (X : Cx) (C : Addr) (f : Str) : Prop := OexC X.K C ∧ ∃ fI k fd ps, PySem.W.findIn X.K (.ref C) "__init__" = some (some (.ref fI)) ∧ PySem.W.typeIn X.K (.ref fI) = some (.type "function") ∧
  FnOk X.prog X.w X.K X.mg X.base (L2.CX X.prog X.w) k fI fd ps (spSi X.K C f) ∧ Room (k + 1) X.A ∧ Binds X.K fd ps []
def FnG (ws : Ws) (cf : Cf) (X : Cx) (g : Nat) (x : Str) : Prop := X.mg x = some (.ref (ws.fa g)) ∧ PySem.W.keepIn X.K (.ref (ws.fa g)) = true ∧
  ∃ k fd ps, FnOk X.prog X.w X.K X.mg X.base (L2.CX X.prog X.w) k (ws.fa g) fd ps (spF ws cf g) ∧ Room k X.A ∧ Binds X.K fd ps []
structure Gd (ws : Ws) (cf : Cf) (cx : Cc) (X : Cx) : Prop where
  g : Gp ws X
  N : X.N = cx.N
  nd : cx.N.Nodup
  sc : X.env.scope = cx.sc
  kd : cx.sc.kind = .function
  fn : ∀ x, fncB cx x = true → X.fn x = true
  bl : ∀ x ∈ cx.md.bl, X.mg x = none
  con : ∀ x d, cx.md.con.lookup x = some d → ∃ u v, X.mg x = some u ∧ RelV v u ∧ (∀ m H, DV ws m H d v) ∧ notl d = true
  cls : ∀ x k an, cx.md.cls.lookup x = some (k, an) → ∃ C, ws.ec k = some (C, an) ∧ X.mg x = some (.ref C)
  rse : ∀ x k C, cx.md.cls.lookup x = some (k, none) → ws.ec k = some (C, none) → Rse X C
  rsf : ∀ x k C f, cx.md.cls.lookup x = some (k, some f) → x ∈ cx.md.rs → ws.ec k = some (C, some f) → Rsf X C f
  fns : ∀ g x, cx.md.fns[g]? = some x → FnG ws cf X g x
  nf : ∀ g, g < cf.nf → ∃ x, cx.md.fns[g]? = some x
section
variable {ws : Ws} {cf : Cf} {cx : Cc} {X : Cx} {W : WX} {n : Nat}
theorem Gd.blk (G : Gd ws cf cx X) (s : Shared) (H : Hp) (scope : Scope) (C : Addr) (cl : List (Str × Addr)) (fp : List Addr) (hk : scope.kind = .function) : Gd ws cf (cx.blk scope) (X.blk s H scope (compEnvC scope cl C X.env) fp) :=
  ⟨⟨G.g.K, G.g.calm, G.g.units⟩, G.N, G.nd, by
    show relabel scope X.env = relS scope cx.sc
    rw [← G.sc]
    rfl, hk, fun x h => h, G.bl, G.con, G.cls, G.rse, G.rsf, fun g x e => G.fns g x e, G.nf⟩
theorem Gd.tr (G : Gd ws cf cx X) (pn : List (Addr × Obj)) (xe : Value → Shared → Prop) : Gd ws cf cx (X.tr pn xe) := ⟨⟨G.g.K, G.g.calm, G.g.units⟩, G.N, G.nd, G.sc, G.kd, G.fn, G.bl, G.con, G.cls, G.rse, G.rsf, G.fns, G.nf⟩
theorem Gd.loc (G : Gd ws cf cx X) {i : Nat} {x : Str} (h : locB cx i x = true) : X.N[i]? = some x ∧ Vis X.env.scope x ∧ (x == ("__debug__" : Str)) = false ∧ (x == ("__classdict__" : Str)) = false := by
  unfold locB visB at h
  simp only [Bool.and_eq_true, Bool.not_eq_true', decide_eq_true_eq] at h
  obtain ⟨⟨⟨h1, h2⟩, h3⟩, h4⟩ := h
  refine ⟨by rw [G.N]; exact h1, ?_, h3, h4⟩
  unfold Vis
  rw [G.sc]
  split at h2
  · rename_i e; exact .inl e
  · rename_i e; exact .inr (.inl e)
  · rename_i e; exact .inr (.inr e)
  · cases h2
theorem Gd.sto (G : Gd ws cf cx X) {i : Nat} {x : Str} (h : stoB cx i x = true) : X.N[i]? = some x ∧ L2.Loc X.env.scope x ∧ (X.fn x = true ∨ X.env.scope.names.lookup x = some .local) := by
  unfold stoB at h
  simp only [Bool.and_eq_true, decide_eq_true_eq] at h
  obtain ⟨h1, h2⟩ := h
  refine ⟨by rw [G.N]; exact h1, ?_⟩
  unfold L2.Loc
  rw [G.sc]
  split at h2
  · rename_i e; exact ⟨.inl e, .inr e⟩
  · rename_i e; exact ⟨.inr e, .inl (G.fn x h2)⟩
  · cases h2
theorem Gd.locl (G : Gd ws cf cx X) {i : Nat} {x : Str} (h : Mn.locl cx i x = true) : X.N[i]? = some x ∧ X.env.scope.names.lookup x = some .local := by
  unfold Mn.locl at h
  simp only [Bool.and_eq_true, decide_eq_true_eq] at h
  obtain ⟨h1, h2⟩ := h
  refine ⟨by rw [G.N]; exact h1, ?_⟩
  rw [G.sc]
  split at h2
  · rename_i e; exact e
  · cases h2
theorem Gd.glob (G : Gd ws cf cx X) {x : Str} (h : globB cx x = true) : Gl X x ∧ (x == ("__debug__" : Str)) = false := by
  unfold globB at h
  simp only [Bool.and_eq_true, Bool.not_eq_true'] at h
  obtain ⟨h1, h2⟩ := h
  refine ⟨?_, h2⟩
  show X.env.scope.names.lookup x = _
  rw [G.sc]
  split at h1
  · rename_i e; exact e
  · cases h1
theorem Gd.blt (G : Gd ws cf cx X) {x : Str} (h : blB cx x = true) : Gl X x ∧ X.mg x = none ∧ (x == ("__debug__" : Str)) = false := by
  unfold blB at h
  rw [Bool.and_eq_true] at h
  obtain ⟨h1, h2⟩ := G.glob h.1
  exact ⟨h1, G.bl x (by simpa using h.2), h2⟩
/-! ### constants -/
theorem ckC_ok {d : D} {c : Const} {j : Nat} {pos : Pos} (h : ckC d c = true) : ∃ v, PE X (.Constant c j pos) (tC v) ∧ (∀ m H, DV ws m H d v) ∧ notl d = true := by
  unfold ckC at h
  split at h
  · exact ⟨.non, pe_non, fun _ _ => .non, rfl⟩
  · rename_i a b
    have : a = b := by simpa using h
    subst this
    exact ⟨.bl a, pe_bl, fun _ _ => .bl a, rfl⟩
  · rename_i a b
    have : a = b := by simpa using h
    subst this
    exact ⟨.int a, pe_int, fun _ _ => .int a, rfl⟩
  · rename_i a b
    have : b = (⟨a.toArray⟩ : Str) := by simpa using h
    subst this
    exact ⟨.str _, pe_str, fun _ _ => .str a, rfl⟩
  · cases h
/-! ### operations -/
theorem binP_ok {p : Pr} {o : Operator} (h : binP p o = true) (G : Gp ws X) : OpR X (binaryOp o) (rP2 ws p) := by
  unfold binP at h
  split at h
  · exact or_add G
  · exact or_sub
  · exact or_mul G
  · exact or_fdiv
  · exact or_mod
  · cases h
theorem binX_ok {p : Pr} {o : Operator} (h : binX p o = true) (G : Gp ws X) : OpR X (binaryOp o) (rP2 ws p) := by
  unfold binX at h
  split at h
  · exact or_xor
  · exact binP_ok h G
theorem cmpP_ok {p : Pr} {o : CmpOp} (h : cmpP p o = true) (G : Gp ws X) : OpR X (compareOp o) (rP2 ws p) := by
  unfold cmpP at h
  split at h
  · exact or_eq G
  · exact or_ne G
  · exact or_lt
  · exact or_le
  · exact or_gt
  · exact or_ge
  · exact or_isN G
  · exact or_notN G
  · exact or_in G
  · exact or_notin G
  · cases h
theorem ipP_ok {p : Pr} {o : Operator} (h : binP p o = true) : PIp X o (ipS p) ∧ isArith p = true := by
  unfold binP at h
  split at h
  · refine ⟨fun pins s σ H x y v u Q I r1 r2 h => ?_, rfl⟩
    obtain ⟨i, j, k, rfl, rfl, e, q⟩ := h
    cases e
    exact ip_add pins s σ H _ _ v u Q I r1 r2 ⟨i, j, rfl, rfl, q⟩
  · refine ⟨fun pins s σ H x y v u Q I r1 r2 h => ?_, rfl⟩
    obtain ⟨i, j, k, rfl, rfl, e, q⟩ := h
    cases e
    exact ip_sub pins s σ H _ _ v u Q I r1 r2 ⟨i, j, rfl, rfl, q⟩
  · refine ⟨fun pins s σ H x y v u Q I r1 r2 h => ?_, rfl⟩
    obtain ⟨i, j, k, rfl, rfl, e, q⟩ := h
    simp only [semI] at e
    split at e
    · rename_i hc
      cases e
      exact imul_any pins s σ H _ _ v u Q I r1 r2 ⟨i, j, rfl, rfl, cmulx hc, q⟩
    · cases e
  · refine ⟨fun pins s σ H x y v u Q I r1 r2 h => ?_, rfl⟩
    obtain ⟨i, j, k, rfl, rfl, e, q⟩ := h
    simp only [semI] at e
    split at e
    · rename_i hc
      cases e
      exact ifdiv_any pins s σ H _ _ v u Q I r1 r2 ⟨i, j, rfl, rfl, hc, q⟩
    · cases e
  · refine ⟨fun pins s σ H x y v u Q I r1 r2 h => ?_, rfl⟩
    obtain ⟨i, j, k, rfl, rfl, e, q⟩ := h
    simp only [semI] at e
    split at e
    · rename_i hc
      cases e
      exact imod_any pins s σ H _ _ v u Q I r1 r2 ⟨i, j, rfl, rfl, hc, q⟩
    · cases e
  · cases h
/-- the built-in functions -/
theorem blN_ok {p : Pr} {x : Str} (h : blN p = some x) (G : Gp ws X) : x ≠ "__name__" ∧ ((∃ id, bootBuiltins x = some (.builtin id) ∧ CallR X (.builtin id) (rP ws p)) ∨ ∃ T, bootBuiltins x = some (.type T) ∧ CallR X (.type T) (rP ws p)) := by
  cases p
  case len => cases h; exact ⟨by decide, .inl ⟨_, boot_len, cr_len G⟩⟩
  case abs => cases h; exact ⟨by decide, .inl ⟨_, by decide +kernel, cr_abs⟩⟩
  case toInt => cases h; exact ⟨by decide, .inr ⟨_, by decide +kernel, cr_int⟩⟩
  case all => cases h; exact ⟨by decide, .inl ⟨_, by decide +kernel, cr_allM G⟩⟩
  case any => cases h; exact ⟨by decide, .inl ⟨_, by decide +kernel, cr_anyM G⟩⟩
  case sum => cases h; exact ⟨by decide, .inl ⟨_, by decide +kernel, cr_sumM G⟩⟩
  case tuple => cases h; exact ⟨by decide, .inr ⟨_, by decide +kernel, cr_tuple G⟩⟩
  case list => cases h; exact ⟨by decide, .inr ⟨_, by decide +kernel, cr_list G⟩⟩
  case max => cases h; exact ⟨by decide, .inl ⟨_, by decide +kernel, cr_maxM G⟩⟩
  case min => cases h; exact ⟨by decide, .inl ⟨_, by decide +kernel, cr_minM G⟩⟩
  case max2 => cases h; exact ⟨by decide, .inl ⟨_, by decide +kernel, cr_max2 G⟩⟩
  case min2 => cases h; exact ⟨by decide, .inl ⟨_, by decide +kernel, cr_min2 G⟩⟩
  case sorted => cases h; exact ⟨by decide, .inl ⟨_, by decide +kernel, cr_sortM G⟩⟩
  all_goals cases h
theorem pe_blN {p : Pr} {x : Str} {e : Expr} {es : List Expr} {es' : List E} {np pos : Pos} (h : blN p = some x) (G : Gd ws cf cx X) (hb : blB cx x = true) (ha : PA X (e :: es) (tEs ws cf W n es')) (hs : PlainEs (e :: es)) : PE X (.Call (.Name x np) (e :: es) [] pos) (tE ws cf W n (.prim p es')) := by
  obtain ⟨g1, g2, g3⟩ := G.blt hb
  cases hs with
  | cons h1 h2 =>
    obtain ⟨hn, ⟨id, hv, hc⟩ | ⟨T, hv, hc⟩⟩ := blN_ok h G.g
    · exact PE.imp (pe_callB hc g1 g2 hv ha hn g3 (star_cons h1) h2.any) fun σ H Q q => tE_prim q
    · exact PE.imp (pe_callTy hc g1 g2 hv ha hn g3 (star_cons h1) h2.any) fun σ H Q q => tE_prim q
/-! ### isinstance -/
theorem rP_alloc {p : Pr} {vs : List V} {H : Hp} {Q : VK} {q : Addr} {o : HO} (h : rP ws p vs H Q) (hq : H q = none) : rP ws p vs (upd H q o) Q := by
  obtain ⟨H0, m0, m, st, ds, d, st', s, r, a, e, k⟩ := h
  exact ⟨H0, m0, m, st, ds, d, st', s.trans (Step.alloc hq), r.alloc hq, ⟨a.as.mono (Step.alloc hq), a.nd, a.fr⟩, e, k⟩
theorem boot_ty (t : Ty) : bootBuiltins (tyS t) = some (.type (tyN (some t))) ∧ tyS t ≠ "__name__" := by
  cases t <;> exact ⟨by decide +kernel, by decide⟩
theorem ckTy_ok {t : Ty} {e : Expr} (G : Gd ws cf cx X) (h : ckTy cx t e = true) : PE X e (tC (.ty (tyN (some t)))) ∧ noStar e = true := by
  unfold ckTy at h
  split at h
  · rw [Bool.and_eq_true] at h
    obtain ⟨h1, h2⟩ := h
    have h1 := of_decide_eq_true h1
    subst h1
    obtain ⟨g1, g2, g3⟩ := G.blt h2
    exact ⟨pe_bltn g1 g2 (boot_ty t).1 rfl (boot_ty t).2 g3, rfl⟩
  · cases h
theorem ckTys_ok (G : Gd ws cf cx X) : ∀ {ts : List Ty} {es : List Expr}, ckTys cx ts es = true → PA X es (fun _ H Q => Q (ts.map fun t => V.ty (tyN (some t))) H) ∧ ts.length = es.length
  | [], [], _ => ⟨pa_nil, rfl⟩
  | t :: ts, e :: es, h => by
    have h' : ckTy cx t e = true ∧ ckTys cx ts es = true := by simpa [ckTys] using h
    obtain ⟨h1, h2⟩ := ckTy_ok G h'.1
    obtain ⟨h3, h4⟩ := ckTys_ok G h'.2
    exact ⟨pa_cons h1 h3 (star_cons h2), by rw [List.length_cons, List.length_cons, h4]⟩
theorem pe_inst1 {t : Ty} {a e : Expr} {a' : E} {np pos : Pos} (G : Gd ws cf cx X) (hb : blB cx "isinstance" = true) (ha : PE X a (tE ws cf W n a')) (hs : noStar a = true) (ht : ckTy cx t e = true) :
    PE X (.Call (.Name "isinstance" np) [a, e] [] pos) (tE ws cf W n (.prim (.inst [t]) [a'])) := by
  obtain ⟨g1, g2, g3⟩ := G.blt hb
  obtain ⟨h1, h2⟩ := ckTy_ok G ht
  refine PE.imp (pe_callB (cr_inst1 G.g t) g1 g2 boot_isinstance (pa_cons ha (pa_cons h1 pa_nil (star_cons h2)) (star_cons hs)) (by decide) g3 (star_cons hs) (PlainEs.cons h2 .nil).any) fun σ H Q q => ?_
  exact tE_mono (tEs_one (tE_prim q)) fun x H1 k => ⟨x, rfl, k⟩
theorem pe_instT {ts : List Ty} {a : Expr} {ys : List Expr} {a' : E} {np pos kp : Pos} {kk : Nat} (G : Gd ws cf cx X) (hb : blB cx "isinstance" = true) (ha : PE X a (tE ws cf W n a')) (hs : noStar a = true) (ht : ckTys cx ts ys = true) (hl : ys.length ≤ 100) :
    PE X (.Call (.Name "isinstance" np) [a, .Tuple ys kk kp] [] pos) (tE ws cf W n (.prim (.inst ts) [a'])) := by
  obtain ⟨g1, g2, g3⟩ := G.blt hb
  obtain ⟨h1, h2⟩ := ckTys_ok G ht
  refine PE.imp (pe_callB (cr_instT G.g ts) g1 g2 boot_isinstance (pa_cons ha (pa_cons (pe_tup h1) pa_nil rfl) (star_cons hs)) (by decide) g3 (star_cons hs) (PlainEs.cons (e := .Tuple ys kk kp) rfl .nil).any) fun σ H Q q => ?_
  refine tE_mono (tEs_one (tE_prim q)) fun x H1 k => ⟨by rw [List.length_map, h2]; exact Nat.le_trans hl (by decide), fun p hp => ⟨x, p, rfl, upd_same, rP_alloc k hp⟩⟩
/-! ### methods of lists -/
theorem rcv_cases {p : Pr} {x : D} (h : rcv p x = true) : (∃ k, x = .lr k) ∨ (∃ xs, x = .kl xs) ∨ (∃ xs, x = .il xs) := by
  unfold rcv at h
  split at h <;> first | exact .inl ⟨_, rfl⟩ | exact .inr (.inl ⟨_, rfl⟩) | exact .inr (.inr ⟨_, rfl⟩) | cases h
theorem tE_meth {p : Pr} {o : E} {es : List E} {σ : L2.St} {H : Hp} {Q : VK} (h : tE ws cf W n (.meth p o es) σ H Q) : tE ws cf W n o σ H fun x H1 => tyV ws.K "list" x H1 ∧ tEs ws cf W n es σ H1 fun vs H2 => rP ws p (x :: vs) H2 Q := by
  obtain ⟨ρ, st, m, hρ, r, hl, h⟩ := h
  unfold evE at h
  refine tE_bind hρ r hl h fun x st1 m1 H1 v _ s1 r1 hρ1 q1 h1 => ?_
  split at h1
  · rename_i hr
    have sq : ∀ {xs : List D}, lstOf st1 x = some xs → tyV ws.K "list" v H1 := fun e => by
      obtain ⟨p, vs, rfl, z, _⟩ := lst_ok r1 q1.1 e
      exact .inl ⟨rfl, vs, z⟩
    have hz : notl x = true ∧ ∃ a, v = .ref a ∧ tyV ws.K "list" v H1 := by
      have h2 := q1.1
      rcases rcv_cases hr with ⟨k, rfl⟩ | ⟨xs, rfl⟩ | ⟨xs, rfl⟩
      · cases h2 with
        | lr e =>
          have hk := (List.getElem?_eq_some_iff.mp e).1
          rw [r1.len] at hk
          refine ⟨rfl, _, rfl, ?_⟩
          cases ho : st1[k] with
          | lst xs => exact sq (xs := xs) (by simp only [lstOf, List.getElem?_eq_getElem hk, ho])
      · obtain ⟨p, vs, rfl, z, _⟩ := lst_ok r1 h2 (xs := xs) rfl
        exact ⟨rfl, _, rfl, .inl ⟨rfl, vs, z⟩⟩
      · obtain ⟨p, vs, rfl, z, _⟩ := lst_ok r1 h2 (xs := xs) rfl
        exact ⟨rfl, _, rfl, .inl ⟨rfl, vs, z⟩⟩
    obtain ⟨hz1, a, rfl, hz2⟩ := hz
    refine ⟨hz2, ?_⟩
    refine ⟨ρ, st1, m1, hρ1, r1, hl, ?_⟩
    refine Aft.bind (Aft.shift h1 s1 fun _ _ _ _ h => RD.back s1 h) fun ds st2 m2 H2 vs _ s2 r2 q2 h2 => ?_
    exact aft_prim s2 r2 (RA.cons ⟨q1.1, fr_of hz1⟩ s2 (fun _ h => h) q2) h2
  · exact h1.elim
theorem pe_meth0 {p : Pr} {o : Expr} {o' : E} {m : Str} {apos pos : Pos} (G : Gd ws cf cx X) (hm : mtN p = some m) (hl : (apos.endLine == pos.line) = true) (hc : noCall o = true) (ho : PE X o (tE ws cf W n o')) :
    PE X (.Call (.Attribute o m apos) [] [] pos) (tE ws cf W n (.meth p o' [])) := by
  have go : ∀ {m : Str} {id : String} {r : V → List V → Hp → VK → Prop}, Slot "list" m id → typeOf (.builtin id) = pure (.type "method_descriptor") → MtR X id r → (∀ x H Q, rP ws p [x] H Q → r x [] H Q) →
      PE X (.Call (.Attribute o m apos) [] [] pos) (tE ws cf W n (.meth p o' [])) := fun sl ty mt f =>
    PE.imp (pe_bm0 PySem.F.plainAttrs_list sl ty mt ho (attr_base hc _) hl) fun σ H Q q => tE_mono (tE_meth q) fun x H1 k => ⟨by rw [G.g.K]; exact k.1, f _ _ _ (tEs_nil k.2)⟩
  cases p
  case append => cases hm; exact go PySem.F.slot_list_append PySem.F.type_list_append mt_appendM fun x H Q k => k
  case pop0 => cases hm; exact go PySem.F.slot_list_pop PySem.F.type_list_pop mt_pop0 fun x H Q k => ⟨rfl, k⟩
  case pop1 =>
    cases hm
    exact go PySem.F.slot_list_pop PySem.F.type_list_pop (mt_pop0 (ws := ws)) fun x H Q k => by
      obtain ⟨H0, m0, m, st, ds, d, st', s, r, a, e, k⟩ := k
      obtain ⟨a, rfl, ha⟩ := a.as.one
      simp only [semP, sem1] at e
      cases e
  case extend => cases hm; exact go PySem.F.slot_list_extend PySem.F.type_list_extend mt_extendM fun x H Q k => k
  case count => cases hm; exact go PySem.F.slot_list_count PySem.F.type_list_count (mt_countM G.g) fun x H Q k => k
  all_goals cases hm
theorem pe_meth {p : Pr} {o e : Expr} {es : List Expr} {o' : E} {es' : List E} {m : Str} {apos pos : Pos} (G : Gd ws cf cx X) (hm : mtN p = some m) (hl : (apos.endLine == pos.line) = true) (hc : noCall o = true) (ho : PE X o (tE ws cf W n o')) (ha : PA X (e :: es) (tEs ws cf W n es')) (hs : PlainEs (e :: es)) (hn : (e :: es).length ≤ 10) :
    PE X (.Call (.Attribute o m apos) (e :: es) [] pos) (tE ws cf W n (.meth p o' es')) := by
  have hfew : ((backTo pos (starEach (e :: es) X.env)).all (fun x => !x.1) && (backToKw pos (keywordEach [] X.env)).all (fun x => x.1.isSome)
      && decide ((e :: es).length + ([] : List Keyword).length + (if ([] : List Keyword).isEmpty then 0 else 1) < 30)) = true := by
    rw [hs.all]
    simp only [Bool.true_and, Bool.and_eq_true]
    exact ⟨rfl, decide_eq_true (by simp only [List.length_nil, List.isEmpty_nil, if_true]; omega)⟩
  cases hs with
  | cons h1 h2 =>
    have go : ∀ {m : Str} {id : String} {r : V → List V → Hp → VK → Prop}, Slot "list" m id → typeOf (.builtin id) = pure (.type "method_descriptor") → MtR X id r → (∀ x xs H Q, rP ws p (x :: xs) H Q → r x xs H Q) →
        PE X (.Call (.Attribute o m apos) (e :: es) [] pos) (tE ws cf W n (.meth p o' es')) := fun sl ty mt f =>
      PE.imp (pe_bm PySem.F.plainAttrs_list sl ty mt ho ha (attr_base hc _) hfew hl (star_cons h1) h2.any) fun σ H Q q => tE_mono (tE_meth q) fun x H1 k => ⟨by rw [G.g.K]; exact k.1, by
        obtain ⟨ρ, st, m, hρ, r, hl, h⟩ := k.2
        exact ⟨ρ, st, m, hρ, r, hl, h.imp fun vs H' k => f _ _ _ _ k⟩⟩
    cases p
    case append => cases hm; exact go PySem.F.slot_list_append PySem.F.type_list_append mt_appendM fun x xs H Q k => k
    case pop0 =>
      cases hm
      exact go PySem.F.slot_list_pop PySem.F.type_list_pop mt_pop0 fun x xs H Q k => by
        obtain ⟨H0, m0, m, st, ds, d, st', s, r, a, e, k'⟩ := id k
        cases ds with
        | nil => cases e
        | cons a1 t =>
          cases t with
          | nil =>
            obtain ⟨a, b⟩ := a
            cases a with
            | cons _ t => cases t; exact ⟨rfl, k⟩
          | cons b t =>
            cases t with
            | nil => simp only [semP, sem2] at e; cases a1 <;> cases b <;> first | cases e | (simp only [semI] at e; cases e)
            | cons _ _ => cases e
    case pop1 =>
      cases hm
      exact go PySem.F.slot_list_pop PySem.F.type_list_pop mt_pop1 fun x xs H Q k => by
        obtain ⟨H0, m0, m, st, ds, d, st', s, r, a, e, k'⟩ := id k
        cases ds with
        | nil => cases e
        | cons a1 t =>
          cases t with
          | nil => simp only [semP, sem1] at e; cases e
          | cons b t =>
            cases t with
            | nil =>
              obtain ⟨a, b⟩ := a
              cases a with
              | cons _ t =>
                cases t with
                | cons _ t => cases t; exact ⟨_, rfl, k⟩
            | cons _ _ => cases e
    case extend => cases hm; exact go PySem.F.slot_list_extend PySem.F.type_list_extend mt_extendM fun x xs H Q k => k
    case count => cases hm; exact go PySem.F.slot_list_count PySem.F.type_list_count (mt_countM G.g) fun x xs H Q k => k
    all_goals cases hm
end
end Mn
/-! Mn13: the check is sound: the walk over expressions. -/
namespace Mn
open PySem PySem.Spec PyProof.Rows L2
structure Snd (ws : Ws) (cf : Cf) (n : Nat) : Prop where
  e : ∀ {cx : Cc} {X : Cx} {W : WX} {e' : E} {e : Expr}, Gd ws cf cx X → Takes X W → ckE n cx e' e = true → PE X e (tE ws cf W cx.N.length e')
  es : ∀ {cx : Cc} {X : Cx} {W : WX} {es' : List E} {es : List Expr}, Gd ws cf cx X → Takes X W → ckEs n cx es' es = true → PA X es (tEs ws cf W cx.N.length es') ∧ PlainEs es ∧ es'.length = es.length
  cmp : ∀ {cx : Cc} {X : Cx} {W : WX} {e' : E} {e : Expr}, Gd ws cf cx X → Takes X W → ckCmp n cx e' e = true → PE X e (tE ws cf W cx.N.length e') ∧ PT X e (tT ws cf W cx.N.length e')
  and : ∀ {cx : Cc} {X : Cx} {W : WX} {a b : E} {vs : List Expr} {pos : Pos}, Gd ws cf cx X → Takes X W → ckAnd n cx a b vs = true → PE X (.BoolOp .And vs pos) (tE ws cf W cx.N.length (.and a b))
  or : ∀ {cx : Cc} {X : Cx} {W : WX} {a b : E} {vs : List Expr} {pos : Pos}, Gd ws cf cx X → Takes X W → ckOr n cx a b vs = true → PE X (.BoolOp .Or vs pos) (tE ws cf W cx.N.length (.or a b))
  t : ∀ {cx : Cc} {X : Cx} {W : WX} {e' : E} {e : Expr}, Gd ws cf cx X → Takes X W → ckT n cx e' e = true → PT X e (tT ws cf W cx.N.length e')
  andT : ∀ {cx : Cc} {X : Cx} {W : WX} {a b : E} {vs : List Expr} {pos : Pos}, Gd ws cf cx X → Takes X W → ckAndT n cx a b vs = true → PW X (.BoolOp .And vs pos) (tT ws cf W cx.N.length (.and a b))
  orT : ∀ {cx : Cc} {X : Cx} {W : WX} {a b : E} {vs : List Expr} {pos : Pos}, Gd ws cf cx X → Takes X W → ckOrT n cx a b vs = true → PW X (.BoolOp .Or vs pos) (tT ws cf W cx.N.length (.or a b))
  cs : ∀ {cx : Cc} {X : Cx} {cs' : List E} {cs : List Expr}, Gd ws cf cx X → Takes X W0 → ckCs n cx cs' cs = true → PTs X cs (tCs ws cf cx.N.length cs')
  tg : ∀ {cx : Cc} {X : Cx} {W : WX} {t' : Tg} {t : Expr}, Gd ws cf cx X → Takes X W → ckTg n cx t' t = true → PG X t (gT ws cf W cx.N.length t')
  tgs : ∀ {cx : Cc} {X : Cx} {W : WX} {ts' : List Tg} {ts : List Expr}, Gd ws cf cx X → Takes X W → ckTgs n cx ts' ts = true → PGs X ts (gTs ws cf W cx.N.length ts') ∧ PlainEs ts ∧ ts'.length = ts.length
  src : ∀ {cx : Cc} {X : Cx} {W : WX} {s' : Src} {t e : Expr}, Gd ws cf cx X → Takes X W → ckSrc n cx s' t e = true → PI X t e (iS ws cf W cx.N.length s')
section
variable {ws : Ws} {cf : Cf} {cx : Cc} {X : Cx} {W : WX} {n : Nat}
theorem PG.imp' {X : Cx} {e : Expr} {t u : TG} (h : PG X e t) (k : ∀ v σ H Q, u v σ H Q → t v σ H Q) : PG X e u := PG.imp h k
theorem PG.or {X : Cx} {e : Expr} {t u : TG} (h : PG X e t) (k : PG X e u) : PG X e (fun v σ H Q => t v σ H Q ∨ u v σ H Q) := ⟨fun pins s σ H v w Q I r q => by
  rcases q with q | q
  · exact h.run pins s σ H v w Q I r q
  · exact k.run pins s σ H v w Q I r q⟩
theorem PGs.imp {X : Cx} {e : List Expr} {t u : TGs} (h : PGs X e t) (k : ∀ v σ H Q, u v σ H Q → t v σ H Q) : PGs X e u := ⟨fun pins s σ H v w Q I r q => h.run pins s σ H v w Q I r (k _ _ _ _ q)⟩
theorem PTs.imp {X : Cx} {e : List Expr} {t u : TT} (h : PTs X e t) (k : ∀ σ H Q, u σ H Q → t σ H Q) : PTs X e u := ⟨fun pins s σ H Q I q => h.run pins s σ H Q I (k _ _ _ q)⟩
theorem subL_ok {a b : List Nat} (h : subL a b = true) : ∀ i ∈ a, i ∈ b := fun i hi => by
  unfold subL at h
  have := List.all_eq_true.mp h i hi
  simpa using this
theorem ownOf_map (N : List Str) (own : List Nat) : (ownOf N own).map (·.2) = own := by
  unfold ownOf
  rw [List.map_map]
  exact List.map_id _
theorem snd_e (S : Snd ws cf n) {e' : E} {e : Expr} (G : Gd ws cf cx X) (tk : Takes X W) (h : ckE (n + 1) cx e' e = true) : PE X e (tE ws cf W cx.N.length e') := by
  have hpx : X.N.Nodup := by rw [G.N]; exact G.nd
  cases e' with
  | var i =>
    simp only [ckE] at h
    split at h
    · obtain ⟨h1, h2, h3, h4⟩ := G.loc h
      exact PE.imp (pe_var h1 h2 h3 h4) fun σ H Q q => tE_var q
    · cases h
  | cst d =>
    simp only [ckE] at h
    split at h
    · obtain ⟨v, h1, h2, h3⟩ := ckC_ok (ws := ws) (X := X) h
      exact PE.imp h1 fun σ H Q q => tE_cst h2 h3 q
    · rename_i x _
      rw [Bool.and_eq_true] at h
      obtain ⟨g1, g2⟩ := G.glob h.1
      have hh := h.2
      split at hh
      · rename_i g
        obtain ⟨m1, _⟩ := G.fns g x (of_decide_eq_true hh)
        exact PE.imp (pe_glob g1 m1 (v := .ref (ws.fa g)) rfl g2) fun σ H Q q => tE_cst (fun _ _ => .fn g) rfl q
      · split at hh
        · rename_i d' e1
          have := beqD_ok hh
          subst this
          obtain ⟨u, v, m1, r, k1, k2⟩ := G.con x _ e1
          exact PE.imp (pe_glob g1 m1 r g2) fun σ H Q q => tE_cst k1 k2 q
        · cases hh
    · cases h
  | tupE es =>
    simp only [ckE] at h
    split at h
    · rw [Bool.and_eq_true] at h
      obtain ⟨h1, _⟩ := S.es G tk h.2
      exact PE.imp (pe_tup h1) fun σ H Q q => tE_tup (Nat.le_of_ble_eq_true h.1) q
    · cases h
  | lstE es =>
    simp only [ckE] at h
    split at h
    · rw [Bool.and_eq_true] at h
      obtain ⟨h1, _⟩ := S.es G tk h.2
      exact PE.imp (pe_lst h1) fun σ H Q q => tE_lst (Nat.le_of_ble_eq_true h.1) q
    · cases h
  | prim p es =>
    simp only [ckE] at h
    split at h
    · -- BinOp
      split at h
      · simp only [Bool.and_eq_true] at h
        obtain ⟨⟨h1, h2⟩, h3⟩ := h
        exact PE.imp (pe_op (binX_ok h1 G.g) (S.e G tk h2) (S.e G tk h3)) fun σ H Q q => tE_op q
      · cases h
    · exact (S.cmp G tk h).1
    · -- UnaryOp
      split at h
      · exact PE.imp (pe_un un_negM (S.e G tk h)) fun σ H Q q => tEs_one (tE_prim q)
      · cases h
    · -- Subscript
      split at h
      · split at h
        · exact PE.imp (pe_revA (S.e G tk h)) fun σ H Q q => tE_rev G.g.K q
        · cases h
      · split at h
        · exact PE.imp (pe_slice (sl_any G.g) (S.e G tk h) po_none po_none) fun σ H Q q => tE_sl00 q
        · rw [Bool.and_eq_true] at h
          exact PE.imp (pe_slice (sl_any G.g) (S.e G tk h.1) (po_some (S.e G tk h.2)) po_none) fun σ H Q q => tE_sl10 q
        · rw [Bool.and_eq_true] at h
          exact PE.imp (pe_slice (sl_any G.g) (S.e G tk h.1) po_none (po_some (S.e G tk h.2))) fun σ H Q q => tE_sl01 q
        · cases h
      · split at h
        · simp only [Bool.and_eq_true] at h
          obtain ⟨⟨h1, h2⟩, h3⟩ := h
          exact PE.imp (pe_ix (ix_any G.g) (S.e G tk h2) (S.e G tk h3) (plainIx h1)) fun σ H Q q => tE_op q
        · cases h
    · -- Call
      rw [Bool.and_eq_true] at h
      obtain ⟨hb, h⟩ := h
      split at h
      · split at h
        · simp only [Bool.and_eq_true] at h
          obtain ⟨⟨⟨h1, h2⟩, h3⟩, h4⟩ := h
          have h1 := of_decide_eq_true h1
          subst h1
          split at h4
          · rw [Bool.and_eq_true] at h4
            exact pe_instT G hb (S.e G tk h3) h2 h4.1 (Nat.le_of_ble_eq_true h4.2)
          · split at h4
            · exact pe_inst1 G hb (S.e G tk h3) h2 h4
            · cases h4
        · cases h
      · rw [Bool.and_eq_true] at h
        obtain ⟨h1, h2⟩ := h
        have h1 := of_decide_eq_true h1
        obtain ⟨h3, h4, h5⟩ := S.es G tk (W := W) h2
        cases h4 with
        | nil =>
          have : es = [] := List.eq_nil_of_length_eq_zero h5
          subst this
          refine PE.imp (t := fun _ _ _ => False) ⟨fun _ _ _ _ _ _ z => z.elim⟩ fun σ H Q q => ?_
          obtain ⟨ρ, st, m, hρ, r, hl, q⟩ := q
          unfold evE evEs at q
          exact q.elim
        | cons s1 s2 => exact pe_blN h1 G hb h3 (.cons s1 s2)
    · cases h
  | frz e1 =>
    simp only [ckE] at h
    exact PE.imp (pe_frz (S.e G tk h)) fun σ H Q q => tE_frz q
  | calle f es =>
    simp only [ckE] at h
    split at h
    · rename_i v ix p args pos
      simp only [Bool.and_eq_true] at h
      obtain ⟨h1, h2⟩ := h
      have hf := S.e G tk (W := W) h1
      obtain ⟨k1, k2, k3⟩ := S.es G tk (W := W) h2
      refine ⟨fun pins s σ H Q I q => ?_⟩
      rw [eval_callS]
      refine wpAny_bind (thn (hf.run pins s σ H _ I (tE_calle q)) fun u s1 ⟨v1, H1, I1, r1, g, hg, e1, ht⟩ => ?_)
      subst e1
      cases r1
      obtain ⟨y, hy⟩ := G.nf g hg
      obtain ⟨m1, m2, k, fd, ps, F, R, B⟩ := G.fns g y hy
      cases args with
      | nil =>
        have : es = [] := List.eq_nil_of_length_eq_zero k3
        subst this
        exact PySem.W.callWith_K0 I1.kIn m2 (run_fnS (us := []) (vs := []) F R B (passAt tk σ) I1 .nil (tEs_nil ht))
      | cons a as =>
        cases k2 with
        | cons s1' s2' => exact PySem.W.callWith_K (h₀ := X.base) I.ok.mod.kin m2 (thn (k1.run pos pins s1 σ _ _ I1 ht) fun us s2 ⟨vs, H2, I2, r, q⟩ => ⟨I2.kIn, run_fnS F R B (passAt tk σ) I2 r q⟩) (star_cons s1') s2'.any
    · cases h
  | rngL t es =>
    simp only [ckE] at h
    split at h
    · rename_i x p y p2 args pos2 pos
      simp only [Bool.and_eq_true] at h
      obtain ⟨⟨⟨⟨h1, h2⟩, h3⟩, h4⟩, h5⟩ := h
      have h1 := of_decide_eq_true h1
      have h3 := of_decide_eq_true h3
      subst h3
      obtain ⟨a1, a2, a3⟩ := G.blt h2
      obtain ⟨b1, b2, b3⟩ := G.blt h4
      split at h5
      · rename_i a a'
        rw [Bool.and_eq_true] at h5
        have hp := prg_1 (p := p2) (pos := pos2) b1 b2 (S.e G tk (W := W) h5.2) (star_cons h5.1)
        cases t with
        | true =>
          subst h1
          exact PE.imp (pe_tupRg G.g.calm a1 a2 hp) fun σ H Q q => tE_rg1 q
        | false =>
          subst h1
          exact PE.imp (pe_listRg G.g.calm a1 a2 hp) fun σ H Q q => tE_rg1 q
      · rename_i a b a' b'
        simp only [Bool.and_eq_true] at h5
        obtain ⟨⟨⟨h6, h7⟩, h8⟩, h9⟩ := h5
        have hp := prg_2 (p := p2) (pos := pos2) b1 b2 (S.e G tk (W := W) h8) (S.e G tk (W := W) h9) (star_cons h6) (star_cons h7) (PlainEs.cons h7 .nil).any
        cases t with
        | true =>
          subst h1
          exact PE.imp (pe_tupRg G.g.calm a1 a2 hp) fun σ H Q q => tE_rg2 q
        | false =>
          subst h1
          exact PE.imp (pe_listRg G.g.calm a1 a2 hp) fun σ H Q q => tE_rg2 q
      · cases h5
    · cases h
  | meth p o es =>
    simp only [ckE] at h
    split at h
    · rename_i ov m apos args pos
      simp only [Bool.and_eq_true] at h
      obtain ⟨⟨⟨⟨⟨h1, h2⟩, h3⟩, h4⟩, h5⟩, h6⟩ := h
      obtain ⟨k1, k2, k3⟩ := S.es G tk (W := W) h6
      cases args with
      | nil =>
        have : es = [] := List.eq_nil_of_length_eq_zero k3
        subst this
        exact pe_meth0 G (of_decide_eq_true h1) h2 h4 (S.e G tk h5)
      | cons a as => exact pe_meth G (of_decide_eq_true h1) h2 h4 (S.e G tk h5) k1 k2 (Nat.le_of_ble_eq_true h3)
    · cases h
  | and a b =>
    simp only [ckE] at h
    split at h
    · exact S.and G tk h
    · cases h
  | or a b =>
    simp only [ckE] at h
    split at h
    · exact S.or G tk h
    · cases h
  | not a =>
    simp only [ckE] at h
    split at h
    · exact PE.imp (pe_not (S.e G tk h)) fun σ H Q q => tE_not q
    · cases h
  | ite c a b =>
    simp only [ckE] at h
    split at h
    · simp only [Bool.and_eq_true] at h
      exact PE.imp (pe_ifExp (S.t G tk h.1.1) (S.e G tk h.1.2) (S.e G tk h.2)) fun σ H Q q => tE_ite q
    · cases h
  | chain p q a b c =>
    simp only [ckE] at h
    exact (S.cmp G tk h).1
  | sl3 a b c =>
    simp only [ckE] at h
    split at h
    · simp only [Bool.and_eq_true] at h
      exact PE.imp (pe_slice (sl_any G.g) (S.e G tk h.1.1) (po_some (S.e G tk h.1.2)) (po_some (S.e G tk h.2))) fun σ H Q q => tE_sl11 q
    · cases h
  | call g es =>
    simp only [ckE] at h
    split at h
    · rename_i x _ args pos
      simp only [Bool.and_eq_true] at h
      obtain ⟨⟨h1, h2⟩, h3⟩ := h
      obtain ⟨g1, g2⟩ := G.glob h1
      obtain ⟨m1, m2, k, fd, ps, F, R, B⟩ := G.fns g x (of_decide_eq_true h2)
      obtain ⟨k1, k2, k3⟩ := S.es G tk (W := W) h3
      cases args with
      | nil =>
        have : es = [] := List.eq_nil_of_length_eq_zero k3
        subst this
        refine ⟨fun pins s σ H Q I q => ?_⟩
        refine wpAny_Call_Name_kw (ld_glob I g1 m1 ?_ g2)
        exact PySem.W.callWith_K0 I.kIn m2 (run_fnS (us := []) (vs := []) F R B (passAt tk σ) I .nil (tEs_nil (tE_call q)))
      | cons a as =>
        cases k2 with
        | cons s1 s2 => exact PE.imp (pe_callS F R g1 m1 m2 B (passAt tk) k1 g2 (star_cons s1) s2.any) fun σ H Q q => tE_call q
    · cases h
  | callv i es =>
    simp only [ckE] at h
    split at h
    · rename_i x np args pos
      simp only [Bool.and_eq_true] at h
      obtain ⟨h1, h2⟩ := h
      obtain ⟨l1, l2, l3, l4⟩ := G.loc h1
      obtain ⟨k1, k2, k3⟩ := S.es G tk (W := W) h2
      refine ⟨fun pins s σ H Q I q => ?_⟩
      obtain ⟨g, hg, hs, ht⟩ := tE_callv q
      obtain ⟨y, hy⟩ := G.nf g hg
      obtain ⟨m1, m2, k, fd, ps, F, R, B⟩ := G.fns g y hy
      refine wpAny_Call_Name_kw (thn ((pe_var (pos := np) l1 l2 l3 l4).run pins s σ H (fun v H1 => v = .ref (ws.fa g) ∧ H1 = H) I ⟨.ref (ws.fa g), hs, rfl, rfl⟩) fun u s1 ⟨v, H1, I1, r1, q1⟩ => ?_)
      obtain ⟨rfl, rfl⟩ := q1
      cases r1
      cases args with
      | nil =>
        have : es = [] := List.eq_nil_of_length_eq_zero k3
        subst this
        exact PySem.W.callWith_K0 I1.kIn m2 (run_fnS (us := []) (vs := []) F R B (passAt tk σ) I1 .nil (tEs_nil ht))
      | cons a as =>
        cases k2 with
        | cons s1' s2' => exact PySem.W.callWith_K (h₀ := X.base) I.ok.mod.kin m2 (thn (k1.run pos pins s1 σ _ _ I1 ht) fun us s2 ⟨vs, H2, I2, r, q⟩ => ⟨I2.kIn, run_fnS F R B (passAt tk σ) I2 r q⟩) (star_cons s1') s2'.any
    · cases h
  | comp elt tg src cs own =>
    simp only [ckE] at h
    split at h
    · rename_i x t it ifs k scope pos
      simp only [Bool.and_eq_true] at h
      obtain ⟨⟨⟨⟨⟨⟨⟨h1, h2⟩, h3⟩, h4⟩, h5⟩, h6⟩, h7⟩, h8⟩ := h
      have h1 := of_decide_eq_true h1
      subst h1
      have ok : BlkOk X.N X.env.scope scope (ownOf cx.N own) := by rw [G.N, G.sc]; exact blkOk_by h2
      have G' := fun s H C cl fp => G.blk s H scope C cl fp ok.kind
      refine PE.imp (pe_lc (own := ownOf cx.N own) G.g.calm hpx (S.src G tk h5) ok (fun s H C cl fp => S.tg (G' s H C cl fp) takes0 h6) (fun s H C cl fp => S.cs (G' s H C cl fp) takes0 h7) (fun s H C cl fp => S.e (G' s H C cl fp) takes0 h8) (fold_set h4)) fun σ H Q q => ?_
      rw [ownOf_map]
      exact tE_comp (subL_ok h3) q
    · cases h
  | comp2 elt tg src cs tg1 src1 cs1 own own1 =>
    simp only [ckE] at h
    split at h
    · rename_i x t it ifs k t1 it1 ifs1 k1 scope pos
      simp only [Bool.and_eq_true] at h
      obtain ⟨⟨⟨⟨⟨⟨⟨⟨⟨⟨⟨⟨⟨⟨h1, h1'⟩, h2⟩, h3⟩, h3'⟩, h3''⟩, h4⟩, h4'⟩, h5⟩, h6⟩, h7⟩, h5'⟩, h6'⟩, h7'⟩, h8⟩ := h
      have h1 := of_decide_eq_true h1
      have h1' := of_decide_eq_true h1'
      subst h1
      subst h1'
      have ok : BlkOk X.N X.env.scope scope (ownOf cx.N own) := by rw [G.N, G.sc]; exact blkOk_by h2
      have G' := fun s H C cl fp => G.blk s H scope C cl fp ok.kind
      refine PE.imp (pe_lc2 (own := ownOf cx.N own) (vs1 := own1) G.g.calm hpx (S.src G tk h5) ok (by rw [ownOf_map]; exact subL_ok h3'') (fun s H C cl fp => S.tg (G' s H C cl fp) takes0 h6) (fun s H C cl fp => S.cs (G' s H C cl fp) takes0 h7)
        (fun s H C cl fp => S.src (G' s H C cl fp) takes0 h5') (fun s H C cl fp => S.tg (G' s H C cl fp) takes0 h6') (fun s H C cl fp => S.cs (G' s H C cl fp) takes0 h7') (fun s H C cl fp => S.e (G' s H C cl fp) takes0 h8) (fold_set h4) (fun env => fold_set h4')) fun σ H Q q => ?_
      rw [ownOf_map]
      exact tE_comp2 (subL_ok h3) (subL_ok h3') (subL_ok h3'') q
    · cases h
end
end Mn
/-! Mn14: the check is sound: all of expressions. -/
namespace Mn
open PySem PySem.Spec PyProof.Rows L2
section
variable {ws : Ws} {cf : Cf} {cx : Cc} {X : Cx} {W : WX} {n : Nat}
theorem snd_es (S : Snd ws cf n) {es' : List E} {es : List Expr} (G : Gd ws cf cx X) (tk : Takes X W) (h : ckEs (n + 1) cx es' es = true) : PA X es (tEs ws cf W cx.N.length es') ∧ PlainEs es ∧ es'.length = es.length := by
  simp only [ckEs] at h
  split at h
  · exact ⟨⟨fun pos pins s σ H Q I q => pa_nil.run pos pins s σ H Q I (tEs_nil q)⟩, .nil, rfl⟩
  · simp only [Bool.and_eq_true] at h
    obtain ⟨⟨h1, h2⟩, h3⟩ := h
    obtain ⟨k1, k2, k3⟩ := S.es G tk (W := W) h3
    exact ⟨PA.imp (pa_cons (S.e G tk h2) k1 (star_cons h1)) fun σ H Q q => tEs_cons q, .cons h1 k2, by rw [List.length_cons, List.length_cons, k3]⟩
  · cases h
theorem snd_cmp (S : Snd ws cf n) {e' : E} {e : Expr} (G : Gd ws cf cx X) (tk : Takes X W) (h : ckCmp (n + 1) cx e' e = true) : PE X e (tE ws cf W cx.N.length e') ∧ PT X e (tT ws cf W cx.N.length e') := by
  simp only [ckCmp] at h
  split at h
  · split at h
    · simp only [Bool.and_eq_true] at h
      obtain ⟨⟨⟨h1, h2⟩, h3⟩, h4⟩ := h
      exact ⟨PE.imp (pe_cmpR (cmpP_ok h1 G.g) (S.e G tk h3) (S.e G tk h4) (nomarkS h2)) fun σ H Q q => tE_op q, PT.imp (pt_cmpR (cmpP_ok h1 G.g) (S.e G tk h3) (S.e G tk h4) (nomarkS h2)) fun σ H Q q => tE_op (tT_val q)⟩
    · cases h
  · split at h
    · simp only [Bool.and_eq_true] at h
      obtain ⟨⟨⟨⟨⟨⟨h1, h2⟩, h3⟩, h4⟩, h5⟩, h6⟩, h7⟩ := h
      rename_i p q a' b' c' _ a o o1 b c pos
      have hm : lastMarks [o, o1] [b, c] = false := nomarkS h4
      exact ⟨PE.imp (pe_chain (cmpP_ok h2 G.g) (cmpP_ok h3 G.g) (S.e G tk h5) (S.e G tk h6) (S.e G tk h7) hm) fun σ H Q q => tE_chain h1 q, PT.imp (pt_chain (cmpP_ok h2 G.g) (cmpP_ok h3 G.g) (S.e G tk h5) (S.e G tk h6) (S.e G tk h7) hm) fun σ H Q q => tE_chain h1 (tT_val q)⟩
    · cases h
  · cases h
theorem snd_and (S : Snd ws cf n) {a b : E} {vs : List Expr} {pos : Pos} (G : Gd ws cf cx X) (tk : Takes X W) (h : ckAnd (n + 1) cx a b vs = true) : PE X (.BoolOp .And vs pos) (tE ws cf W cx.N.length (.and a b)) := by
  simp only [ckAnd] at h
  split at h
  · rw [Bool.and_eq_true] at h
    exact PE.imp (pe_and (S.e G tk h.1) (pe_one (S.e G tk h.2))) fun σ H Q q => tE_and q
  · rw [Bool.and_eq_true] at h
    obtain ⟨h1, h2⟩ := h
    split at h2
    · exact PE.imp (pe_and (S.e G tk h1) (S.and G tk h2)) fun σ H Q q => tE_and q
    · cases h2
  · cases h
theorem snd_or (S : Snd ws cf n) {a b : E} {vs : List Expr} {pos : Pos} (G : Gd ws cf cx X) (tk : Takes X W) (h : ckOr (n + 1) cx a b vs = true) : PE X (.BoolOp .Or vs pos) (tE ws cf W cx.N.length (.or a b)) := by
  simp only [ckOr] at h
  split at h
  · rw [Bool.and_eq_true] at h
    exact PE.imp (pe_or (S.e G tk h.1) (pe_one (S.e G tk h.2))) fun σ H Q q => tE_or q
  · rw [Bool.and_eq_true] at h
    obtain ⟨h1, h2⟩ := h
    split at h2
    · exact PE.imp (pe_or (S.e G tk h1) (S.or G tk h2)) fun σ H Q q => tE_or q
    · cases h2
  · cases h
theorem snd_andT (S : Snd ws cf n) {a b : E} {vs : List Expr} {pos : Pos} (G : Gd ws cf cx X) (tk : Takes X W) (h : ckAndT (n + 1) cx a b vs = true) : PW X (.BoolOp .And vs pos) (tT ws cf W cx.N.length (.and a b)) := by
  simp only [ckAndT] at h
  split at h
  · rw [Bool.and_eq_true] at h
    exact PW.imp (pw_and (S.t G tk h.1) (pw_and1 (S.t G tk h.2))) fun σ H Q q => tT_and q
  · rw [Bool.and_eq_true] at h
    obtain ⟨h1, h2⟩ := h
    split at h2
    · exact PW.imp (pw_and (S.t G tk h1) (S.andT G tk h2)) fun σ H Q q => tT_and q
    · cases h2
  · cases h
theorem snd_orT (S : Snd ws cf n) {a b : E} {vs : List Expr} {pos : Pos} (G : Gd ws cf cx X) (tk : Takes X W) (h : ckOrT (n + 1) cx a b vs = true) : PW X (.BoolOp .Or vs pos) (tT ws cf W cx.N.length (.or a b)) := by
  simp only [ckOrT] at h
  split at h
  · rw [Bool.and_eq_true] at h
    exact PW.imp (pw_or (S.t G tk h.1) (pw_or1 (S.t G tk h.2))) fun σ H Q q => tT_or q
  · rw [Bool.and_eq_true] at h
    obtain ⟨h1, h2⟩ := h
    split at h2
    · exact PW.imp (pw_or (S.t G tk h1) (S.orT G tk h2)) fun σ H Q q => tT_or q
    · cases h2
  · cases h
theorem snd_t (S : Snd ws cf n) {e' : E} {e : Expr} (G : Gd ws cf cx X) (tk : Takes X W) (h : ckT (n + 1) cx e' e = true) : PT X e (tT ws cf W cx.N.length e') := by
  simp only [ckT] at h
  split at h
  · exact (S.cmp G tk h).2
  · split at h
    · exact PT.imp (pt_not (S.t G tk h)) fun σ H Q q => tT_not q
    · cases h
  · split at h
    · exact (S.andT G tk h).pt
    · cases h
  · split at h
    · exact (S.orT G tk h).pt
    · cases h
  · rw [Bool.and_eq_true] at h
    exact PT.imp (pt_val (S.e G tk h.2) (plain_test h.1)) fun σ H Q q => tT_val q
theorem snd_cs (S : Snd ws cf n) {cs' : List E} {cs : List Expr} (G : Gd ws cf cx X) (tk : Takes X W0) (h : ckCs (n + 1) cx cs' cs = true) : PTs X cs (tCs ws cf cx.N.length cs') := by
  simp only [ckCs] at h
  split at h
  · refine PTs.imp pts_nil fun σ H Q q => ?_
    obtain ⟨ρ, st, m, hρ, r, hl, q⟩ := q
    unfold evCs at q
    exact q m H true (Step.refl _ _) r rfl
  · refine PTs.imp (pts_one (S.t G tk h)) fun σ H Q q => ?_
    obtain ⟨ρ, st, m, hρ, r, hl, q⟩ := q
    unfold evCs at q
    exact ⟨ρ, st, m, hρ, r, hl, q⟩
  · cases h
theorem snd_tg (S : Snd ws cf n) {t' : Tg} {t : Expr} (G : Gd ws cf cx X) (tk : Takes X W) (h : ckTg (n + 1) cx t' t = true) : PG X t (gT ws cf W cx.N.length t') := by
  simp only [ckTg] at h
  split at h
  · split at h
    · obtain ⟨h1, h2, h3⟩ := G.sto h
      exact PG.imp (pg_name (by rw [G.N]; exact G.nd) h1 h2 h3) fun v σ H Q q => gT_nm q
    · cases h
  · split at h
    · obtain ⟨k1, k2, k3⟩ := S.tgs G tk (W := W) h
      refine PG.imp (PG.or (pg_tup G.g.calm k1 (by rw [asg_len, ← k3]) k2.find) (pg_lst G.g.calm k1 (by rw [asg_len, ← k3]) k2.find)) fun v σ H Q q => ?_
      rw [G.g.K]
      exact gT_tp q
    · cases h
  · split at h
    · simp only [Bool.and_eq_true] at h
      obtain ⟨⟨h1, h2⟩, h3⟩ := h
      exact PG.imp (pg_sub (S.e G tk h2) (S.e G tk h3) set_any (asg_sub h1)) fun v σ H Q q => gT_sb q
    · cases h
theorem snd_tgs (S : Snd ws cf n) {ts' : List Tg} {ts : List Expr} (G : Gd ws cf cx X) (tk : Takes X W) (h : ckTgs (n + 1) cx ts' ts = true) : PGs X ts (gTs ws cf W cx.N.length ts') ∧ PlainEs ts ∧ ts'.length = ts.length := by
  simp only [ckTgs] at h
  split at h
  · exact ⟨PGs.imp pgs_nil fun v σ H Q q => gTs_nil q, .nil, rfl⟩
  · simp only [Bool.and_eq_true] at h
    obtain ⟨⟨h1, h2⟩, h3⟩ := h
    obtain ⟨k1, k2, k3⟩ := S.tgs G tk (W := W) h3
    refine ⟨PGs.imp (pgs_cons (S.tg G tk h2) k1 ?_) fun v σ H Q q => gTs_cons q, .cons h1 k2, by rw [List.length_cons, List.length_cons, k3]⟩
    rw [asg_cons h1]
    rfl
  · cases h
theorem snd_src (S : Snd ws cf n) {s' : Src} {t e : Expr} (G : Gd ws cf cx X) (tk : Takes X W) (h : ckSrc (n + 1) cx s' t e = true) : PI X t e (iS ws cf W cx.N.length s') := by
  simp only [ckSrc] at h
  split at h
  · exact iS_ex G.g.K (S.e G tk h)
  · split at h
    · rename_i es _ x np args pos
      simp only [Bool.and_eq_true] at h
      obtain ⟨⟨⟨⟨h1, h2⟩, h3⟩, h4⟩, h5⟩ := h
      have h1 := of_decide_eq_true h1
      subst h1
      obtain ⟨g1, g2, g3⟩ := G.blt h2
      obtain ⟨k1, k2, k3⟩ := S.es G tk (W := W) h5
      match args, es, k1, k2, k3, h3, h4 with
      | [a], [a'], k1, .cons s1 .nil, _, _, _ => exact iS_rng1 g1 g2 k1 (star_cons s1)
      | [a, b], [a', b'], k1, .cons s1 (.cons s2 .nil), _, _, _ => exact iS_rng2 g1 g2 k1 (by rw [star_cons s1, star_cons s2]; rfl) (star_cons s2)
      | [a, b, c], [a', b', c'], k1, .cons s1 s2, _, _, _ => exact iS_rng3 g1 g2 k1 (star_cons s1) s2.any
      | _ :: _ :: _ :: _ :: _, _, _, _, _, _, h4 => simp [Nat.ble] at h4
    · cases h
  · split at h
    · simp only [Bool.and_eq_true] at h
      obtain ⟨⟨h1, h2⟩, h3⟩ := h
      have h1 := of_decide_eq_true h1
      subst h1
      obtain ⟨g1, g2, g3⟩ := G.blt h2
      obtain ⟨k1, k2, k3⟩ := S.es G tk (W := W) h3
      cases k2 with
      | cons s1 s2 => exact iS_enu G.g.K g1 g2 k1 (star_cons s1)
    · cases h
  · split at h
    · simp only [Bool.and_eq_true] at h
      obtain ⟨⟨h1, h2⟩, h3⟩ := h
      have h1 := of_decide_eq_true h1
      subst h1
      obtain ⟨g1, g2, g3⟩ := G.blt h2
      obtain ⟨k1, k2, k3⟩ := S.es G tk (W := W) h3
      cases k2 with
      | cons s1 s2 => exact iS_zip G.g.K g1 g2 k1 (star_cons s1) s2.any
    · cases h
end
theorem snd (ws : Ws) (cf : Cf) : ∀ n, Snd ws cf n
  | 0 => ⟨fun _ _ h => (by simp [ckE] at h), fun _ _ h => (by simp [ckEs] at h), fun _ _ h => (by simp [ckCmp] at h), fun _ _ h => (by simp [ckAnd] at h), fun _ _ h => (by simp [ckOr] at h), fun _ _ h => (by simp [ckT] at h), fun _ _ h => (by simp [ckAndT] at h),
      fun _ _ h => (by simp [ckOrT] at h), fun _ _ h => (by simp [ckCs] at h), fun _ _ h => (by simp [ckTg] at h), fun _ _ h => (by simp [ckTgs] at h), fun _ _ h => (by simp [ckSrc] at h)⟩
  | n + 1 =>
    have S := snd ws cf n
    ⟨snd_e S, snd_es S, snd_cmp S, snd_and S, snd_or S, snd_t S, snd_andT S, snd_orT S, snd_cs S, snd_tg S, snd_tgs S, snd_src S⟩
end Mn
/-! Mn15: the check is sound: statements. -/
namespace Mn
open PySem PySem.Spec PyProof.Rows L2
section
variable {ws : Ws} {cf : Cf} {cx : Cc} {X : Cx} {W : WX} {n : Nat}
theorem Gd.kindF (G : Gd ws cf cx X) : X.env.blockKind = .function := by
  unfold Env.blockKind
  rw [G.sc, G.kd]
  rfl
theorem Gd.sw (G : Gd ws cf cx X) {elt : Expr} {gs : List Comprehension} {s : Scope} {p pos : Pos} {t : Str} {l : Nat} : swapsWith (.ListComp elt gs s p) (some (.Name t pos)) l X.env = pure (swB cx (.ListComp elt gs s p) (.Name t pos)) := by
  unfold swapsWith swB
  have h2 : X.env.kindOf t = cx.sc.names.lookup t := by show X.env.scope.names.lookup t = _; rw [G.sc]
  simp only [G.kindF, h2, G.kd]
  rfl
theorem Gd.swS (G : Gd ws cf cx X) {ts vs : List Expr} {k k2 : Nat} {p p2 : Pos} {r : Option (List Str)} (h : Mn.swS cx.sc ts vs = some r) : swappedStores [.Tuple ts k p] (.Tuple vs k2 p2) X.env = pure r := by
  have hb : X.env.blockKind = bkS cx.sc := by unfold Env.blockKind bkS; rw [G.sc]
  have hn : ∀ t, X.env.kindOf t = cx.sc.names.lookup t := fun t => by show X.env.scope.names.lookup t = _; rw [G.sc]
  unfold swappedStores
  unfold Mn.swS at h
  simp only [hb, hn]
  split at h
  · rename_i h1
    cases h
    exact if_pos h1
  · rename_i h1
    refine (if_neg h1).trans ?_
    split at h
    · rename_i h2
      cases h
      exact if_pos h2
    · rename_i h2
      refine (if_neg h2).trans ?_
      dsimp only at h
      split at h
      · rename_i h3
        cases h
        exact if_pos h3
      · rename_i h3
        refine (if_neg h3).trans ?_
        split at h
        · rename_i h4
          cases h
          exact if_pos h4
        · rename_i h4
          refine (if_neg h4).trans ?_
          split at h
          · cases h
          · rename_i h5
            cases h
            exact if_neg h5
/-- a statement, then a list is locked -/
theorem ps_frz {st : Stmt} {t : TS} (h : PS X st t) : PS X st (fun D σ H => t ⟨fun σ' H' => D.nx σ' H' ∨ ∃ a vs, H' a = some (.lst vs) ∧ ∀ od, D.nx σ' (upd H' a (.frz od (.lst vs))), D.rt, D.bk, D.ct⟩ σ H) := ⟨fun pins s σ H D I q => by
  refine thn (h.run pins s σ H _ I q) fun f s1 z => ?_
  cases f with
  | next =>
    obtain ⟨σ', H', I1, z⟩ := z
    rcases z with z | ⟨a, vs, ha, z⟩
    · exact ⟨σ', H', I1, z⟩
    · obtain ⟨od, I2⟩ := I1.lock ha trivial
      exact ⟨σ', _, I2, z od⟩
  | brk => exact z
  | cont => exact z
  | ret u => exact z⟩
/-- name = [..] on one line -/
theorem snd_lcS {e' : E} {elt : Expr} {gs : List Comprehension} {scope : Scope} {lp np sp : Pos} {y : Str} {i : Nat} (G : Gd ws cf cx X) (tk : Takes X W) (hi : X.N[i]? = some y) (hl : X.env.scope.names.lookup y = some .local)
    (hsw : swB cx (.ListComp elt gs scope lp) (.Name y np) = true) (h : ckE n cx e' (.ListComp elt gs scope lp) = true) :
    PS X (.Assign [.Name y np] (.ListComp elt gs scope lp) sp) (tAsg (tE ws cf W cx.N.length e') (gName i)) := by
  have hpx : X.N.Nodup := by rw [G.N]; exact G.nd
  have hw : swapsWith (.ListComp elt gs scope lp) (some (.Name y np)) sp.line X.env = pure true := by rw [G.sw, hsw]
  induction n generalizing e' with
  | zero => simp [ckE] at h
  | succ n ih =>
  have S := snd ws cf n
  cases e' with
  | frz e1 =>
    simp only [ckE] at h
    refine PS.imp (ps_frz (ih h)) fun De σ H q => ?_
    refine tE_mono (tE_frz q) fun v H1 k => ?_
    rcases k with k | ⟨a, vs, _, ha, k⟩
    · exact .inl k
    · exact .inr ⟨a, vs, ha, k⟩
  | calle f es => simp [ckE] at h
  | rngL t es => simp [ckE] at h
  | comp elt' tg src cs own =>
    simp only [ckE] at h
    split at h
    · rename_i x t it ifs k scope pos heq
      cases heq
      simp only [Bool.and_eq_true] at h
      obtain ⟨⟨⟨⟨⟨⟨⟨h1, h2⟩, h3⟩, h4⟩, h5⟩, h6⟩, h7⟩, h8⟩ := h
      have h1 := of_decide_eq_true h1
      subst h1
      have ok : BlkOk X.N X.env.scope scope (ownOf cx.N own) := by rw [G.N, G.sc]; exact blkOk_by h2
      have G' := fun s H C cl fp => G.blk s H scope C cl fp ok.kind
      refine PS.imp (ps_setLc (own := ownOf cx.N own) G.g.calm hpx hi hl hw (S.src (W := W) G tk h5) ok (fun s H C cl fp => S.tg (G' s H C cl fp) takes0 h6) (fun s H C cl fp => S.cs (G' s H C cl fp) takes0 h7) (fun s H C cl fp => S.e (G' s H C cl fp) takes0 h8) (fold_set h4)) fun De σ H q => ?_
      rw [ownOf_map]
      exact tE_comp (subL_ok h3) q
    · cases h
  | comp2 elt' tg src cs tg1 src1 cs1 own own1 =>
    simp only [ckE] at h
    split at h
    · rename_i x t it ifs k t1 it1 ifs1 k1 scope pos heq
      cases heq
      simp only [Bool.and_eq_true] at h
      obtain ⟨⟨⟨⟨⟨⟨⟨⟨⟨⟨⟨⟨⟨⟨h1, h1'⟩, h2⟩, h3⟩, h3'⟩, h3''⟩, h4⟩, h4'⟩, h5⟩, h6⟩, h7⟩, h5'⟩, h6'⟩, h7'⟩, h8⟩ := h
      have h1 := of_decide_eq_true h1
      have h1' := of_decide_eq_true h1'
      subst h1
      subst h1'
      have ok : BlkOk X.N X.env.scope scope (ownOf cx.N own) := by rw [G.N, G.sc]; exact blkOk_by h2
      have G' := fun s H C cl fp => G.blk s H scope C cl fp ok.kind
      refine PS.imp (ps_setLc2 (own := ownOf cx.N own) (vs1 := own1) G.g.calm hpx hi hl hw (S.src (W := W) G tk h5) ok (by rw [ownOf_map]; exact subL_ok h3'') (fun s H C cl fp => S.tg (G' s H C cl fp) takes0 h6) (fun s H C cl fp => S.cs (G' s H C cl fp) takes0 h7)
        (fun s H C cl fp => S.src (G' s H C cl fp) takes0 h5') (fun s H C cl fp => S.tg (G' s H C cl fp) takes0 h6') (fun s H C cl fp => S.cs (G' s H C cl fp) takes0 h7') (fun s H C cl fp => S.e (G' s H C cl fp) takes0 h8) (fold_set h4) (fun env => fold_set h4')) fun De σ H q => ?_
      rw [ownOf_map]
      exact tE_comp2 (subL_ok h3) (subL_ok h3') (subL_ok h3'') q
    · cases h
  | prim p es => simp [ckE] at h
  | var i => simp [ckE] at h
  | cst d => simp [ckE] at h
  | tupE es => simp [ckE] at h
  | lstE es => simp [ckE] at h
  | meth p o es => simp [ckE] at h
  | and a b => simp [ckE] at h
  | or a b => simp [ckE] at h
  | not a => simp [ckE] at h
  | ite a b c => simp [ckE] at h
  | chain p q a b c =>
    simp only [ckE] at h
    cases n <;> simp [ckCmp] at h
  | sl3 a b c => simp [ckE] at h
  | call g es => simp [ckE] at h
  | callv i es => simp [ckE] at h
/-! ### suites of except clauses -/
variable {a : Addr} {oe : Obj} {pn : List (Addr × Obj)} {cls : Value} {dx : Option Addr}
variable (ws) in
def oT (C : Addr) (c : Nat) (nm : Option Nat) (o : Option D) (a : Addr) (cls : Value) (dx : Option Addr) : TE := fun σ H Q => ∃ m p d, cls = .ref C ∧ ExV ws m H c p cls dx ∧ suD p o = some d ∧ (∀ i, nm = some i → i < σ.length → σ[i]? = some (some (.ref a))) ∧ ∀ v, DV ws m H d v → notl d = true → Q v H
variable (ws) in
def osT (C : Addr) (c : Nat) (nm : Option Nat) (os : List (Option D)) (a : Addr) (cls : Value) (dx : Option Addr) : TA := fun σ H Q => ∃ m p ds, cls = .ref C ∧ ExV ws m H c p cls dx ∧ mapO (suD p) os = some ds ∧ (∀ i, nm = some i → i < σ.length → σ[i]? = some (some (.ref a))) ∧ ∀ vs, DVs ws m H ds vs → Q vs H
def slotN (N : List Str) : Option Str → Option Nat := Option.map fun y => N.idxOf y
theorem pe_o (E : EcOk ws) (G : Gd ws cf cx X) {C : Addr} {c : Nat} {nm an : Option Str} {o : Option D} {e : Expr} (hc : ws.ec c = some (C, an)) (hs : slotB cx nm = true) (hz : Zc cls dx oe) (hf : ∃ vs, oe.data = .fields vs) (h : ckO cx nm an o e = true) :
    PE (X.suite a ((a, oe) :: pn)) e (oT ws C c (slotN cx.N nm) o a cls dx) := by
  unfold ckO at h
  split at h
  · rename_i d cn j pos
    obtain ⟨v, h1, h2, h3⟩ := ckC_ok (ws := ws) (X := X.suite a ((a, oe) :: pn)) (j := j) (pos := pos) h
    refine PE.imp h1 fun σ H Q q => ?_
    obtain ⟨m, p, d', _, _, e1, _, k⟩ := q
    have e1 : some d = some d' := e1
    cases e1
    exact k v (h2 m H) h3
  · rename_i y yp f fp
    simp only [Bool.and_eq_true, decide_eq_true_eq, Bool.not_eq_true'] at h
    obtain ⟨⟨⟨h1, h2⟩, h3⟩, h4⟩ := h
    subst h1
    subst h2
    unfold slotB at hs
    simp only [Bool.and_eq_true] at hs
    have hm : y ∈ cx.N := by simpa using hs.1
    have hlt : cx.N.idxOf y < cx.N.length := List.idxOf_lt_length_of_mem hm
    have hi : cx.N[cx.N.idxOf y]? = some y := by
      rw [List.getElem?_eq_getElem hlt]
      simp
    have hl : cx.sc.names.lookup y = some .local := by simpa using hs.2
    obtain ⟨T, hno⟩ := E.fld c C f hc
    have T' : XfC X.K C := by rw [G.g.K]; exact T
    have he : PE (X.suite a ((a, oe) :: pn)) (.Name y yp) (tVar (cx.N.idxOf y)) := pe_var (X := X.suite a ((a, oe) :: pn)) (by show X.N[_]? = _; rw [G.N]; exact hi) (.inl (by show X.env.scope.names.lookup y = _; rw [G.sc]; exact hl)) h3 h4
    have main := pe_xf (X := X) (pos := fp) T' (by rw [G.g.K]; exact hno) hz hf he (attr_base rfl _)
    refine ⟨fun pins s σ H Q I q => main.run pins s σ H Q I ?_⟩
    obtain ⟨m, p, d', e0, ev, e1, sl, k⟩ := q
    have hlen : cx.N.idxOf y < σ.length := by
      have := I.len
      rw [this]
      show _ < X.N.length
      rw [G.N]
      exact hlt
    refine ⟨.ref a, sl _ rfl hlen, rfl, e0, ?_⟩
    obtain ⟨C', an', e2, e3, e4⟩ := ev
    rw [hc] at e2
    cases e2
    obtain ⟨dd, v, pd, rfl, rfl, e5, e6, e7⟩ := e4
    have e1 : some pd = some d' := e1
    cases e1
    exact ⟨dd, [(f, v)], v, rfl, e5, by simp [List.lookup], k v e6 e7⟩
  · cases h
theorem pa_os (E : EcOk ws) (G : Gd ws cf cx X) {C : Addr} {c : Nat} {nm an : Option Str} (hc : ws.ec c = some (C, an)) (hs : slotB cx nm = true) (hz : Zc cls dx oe) (hf : ∃ vs, oe.data = .fields vs) : ∀ {os : List (Option D)} {es : List Expr}, ckOs cx nm an os es = true →
    PA (X.suite a ((a, oe) :: pn)) es (osT ws C c (slotN cx.N nm) os a cls dx) ∧ os.length = es.length
  | [], [], _ => ⟨PA.imp pa_nil fun σ H Q q => by
      obtain ⟨m, p, ds, _, _, e1, _, k⟩ := q
      cases e1
      exact k [] .nil, rfl⟩
  | o :: os, e :: es, h => by
    have h' : (noStar e = true ∧ ckO cx nm an o e = true) ∧ ckOs cx nm an os es = true := by simpa [ckOs, and_assoc] using h
    obtain ⟨h1, h2⟩ := pa_os E G hc hs hz hf h'.2
    refine ⟨PA.imp (pa_cons (pe_o E G hc hs hz hf h'.1.2) h1 (star_cons h'.1.1)) fun σ H Q q => ?_, by rw [List.length_cons, List.length_cons, h2]⟩
    obtain ⟨m, p, ds, e0, ev, e1, sl, k⟩ := q
    unfold mapO at e1
    split at e1
    · rename_i d ds' e2 e3
      cases e1
      exact ⟨m, p, d, e0, ev, e2, sl, fun v hv nv => ⟨m, p, ds', e0, ev, e3, sl, fun vs hvs => k (v :: vs) (.cons hv nv hvs)⟩⟩
    · cases e1
theorem mapO_len {α β : Type} {f : α → Option β} : ∀ {xs : List α} {ys : List β}, mapO f xs = some ys → ys.length = xs.length
  | [], ys, e => by cases e; rfl
  | x :: xs, ys, e => by
    unfold mapO at e
    split at e
    · rename_i e2
      cases e
      rw [List.length_cons, List.length_cons, mapO_len e2]
    · cases e
/-- one clause's suite -/
theorem pss_su (E : EcOk ws) (G : Gd ws cf cx X) {C : Addr} {c : Nat} {nm an : Option Str} {su : Su} {e : Expr} {pos : Pos} (hc : ws.ec c = some (C, an)) (hs : slotB cx nm = true) (hz : Zc cls dx oe) (hf : ∃ vs, oe.data = .fields vs)
    (h : (match su with
      | .one o => ckO cx nm an o e
      | .tup os => (match e with
        | .Tuple es _ _ => Nat.ble os.length 1000 && ckOs cx nm an os es
        | _ => false)) = true) :
    PSs (X.suite a ((a, oe) :: pn)) [.Return (some e) pos] (fun De σ H => cls = .ref C ∧ tSu ws c (slotN cx.N nm) su a cls dx De σ H) := by
  cases su with
  | one o =>
    refine PSs.imp (pss_one (ps_ret (pe_o E G hc hs hz hf h))) fun De σ H q => ?_
    obtain ⟨e0, m, st, p, d, r, ev, e1, sl, k⟩ := q
    exact ⟨m, p, d, e0, ev, e1, sl, fun v hv nv => k m H v (Step.refl _ _) r ⟨hv, fr_of nv⟩⟩
  | tup os =>
    dsimp only at h
    split at h
    · rw [Bool.and_eq_true] at h
      obtain ⟨h1, h2⟩ := pa_os (a := a) (pn := pn) E G hc hs hz hf h.2
      refine PSs.imp (pss_one (ps_ret (pe_tup h1))) fun De σ H q => ?_
      obtain ⟨e0, m, st, p, d, r, ev, e1, sl, k⟩ := q
      cases e2 : mapO (suD p) os with
      | none =>
        simp [suRet, e2] at e1
      | some ds =>
        have e1 : some (D.tup ds) = some d := by simpa [suRet, e2] using e1
        cases e1
        refine ⟨m, p, ds, e0, ev, e2, sl, fun vs hvs => ⟨?_, fun q hq => k m _ _ (Step.alloc hq) (r.alloc hq) ⟨.tup (SqT.of upd_same) (hvs.mono (Step.alloc hq)), fr_of rfl⟩⟩⟩
        rw [← hvs.length, mapO_len e2]
        exact Nat.le_trans (Nat.le_of_ble_eq_true h.1) (by decide)
    · cases h
end
end Mn
/-! Mn16: the check is sound: statements, blocks. -/
namespace Mn
open PySem PySem.Spec PyProof.Rows L2
section
variable {ws : Ws} {cf : Cf} {cx : Cc} {X : Cx} {W : WX} {n : Nat}
theorem ckHs_ok (EO : EcOk ws) (G : Gd ws cf cx X) : ∀ {hs : List (Nat × Su)} {es : List ExceptHandler}, ckHs cx hs es = true →
    ∃ l : List Hd, l.map (fun h => (h.k, h.su)) = hs ∧ (∀ h ∈ l, ws.ec h.k = some (h.C, h.an)) ∧ (∀ h ∈ l, ∀ i, h.nm = some i → i < cx.N.length) ∧ ClsOk X es (l.map (Hd.cl ws))
  | [], [], _ => ⟨[], rfl, fun _ z => (by cases z), fun _ z => (by cases z), .nil⟩
  | (k, su) :: hs, e :: es, h => by
    have h' : ckH cx (k, su) e = true ∧ ckHs cx hs es = true := by simpa [ckHs] using h
    obtain ⟨l, l1, l2, l3, l4⟩ := ckHs_ok EO G h'.2
    have hh := h'.1
    unfold ckH at hh
    split at hh
    · rename_i x np nm ev rp pos'
      simp only [Bool.and_eq_true] at hh
      obtain ⟨⟨h1, h2⟩, h3⟩ := hh
      split at h3
      · rename_i k' an e1
        rw [Bool.and_eq_true] at h3
        obtain ⟨h4, h5⟩ := h3
        have h4 := of_decide_eq_true h4
        subst h4
        obtain ⟨C, c1, c2⟩ := G.cls x k' an e1
        obtain ⟨g1, g2⟩ := G.glob h1
        have nmx : Names X x (.ref C) := ⟨g1, g2, .inl c2⟩
        refine ⟨⟨k', C, an, slotN cx.N nm, su⟩ :: l, by rw [List.map_cons, l1], fun h hm => ?_, fun h hm => ?_, ?_⟩
        · rcases List.mem_cons.mp hm with rfl | hm
          · exact c1
          · exact l2 h hm
        · rcases List.mem_cons.mp hm with rfl | hm
          · intro i hi
            cases nm with
            | none => cases hi
            | some y =>
              cases hi
              unfold slotB at h2
              simp only [Bool.and_eq_true] at h2
              exact List.idxOf_lt_length_of_mem (by simpa using h2.1)
          · exact l3 h hm
        · rw [List.map_cons]
          cases nm with
          | none => exact .one nmx (fun a oe cls d pn hz hf => pss_su (pos := rp) (nm := none) EO G c1 h2 hz hf h5) l4
          | some y =>
            have h2' := h2
            unfold slotB at h2'
            simp only [Bool.and_eq_true] at h2'
            have hm : y ∈ cx.N := by simpa using h2'.1
            have hlt : cx.N.idxOf y < cx.N.length := List.idxOf_lt_length_of_mem hm
            exact .named (by rw [G.N]; exact G.nd) (by rw [G.N, List.getElem?_eq_getElem hlt]; simp) (by show X.env.scope.names.lookup y = _; rw [G.sc]; simpa using h2'.2) nmx
              (fun a oe cls d pn hz hf => pss_su (pos := rp) (nm := some y) EO G c1 h2 hz hf h5) l4
      · cases h3
    · cases hh
theorem tS_rse {c : Nat} {C : Addr} {σ : L2.St} {H : Hp} {De : Ends} (hc : ws.ec c = some (C, none)) (h : tS ws cf W n (.rse c []) De σ H) : W (.ref C) none σ H := by
  obtain ⟨ρ, st, m, hρ, r, hl, h⟩ := h
  unfold exS evEs at h
  exact h m H (.ref C) none σ (Step.refl _ _) r ⟨C, none, hc, rfl, rfl, rfl⟩ hl
theorem das_one {m : List Addr} {H : Hp} {d : D} {vs : List V} (h : DAs ws m H [d] vs) : ∃ v, vs = [v] ∧ DV ws m H d v := by
  cases h with
  | cons h t => cases t; exact ⟨_, rfl, h⟩
theorem tS_rseF {K : PySem.W.Frag} {c : Nat} {C : Addr} {f : Str} {e' : E} {σ : L2.St} {H : Hp} {De : Ends} (hc : ws.ec c = some (C, some f)) (h : tS ws cf W n (.rse c [e']) De σ H) :
    tMkO C (spSi K C f) [] (tEs ws cf W n [e']) σ H fun cls d H' => W cls d σ H' := by
  obtain ⟨ρ, st, m, hρ, r, hl, h⟩ := h
  unfold exS at h
  refine ⟨ρ, st, m, hρ, r, hl, Aft.bind h fun ds st1 m1 H1 vs e1 s1 r1 q1 h1 => ?_⟩
  have hlen := evEs_length e1
  obtain ⟨d, rfl⟩ : ∃ d, ds = [d] := by
    match ds, hlen with
    | [d], _ => exact ⟨d, rfl⟩
  obtain ⟨v, rfl, hv⟩ := das_one q1.as
  refine ⟨by simp, fun a ha => ⟨a, v, rfl, upd_same, fun dx hd ne => ?_⟩⟩
  have hd1 : H1 dx = none := by
    rw [upd_ne ne] at hd
    exact hd
  have hnl : notl d = true := by
    cases z : notl d with
    | true => rfl
    | false =>
      simp only [List.all_cons, z, Bool.false_and] at h1
      exact h1.elim
  refine ⟨rfl, dx, [(f, v)], upd_same, ?_, by rw [upd_ne ne] at hd; exact hd, ?_⟩
  · rw [upd_ne ne, upd_same]
  · have eH : upd (del (upd (upd (upd H1 a (exo a C none)) dx (exd dx [(f, v)])) a (exo a C (some dx))) a) dx (.xd [(f, v)]) = upd H1 dx (.xd [(f, v)]) := by
      funext b
      by_cases hb : b = dx
      · rw [hb, upd_same, upd_same]
      · rw [upd_ne hb, upd_ne hb]
        by_cases hba : b = a
        · rw [hba, del_same, ha]
        · rw [del_ne hba, upd_ne hba, upd_ne hb, upd_ne hba]
    rw [eH]
    have h2 : Aft ws W n m H (RF ws n) (QE De) (Out.ex c [d] st1) := by
      simpa only [List.all_cons, List.all_nil, hnl, Bool.and_true, if_true] using h1
    exact h2 m1 (upd H1 dx (.xd [(f, v)])) (.ref C) (some dx) σ (s1.trans (Step.alloc hd1)) (r1.alloc hd1) ⟨C, some f, hc, rfl, dx, v, d, rfl, rfl, upd_same, hv.mono (Step.alloc hd1), hnl⟩ hl
theorem get_any (G : Gp ws X) : PGet X (rP2 ws .ix) := by
  intro pins s σ H x y v u Q I rx ry h
  obtain ⟨H0, m0, m, st, ds, d, st', s0, r, ra, e, k⟩ := h
  obtain ⟨a, b, rfl, ha, hb⟩ := ra.as.two
  simp only [semP, sem2] at e
  split at e
  · rename_i i
    cases hb
    obtain ⟨tk, rfl⟩ := ry
    split at e
    · rename_i xs hx
      split at e
      · rename_i c hc
        cases e
        obtain ⟨p, vs, rfl, q, t⟩ := seq_ok r ha hx
        obtain ⟨z, h1, h2, h3⟩ := atI_ok t hc
        cases rx
        have fin : ∀ {w : Value}, RelV z w → EP X pins σ Q w s := fun rw' => ⟨z, H, I, rw', end_sc s0 r h2 h3 k⟩
        obtain ⟨j, g1, g2, g3, g4, g5⟩ := atI_get h1
        have hn := line63
        rcases q with q | q
        · obtain ⟨its, rv, pl, hz⟩ := I.list (toL G.K q.1)
          obtain ⟨w, ew, rw'⟩ := rv.get g2
          have hl := rv.length
          by_cases h0 : 0 ≤ i
          · have hj : i.toNat = j := by
              rw [seqIndex_of h0 g5] at g1
              exact Option.some.inj g1
            exact wpAny_getItem_list pl.isList h0 (by omega) (by rw [hj]; simpa using ew) (fin rw')
          · have hj : (i + (its.toArray.size : Int)).toNat = j := by
              rw [seqIndex_neg (by omega) g4] at g1
              rw [List.size_toArray, ← hl]
              exact Option.some.inj g1
            exact wpAny_getItem_list_neg pl.isList (by omega) (by rw [List.size_toArray] <;> omega) (by omega) (by rw [hj]; simpa using ew) (fin rw')
        · obtain ⟨its, rv, pl, hz⟩ := I.tuple (toT G.K q.1)
          obtain ⟨w, ew, rw'⟩ := rv.get g2
          have hl := rv.length
          exact PyProof.Rows.getItem_tuple (j := j) pl (by omega) (by omega) (by rw [List.size_toArray, ← hl]; exact g1) (by simpa using ew) (fin rw')
      · cases e
    · cases e
  · cases e
structure SndS (ws : Ws) (cf : Cf) (n : Nat) : Prop where
  s : ∀ {cx : Cc} {X : Cx} {W : WX} {s' : S} {s : Stmt}, EcOk ws → Gd ws cf cx X → Takes X W → PassesOwn (model X.prog X.w) X.A X.env X.xe → X.stack = X.env :: X.outer → X.env.frame = some X.env.locals → ckS n cx s' s = true → PS X s (tS ws cf W cx.N.length s')
  ss : ∀ {cx : Cc} {X : Cx} {W : WX} {s' : List S} {s : List Stmt}, EcOk ws → Gd ws cf cx X → Takes X W → PassesOwn (model X.prog X.w) X.A X.env X.xe → X.stack = X.env :: X.outer → X.env.frame = some X.env.locals → ckSs n cx s' s = true → PSs X s (tSs ws cf W cx.N.length s')
theorem asg_one {t : Expr} {env : Env} (h : noStar t = true) : (assignEach [t] env).map (·.2) = [assign t env] := by rw [asg_cons h]; rfl
theorem sws_no {t e : Expr} {env : Env} (h : noTpl e = true) : swappedStores [t] e env = pure none := by
  cases e <;> first | (cases t <;> rfl) | cases h
theorem sws_noT {t e : Expr} {env : Env} (h : noTup t = true) : swappedStores [t] e env = pure none := by
  cases t <;> first | rfl | cases h
theorem snd_s (SS : SndS ws cf n) (EO : EcOk ws) {s' : S} {s : Stmt} (G : Gd ws cf cx X) (tk : Takes X W) (hp : PassesOwn (model X.prog X.w) X.A X.env X.xe) (hs : X.stack = X.env :: X.outer) (hf : X.env.frame = some X.env.locals) (h : ckS (n + 1) cx s' s = true) :
    PS X s (tS ws cf W cx.N.length s') := by
  have hpx : X.N.Nodup := by rw [G.N]; exact G.nd
  have S := snd ws cf n
  have asg : ∀ {t e : Expr} {t' : Tg} {e' : E} {pos : Pos}, noStar t = true → ckTg n cx t' t = true → ckE n cx e' e = true → swapsWithSole [t] e pos.line X.env = pure false → swappedStores [t] e X.env = pure none → PS X (.Assign [t] e pos) (tS ws cf W cx.N.length (.asg t' e')) :=
    fun h1 h2 h3 h4 h5 => PS.imp (ps_asg (S.e G tk h3) (S.tg (W := W) G tk h2) h4 h5 (asg_one h1)) fun De σ H q => tS_asg q
  cases s' with
  | ex e' =>
    simp only [ckS] at h
    split at h
    · rw [Bool.and_eq_true] at h
      exact PS.imp (ps_expr (S.e G tk h.2) (swaps_no h.1)) fun De σ H q => tS_ex q
    · cases h
  | ret e' =>
    simp only [ckS] at h
    split at h
    · exact PS.imp (ps_ret (S.e G tk h)) fun De σ H q => tS_ret q
    · cases h
  | ret0 =>
    simp only [ckS] at h
    split at h
    · exact PS.imp ps_retN fun De σ H q => tS_ret0 q
    · cases h
  | pas =>
    simp only [ckS] at h
    split at h
    · exact PS.imp ps_pass fun De σ H q => tS_pas q
    · cases h
  | brk =>
    simp only [ckS] at h
    split at h
    · exact PS.imp ps_break fun De σ H q => tS_brk q
    · cases h
  | cnt =>
    simp only [ckS] at h
    split at h
    · exact PS.imp ps_continue fun De σ H q => tS_cnt q
    · cases h
  | asg t' e' =>
    simp only [ckS] at h
    split at h
    · rename_i t e pos
      rw [Bool.and_eq_true] at h
      obtain ⟨hst, h⟩ := h
      split at h
      · -- a list comprehension
        rename_i elt gs sc lp
        split at h
        · rename_i x np i
          rw [Bool.and_eq_true] at h
          obtain ⟨h1, h2⟩ := h
          split at h1
          · rename_i hsw
            obtain ⟨k1, k2⟩ := G.locl h1
            refine PS.imp (snd_lcS (sp := pos) G tk k1 k2 hsw h2) fun De σ H q => ?_
            exact tE_mono (tS_asg q) fun v H1 k => gT_nm k
          · rename_i hsw
            exact asg hst h1 h2 (by
              exact (show swapsWith (.ListComp elt gs sc lp) (some (.Name x np)) pos.line X.env = pure false from by rw [G.sw, Bool.eq_false_iff.mpr hsw])) (sws_no rfl)
        · cases h
      · -- a tuple
        rename_i vs k2 p2
        split at h
        · rename_i ts k1 p1
          split at h
          · rename_i hsw
            rw [Bool.and_eq_true] at h
            exact asg hst h.1 h.2 rfl (G.swS hsw)
          · rename_i names hsw
            split at h
            · rename_i x px y py a b i j es
              simp only [Bool.and_eq_true] at h
              obtain ⟨⟨⟨⟨h1, h2⟩, h3⟩, h4⟩, h5⟩ := h
              have h1 := of_decide_eq_true h1
              subst h1
              obtain ⟨a1, a2⟩ := G.locl h3
              obtain ⟨b1, b2⟩ := G.locl h4
              obtain ⟨c1, c2, c3⟩ := S.es G tk (W := W) h5
              match es, c3 with
              | [a', b'], _ => exact PS.imp (ps_par G.g.calm hpx a1 b1 (by simpa using h2) a2 b2 c1 (G.swS hsw) rfl) fun De σ H q => tS_par q
            · rename_i x px y py z pz a b c i j l es
              simp only [Bool.and_eq_true] at h
              obtain ⟨⟨⟨⟨⟨⟨⟨h1, h2⟩, h2'⟩, h2''⟩, h3⟩, h4⟩, h4'⟩, h5⟩ := h
              have h1 := of_decide_eq_true h1
              subst h1
              obtain ⟨a1, a2⟩ := G.locl h3
              obtain ⟨b1, b2⟩ := G.locl h4
              obtain ⟨d1, d2⟩ := G.locl h4'
              obtain ⟨c1, c2, c3⟩ := S.es G tk (W := W) h5
              match es, c3 with
              | [a', b', c'], _ => exact PS.imp (ps_par3 G.g.calm hpx a1 b1 d1 (by simpa using h2) (by simpa using h2') (by simpa using h2'') a2 b2 d2 c1 (G.swS hsw) rfl) fun De σ H q => tS_par3 q
            · cases h
          · cases h
        · cases h
        · simp only [Bool.and_eq_true] at h
          exact asg hst h.1.2 h.2 rfl (sws_noT h.1.1)
      · simp only [Bool.and_eq_true] at h
        obtain ⟨⟨⟨h1, h2⟩, h3⟩, h4⟩ := h
        exact asg hst h3 h4 (swaps_no h1) (sws_no h2)
    · cases h
  | aug i p e' =>
    simp only [ckS] at h
    split at h
    · simp only [Bool.and_eq_true] at h
      obtain ⟨⟨h1, h2⟩, h3⟩ := h
      obtain ⟨k1, k2, k3⟩ := G.sto h2
      obtain ⟨o1, o2⟩ := ipP_ok (X := X) h1
      exact PS.imp (ps_aug hpx k1 k2 (S.e G tk h3) o1 k3) fun De σ H q => tS_aug o2 q
    · cases h
  | augS o i p e' =>
    simp only [ckS] at h
    split at h
    · simp only [Bool.and_eq_true] at h
      obtain ⟨⟨⟨⟨h1, h2⟩, h3⟩, h4⟩, h5⟩ := h
      obtain ⟨o1, o2⟩ := ipP_ok (X := X) h1
      exact PS.imp (ps_augS (S.e G tk h3) (S.e G tk h4) (get_any G.g) (S.e G tk h5) o1 set_any (aug_sub h2)) fun De σ H q => tS_augS o2 q
    · cases h
  | ifS c a b =>
    simp only [ckS] at h
    split at h
    · simp only [Bool.and_eq_true] at h
      exact PS.imp (ps_if (S.t G tk h.1.1) (SS.ss (W := W) EO G tk hp hs hf h.1.2) (SS.ss (W := W) EO G tk hp hs hf h.2)) fun De σ H q => tS_if q
    · cases h
  | whl c b =>
    simp only [ckS] at h
    split at h
    · simp only [Bool.and_eq_true] at h
      exact PS.imp (ps_while hp (S.t G tk h.1) (SS.ss (W := W) EO G tk hp hs hf h.2)) fun De σ H q => tS_whl q
    · cases h
  | «for» t' src b =>
    simp only [ckS] at h
    split at h
    · simp only [Bool.and_eq_true] at h
      obtain ⟨⟨⟨h1, h2⟩, h3⟩, h4⟩ := h
      exact PS.imp (ps_for hp G.g.calm (S.src (W := W) G tk h2) (S.tg (W := W) G tk h3) (SS.ss (W := W) EO G tk hp hs hf h4) (fold_set h1)) fun De σ H q => tS_for q
    · cases h
  | rse c es =>
    simp only [ckS] at h
    split at h
    · rename_i y np a0 cp rp
      simp only [Bool.and_eq_true] at h
      obtain ⟨h1, h3⟩ := h
      obtain ⟨g1, g2⟩ := G.glob h1
      split at h3
      · rename_i k e1
        simp only [Bool.and_eq_true] at h3
        obtain ⟨⟨h3, h2⟩, h4⟩ := h3
        have : es = [] := by simpa using h2
        subst this
        have h3 := of_decide_eq_true h3
        subst h3
        obtain ⟨C, c1, c2⟩ := G.cls _ _ _ e1
        obtain ⟨B, newId, initId, bmB, F, q, kC, r⟩ := G.rse _ _ C e1 c1
        split at h4
        · exact PS.imp (ps_raise G.g.calm tk (pmk_own F q c2 kC r g1 g2)) fun De σ H q => tS_rse c1 q
        · cases h4
      · rename_i k f e1
        simp only [Bool.and_eq_true] at h3
        obtain ⟨⟨h3, h2⟩, h4⟩ := h3
        have h3 := of_decide_eq_true h3
        subst h3
        obtain ⟨C, c1, c2⟩ := G.cls _ _ _ e1
        obtain ⟨T, fI, k', fd, ps, iC, tI, F1, hr, hb⟩ := G.rsf _ _ C f e1 (by simpa using h2) c1
        split at h4
        · rename_i a'
          simp only [Bool.and_eq_true] at h4
          have ha : PA X [a0] (tEs ws cf W cx.N.length [a']) := PA.imp (pa_cons (S.e (W := W) G tk h4.2) (PA.imp pa_nil fun σ H Q q => tEs_nil (ws := ws) (cf := cf) (W := W) (n := cx.N.length) q) (star_cons h4.1)) fun σ H Q q => tEs_cons q
          exact PS.imp (ps_raise G.g.calm tk (pmk_oex T iC tI F1 hr hb .nil (fun _ _ _ _ _ _ _ z => by obtain ⟨_, _, _, _, _, _, _, _, _, _, _, _, z⟩ := z; exact z.elim) g1 c2 ha g2 (star_cons h4.1) rfl)) fun De σ H q => tS_rseF c1 q
        · cases h4
      · cases h3
    · cases h
  | tryS b hds =>
    simp only [ckS] at h
    split at h
    · rename_i x h0 hdsx pos
      rw [Bool.and_eq_true] at h
      obtain ⟨l, l1, l2, l3, l4⟩ := ckHs_ok EO G h.2
      subst l1
      refine PS.imp (ps_tryU (tb := fun W' => tSs ws cf W' cx.N.length b) hs hf tk (fun W' pn xe tk' hp' => SS.ss (X := X.tr pn xe) EO (G.tr pn xe) tk' hp' hs hf h.1) l4) fun De σ H q => ?_
      rw [G.g.K]
      exact tS_try EO l2 l3 q
    · cases h
theorem snd_ss (SS : SndS ws cf n) (EO : EcOk ws) {s' : List S} {s : List Stmt} (G : Gd ws cf cx X) (tk : Takes X W) (hp : PassesOwn (model X.prog X.w) X.A X.env X.xe) (hs : X.stack = X.env :: X.outer) (hf : X.env.frame = some X.env.locals) (h : ckSs (n + 1) cx s' s = true) :
    PSs X s (tSs ws cf W cx.N.length s') := by
  simp only [ckSs] at h
  split at h
  · exact PSs.imp pss_nil fun De σ H q => tSs_nil q
  · rw [Bool.and_eq_true] at h
    exact PSs.imp (pss_cons (SS.s EO G tk hp hs hf h.1) (SS.ss (W := W) EO G tk hp hs hf h.2)) fun De σ H q => tSs_cons q
  · cases h
end
theorem sndS (ws : Ws) (cf : Cf) : ∀ n, SndS ws cf n
  | 0 => ⟨fun _ _ _ _ _ _ h => (by simp [ckS] at h), fun _ _ _ _ _ _ h => (by simp [ckSs] at h)⟩
  | n + 1 =>
    have S := sndS ws cf n
    ⟨fun EO => snd_s S EO, fun EO => snd_ss S EO⟩
end Mn
/-! Mn17: defs by the small run; the whole text by levels. -/
namespace Mn
open PySem PySem.Spec PyProof.Rows L2
section
variable {ws : Ws} {m m' l : List Addr} {H : Hp} {n : Nat}
mutual
/-- what names lists below n alone stands over the first n -/
theorem DV.down (hn : m.length = n) : ∀ {d : D} {v : V}, below n d = true → DV ws (m ++ l) H d v → DV ws m H d v
  | _, _, _, .non => .non
  | _, _, _, .bl b => .bl b
  | _, _, _, .int i => .int i
  | _, _, _, .str x => .str x
  | _, _, h, .tup q r => .tup q (DVs.down hn (by simpa [below] using h) r)
  | _, _, h, .tl nm q r => .tl (fun z => nm (List.mem_append_left _ z)) q (DVs.down hn (by simpa [below] using h) r)
  | _, _, h, .kl q r => .kl q (DVs.down hn (by simpa [below] using h) r)
  | _, _, h, .il q r => .il q (DVs.down hn (by simpa [below] using h) r)
  | _, _, h, .lr q => .lr (by
      have hk := Nat.blt_eq.mp (show Nat.blt _ n = true by simpa only [below] using h)
      rw [List.getElem?_append_left (by omega)] at q
      exact q)
  | _, _, _, .fn g => .fn g
theorem DVs.down (hn : m.length = n) : ∀ {ds : List D} {vs : List V}, belows n ds = true → DVs ws (m ++ l) H ds vs → DVs ws m H ds vs
  | _, _, _, .nil => .nil
  | d :: ds, _, h, .cons q k r => by
    have h' : below n d = true ∧ belows n ds = true := by simpa [belows] using h
    exact .cons (DV.down hn h'.1 q) k (DVs.down hn h'.2 r)
end
theorem Rl.cut {st : Sto} (r : Rl ws (m ++ l) st H) (hn : m.length = n) (hc : clean n st = true) : Rl ws m (st.take n) H := by
  have hl := r.len
  rw [List.length_append] at hl
  refine ⟨by rw [List.length_take]; omega, (List.nodup_append.mp r.nd).1, fun k o a e1 e2 => ?_⟩
  have hk : k < m.length := (List.getElem?_eq_some_iff.mp e2).1
  have e3 : st[k]? = some o := by
    rw [List.getElem?_take] at e1
    split at e1
    · exact e1
    · cases e1
  have q := r.obj k o a e3 (by rw [List.getElem?_append_left hk]; exact e2)
  unfold clean at hc
  have hb := List.all_eq_true.mp hc o (List.mem_of_getElem? e1)
  cases o with
  | lst xs =>
    obtain ⟨vs, h1, h2⟩ := q
    exact ⟨vs, h1, h2.down hn hb⟩
/-- from a run's end to a call's end -/
theorem Step.cut {H' : Hp} (s : Step m H (m ++ l) H') : Step m H m H' := ⟨⟨[], by simp⟩, fun a h k => absurd h k, s.keep, s.tups, s.frz, s.there⟩
theorem aft_retn {W : WX} {k : Nat} {st : Sto} {d : D} {Q : VK} (hm : m.length = n) (h : Aft ws W k m H (RD ws) Q (retn n d st)) : ∀ m' H' v, Step m H m' H' → Rl ws m' st H' → RD ws H m' H' d v → Q v H' := by
  intro m' H' v s r q
  obtain ⟨l, rfl⟩ := s.pre
  unfold retn at h
  split at h
  · rename_i hc
    have rc := r.cut hm hc
    split at h
    · rename_i j
      split at h
      · rename_i hj
        exact h m H' v s.cut rc ⟨q.1.down hm (by simpa only [below] using hj), q.2⟩
      · rename_i hj
        have hj : n ≤ j := by
          rcases Nat.lt_or_ge j n with z | z
          · exact absurd (Nat.blt_eq.mpr z) hj
          · exact z
        split at h
        · rename_i xs hx
          split at h
          · rename_i hb
            cases q.1 with
            | lr e =>
              rename_i a
              obtain ⟨vs, h1, h2⟩ := r.obj j _ a hx e
              have na : a ∉ m := fun z => by
                obtain ⟨i, hi⟩ := List.mem_iff_getElem?.mp z
                have : i < m.length := (List.getElem?_eq_some_iff.mp hi).1
                have hi' : (m ++ l)[i]? = some a := by rw [List.getElem?_append_left this]; exact hi
                have := nodup_eq r.nd hi' e
                omega
              exact h m H' _ s.cut rc ⟨.tl na h1 (h2.down hm hb), fun _ b e' => by cases e'; exact s.new a (List.mem_of_getElem? e) na⟩
          · exact h _ H' v s r q
        · exact h _ H' v s r q
    · split at h
      · rename_i hb
        exact h m H' v s.cut rc ⟨q.1.down hm hb, q.2⟩
      · exact h _ H' v s r q
  · exact h _ H' v s r q
theorem aft_fin {W W' : WX} {k j : Nat} {Q : VK} {x : Out (Fl × Rho)} {st : Sto} (hl : st.length = n) (r0 : Rl ws m st H) (hW : ∀ cls dx σ σ' H', W cls dx σ H' → W' cls dx σ' H') (hk : ∃ σ : L2.St, σ.length = k) (h : Aft ws W k m H (RD ws) Q (fin n x)) :
    Aft ws W' j m H (RF ws j) (QE { nx := fun _ H' => Q .non H', rt := Q }) x := by
  have hm : m.length = n := by rw [r0.len, hl]
  cases x with
  | ok fr st' =>
    obtain ⟨fl, ρ⟩ := fr
    cases fl with
    | nx =>
      intro m' H' ev s r q
      cases ev with
      | nx σ => exact aft_retn hm (show Aft ws W k m H (RD ws) Q (retn n .non st') from h) m' H' .non s r ⟨.non, fr_of rfl⟩
      | _ => exact q.elim
    | ret d =>
      intro m' H' ev s r q
      cases ev with
      | rt v => exact aft_retn hm (show Aft ws W k m H (RD ws) Q (retn n d st') from h) m' H' v s r q
      | _ => exact q.elim
    | brk => exact h.elim
    | cnt => exact h.elim
  | ex c p st' =>
    intro m' H' cls dx σ' s r q _
    obtain ⟨σ0, hσ0⟩ := hk
    obtain ⟨l, rfl⟩ := s.pre
    have h' : Aft ws W k m H (RD ws) Q (if clean n st' && belows n p then .ex c p (st'.take n) else .ex c p st') := h
    split at h'
    · rename_i hc
      rw [Bool.and_eq_true] at hc
      refine hW _ _ σ0 _ _ (h' m H' cls dx σ0 s.cut (r.cut hm hc.1) ?_ hσ0)
      obtain ⟨C, an, e1, e2, e3⟩ := q
      refine ⟨C, an, e1, e2, ?_⟩
      cases an with
      | none => exact e3
      | some f =>
        obtain ⟨dd, v, pd, f1, f2, f3, f4, f5⟩ := e3
        subst f2
        have hb : below n pd = true := by
          have := hc.2
          simpa [belows] using this
        exact ⟨dd, v, pd, f1, rfl, f3, f4.down hm hb, f5⟩
    · exact hW _ _ σ0 _ _ (h' _ H' cls dx σ0 s r q hσ0)
  | no => exact h.elim
/-- the slots at a def's start -/
theorem rl_start {N : List Str} {ds : List D} {vs : List V} (t : DVs ws m H ds vs) (k : Nat) (hk : k = N.length - vs.length) : RlE ws m H (ds.map some ++ List.replicate k none) (L2.start N vs) := by
  subst hk
  unfold L2.start
  refine ⟨by simp [t.length], fun i d e => ?_⟩
  have hl := t.length
  by_cases hi : i < ds.length
  · rw [List.getElem?_append_left (by simpa using hi)] at e
    rw [List.getElem?_append_left (by simp; omega)]
    rw [List.getElem?_map] at e
    cases e' : ds[i]? with
    | none => rw [e'] at e; cases e
    | some d' =>
      rw [e'] at e
      cases e
      obtain ⟨v, h1, h2, h3⟩ := t.get e'
      exact ⟨v, by rw [List.getElem?_map, h1]; rfl, h2, h3⟩
  · rw [List.getElem?_append_right (by simp; omega)] at e
    rw [List.getElem?_replicate] at e
    split at e <;> cases e
end
/-! ### the text -/
/-- a def of the text against one of the small language -/
structure DefOk (K : PySem.W.Frag) (ws : Ws) (md : Md) (g : Nat) (f : Fn) (N : List Str) (x : Str) (st : Stmt) : Prop where
  fd : ∃ fd, Fun K x x st (ws.fa g) fd ∧ Binds K fd (N.take f.np) []
  sc : FnScope N (N.take f.np) (defScope st)
  nl : f.nl = N.length
  np : f.np ≤ N.length
  ck : ∃ n, ckSs n ⟨N, defScope st, none, md⟩ f.body (defBody st) = true
structure TextOk (P : Program) (w : World) (K : PySem.W.Frag) (mg : Str → Option Value) (ws : Ws) (md : Md) (T : List Fn) (NN : List (List Str)) (sts : List Stmt) : Prop where
  kk : ws.K = K
  len : T.length = md.fns.length
  defs : ∀ (g : Nat) (f : Fn) (x : Str), T[g]? = some f → md.fns[g]? = some x → ∃ N st, NN[g]? = some N ∧ sts[g]? = some st ∧ DefOk K ws md g f N x st ∧ mg x = some (.ref (ws.fa g))
  bl : ∀ x ∈ md.bl, mg x = none
  con : ∀ x d, md.con.lookup x = some d → ∃ u v, mg x = some u ∧ RelV v u ∧ (∀ m H, DV ws m H d v) ∧ notl d = true
  cls : ∀ x k an, md.cls.lookup x = some (k, an) → ∃ C, ws.ec k = some (C, an) ∧ mg x = some (.ref C)
  rse : ∀ x k C, md.cls.lookup x = some (k, none) → ws.ec k = some (C, none) → ∃ B newId initId bmB, ExcBaseFacts B newId initId bmB ∧ PySem.W.excIn K C bmB newId = true ∧ PySem.W.keepIn K (.ref C) = true ∧ (∀ X : Cx, X.K = K → Raises X (.ref C))
  rsf : ∀ x k C f, md.cls.lookup x = some (k, some f) → x ∈ md.rs → ws.ec k = some (C, some f) → OexC K C ∧ ∃ fI fd ps, PySem.W.findIn K (.ref C) "__init__" = some (some (.ref fI)) ∧ PySem.W.typeIn K (.ref fI) = some (.type "function") ∧
    (∀ base j, FnOk P w K mg base (L2.CX P w) (j + 1) fI fd ps (spSi K C f)) ∧ Binds K fd ps []
  ec : EcOk ws
section
variable {P : Program} {w : World} {K : PySem.W.Frag} {mg : Str → Option Value} {base : Heap} {ws : Ws} {md : Md} {T : List Fn} {NN : List (List Str)} {sts : List Stmt}
theorem textRun (O : TextOk P w K mg ws md T NN sts) (wf : Nat) : ∀ (k g : Nat) (f : Fn) (x : Str) (N : List Str) (st : Stmt) (fd : FuncData), T[g]? = some f → md.fns[g]? = some x → Fun K x x st (ws.fa g) fd → DefOk K ws md g f N x st →
    FnOk P w K mg base (L2.CX P w) (k + 2) (ws.fa g) fd (N.take f.np) (spF ws ⟨callF T wf k, wf, T.length⟩ g) := by
  intro k
  induction k with
  | zero =>
    intro g f x N st fd hf hx F Dk
    refine ⟨fun vs H Q E h => ?_, fun A outer s H args us vs Q E _ _ _ _ h => ?_⟩
    · obtain ⟨m, st', ds, _, _, h⟩ := h
      exact h.elim
    · obtain ⟨m, st', ds, _, _, h⟩ := h
      exact h.elim
  | succ k ih =>
    intro g f x N st fd hf hx F Dk
    have unf : ∀ ds st', callF T wf (k + 1) g ds st' = if ds.length = f.np then fin st'.length (exSs ⟨callF T wf k, wf, T.length⟩ f.body (ds.map some ++ List.replicate (f.nl - f.np) none) st') else .no := fun ds st' => by
      rw [callF, hf]
    have hpl : (N.take f.np).length = f.np := by rw [List.length_take]; have := Dk.np; omega
    refine F.okX Dk.sc (fun vs H Q E h => ?_) (fun cdv A outer s H vs Q E hr h => ?_)
    · obtain ⟨m, st', ds, r, t, h⟩ := h
      have h : Aft ws _ 0 m H (RD ws) Q (callF T wf (k + 1) g ds st') := h
      rw [unf] at h
      split at h
      · rename_i hl
        rw [← t.length, hl, hpl]
      · exact h.elim
    · obtain ⟨m, st', ds, r, t, h⟩ := h
      have h : Aft ws (fun cls d _ H' => E cls d H') 0 m H (RD ws) Q (callF T wf (k + 1) g ds st') := h
      rw [unf] at h
      have hl : ds.length = f.np := by
        by_cases hl : ds.length = f.np
        · exact hl
        · rw [if_neg hl] at h
          exact h.elim
      rw [if_pos hl] at h
      obtain ⟨nn, hck⟩ := Dk.ck
      let X := cxOf (L2.CX P w) P w K mg base N x (defScope st) (ws.fa g) cdv A outer s H E
      let cx : Cc := ⟨N, defScope st, none, md⟩
      have hrA : Room (k + 2) X.A := hr
      have G : Gd ws ⟨callF T wf k, wf, T.length⟩ cx X := by
        refine ⟨⟨O.kk.symm, rfl, by have := hrA.un; omega⟩, rfl, Dk.sc.nd, rfl, Dk.sc.kind, fun _ _ => rfl, O.bl, O.con, O.cls, fun y j C h1 h2 => ?_, fun y j C f1 h1 h2 h3 => ?_, fun j y hy => ?_, fun j hj => ?_⟩
        · obtain ⟨B', n', i', b', h3, h4, h5, h6⟩ := O.rse y j C h1 h2
          exact ⟨B', n', i', b', h3, h4, h5, h6 X rfl⟩
        · obtain ⟨T1, fI, fd', ps', q1, q2, q3, q4⟩ := O.rsf y j C f1 h1 h2 h3
          exact ⟨T1, fI, 1, fd', ps', q1, q2, q3 _ 0, hrA.mono (by omega), q4⟩
        · have hj : j < T.length := by rw [O.len]; exact (List.getElem?_eq_some_iff.mp hy).1
          obtain ⟨N', st2, _, _, Dk', e4⟩ := O.defs j T[j] y (List.getElem?_eq_getElem hj) hy
          obtain ⟨fd', F', B'⟩ := Dk'.fd
          exact ⟨e4, F'.kp, k + 2, fd', _, ih j T[j] y N' st2 fd' (List.getElem?_eq_getElem hj) hy F' Dk', hrA, B'⟩
        · have hj' : j < md.fns.length := by rw [← O.len]; exact hj
          exact ⟨md.fns[j], List.getElem?_eq_getElem hj'⟩
      have tk : Takes X (fun cls d _ H' => E cls d H') := takes_of rfl rfl rfl rfl
      have hp : PassesOwn (model X.prog X.w) X.A X.env X.xe := passes_of rfl
      refine ⟨_, (sndS ws _ nn).ss O.ec G tk hp rfl rfl hck, ?_⟩
      have hvl : vs.length = f.np := by rw [← t.length, hl]
      have hNl : (L2.start N vs).length = N.length := by
        unfold L2.start
        have := Dk.np
        simp
        omega
      refine ⟨_, st', m, rl_start t (f.nl - f.np) (by rw [Dk.nl, hvl]), r, hNl, ?_⟩
      exact aft_fin (W' := fun cls d _ H' => E cls d H') rfl r (fun _ _ _ _ _ h => h) ⟨[], rfl⟩ h
end
end Mn
/-! Rf2: such a class, looked at in the written part. -/
namespace Mn
open PySem PySem.Spec PySem.Calls PyProof.Rows L2
def rsCls (K : PySem.W.Frag) (C : Addr) : Bool := match K.lookup C with
  | some ⟨.type "type", _, .cls cd, sl⟩ => (match cd.mro, sl.toList with
    | .ref C' :: bm, [_, _, _, _, some (.builtin n), _] => C' == C && n == "ValueError.__new__" && !cd.hasDel && cd.hasDict && PySem.HandSPX.refsVE bm
    | _, _ => false)
  | _ => false
theorem rsCls_ok {K : PySem.W.Frag} {C : Addr} (h : rsCls K C = true) : (∃ nm q N bs bm sn sub ab col dd k0 k1 k2 k3 k5, K.lookup C = some (excClassObj nm q C N bs bm true sn sub ab col dd k0 k1 k2 k3 k5 "ValueError.__new__") ∧ PySem.HandSPX.refsVE bm = true) ∧ ∃ cd, PySem.W.clsIn K C = some cd := by
  unfold rsCls at h
  split at h
  · rename_i dd cd sl ho
    split at h
    · rename_i C' bm k0 k1 k2 k3 n k5 hm hs
      simp only [Bool.and_eq_true, beq_iff_eq, Bool.not_eq_true'] at h
      obtain ⟨⟨⟨⟨rfl, rfl⟩, hdel⟩, hdict⟩, ht⟩ := h
      refine ⟨?_, cd, by unfold PySem.W.clsIn; rw [ho]⟩
      obtain ⟨nm, bs, mro, ns, qn, hd, sn, sub, ab, col, del⟩ := cd
      dsimp only at hm hdel hdict
      subst hm hdel hdict
      obtain ⟨l⟩ := sl
      dsimp only at hs
      subst hs
      exact ⟨nm, qn, ns, bs, bm, sn, sub, ab, col, dd, k0, k1, k2, k3, k5, ho, ht⟩
    · cases h
  · cases h
def rsBody (x f slf : Str) : List Stmt → Bool
  | [.Expr (.Call (.Attribute (.Call (.Name s _) [] [] _) i p2) [.Name x1 _] [] p4) _, .Assign [.Attribute (.Name s1 _) f1 _] (.Name x2 _) _] =>
    decide (s = "super") && decide (i = "__init__") && decide (x1 = x) && decide (s1 = slf) && decide (f1 = f) && decide (x2 = x) && (p2.endLine == p4.line)
  | _ => false
theorem rsBody_ok {x f slf : Str} {b : List Stmt} (h : rsBody x f slf b = true) : ∃ p0 p1 p2 p3 p4 p5 p6 p7 p8 p9, (p2.endLine == p4.line) = true ∧ b = siBody x f slf p0 p1 p2 p3 p4 p5 p6 p7 p8 p9 := by
  unfold rsBody at h
  split at h
  · simp only [Bool.and_eq_true, decide_eq_true_eq] at h
    obtain ⟨⟨⟨⟨⟨⟨rfl, rfl⟩, rfl⟩, rfl⟩, rfl⟩, rfl⟩, hl⟩ := h
    exact ⟨_, _, _, _, _, _, _, _, _, _, hl, rfl⟩
  · cases h
def rsScope (slf x : Str) (sc : Scope) : Bool := (match sc.kind with | .function => true | _ => false) && !sc.isCoroutine && !sc.isGenerator && (sc.names.lookup ("super" : Str) == some .globalImplicit) && (sc.names.lookup ("__class__" : Str) == some .free) &&
  (sc.names.lookup slf == some .local) && (sc.names.lookup x == some .local) && (sc.names.all fun y => !(y.2 == .cell)) && (sc.names.all fun y => !(y.2 == .free) || y.1 == ("__class__" : Str)) && !(slf == x) &&
  !(slf == ("__debug__" : Str)) && !(slf == ("__classdict__" : Str)) && !(x == ("__debug__" : Str)) && !(x == ("__classdict__" : Str))
def rsFn (file : Str) (K : PySem.W.Frag) (C fI : Addr) (f : Str) : Bool := match K.lookup fI with
  | some ⟨_, _, .func fd, _⟩ => (match fd.params, fd.body, fd.closure, fd.code, fd.defaults with
    | ⟨[], [a1, a2], none, [], [], none, []⟩, .stmts body, [(cn, cc)], .ref cda, .none => decide (cn = "__class__") && decide (fd.globals = mainGlobals) && decide (fd.builtins = builtinsNs) && rsBody a2.arg f a1.arg body && rsScope a1.arg a2.arg fd.scope && PySem.W.codeIn K (.ref cda) fd.qualname &&
      (match (K.lookup cda : Option Obj) with
      | some ⟨_, _, .fields vs, _⟩ => (match (vs[2]? : Option Value) with
        | some (.str fl _) => file == fl
        | _ => false)
      | _ => false) && (match K.lookup cc with
      | some ⟨_, _, .cell (some (.ref D)), _⟩ => decide (D = C)
      | _ => false)
    | _, _, _, _, _ => false)
  | _ => false
def rsB (file : Str) (K : PySem.W.Frag) (C : Addr) (f : Str) : Bool :=
  rsCls K C && decide (PySem.W.findIn K (.ref C) "__setattr__" = some (some (.builtin "object.__setattr__"))) && decide (PySem.W.subIn K (.ref C) (.type "BaseException") = some true) && decide (PySem.W.typeIn K (.ref C) = some (.type "type")) && PySem.W.keepIn K (.ref C) &&
  decide (PySem.W.mroIn K C (.ref C) = some true) && decide (PySem.W.nsIn K cStatics "thirdparty.any" = some none) && decide (PySem.W.ks_superIn K C C "__init__" = some (some (.builtin "ValueError.__init__"))) && decide (PySem.W.subIn K (.ref C) (.type "ValueError") = some true) && decide (PySem.W.findIn K (.ref C) f = some none) &&
  decide (PySem.W.nsIn K mainGlobals "super" = some none) &&
  (match PySem.W.findIn K (.ref C) "__init__" with
  | some (some (.ref fI)) => decide (PySem.W.typeIn K (.ref fI) = some (.type "function")) && rsFn file K C fI f
  | _ => false)
theorem bind_two {fd : FuncData} {a1 a2 : Arg} (hp : fd.params = ⟨[], [a1, a2], none, [], [], none, []⟩) (hd : fd.defaults = .none) (ne : a1.arg ≠ a2.arg) (us : List Value) (hl : us.length = 2) : bindArgs fd ⟨us, []⟩ = pure ([a1.arg, a2.arg].zip us) := by
  match us, hl with
  | [u1, u2], _ =>
    unfold bindArgs
    rw [hp, hd]
    have e0 : seqItems? Value.none = pure none := by rfl
    have n1 : (a2.arg == a1.arg) = false := by simpa using ne.symm
    simp [e0, List.lookup, n1]
theorem rsB_ok {P : Program} {file : Str} {K : PySem.W.Frag} {C : Addr} {f : Str} (h : rsB file K C f = true) (hf : (P.main.file : Str) = file) (hs : (P.main.scope.names.lookup ("super" : Str)).isSome = false) :
    OexC K C ∧ PySem.W.nsIn K mainGlobals "super" = some none ∧ ∃ fI fd ps, PySem.W.findIn K (.ref C) "__init__" = some (some (.ref fI)) ∧ PySem.W.typeIn K (.ref fI) = some (.type "function") ∧
      (∀ w mg base j, mg "super" = none → FnOk P w K mg base (L2.CX P w) (j + 1) fI fd ps (spSi K C f)) ∧ Binds K fd ps [] := by
  unfold rsB at h
  simp only [Bool.and_eq_true, decide_eq_true_eq] at h
  obtain ⟨⟨⟨⟨⟨⟨⟨⟨⟨⟨⟨h1, h2⟩, h3⟩, h4⟩, h5⟩, h6⟩, h7⟩, h8⟩, h9⟩, h10⟩, h11⟩, h12⟩ := h
  obtain ⟨hc1, hc2⟩ := rsCls_ok h1
  have T : OexC K C := ⟨hc1, h2, h3, h4, h5⟩
  split at h12
  · rename_i fI hi
    simp only [Bool.and_eq_true, decide_eq_true_eq] at h12
    obtain ⟨ht, hfn⟩ := h12
    unfold rsFn at hfn
    split at hfn
    · rename_i oc od fd osl lk
      split at hfn
      · rename_i a1 a2 body cn cc cda hp hb hcl hcd hdf
        simp only [Bool.and_eq_true, decide_eq_true_eq] at hfn
        obtain ⟨⟨⟨⟨⟨⟨⟨rfl, hg⟩, hbt⟩, hbody⟩, hsc⟩, hcode⟩, hco⟩, hcell⟩ := hfn
        unfold rsScope at hsc
        simp only [Bool.and_eq_true, Bool.not_eq_true', beq_iff_eq, List.all_eq_true, Bool.or_eq_true] at hsc
        obtain ⟨⟨⟨⟨⟨⟨⟨⟨⟨⟨⟨⟨⟨s1, s2⟩, s3⟩, s4⟩, s5⟩, s6⟩, s7⟩, s8⟩, s9⟩, s10⟩, s11⟩, s12⟩, s13⟩, s14⟩ := hsc
        have ne : a1.arg ≠ a2.arg := by simpa using s10
        refine ⟨T, h11, fI, fd, [a1.arg, a2.arg], hi, ht, fun w mg base j hmg => ?_, Binds.all fun us hl => bind_two hp hdf ne us hl⟩
        refine si_ok (cc := cc) (cda := cda) (qual := fd.qualname) (scope := fd.scope) ⟨T, ⟨oc, od, osl, lk⟩, ?_, hcode, ?_, ?_, hc2, h6, h7, h8, h9, h10, hs, ?_, s2, s3, s4, s5, s6, s7, fun y hy e => ?_, fun y hy => ?_, ne, fun z hz => ?_⟩ hmg j
        · obtain ⟨p0, p1, p2, p3, p4, p5, p6, p7, p8, p9, hl, rfl⟩ := rsBody_ok hbody
          refine ⟨fd.name, ⟨[], [a1, a2], none, [], [], none, []⟩, _, .none, fd.kwdefaults, fd.doc, fd.pyModule, fd.annotations, fd.closureTuple, ?_, ⟨a1, rfl, rfl⟩, p0, p1, p2, p3, p4, p5, p6, p7, p8, p9, hl, rfl⟩
          obtain ⟨nm, qn, pa, bo, sc, gl, cl, df, kd, dc, pm, an, cd, ct, bt⟩ := fd
          dsimp only at *
          subst hp hb hcl hcd hdf hg hbt
          rfl
        · split at hco
          · rename_i c1 c2 vs c3 e1
            split at hco
            · rename_i fl tf e2
              exact ⟨_, _, _, _, fl, tf, e1, e2, by rw [hf]; exact hco⟩
            · cases hco
          · cases hco
        · split at hcell
          · rename_i c1 c2 D c3 e1
            have hcell := of_decide_eq_true hcell
            subst hcell
            exact ⟨_, _, _, e1⟩
          · cases hcell
        · split at s1
          · assumption
          · cases s1
        · have := s8 y hy
          rw [e] at this
          cases this
        · rcases s9 _ (PySem.mem_of_lookup hy) with q | q
          · cases q
          · exact q
        · have : z = a1.arg ∨ z = a2.arg := by simpa using hz
          rcases this with rfl | rfl
          · exact ⟨s11, s12⟩
          · exact ⟨s13, s14⟩
      · cases hfn
    · cases hfn
  · cases h12
end Mn
/-! Mn18: from what the head tells to the text's facts; a law by its small run. -/
namespace Mn
open PySem PySem.Spec PyProof.Rows L2
theorem zip_lookup : ∀ (ps : List Str) (us : List Value), ps.Nodup → us.length = ps.length → (∀ l : List (Str × Value), (∀ p ∈ l, p.1 ∉ ps) → ps.filterMap (fun n => ((l ++ ps.zip us).lookup n).map (n, ·)) = ps.zip us)
  | [], _, _, _ => fun _ _ => rfl
  | p :: ps, [], _, h => by cases h
  | p :: ps, u :: us, nd, h => fun l hl => by
    obtain ⟨h1, h2⟩ := List.nodup_cons.mp nd
    have ll : (l ++ (p, u) :: ps.zip us).lookup p = some u := by
      have : ∀ l : List (Str × Value), (∀ q ∈ l, q.1 ∉ p :: ps) → (l ++ (p, u) :: ps.zip us).lookup p = some u := by
        intro l
        induction l with
        | nil => intro _; simp [List.lookup]
        | cons q l ih =>
          intro hq
          have hne : (p == q.1) = false := by
            have := hq q List.mem_cons_self
            simp at this
            simp [Ne.symm this.1]
          rw [List.cons_append, List.lookup_cons, hne]
          exact ih fun z hz => hq z (List.mem_cons_of_mem _ hz)
      exact this l hl
    rw [List.zip_cons_cons, List.filterMap_cons, ll]
    show (p, u) :: _ = _
    congr 1
    have e : l ++ (p, u) :: ps.zip us = (l ++ [(p, u)]) ++ ps.zip us := by simp
    rw [e]
    refine zip_lookup ps us h2 (by simpa using h) _ fun q hq => ?_
    rcases List.mem_append.mp hq with hq | hq
    · exact fun z => hl q hq (List.mem_cons_of_mem _ z)
    · have : q = (p, u) := by simpa using hq
      rw [this]
      exact h1
theorem zip_none : ∀ (ps : List Str) (us : List Value), us.length = ps.length → ps.filter (fun n => ((ps.zip us).lookup n).isNone) = [] := by
  intro ps us h
  rw [List.filter_eq_nil_iff]
  intro n hn hh
  have : ∀ (ps : List Str) (us : List Value), us.length = ps.length → n ∈ ps → (List.lookup n (ps.zip us)).isSome = true := by
    intro ps
    induction ps with
    | nil => intro us _ h; cases h
    | cons p ps ih =>
      intro us hl hm
      cases us with
      | nil => cases hl
      | cons u us =>
        rw [List.zip_cons_cons, List.lookup_cons]
        by_cases e : n = p
        · simp [e]
        · have : (n == p) = false := by simp [e]
          rw [this]
          exact ih us (by simpa using hl) ((List.mem_cons.mp hm).resolve_left e)
  have := this ps us h hn
  rw [Option.isNone_iff_eq_none] at hh
  rw [hh] at this
  cases this
theorem bind_gen {x qual : Str} {ps : List Str} {as : List Arg} {body : List Stmt} {scope : Scope} {kV doc pm : Value} {an : Option Addr} {cdv ct : Value} (hp : as.map (·.arg) = ps) (nd : ps.Nodup) (us : List Value) (hl : us.length = ps.length) :
    bindArgs (PySem.W.fnOf x qual ⟨[], as, none, [], [], none, []⟩ body scope .none kV doc pm an cdv ct) ⟨us, []⟩ = pure (ps.zip us) := by
  subst hp
  have h1 := zip_lookup _ us nd hl [] (fun _ h => by cases h)
  have h2 := zip_none _ us hl
  rw [List.nil_append] at h1
  unfold bindArgs
  dsimp only [PySem.W.fnOf]
  generalize List.map (fun x : Arg => x.arg) as = ps at *
  have e0 : seqItems? Value.none = pure none := by rfl
  have e1 : List.take ps.length ps = ps := List.take_length
  have e2 : ¬ us.length > ps.length := by omega
  simp [e0, e1, h1, h2, hl]

/-! ### the text's own facts -/
def argsB (a : Arguments) (ps : List Str) : Bool := a.posonlyargs.isEmpty && a.vararg.isNone && a.kwonlyargs.isEmpty && a.kw_defaults.isEmpty && a.kwarg.isNone && a.defaults.isEmpty && decide (a.args.map (·.arg) = ps)
def scopeB (N ps : List Str) (sc : Scope) : Bool := (match sc.kind with | .function => true | _ => false) && !sc.isCoroutine && !sc.isGenerator && decide N.Nodup && decide (N.take ps.length = ps) &&
  (ps.all fun x => sc.names.lookup x == some .local || sc.names.lookup x == some .cell) && sc.names.all fun y => !(y.2 == .free)
def defB (md : Md) (f : Fn) (N : List Str) (st : Stmt) : Bool := argsB (defArgs st) (N.take f.np) && scopeB N (N.take f.np) (defScope st) && decide (f.nl = N.length) && Nat.ble f.np N.length && ckSs 300 ⟨N, defScope st, none, md⟩ f.body (defBody st)
def defsB (md : Md) : List Fn → List (List Str) → List Stmt → Bool
  | [], [], [] => true
  | f :: fs, N :: Ns, st :: sts => defB md f N st && defsB md fs Ns sts
  | _, _, _ => false
def clsB (md : Md) : Bool := md.cls.all fun c => decide ((md.cls.find? fun c' => c'.2.1 == c.2.1) = some c)
def textB (md : Md) (T : List Fn) (NN : List (List Str)) (sts : List Stmt) : Bool := defsB md T NN sts && decide (T.length = md.fns.length) && clsB md
/-! ### what the head is asked -/
def ddOf (x : Str) (st : Stmt) : He.DefD := ⟨(x, none), x, x, defArgs st, defBody st, defScope st, [], []⟩
def ddsOf (xs : List Str) (sts : List Stmt) : List He.DefD := List.zipWith ddOf xs sts
def faOf (md : Md) : List He.Fa := md.fns.map .glo ++ md.bl.map .free ++ md.cls.map (fun c => .glo c.1) ++ (md.cls.filter fun c => c.2.2.isNone).map (fun c => .exc c.1) ++
  md.cls.flatMap fun c => md.cls.map fun c' => .exm c.1 c'.1 (decide (c'.2.1 = c.2.1))
mutual
/-- a value of the written part -/
def relD (K : PySem.W.Frag) : D → Value → Bool
  | .non, .none => true
  | .bl a, .bool b => a == b
  | .int a, .int b _ => decide (a = b)
  | .str a, .str b _ => decide (b = (⟨a.toArray⟩ : Str))
  | .tup xs, .ref a => (match K.lookup a with
    | some ⟨.type c, _, .seq its _, _⟩ => decide (c = "tuple") && decide (its.size ≤ sizeLine) && relDs K xs its.toList
    | _ => false)
  | _, _ => false
def relDs (K : PySem.W.Frag) : List D → List Value → Bool
  | [], [] => true
  | d :: ds, v :: vs => relD K d v && relDs K ds vs
  | _, _ => false
end
def conB (K : PySem.W.Frag) (c : Str × D) : Bool := match PySem.W.nsIn K mainGlobals c.1 with
  | some (some u) => relD K c.2 u
  | _ => false
def exB (md : Md) (K : PySem.W.Frag) : Bool := md.con.all (conB K) && (md.cls.all fun c => match c.2.2 with
  | some f => xfB K (He.ga K c.1) && decide (PySem.W.findIn K (.ref (He.ga K c.1)) f = some none)
  | none => true) && md.rs.all fun x => (match md.cls.lookup x with
  | some (_, some f) => rsB md.file K (He.ga K x) f
  | _ => false)
def wsOf (K : PySem.W.Frag) (md : Md) : Ws := ⟨K, fun g => He.ga K (md.fns.getD g ""), fun k => (md.cls.find? fun c => c.2.1 == k).map fun c => (He.ga K c.1, c.2.2)⟩
/-! ### the Hook: the written part with the machine's own names beside it -/
def kR (n : Nat) (g : Addr → Option Obj) : PySem.W.Frag := He.frT g (cStatics :: He.asD g n)
def obR (n : Nat) (md : Md) (sts : List Stmt) (g : Addr → Option Obj) : He.AlX := (He.obsT (faOf md) (ddsOf md.fns sts) [] (kR n g), exB md (kR n g))
def hkR (n : Nat) (md : Md) (sts : List Stmt) : PySem.W.Hook where
  α := He.AlX
  obs := fun s => obR n md sts s.heap.get?
  val := fun w => (He.valT (ddsOf md.fns sts) [] w, true)
  says := fun w h => ∃ K : PySem.W.Frag, K.In h ∧ He.SaysX (faOf md) (ddsOf md.fns sts) [] [] (exB md) w h K
  of := fun w s e => ⟨kR n s.heap.get?, He.frT_in, congrArg Prod.fst e, congrArg Prod.snd e, by simp, by simp, by simp⟩
  keeps := fun w h h' z k => by
    obtain ⟨K, q, c⟩ := z
    exact ⟨K, q.keeps k, c.t, c.more, by simp, by simp, by simp⟩
theorem obR_eq {n : Nat} {md : Md} {sts : List Stmt} {g : Addr → Option Obj} {s : Shared} (h : ∀ a, g a = s.heap.get? a) : obR n md sts g = (hkR n md sts).obs s := by
  have z : g = s.heap.get? := funext h
  subst z
  rfl
/-! ### sound -/
theorem argsB_ok {a : Arguments} {ps : List Str} (h : argsB a ps = true) : ∃ as : List Arg, a = ⟨[], as, none, [], [], none, []⟩ ∧ as.map (·.arg) = ps := by
  obtain ⟨p, as, v, ko, kd, kw, df⟩ := a
  unfold argsB at h
  simp only [Bool.and_eq_true, decide_eq_true_eq, List.isEmpty_iff, Option.isNone_iff_eq_none] at h
  obtain ⟨⟨⟨⟨⟨⟨rfl, rfl⟩, rfl⟩, rfl⟩, rfl⟩, rfl⟩, h⟩ := h
  exact ⟨as, rfl, h⟩
theorem scopeB_ok {N ps : List Str} {sc : Scope} (h : scopeB N ps sc = true) : FnScope N ps sc := by
  unfold scopeB at h
  simp only [Bool.and_eq_true, decide_eq_true_eq, Bool.not_eq_true', List.all_eq_true, Bool.or_eq_true] at h
  obtain ⟨⟨⟨⟨⟨⟨h1, h2⟩, h3⟩, h4⟩, h5⟩, h6⟩, h7⟩ := h
  refine ⟨?_, h2, h3, h4, h5, fun x hx => ?_, fun y hy e => ?_⟩
  · split at h1
    · rename_i e; exact e
    · cases h1
  · rcases h6 x hx with z | z
    · exact .inl (by simpa using z)
    · exact .inr (by simpa using z)
  · have := h7 y hy
    rw [e] at this
    cases this
theorem defsB_get {md : Md} : ∀ {fs : List Fn} {Ns : List (List Str)} {sts : List Stmt}, defsB md fs Ns sts = true → ∀ {g : Nat} {f : Fn}, fs[g]? = some f → ∃ N st, Ns[g]? = some N ∧ sts[g]? = some st ∧ defB md f N st = true
  | [], [], [], _, g, f, e => by simp at e
  | f' :: fs, N :: Ns, st :: sts, h, g, f, e => by
    have h' : defB md f' N st = true ∧ defsB md fs Ns sts = true := by simpa [defsB] using h
    cases g with
    | zero =>
      have : f' = f := by simpa using e
      subst this
      exact ⟨N, st, rfl, rfl, h'.1⟩
    | succ g => exact defsB_get h'.2 (g := g) (by simpa using e)
mutual
theorem relD_ok {ws : Ws} {K : PySem.W.Frag} (hK : ws.K = K) : ∀ {d : D} {u : Value}, relD K d u = true → ∃ v, RelV v u ∧ (∀ m H, DV ws m H d v) ∧ notl d = true
  | .non, .none, _ => ⟨.non, rfl, fun _ _ => .non, rfl⟩
  | .bl a, .bool b, h => by
    have : a = b := by simpa [relD] using h
    subst this
    exact ⟨.bl a, rfl, fun _ _ => .bl a, rfl⟩
  | .int a, .int b t, h => by
    have : a = b := by simpa [relD] using h
    subst this
    exact ⟨.int a, ⟨t, rfl⟩, fun _ _ => .int a, rfl⟩
  | .str a, .str b t, h => by
    have : b = (⟨a.toArray⟩ : Str) := by simpa [relD] using h
    subst this
    exact ⟨.str _, ⟨t, rfl⟩, fun _ _ => .str a, rfl⟩
  | .tup xs, .ref a, h => by
    unfold relD at h
    split at h
    · rename_i c dx its n sl e
      simp only [Bool.and_eq_true, decide_eq_true_eq] at h
      obtain ⟨⟨h1, h2⟩, h3⟩ := h
      subst h1
      obtain ⟨vs, r, t⟩ := relDs_ok hK h3
      refine ⟨.ref a, rfl, fun m H => .tup (vs := vs) (.inr ⟨_, its, n, by rw [hK]; exact e, rfl, rfl, h2, r⟩) (t m H), rfl⟩
    · cases h
theorem relDs_ok {ws : Ws} {K : PySem.W.Frag} (hK : ws.K = K) : ∀ {ds : List D} {us : List Value}, relDs K ds us = true → ∃ vs, Vals vs us ∧ ∀ m H, DVs ws m H ds vs
  | [], [], _ => ⟨[], .nil, fun _ _ => .nil⟩
  | d :: ds, u :: us, h => by
    have h' : relD K d u = true ∧ relDs K ds us = true := by simpa [relDs] using h
    obtain ⟨v, r, t, n⟩ := relD_ok hK h'.1
    obtain ⟨vs, rs, ts⟩ := relDs_ok hK h'.2
    exact ⟨v :: vs, .cons r rs, fun m H => .cons (t m H) n (ts m H)⟩
end
theorem lookup_mem {α : Type} {x : Str} {a : α} : ∀ {l : List (Str × α)}, l.lookup x = some a → (x, a) ∈ l
  | [], h => by simp at h
  | p :: l, h => by
    rw [List.lookup_cons] at h
    split at h
    · rename_i e
      cases h
      have : x = p.1 := by simpa using e
      subst this
      exact List.mem_cons_self
    · exact List.mem_cons_of_mem _ (lookup_mem h)
section
variable {P : Program} {w : World} {K : PySem.W.Frag} {h : Heap} {mg : Str → Option Value} {md : Md} {T : List Fn} {NN : List (List Str)} {sts : List Stmt}
theorem ec_mem {k : Nat} {C : Addr} {an : Option Str} (e : (wsOf K md).ec k = some (C, an)) : ∃ x, (x, k, an) ∈ md.cls ∧ C = He.ga K x := by
  have e' : ((md.cls.find? fun c => c.2.1 == k).map fun c => (He.ga K c.1, c.2.2)) = some (C, an) := e
  cases q : md.cls.find? fun c => c.2.1 == k with
  | none => rw [q] at e'; cases e'
  | some c =>
    rw [q] at e'
    have hk := List.find?_some q
    have hm := List.mem_of_find?_eq_some q
    obtain ⟨x, k', an'⟩ := c
    have : k' = k := by simpa using hk
    subst this
    cases e'
    exact ⟨x, hm, rfl⟩
theorem text_ok (X : K.In h) (G : h.Ns mainGlobals mg) (c : He.SaysX (faOf md) (ddsOf md.fns sts) [] [] (exB md) w h K) (t : textB md T NN sts = true) (hP : P.main.file = md.file) (hsu : (P.main.scope.names.lookup ("super" : Str)).isSome = false) : TextOk P w K mg (wsOf K md) md T NN sts := by
  have cd := c.t.d
  have more := c.more
  unfold exB at more
  rw [Bool.and_eq_true, Bool.and_eq_true] at more
  obtain ⟨more, moreR⟩ := more
  unfold textB at t
  simp only [Bool.and_eq_true, decide_eq_true_eq] at t
  obtain ⟨⟨t1, t2⟩, t3⟩ := t
  have fns : ∀ x ∈ md.fns, mg x = some (.ref (He.ga K x)) := fun x hx => He.glo_ok X G (cd.facts (f := .glo x) (by simp [faOf, hx]))
  have clsG : ∀ e ∈ md.cls, mg e.1 = some (.ref (He.ga K e.1)) := fun e he => He.glo_ok X G (cd.facts (f := .glo e.1) (by
    unfold faOf
    refine List.mem_append_left _ (List.mem_append_left _ (List.mem_append_right _ ?_))
    exact List.mem_map.mpr ⟨e, he, rfl⟩))
  refine ⟨rfl, t2, fun g f x hf hx => ?_, fun x hx => ?_, fun x d e => ?_, fun x k an e => ?_, fun x k C e1 e2 => ?_, fun x k C f e1 e2 e3 => ?_, ?_⟩
  · obtain ⟨N, st, e1, e2, hd⟩ := defsB_get t1 hf
    have hfa : (wsOf K md).fa g = He.ga K x := by
      show He.ga K (md.fns.getD g "") = _
      rw [List.getD_eq_getElem?_getD, hx]
      rfl
    refine ⟨N, st, e1, e2, ?_, by rw [hfa]; exact fns x (List.mem_of_getElem? hx)⟩
    unfold defB at hd
    simp only [Bool.and_eq_true, decide_eq_true_eq] at hd
    obtain ⟨⟨⟨⟨h1, h2⟩, h3⟩, h4⟩, h5⟩ := hd
    have S := scopeB_ok h2
    have hm : ddOf x st ∈ ddsOf md.fns sts := by
      refine List.mem_iff_getElem?.mpr ⟨g, ?_⟩
      unfold ddsOf
      rw [List.getElem?_zipWith, hx, e2]
    obtain ⟨fd, F⟩ := cd.defs hm
    have F' : FunD K x x (defArgs st) (defBody st) (defScope st) [] [] (He.ga K x) fd := F
    have ndP : (N.take f.np).Nodup := S.nd.sublist (List.take_sublist _ _)
    obtain ⟨as, ha, hps⟩ := argsB_ok h1
    have B : Binds K fd (N.take f.np) [] := F'.bindsN fun kV doc pm an cdv ct us hl => by
      rw [ha]
      exact bind_gen hps ndP us hl
    refine ⟨⟨fd, ⟨?_, ?_⟩, B⟩, S, h3, Nat.le_of_ble_eq_true h4, 300, h5⟩
    · obtain ⟨oc, od, dV, kV, doc, pm, an, cdv, ct, osl, e1, e2, e3, e4, _⟩ := F'.ex
      rcases e4 with ⟨_, rfl⟩ | ⟨z, _⟩
      · exact ⟨oc, od, kV, doc, pm, an, cdv, ct, osl, e1, by rw [hfa]; exact e2, e3⟩
      · exact absurd rfl z
    · rw [hfa]
      exact F'.kp
  · exact He.free_ok X G (cd.facts (f := .free x) (by simp [faOf, hx]))
  · have hc := List.all_eq_true.mp more.1 _ (lookup_mem e)
    unfold conB at hc
    split at hc
    · rename_i u hu
      obtain ⟨v, h1, h2, h3⟩ := relD_ok (ws := wsOf K md) rfl hc
      exact ⟨u, v, PySem.W.mg_of X G hu, h1, h2, h3⟩
    · cases hc
  · have hm := lookup_mem e
    refine ⟨He.ga K x, ?_, clsG _ hm⟩
    have hf := List.all_eq_true.mp t3 _ hm
    have hf := of_decide_eq_true hf
    show ((md.cls.find? fun c => c.2.1 == k).map fun c => (He.ga K c.1, c.2.2)) = _
    rw [hf]
    rfl
  · have hm := lookup_mem e1
    have hf := List.all_eq_true.mp t3 _ hm
    have hf := of_decide_eq_true hf
    have e2' : ((md.cls.find? fun c => c.2.1 == k).map fun c => (He.ga K c.1, c.2.2)) = some (C, none) := e2
    rw [hf] at e2'
    cases e2'
    obtain ⟨h1, h2, h3, h4⟩ := He.exc_ok (cd.facts (f := .exc x) (by
      unfold faOf
      refine List.mem_append_left _ (List.mem_append_right _ (List.mem_map.mpr ⟨(x, k, none), List.mem_filter.mpr ⟨hm, rfl⟩, rfl⟩))))
    exact ⟨_, _, _, _, PySem.F.excBase_ValueError, h1, h2, fun X hX => raises_own (by rw [hX]; exact h3) (by rw [hX]; exact h4)⟩
  · have hr := List.all_eq_true.mp moreR x e2
    rw [e1] at hr
    have hC : C = He.ga K x := by
      have hm := lookup_mem e1
      have hf := of_decide_eq_true (List.all_eq_true.mp t3 _ hm)
      have e3' : ((md.cls.find? fun c => c.2.1 == k).map fun c => (He.ga K c.1, c.2.2)) = some (C, some f) := e3
      rw [hf] at e3'
      cases e3'
      rfl
    rw [← hC] at hr
    obtain ⟨T, hs, fI, fd, ps, h1, h2, h3, h4⟩ := rsB_ok (P := P) hr hP hsu
    exact ⟨T, fI, fd, ps, h1, h2, fun base j => h3 w mg base j (PySem.W.mg_none_of X G hs), h4⟩
  · refine ⟨fun cI C an k C' an' e1 e2 => ?_, fun cI C f e1 => ?_⟩
    · obtain ⟨x, hx, rfl⟩ := ec_mem e1
      obtain ⟨y, hy, rfl⟩ := ec_mem e2
      exact He.exm_ok (cd.facts (f := .exm x y (decide (k = cI))) (by
        unfold faOf
        refine List.mem_append_right _ (List.mem_flatMap.mpr ⟨_, hx, List.mem_map.mpr ⟨_, hy, rfl⟩⟩)))
    · obtain ⟨x, hx, rfl⟩ := ec_mem e1
      have hh := List.all_eq_true.mp more.2 _ hx
      dsimp only at hh
      rw [Bool.and_eq_true] at hh
      exact ⟨xfB_ok hh.1, of_decide_eq_true hh.2⟩
end
end Mn
/-! Mn19: a law holds if its small run gives True at every script. -/
namespace Mn
open PySem PySem.Spec PyProof.Rows L2
/-- the law's promise of the small run -/
def Plain (T : List Fn) (k g : Nat) : Prop := ∀ ns : List Int, ns.length ≤ 63 → (∀ z ∈ ns, Builtin.Int.intBits z ≤ 1048576) → ∃ wf st', callF T wf k g [.kl (ns.map D.int)] [] = .ok (.bl true) st'
theorem dvs_ints {ws : Ws} {H : Hp} : ∀ ns : List Int, DVs ws [] H (ns.map D.int) (ns.map V.int)
  | [] => .nil
  | n :: ns => .cons (.int n) rfl (dvs_ints ns)
theorem law_walk {l : PySem.W.OpenLaw} {q : Program} {loose : List Str} {XP : (Str → Option Value) → Heap → Prop} {d : DefRec} {md : Md} {T : List Fn} {NN : List (List Str)} {sts : List Stmt} {k g : Nat} {f : Fn} {x : Str}
    (hn : l.most = some 63) (hdf : d.params.defaults = []) (hr : Room (k + 2) callerA) (t : textB md T NN sts = true) (hP : l.prog.main.file = md.file) (hsu : (l.prog.main.scope.names.lookup ("super" : Str)).isSome = false) (hf : T[g]? = some f) (hx : md.fns[g]? = some d.name) (hps : ∀ N, NN[g]? = some N → N.take f.np = [x]) (plain : Plain T k g) :
    PySem.W.WalkO q loose XP (hkR 4 md sts).says l.row.toRowW d [] (fun f vs => PySem.call f vs) := by
  refine Att.attach_callB hn hdf fun w s₀ s₁ mg mb fa o pm cd doc a vs ns G Y ho hd hcd hmg hobj hints hlen hbits hg => ?_
  obtain ⟨K, KX, c⟩ := Y
  have O := text_ok (P := l.prog) KX G.T.g c t hP hsu
  obtain ⟨N, st, e1, e2, Dk, e4⟩ := O.defs g f d.name hf hx
  obtain ⟨fd, F, B⟩ := Dk.fd
  have hfa : (wsOf K md).fa g = fa := by
    rw [hmg] at e4
    cases e4
    rfl
  rw [hfa] at F
  have hpx : N.take f.np = [x] := hps N e1
  have run : ∀ (base : Heap) (wf : Nat), FnOk l.prog w K mg base (L2.CX l.prog w) (k + 2) fa fd [x] (spF (wsOf K md) ⟨callF T wf k, wf, T.length⟩ g) := fun base wf => by
    have := textRun (base := base) O wf k g f d.name N st fd hf hx (by rw [hfa]; exact F) Dk
    rw [hfa, hpx] at this
    exact this
  have hF : FnOk l.prog w K mg s₁.heap (L2.CX l.prog w) (k + 2) fa fd [x] (fun vs H Q E => ∃ wf, spF (wsOf K md) ⟨callF T wf k, wf, T.length⟩ g vs H Q E) → True := fun _ => trivial
  have hb : ∀ (s : Shared) (u : Value), BindsTo s fd ⟨[u], []⟩ [(x, u)] := fun s u => by
    obtain ⟨N', st', e1', e2', hd'⟩ := defsB_get (by
      unfold textB at t
      simp only [Bool.and_eq_true] at t
      exact t.1.1) hf
    rw [e1] at e1'
    cases e1'
    rw [e2] at e2'
    cases e2'
    unfold defB at hd'
    simp only [Bool.and_eq_true, decide_eq_true_eq] at hd'
    obtain ⟨as, ha, hps'⟩ := argsB_ok hd'.1.1.1.1
    obtain ⟨oc, od, kV, doc', pm', an, cdv, ct, osl, rfl, lk, hc⟩ := F.ex
    refine .of_eq ?_
    rw [ha]
    have := bind_gen (x := d.name) (qual := d.name) (body := defBody st) (scope := defScope st) (kV := kV) (doc := doc') (pm := pm') (an := an) (cdv := cdv) (ct := ct) (as := as) (ps := [x]) (by rw [hps', hpx]) (by simp) [u] rfl
    simpa using this
  refine law_call (CX := L2.CX l.prog w) (k := k + 2) (fd := fd) (x := x) (sp := fun vs H Q E => ∃ wf, spF (wsOf K md) ⟨callF T wf k, wf, T.length⟩ g vs H Q E) KX G.T.g G.T.b G.T.builtins G.T.nolimit hg hobj hints (Nat.le_trans hlen (by decide)) hr
    (fun base _ _ => ⟨fun vs H Q E ⟨wf, h⟩ => (run base wf).len _ _ _ _ h, fun A outer s H args us vs Q E r e b v ⟨wf, h⟩ => (run base wf).run A outer s H args us vs Q E r e b v h⟩) hb (fun H hO hS => ?_) fun H e s' => ?_
  · obtain ⟨wf, st', e⟩ := plain ns hlen hbits
    have fz : FzL (wsOf K md) H a (ns.map V.int) := by
      rcases hS with (z | z) | z
      · rcases hO a with y | ⟨o, xs, y⟩
        · rw [y] at z; cases z
        · rw [y] at z; cases z
      · exact .inl z
      · exact .inr z
    refine ⟨wf, [], [], [.kl (ns.map D.int)], ⟨rfl, by simp, fun n o b e1 _ => by simp at e1⟩, .cons (.kl fz (dvs_ints ns)) rfl .nil, ?_⟩
    show Aft _ _ 0 [] H _ _ (callF T wf k g [.kl (ns.map D.int)] [])
    rw [e]
    intro m' H' v _ _ qv
    cases qv.1
    rfl
  · rintro ⟨_, _, _, _, _, _, _, _, _, _, _, _, z⟩
    exact z
end Mn
/-! Mn20: the small run, step by step, for simp. -/
namespace Mn
open PySem
@[simp] theorem bind_ok' {α β : Type} (a : α) (st : Sto) (f : α → Sto → Out β) : (Out.ok a st).bind f = f a st := (rfl)
@[simp] theorem bind_ex' {α β : Type} (c : Nat) (p : List D) (st : Sto) (f : α → Sto → Out β) : (Out.ex c p st).bind f = .ex c p st := (rfl)
@[simp] theorem bind_no' {α β : Type} (f : α → Sto → Out β) : (Out.no : Out α).bind f = .no := (rfl)
/-! ### the rest of a run, by names -/
section
variable (cf : Cf)
def kB (x : Out D) : Out Bool := x.bind asB
def kTup (x : Out (List D)) : Out D := x.bind fun ds st => .ok (.tup (mats ds st).1) (mats ds st).2
def kLst (x : Out (List D)) : Out D := x.bind fun ds st => .ok (.tl (mats ds st).1) (mats ds st).2
def kPrim (p : Pr) (x : Out (List D)) : Out D := x.bind fun ds st => binds (semP p ds st)
def kMeth (p : Pr) (es : List E) (ρ : Rho) (x : Out D) : Out D := x.bind fun x st => if rcv p x then (evEs cf es ρ st).bind fun ds st => binds (semP p (x :: ds) st) else .no
def kMeth2 (p : Pr) (x : D) (y : Out (List D)) : Out D := y.bind fun ds st => binds (semP p (x :: ds) st)
def kAnd (b : E) (ρ : Rho) (x : Out Bool) : Out D := x.bind fun c st => if c then evE cf b ρ st else .ok (.bl false) st
def kOr (b : E) (ρ : Rho) (x : Out Bool) : Out D := x.bind fun c st => if c then .ok (.bl true) st else evE cf b ρ st
def kNot (x : Out Bool) : Out D := x.bind fun c st => .ok (.bl (!c)) st
def kIte (a b : E) (ρ : Rho) (x : Out Bool) : Out D := x.bind fun t st => if t then evE cf a ρ st else evE cf b ρ st
def kChA (p q : Pr) (b c : E) (ρ : Rho) (x : Out D) : Out D := x.bind fun x st => (evE cf b ρ st).bind fun y st => (match x, y with
    | .int i, .int j => (match semI p i j with
      | some (.bl true) => (evE cf c ρ st).bind fun z st => binds (semP q [.int j, z] st)
      | some (.bl false) => .ok (.bl false) st
      | _ => .no)
    | _, _ => .no)
def kChB (p q : Pr) (c : E) (ρ : Rho) (x : D) (y : Out D) : Out D := y.bind fun y st => (match x, y with
    | .int i, .int j => (match semI p i j with
      | some (.bl true) => (evE cf c ρ st).bind fun z st => binds (semP q [.int j, z] st)
      | some (.bl false) => .ok (.bl false) st
      | _ => .no)
    | _, _ => .no)
def kChC (q : Pr) (c : E) (ρ : Rho) (j : Int) (t : Bool) (st : Sto) : Out D := if t then (evE cf c ρ st).bind fun z st => binds (semP q [.int j, z] st) else .ok (.bl false) st
def kChD (q : Pr) (j : Int) (z : Out D) : Out D := z.bind fun z st => binds (semP q [.int j, z] st)
def kSlA (b c : E) (ρ : Rho) (x : Out D) : Out D := x.bind fun x st => (evE cf b ρ st).bind fun y st => (match y with
    | .int i => (evE cf c ρ st).bind fun z st => (match z with
      | .int j => binds (semSl x (some i) (some j) st)
      | _ => .no)
    | _ => .no)
def kSlB (c : E) (ρ : Rho) (x : D) (y : Out D) : Out D := y.bind fun y st => (match y with
    | .int i => (evE cf c ρ st).bind fun z st => (match z with
      | .int j => binds (semSl x (some i) (some j) st)
      | _ => .no)
    | _ => .no)
def kSlC (x : D) (i : Int) (z : Out D) : Out D := z.bind fun z st => (match z with
      | .int j => binds (semSl x (some i) (some j) st)
      | _ => .no)
def kCall (g : Nat) (x : Out (List D)) : Out D := x.bind fun ds st => cf.call g (mats ds st).1 (mats ds st).2
def kCons (es : List E) (ρ : Rho) (x : Out D) : Out (List D) := x.bind fun d st => (evEs cf es ρ st).bind fun ds st => .ok (d :: ds) st
def kCons2 (d : D) (y : Out (List D)) : Out (List D) := y.bind fun ds st => .ok (d :: ds) st
/-! comprehensions -/
def kT3 (acc : List D) (x : Out D) : Out (List D) := x.bind fun x st => .ok (acc ++ [(mat x st).1]) (mat x st).2
def kT2 (elt : E) (acc : List D) (ρ : Rho) (x : Out Bool) : Out (List D) := x.bind fun b st => if b then (if acc.length < sizeLine then (evE cf elt ρ st).bind fun x st => .ok (acc ++ [(mat x st).1]) (mat x st).2 else .no) else .ok acc st
def kT1 (elt : E) (cs : List E) (acc : List D) (x : Out Rho) : Out (List D) := x.bind fun ρ st => (evCs cf cs ρ st).bind fun b st => if b then (if acc.length < sizeLine then (evE cf elt ρ st).bind fun x st => .ok (acc ++ [(mat x st).1]) (mat x st).2 else .no) else .ok acc st
def turnB (elt : E) (tg : Tg) (cs : List E) (own : List Nat) (ρ : Rho) (d : D) (acc : List D) (st : Sto) : Out (List D) := kT1 cf elt cs acc (evTg cf tg d (wipe ρ own) st)
def compB (elt : E) (tg : Tg) (cs : List E) (own : List Nat) (ρ : Rho) (sv : Sv) (n : Nat) (st : Sto) : Out D := noEx ((turns sv (turnB cf elt tg cs own ρ) n 0 [] st).bind fun acc st => .ok (.tl acc) st)
def kComp (elt : E) (tg : Tg) (cs : List E) (own : List Nat) (ρ : Rho) (x : Out (Sv × Nat)) : Out D := x.bind fun sv st => compB cf elt tg cs own ρ sv.1 sv.2 st
def kU3 (elt : E) (tg1 : Tg) (cs1 : List E) (own1 : List Nat) (ρ : Rho) (acc : List D) (x : Out (Sv × Nat)) : Out (List D) := x.bind fun sv1 st => turns sv1.1 (turnB cf elt tg1 cs1 own1 ρ) sv1.2 0 acc st
def kU2 (elt : E) (tg1 : Tg) (src1 : Src) (cs1 : List E) (own1 : List Nat) (ρ : Rho) (acc : List D) (x : Out Bool) : Out (List D) := x.bind fun b st => if b then kU3 cf elt tg1 cs1 own1 ρ acc (evSrc cf src1 ρ st) else .ok acc st
def kU1 (elt : E) (cs : List E) (tg1 : Tg) (src1 : Src) (cs1 : List E) (own1 : List Nat) (acc : List D) (x : Out Rho) : Out (List D) := x.bind fun ρ st => kU2 cf elt tg1 src1 cs1 own1 ρ acc (evCs cf cs ρ st)
def turnB2 (elt : E) (tg : Tg) (cs : List E) (tg1 : Tg) (src1 : Src) (cs1 : List E) (own own1 : List Nat) (ρ : Rho) (d : D) (acc : List D) (st : Sto) : Out (List D) := kU1 cf elt cs tg1 src1 cs1 own1 acc (evTg cf tg d (wipe ρ own) st)
def compB2 (elt : E) (tg : Tg) (cs : List E) (tg1 : Tg) (src1 : Src) (cs1 : List E) (own own1 : List Nat) (ρ : Rho) (sv : Sv) (n : Nat) (st : Sto) : Out D := noEx ((turns sv (turnB2 cf elt tg cs tg1 src1 cs1 own own1 ρ) n 0 [] st).bind fun acc st => .ok (.tl acc) st)
def kComp2 (elt : E) (tg : Tg) (cs : List E) (tg1 : Tg) (src1 : Src) (cs1 : List E) (own own1 : List Nat) (ρ : Rho) (x : Out (Sv × Nat)) : Out D := x.bind fun sv st => compB2 cf elt tg cs tg1 src1 cs1 own own1 ρ sv.1 sv.2 st
/-! targets, sources -/
def kTgs (ts : List Tg) (ds : List D) (x : Out Rho) : Out Rho := x.bind fun ρ st => evTgs cf ts ds ρ st
def kSbA (i : E) (d : D) (ρ : Rho) (x : Out D) : Out Rho := x.bind fun x st => (evE cf i ρ st).bind fun y st => (match setD x y d st with
    | some st => .ok ρ st
    | none => .no)
def kSbB (d : D) (ρ : Rho) (x : D) (y : Out D) : Out Rho := y.bind fun y st => (match setD x y d st with
    | some st => .ok ρ st
    | none => .no)
def stO {α : Type} (a : α) (x : Option Sto) : Out α := match x with
  | some st => .ok a st
  | none => .no
def kSvA (x : Out D) : Out (Sv × Nat) := x.bind fun d st => (match svOf st d with
    | some r => .ok r st
    | none => .no)
def kSvR (x : Out (List D)) : Out (Sv × Nat) := x.bind fun ds st => (match rngOf ds with
    | some r => .ok r st
    | none => .no)
def kSvE (x : Out D) : Out (Sv × Nat) := x.bind fun d st => (match svOf st d with
    | some (s, n) => .ok (.enu s, n) st
    | none => .no)
def kSvZ (b : E) (ρ : Rho) (x : Out D) : Out (Sv × Nat) := x.bind fun x st => (evE cf b ρ st).bind fun y st => (match isTup x == isTup y, svOf st x, svOf st y with
    | true, some (s, n), some (t, m) => .ok (.zip s t, min n m) st
    | _, _, _ => .no)
def kSvZ2 (x : D) (y : Out D) : Out (Sv × Nat) := y.bind fun y st => (match isTup x == isTup y, svOf st x, svOf st y with
    | true, some (s, n), some (t, m) => .ok (.zip s t, min n m) st
    | _, _, _ => .no)
/-! statements -/
def kEx (ρ : Rho) (x : Out D) : Out (Fl × Rho) := x.bind fun _ st => .ok (.nx, ρ) st
def kRet (ρ : Rho) (x : Out D) : Out (Fl × Rho) := x.bind fun d st => .ok (.ret d, ρ) st
def kNx (x : Out Rho) : Out (Fl × Rho) := x.bind fun ρ st => .ok (.nx, ρ) st
def kAsg (t : Tg) (ρ : Rho) (x : Out D) : Out (Fl × Rho) := x.bind fun d st => kNx (evTg cf t d ρ st)
def kAug (i : Nat) (p : Pr) (ρ : Rho) (x : D) (y : Out D) : Out (Fl × Rho) := y.bind fun y st => (match x, y with
      | .int a, .int b => (match semI p a b with
        | some d => .ok (.nx, ρ.set i (some d)) st
        | none => .no)
      | _, _ => .no)
def kIf (a b : List S) (ρ : Rho) (x : Out Bool) : Out (Fl × Rho) := x.bind fun t st => if t then exSs cf a ρ st else exSs cf b ρ st
def forB (t : Tg) (b : List S) (sv : Sv) (n i : Nat) (ρ : Rho) (st : Sto) : Out (Fl × Rho) := loopF sv (fun d ρ st => (evTg cf t d ρ st).bind fun ρ st => exSs cf b ρ st) n i ρ st
def kFor (t : Tg) (b : List S) (ρ : Rho) (x : Out (Sv × Nat)) : Out (Fl × Rho) := x.bind fun sv st => forB cf t b sv.1 sv.2 0 ρ st
def kTurn (t : Tg) (b : List S) (sv : Sv) (n i : Nat) (x : Out (Fl × Rho)) : Out (Fl × Rho) := x.bind fun fr st => match fr with
      | (.nx, ρ) => forB cf t b sv n i ρ st
      | (.cnt, ρ) => forB cf t b sv n i ρ st
      | (.brk, ρ) => .ok (.nx, ρ) st
      | (.ret d, ρ) => .ok (.ret d, ρ) st
def kBody (b : List S) (x : Out Rho) : Out (Fl × Rho) := x.bind fun ρ st => exSs cf b ρ st
def whB (c : E) (b : List S) (n : Nat) (ρ : Rho) (st : Sto) : Out (Fl × Rho) := loopW (fun ρ st => (evE cf c ρ st).bind asB) (fun ρ st => exSs cf b ρ st) n ρ st
def kWt (c : E) (b : List S) (n : Nat) (x : Out (Fl × Rho)) : Out (Fl × Rho) := x.bind fun fr st => match fr with
      | (.nx, ρ) => whB cf c b n ρ st
      | (.cnt, ρ) => whB cf c b n ρ st
      | (.brk, ρ) => .ok (.nx, ρ) st
      | (.ret d, ρ) => .ok (.ret d, ρ) st
def kWc (c : E) (b : List S) (n : Nat) (ρ : Rho) (x : Out Bool) : Out (Fl × Rho) := x.bind fun t st => if t then kWt cf c b n (exSs cf b ρ st) else .ok (.nx, ρ) st
def kRse (c : Nat) (x : Out (List D)) : Out (Fl × Rho) := x.bind fun ds st => if ds.all notl then .ex c ds st else .no
def kTry (hs : List (Nat × Su)) (ρ : Rho) (x : Out (Fl × Rho)) : Out (Fl × Rho) := match x with
    | .ex c p st => handle c p ρ st hs
    | x => x
def kSeq (ss : List S) (x : Out (Fl × Rho)) : Out (Fl × Rho) := seqS x fun ρ st => exSs cf ss ρ st
end
section
variable {cf : Cf} {ρ : Rho} {st : Sto} {c : Nat} {p : List D}
/-! ### one step -/
@[simp] theorem ev_var (i : Nat) : evE cf (.var i) ρ st = (match ρ[i]? with
    | some (some d) => .ok d st
    | _ => .no) := by rw [evE] <;> rfl
@[simp] theorem ev_cst (d : D) : evE cf (.cst d) ρ st = .ok d st := by rw [evE]
@[simp] theorem ev_tup (es : List E) : evE cf (.tupE es) ρ st = kTup (evEs cf es ρ st) := by rw [evE]; rfl
@[simp] theorem ev_lst (es : List E) : evE cf (.lstE es) ρ st = kLst (evEs cf es ρ st) := by rw [evE]; rfl
@[simp] theorem ev_prim (q : Pr) (es : List E) : evE cf (.prim q es) ρ st = kPrim q (evEs cf es ρ st) := by rw [evE]; rfl
@[simp] theorem ev_meth (q : Pr) (o : E) (es : List E) : evE cf (.meth q o es) ρ st = kMeth cf q es ρ (evE cf o ρ st) := by rw [evE]; rfl
@[simp] theorem ev_and (a b : E) : evE cf (.and a b) ρ st = kAnd cf b ρ (kB (evE cf a ρ st)) := by rw [evE]; rfl
@[simp] theorem ev_or (a b : E) : evE cf (.or a b) ρ st = kOr cf b ρ (kB (evE cf a ρ st)) := by rw [evE]; rfl
@[simp] theorem ev_not (a : E) : evE cf (.not a) ρ st = kNot (kB (evE cf a ρ st)) := by rw [evE]; rfl
@[simp] theorem ev_ite (t a b : E) : evE cf (.ite t a b) ρ st = kIte cf a b ρ (kB (evE cf t ρ st)) := by rw [evE]; rfl
@[simp] theorem ev_chain (q r : Pr) (a b d : E) : evE cf (.chain q r a b d) ρ st = kChA cf q r b d ρ (evE cf a ρ st) := by rw [evE]; rfl
@[simp] theorem ev_sl3 (a b d : E) : evE cf (.sl3 a b d) ρ st = kSlA cf b d ρ (evE cf a ρ st) := by rw [evE]; rfl
@[simp] theorem ev_call (g : Nat) (es : List E) : evE cf (.call g es) ρ st = kCall cf g (evEs cf es ρ st) := by rw [evE]; rfl
@[simp] theorem ev_callv (i : Nat) (es : List E) : evE cf (.callv i es) ρ st = (match ρ[i]? with
    | some (some (.fn g)) => if Nat.blt g cf.nf then kCall cf g (evEs cf es ρ st) else .no
    | _ => .no) := by rw [evE] <;> rfl
@[simp] theorem ev_comp (elt : E) (tg : Tg) (src : Src) (cs : List E) (own : List Nat) : evE cf (.comp elt tg src cs own) ρ st = kComp cf elt tg cs own ρ (evSrc cf src ρ st) := by rw [evE]; rfl
@[simp] theorem ev_comp2 (elt : E) (tg : Tg) (src : Src) (cs : List E) (tg1 : Tg) (src1 : Src) (cs1 : List E) (own own1 : List Nat) : evE cf (.comp2 elt tg src cs tg1 src1 cs1 own own1) ρ st = kComp2 cf elt tg cs tg1 src1 cs1 own own1 ρ (evSrc cf src ρ st) := by rw [evE]; rfl
@[simp] theorem ev_nil : evEs cf [] ρ st = .ok [] st := by rw [evEs]
@[simp] theorem ev_cons (e : E) (es : List E) : evEs cf (e :: es) ρ st = kCons cf es ρ (evE cf e ρ st) := by rw [evEs]; rfl
@[simp] theorem ev_cs0 : evCs cf [] ρ st = .ok true st := by rw [evCs]
@[simp] theorem ev_cs1 (e : E) (es : List E) : evCs cf (e :: es) ρ st = kB (evE cf e ρ st) := by rw [evCs]; rfl
@[simp] theorem ev_nm (i : Nat) (d : D) : evTg cf (.nm i) d ρ st = .ok (ρ.set i (some (mat d st).1)) (mat d st).2 := by rw [evTg]
@[simp] theorem ev_tp (ts : List Tg) (d : D) : evTg cf (.tp ts) d ρ st = (match seqOf st d with
    | some xs => if xs.length = ts.length then evTgs cf ts xs ρ st else .no
    | none => .no) := by
  rw [evTg]
  all_goals (cases seqOf st d <;> rfl)
@[simp] theorem ev_sb (o i : E) (d : D) : evTg cf (.sb o i) d ρ st = kSbA cf i d ρ (evE cf o ρ st) := by rw [evTg]; rfl
@[simp] theorem ev_tgs0 (ds : List D) : evTgs cf [] ds ρ st = .ok ρ st := by rw [evTgs]
@[simp] theorem ev_tgs1 (t : Tg) (ts : List Tg) (d : D) (ds : List D) : evTgs cf (t :: ts) (d :: ds) ρ st = kTgs cf ts ds (evTg cf t d ρ st) := by rw [evTgs]; rfl
@[simp] theorem ev_sex (e : E) : evSrc cf (.ex e) ρ st = kSvA (evE cf e ρ st) := by rw [evSrc]; rfl
@[simp] theorem ev_srng (es : List E) : evSrc cf (.rng es) ρ st = kSvR (evEs cf es ρ st) := by rw [evSrc]; rfl
@[simp] theorem ev_senu (e : E) : evSrc cf (.enu e) ρ st = kSvE (evE cf e ρ st) := by rw [evSrc]; rfl
@[simp] theorem ev_szip (a b : E) : evSrc cf (.zip a b) ρ st = kSvZ cf b ρ (evE cf a ρ st) := by rw [evSrc]; rfl
@[simp] theorem ex_ex (e : E) : exS cf (.ex e) ρ st = kEx ρ (evE cf e ρ st) := by rw [exS]; rfl
@[simp] theorem ex_ret (e : E) : exS cf (.ret e) ρ st = kRet ρ (evE cf e ρ st) := by rw [exS]; rfl
@[simp] theorem ex_ret0 : exS cf .ret0 ρ st = .ok (.ret .non, ρ) st := by rw [exS]
@[simp] theorem ex_pas : exS cf .pas ρ st = .ok (.nx, ρ) st := by rw [exS]
@[simp] theorem ex_brk : exS cf .brk ρ st = .ok (.brk, ρ) st := by rw [exS]
@[simp] theorem ex_cnt : exS cf .cnt ρ st = .ok (.cnt, ρ) st := by rw [exS]
@[simp] theorem ex_asg (t : Tg) (e : E) : exS cf (.asg t e) ρ st = kAsg cf t ρ (evE cf e ρ st) := by rw [exS]; rfl
@[simp] theorem ex_aug (i : Nat) (q : Pr) (e : E) : exS cf (.aug i q e) ρ st = (match ρ[i]? with
    | some (some x) => kAug i q ρ x (evE cf e ρ st)
    | _ => .no) := by rw [exS] <;> rfl
@[simp] theorem ex_if (t : E) (a b : List S) : exS cf (.ifS t a b) ρ st = kIf cf a b ρ (kB (evE cf t ρ st)) := by rw [exS]; rfl
@[simp] theorem ex_whl (t : E) (b : List S) : exS cf (.whl t b) ρ st = whB cf t b cf.wf ρ st := by rw [exS]; rfl
@[simp] theorem ex_for (t : Tg) (src : Src) (b : List S) : exS cf (.for t src b) ρ st = kFor cf t b ρ (evSrc cf src ρ st) := by rw [exS]; rfl
@[simp] theorem ex_rse (k : Nat) (es : List E) : exS cf (.rse k es) ρ st = kRse k (evEs cf es ρ st) := by rw [exS]; rfl
@[simp] theorem ex_try (b : List S) (hs : List (Nat × Su)) : exS cf (.tryS b hs) ρ st = kTry hs ρ (exSs cf b ρ st) := by rw [exS]; rfl
@[simp] theorem ex_nil : exSs cf [] ρ st = .ok (.nx, ρ) st := by rw [exSs]
@[simp] theorem ex_cons (s : S) (ss : List S) : exSs cf (s :: ss) ρ st = kSeq cf ss (exS cf s ρ st) := by rw [exSs]; rfl
/-! ### the rest at a value -/
@[simp] theorem kB_ok (b : Bool) : kB (.ok (.bl b) st) = .ok b st := (rfl)
@[simp] theorem kB_ex : kB (.ex c p st) = .ex c p st := (rfl)
@[simp] theorem kTup_ok (ds : List D) : kTup (.ok ds st) = .ok (.tup (mats ds st).1) (mats ds st).2 := (rfl)
@[simp] theorem kTup_ex : kTup (.ex c p st) = .ex c p st := (rfl)
@[simp] theorem kLst_ok (ds : List D) : kLst (.ok ds st) = .ok (.tl (mats ds st).1) (mats ds st).2 := (rfl)
@[simp] theorem kLst_ex : kLst (.ex c p st) = .ex c p st := (rfl)
@[simp] theorem kPrim_ok (q : Pr) (ds : List D) : kPrim q (.ok ds st) = binds (semP q ds st) := (rfl)
@[simp] theorem kPrim_ex (q : Pr) : kPrim q (.ex c p st) = .ex c p st := (rfl)
@[simp] theorem kMeth_ok (q : Pr) (es : List E) (d : D) : kMeth cf q es ρ (.ok d st) = if rcv q d then kMeth2 q d (evEs cf es ρ st) else .no := (rfl)
@[simp] theorem kMeth2_ok (q : Pr) (d : D) (ds : List D) : kMeth2 q d (.ok ds st) = binds (semP q (d :: ds) st) := (rfl)
@[simp] theorem kMeth2_ex (q : Pr) (d : D) : kMeth2 q d (.ex c p st) = .ex c p st := (rfl)
@[simp] theorem kAnd_ok (b : E) (t : Bool) : kAnd cf b ρ (.ok t st) = if t then evE cf b ρ st else .ok (.bl false) st := (rfl)
@[simp] theorem kAnd_ex (b : E) : kAnd cf b ρ (.ex c p st) = .ex c p st := (rfl)
@[simp] theorem kOr_ok (b : E) (t : Bool) : kOr cf b ρ (.ok t st) = if t then .ok (.bl true) st else evE cf b ρ st := (rfl)
@[simp] theorem kOr_ex (b : E) : kOr cf b ρ (.ex c p st) = .ex c p st := (rfl)
@[simp] theorem kNot_ok (t : Bool) : kNot (.ok t st) = .ok (.bl (!t)) st := (rfl)
@[simp] theorem kNot_ex : kNot (.ex c p st) = .ex c p st := (rfl)
@[simp] theorem kIte_ok (a b : E) (t : Bool) : kIte cf a b ρ (.ok t st) = if t then evE cf a ρ st else evE cf b ρ st := (rfl)
@[simp] theorem kIte_ex (a b : E) : kIte cf a b ρ (.ex c p st) = .ex c p st := (rfl)
@[simp] theorem kChA_ok (q r : Pr) (b e : E) (d : D) : kChA cf q r b e ρ (.ok d st) = kChB cf q r e ρ d (evE cf b ρ st) := (rfl)
@[simp] theorem kChB_ok (q r : Pr) (e : E) (i j : Int) (t : Bool) (h : semI q i j = some (.bl t)) : kChB cf q r e ρ (.int i) (.ok (.int j) st) = kChC cf r e ρ j t st := by
  show (match semI q i j with
      | some (.bl true) => (evE cf e ρ st).bind fun z st => binds (semP r [.int j, z] st)
      | some (.bl false) => .ok (.bl false) st
      | _ => .no) = _
  rw [h]
  cases t <;> rfl
@[simp] theorem kChC_eq (r : Pr) (e : E) (j : Int) (t : Bool) : kChC cf r e ρ j t st = if t then kChD r j (evE cf e ρ st) else .ok (.bl false) st := (rfl)
@[simp] theorem kChD_ok (r : Pr) (j : Int) (z : D) : kChD r j (.ok z st) = binds (semP r [.int j, z] st) := (rfl)
@[simp] theorem kSlA_ok (b e : E) (d : D) : kSlA cf b e ρ (.ok d st) = kSlB cf e ρ d (evE cf b ρ st) := (rfl)
@[simp] theorem kSlB_ok (e : E) (d : D) (i : Int) : kSlB cf e ρ d (.ok (.int i) st) = kSlC d i (evE cf e ρ st) := (rfl)
@[simp] theorem kSlC_ok (d : D) (i j : Int) : kSlC d i (.ok (.int j) st) = binds (semSl d (some i) (some j) st) := (rfl)
@[simp] theorem kCall_ok (g : Nat) (ds : List D) : kCall cf g (.ok ds st) = cf.call g (mats ds st).1 (mats ds st).2 := (rfl)
@[simp] theorem kCall_ex (g : Nat) : kCall cf g (.ex c p st) = .ex c p st := (rfl)
@[simp] theorem kCons_ok (es : List E) (d : D) : kCons cf es ρ (.ok d st) = kCons2 d (evEs cf es ρ st) := (rfl)
@[simp] theorem kCons_ex (es : List E) : kCons cf es ρ (.ex c p st) = .ex c p st := (rfl)
@[simp] theorem kCons2_ok (d : D) (ds : List D) : kCons2 d (.ok ds st) = .ok (d :: ds) st := (rfl)
@[simp] theorem kCons2_ex (d : D) : kCons2 d (.ex c p st) = .ex c p st := (rfl)
@[simp] theorem kT1_ok (elt : E) (cs : List E) (acc : List D) : kT1 cf elt cs acc (.ok ρ st) = kT2 cf elt acc ρ (evCs cf cs ρ st) := (rfl)
@[simp] theorem kT2_ok (elt : E) (acc : List D) (t : Bool) : kT2 cf elt acc ρ (.ok t st) = if t then (if acc.length < sizeLine then kT3 acc (evE cf elt ρ st) else .no) else .ok acc st := (rfl)
@[simp] theorem kT3_ok (acc : List D) (d : D) : kT3 acc (.ok d st) = .ok (acc ++ [(mat d st).1]) (mat d st).2 := (rfl)
@[simp] theorem kComp_ok (elt : E) (tg : Tg) (cs : List E) (own : List Nat) (sv : Sv) (n : Nat) : kComp cf elt tg cs own ρ (.ok (sv, n) st) = compB cf elt tg cs own ρ sv n st := (rfl)
@[simp] theorem kComp_ex (elt : E) (tg : Tg) (cs : List E) (own : List Nat) : kComp cf elt tg cs own ρ (.ex c p st) = .ex c p st := (rfl)
@[simp] theorem kComp2_ok (elt : E) (tg : Tg) (cs : List E) (tg1 : Tg) (src1 : Src) (cs1 : List E) (own own1 : List Nat) (sv : Sv) (n : Nat) : kComp2 cf elt tg cs tg1 src1 cs1 own own1 ρ (.ok (sv, n) st) = compB2 cf elt tg cs tg1 src1 cs1 own own1 ρ sv n st := (rfl)
@[simp] theorem kU1_ok (elt : E) (cs : List E) (tg1 : Tg) (src1 : Src) (cs1 : List E) (own1 : List Nat) (acc : List D) : kU1 cf elt cs tg1 src1 cs1 own1 acc (.ok ρ st) = kU2 cf elt tg1 src1 cs1 own1 ρ acc (evCs cf cs ρ st) := (rfl)
@[simp] theorem kU2_ok (elt : E) (tg1 : Tg) (src1 : Src) (cs1 : List E) (own1 : List Nat) (acc : List D) (t : Bool) : kU2 cf elt tg1 src1 cs1 own1 ρ acc (.ok t st) = if t then kU3 cf elt tg1 cs1 own1 ρ acc (evSrc cf src1 ρ st) else .ok acc st := (rfl)
@[simp] theorem kU3_ok (elt : E) (tg1 : Tg) (cs1 : List E) (own1 : List Nat) (acc : List D) (sv : Sv) (n : Nat) : kU3 cf elt tg1 cs1 own1 ρ acc (.ok (sv, n) st) = turns sv (turnB cf elt tg1 cs1 own1 ρ) n 0 acc st := (rfl)
@[simp] theorem kTgs_ok (ts : List Tg) (ds : List D) : kTgs cf ts ds (.ok ρ st) = evTgs cf ts ds ρ st := (rfl)
@[simp] theorem kSbA_ok (i : E) (d x : D) : kSbA cf i d ρ (.ok x st) = kSbB d ρ x (evE cf i ρ st) := (rfl)
@[simp] theorem kSbB_ok (d x y : D) : kSbB d ρ x (.ok y st) = stO ρ (setD x y d st) := (rfl)
@[simp] theorem stO_some {α : Type} (a : α) : stO a (some st) = .ok a st := (rfl)
@[simp] theorem kSvA_ok (d : D) (r : Sv × Nat) (h : svOf st d = some r) : kSvA (.ok d st) = .ok r st := by
  show (match svOf st d with | some r => Out.ok r st | none => .no) = _
  rw [h]
@[simp] theorem kSvA_ex : kSvA (.ex c p st) = .ex c p st := (rfl)
@[simp] theorem kSvR_ok (ds : List D) (r : Sv × Nat) (h : rngOf ds = some r) : kSvR (.ok ds st) = .ok r st := by
  show (match rngOf ds with | some r => Out.ok r st | none => .no) = _
  rw [h]
@[simp] theorem kSvE_ok (d : D) (s : Sv) (n : Nat) (h : svOf st d = some (s, n)) : kSvE (.ok d st) = .ok (.enu s, n) st := by
  show (match svOf st d with | some (s, n) => Out.ok (Sv.enu s, n) st | none => .no) = _
  rw [h]
@[simp] theorem kSvZ_ok (b : E) (d : D) : kSvZ cf b ρ (.ok d st) = kSvZ2 d (evE cf b ρ st) := (rfl)
@[simp] theorem kSvZ2_ok (d e : D) (s t : Sv) (n m : Nat) (h : svOf st d = some (s, n)) (h1 : svOf st e = some (t, m)) (h2 : isTup d = isTup e) : kSvZ2 d (.ok e st) = .ok (.zip s t, min n m) st := by
  show (match isTup d == isTup e, svOf st d, svOf st e with | true, some (s, n), some (t, m) => Out.ok (Sv.zip s t, min n m) st | _, _, _ => .no) = _
  rw [h, h1, h2]
  simp
@[simp] theorem kEx_ok (d : D) : kEx ρ (.ok d st) = .ok (.nx, ρ) st := (rfl)
@[simp] theorem kEx_ex : kEx ρ (.ex c p st) = .ex c p st := (rfl)
@[simp] theorem kRet_ok (d : D) : kRet ρ (.ok d st) = .ok (.ret d, ρ) st := (rfl)
@[simp] theorem kRet_ex : kRet ρ (.ex c p st) = .ex c p st := (rfl)
@[simp] theorem kNx_ok : kNx (.ok ρ st) = .ok (.nx, ρ) st := (rfl)
@[simp] theorem kAsg_ok (t : Tg) (d : D) : kAsg cf t ρ (.ok d st) = kNx (evTg cf t d ρ st) := (rfl)
@[simp] theorem kAsg_ex (t : Tg) : kAsg cf t ρ (.ex c p st) = .ex c p st := (rfl)
@[simp] theorem kAug_ok (i : Nat) (q : Pr) (a b : Int) (d : D) (h : semI q a b = some d) : kAug i q ρ (.int a) (.ok (.int b) st) = .ok (.nx, ρ.set i (some d)) st := by
  show (match semI q a b with | some d => Out.ok (Fl.nx, ρ.set i (some d)) st | none => .no) = _
  rw [h]
@[simp] theorem kIf_ok (a b : List S) (t : Bool) : kIf cf a b ρ (.ok t st) = if t then exSs cf a ρ st else exSs cf b ρ st := (rfl)
@[simp] theorem kIf_ex (a b : List S) : kIf cf a b ρ (.ex c p st) = .ex c p st := (rfl)
@[simp] theorem kFor_ok (t : Tg) (b : List S) (sv : Sv) (n : Nat) : kFor cf t b ρ (.ok (sv, n) st) = forB cf t b sv n 0 ρ st := (rfl)
@[simp] theorem kFor_ex (t : Tg) (b : List S) : kFor cf t b ρ (.ex c p st) = .ex c p st := (rfl)
@[simp] theorem kBody_ok (b : List S) : kBody cf b (.ok ρ st) = exSs cf b ρ st := (rfl)
@[simp] theorem kTurn_nx (t : Tg) (b : List S) (sv : Sv) (n i : Nat) : kTurn cf t b sv n i (.ok (.nx, ρ) st) = forB cf t b sv n i ρ st := (rfl)
@[simp] theorem kTurn_cnt (t : Tg) (b : List S) (sv : Sv) (n i : Nat) : kTurn cf t b sv n i (.ok (.cnt, ρ) st) = forB cf t b sv n i ρ st := (rfl)
@[simp] theorem kTurn_brk (t : Tg) (b : List S) (sv : Sv) (n i : Nat) : kTurn cf t b sv n i (.ok (.brk, ρ) st) = .ok (.nx, ρ) st := (rfl)
@[simp] theorem kTurn_ret (t : Tg) (b : List S) (sv : Sv) (n i : Nat) (d : D) : kTurn cf t b sv n i (.ok (.ret d, ρ) st) = .ok (.ret d, ρ) st := (rfl)
@[simp] theorem kTurn_ex (t : Tg) (b : List S) (sv : Sv) (n i : Nat) : kTurn cf t b sv n i (.ex c p st) = .ex c p st := (rfl)
@[simp] theorem kWt_nx (e : E) (b : List S) (n : Nat) : kWt cf e b n (.ok (.nx, ρ) st) = whB cf e b n ρ st := (rfl)
@[simp] theorem kWt_cnt (e : E) (b : List S) (n : Nat) : kWt cf e b n (.ok (.cnt, ρ) st) = whB cf e b n ρ st := (rfl)
@[simp] theorem kWt_brk (e : E) (b : List S) (n : Nat) : kWt cf e b n (.ok (.brk, ρ) st) = .ok (.nx, ρ) st := (rfl)
@[simp] theorem kWt_ret (e : E) (b : List S) (n : Nat) (d : D) : kWt cf e b n (.ok (.ret d, ρ) st) = .ok (.ret d, ρ) st := (rfl)
@[simp] theorem kWc_ok (e : E) (b : List S) (n : Nat) (t : Bool) : kWc cf e b n ρ (.ok t st) = if t then kWt cf e b n (exSs cf b ρ st) else .ok (.nx, ρ) st := (rfl)
@[simp] theorem kRse_ok (k : Nat) (ds : List D) : kRse k (.ok ds st) = if ds.all notl then .ex k ds st else .no := (rfl)
@[simp] theorem kTry_ok (hs : List (Nat × Su)) (fr : Fl × Rho) : kTry hs ρ (.ok fr st) = .ok fr st := (rfl)
@[simp] theorem kTry_ex (hs : List (Nat × Su)) : kTry hs ρ (.ex c p st) = handle c p ρ st hs := (rfl)
@[simp] theorem kSeq_nx (ss : List S) : kSeq cf ss (.ok (.nx, ρ) st) = exSs cf ss ρ st := (rfl)
@[simp] theorem kSeq_ret (ss : List S) (d : D) : kSeq cf ss (.ok (.ret d, ρ) st) = .ok (.ret d, ρ) st := (rfl)
@[simp] theorem kSeq_brk (ss : List S) : kSeq cf ss (.ok (.brk, ρ) st) = .ok (.brk, ρ) st := (rfl)
@[simp] theorem kSeq_cnt (ss : List S) : kSeq cf ss (.ok (.cnt, ρ) st) = .ok (.cnt, ρ) st := (rfl)
@[simp] theorem kSeq_ex (ss : List S) : kSeq cf ss (.ex c p st) = .ex c p st := (rfl)
@[simp] theorem binds_some (d : D) : binds (some (d, st)) = .ok d st := (rfl)
@[simp] theorem noEx_ok {α : Type} (a : α) : noEx (.ok a st) = .ok a st := (rfl)
theorem forB_zero (t : Tg) (b : List S) (sv : Sv) (i : Nat) (h : sv.ends st i = true) : forB cf t b sv 0 i ρ st = .ok (.nx, ρ) st := by
  unfold forB
  rw [loopF, if_pos h]
theorem forB_succ (t : Tg) (b : List S) (sv : Sv) (n i : Nat) (d : D) (h : sv.item st i = some d) : forB cf t b sv (n + 1) i ρ st = kTurn cf t b sv n (i + 1) (kBody cf b (evTg cf t d ρ st)) := by
  unfold forB
  rw [loopF, h]
  rfl
theorem whB_succ (e : E) (b : List S) (n : Nat) : whB cf e b (n + 1) ρ st = kWc cf e b n ρ (kB (evE cf e ρ st)) := by
  unfold whB
  rw [loopW]
  rfl
end
end Mn
/-! Mn21: operations at values, calls, loops: for simp. -/
namespace Mn
open PySem
/-! ### sizes -/
/-- the product may be made -/
def fits (a b : Int) : Prop := Builtin.Int.intBits a + Builtin.Int.intBits b ≤ 134217728
def sm (n : Nat) (a : Int) : Prop := a.natAbs < 2 ^ n
theorem bits_sm {n : Nat} {a : Int} (h : sm n a) : Builtin.Int.intBits a ≤ n := by
  unfold Builtin.Int.intBits
  split
  · exact Nat.zero_le _
  · rename_i h0
    have h1 : a.natAbs ≠ 0 := by
      intro z
      have : a = 0 := by omega
      simp [this] at h0
    exact (Nat.log2_lt h1).mpr h
theorem fits_sm {n m : Nat} {a b : Int} (h : sm n a) (k : sm m b) (hl : n + m ≤ 134217728) : fits a b := by
  unfold fits
  have := bits_sm h
  have := bits_sm k
  omega
theorem sm_mono {n m : Nat} {a : Int} (h : sm n a) (hl : n ≤ m) : sm m a := Nat.lt_of_lt_of_le h (Nat.pow_le_pow_right (by decide) hl)
theorem sm_mul {n m : Nat} {a b : Int} (h : sm n a) (k : sm m b) : sm (n + m) (a * b) := by
  unfold sm at *
  rw [Int.natAbs_mul, Nat.pow_add]
  exact Nat.mul_lt_mul_of_lt_of_le h (Nat.le_of_lt k) (Nat.pos_of_ne_zero (by intro z; rw [z] at k; exact absurd k (Nat.not_lt_zero _)))
theorem sm_add {n : Nat} {a b : Int} (h : sm n a) (k : sm n b) : sm (n + 1) (a + b) := by
  unfold sm at *
  have := Int.natAbs_add_le a b
  rw [Nat.pow_succ]
  omega
theorem sm_neg {n : Nat} {a : Int} (h : sm n a) : sm n (-a) := by
  unfold sm at *
  rw [Int.natAbs_neg]
  exact h
theorem sm_sub {n : Nat} {a b : Int} (h : sm n a) (k : sm n b) : sm (n + 1) (a - b) := by
  rw [Int.sub_eq_add_neg]
  exact sm_add h (sm_neg k)
theorem sm_lit {n : Nat} {a : Int} (h : a.natAbs < 2 ^ n) : sm n a := h
/-! ### operations -/
section
variable {st : Sto} {a b : Int} {d : D}
@[simp] theorem sp_add : semP .add [.int a, .int b] st = some (.int (a + b), st) := (rfl)
@[simp] theorem sp_sub : semP .sub [.int a, .int b] st = some (.int (a - b), st) := (rfl)
@[simp] theorem sp_lt : semP .lt [.int a, .int b] st = some (.bl (decide (a < b)), st) := (rfl)
@[simp] theorem sp_le : semP .le [.int a, .int b] st = some (.bl (decide (a ≤ b)), st) := (rfl)
@[simp] theorem sp_gt : semP .gt [.int a, .int b] st = some (.bl (decide (b < a)), st) := (rfl)
@[simp] theorem sp_ge : semP .ge [.int a, .int b] st = some (.bl (decide (b ≤ a)), st) := (rfl)
@[simp] theorem sp_neg : semP .neg [.int a] st = some (.int (-a), st) := (rfl)
@[simp] theorem sp_eqI : semP .eq [.int a, .int b] st = some (.bl (decide (a = b)), st) := (rfl)
@[simp] theorem sp_neI : semP .ne [.int a, .int b] st = some (.bl (!decide (a = b)), st) := (rfl)
@[simp] theorem sp_eqB (a b : Bool) : semP .eq [.bl a, .bl b] st = some (.bl (decide (a = b)), st) := (rfl)
@[simp] theorem sp_max2 : semP .max2 [.int a, .int b] st = some (.int (if b > a then b else a), st) := (rfl)
@[simp] theorem sp_min2 : semP .min2 [.int a, .int b] st = some (.int (if b < a then b else a), st) := (rfl)
@[simp] theorem sp_mul (h : fits a b) : semP .mul [.int a, .int b] st = some (.int (a * b), st) := by
  show (match semI .mul a b with | some d => some (d, st) | none => none) = _
  unfold fits at h
  simp only [semI]
  rw [if_pos h]
@[simp] theorem sp_fdiv (h : b ≠ 0) (h2 : b.natAbs.log2 < 9000) : semP .fdiv [.int a, .int b] st = some (.int (a.fdiv b), st) := by
  show (match semI .fdiv a b with | some d => some (d, st) | none => none) = _
  simp only [semI]
  rw [if_pos ⟨h, h2⟩]
@[simp] theorem sp_mod (h : b ≠ 0) : semP .mod [.int a, .int b] st = some (.int (a.fmod b), st) := by
  show (match semI .mod a b with | some d => some (d, st) | none => none) = _
  simp only [semI]
  rw [if_pos h]
@[simp] theorem sI_lt : semI .lt a b = some (.bl (decide (a < b))) := (rfl)
@[simp] theorem sI_le : semI .le a b = some (.bl (decide (a ≤ b))) := (rfl)
@[simp] theorem sI_gt : semI .gt a b = some (.bl (decide (b < a))) := (rfl)
@[simp] theorem sI_ge : semI .ge a b = some (.bl (decide (b ≤ a))) := (rfl)
@[simp] theorem sI_add : semI .add a b = some (.int (a + b)) := (rfl)
@[simp] theorem sI_sub : semI .sub a b = some (.int (a - b)) := (rfl)
@[simp] theorem sI_mul (h : fits a b) : semI .mul a b = some (.int (a * b)) := by
  unfold fits at h
  simp only [semI]
  rw [if_pos h]
theorem abs_nat (a : Int) : (if a < 0 then -a else a) = (a.natAbs : Int) := by
  split <;> omega
@[simp] theorem sp_abs : semP .abs [.int a] st = some (.int (a.natAbs : Int), st) := by
  show some (D.int (if a < 0 then -a else a), st) = _
  rw [abs_nat]
@[simp] theorem sp_toInt : semP .toInt [.int a] st = some (.int a, st) := (rfl)
@[simp] theorem sp_toIntB (t : Bool) : semP .toInt [.bl t] st = some (.int (if t then 1 else 0), st) := (rfl)
@[simp] theorem sp_isN : semP .isN [d, .non] st = some (.bl (isNon d), st) := (rfl)
@[simp] theorem sp_notN : semP .notN [d, .non] st = some (.bl (!isNon d), st) := (rfl)
@[simp] theorem isNon_i : isNon (.int a) = false := (rfl)
@[simp] theorem isNon_t (xs : List D) : isNon (.tup xs) = false := (rfl)
@[simp] theorem isNon_n : isNon .non = true := (rfl)
@[simp] theorem isNon_b (t : Bool) : isNon (.bl t) = false := (rfl)
@[simp] theorem isNon_s (s : List Nat) : isNon (.str s) = false := (rfl)
@[simp] theorem isNon_l (n : Nat) : isNon (.lr n) = false := (rfl)
@[simp] theorem isNon_tl (xs : List D) : isNon (.tl xs) = false := (rfl)
@[simp] theorem isNon_kl (xs : List D) : isNon (.kl xs) = false := (rfl)
@[simp] theorem sp_lenT (xs : List D) : semP .len [.tup xs] st = some (.int xs.length, st) := (rfl)
@[simp] theorem sp_lenL (xs : List D) : semP .len [.tl xs] st = some (.int xs.length, st) := (rfl)
@[simp] theorem sp_lenK (xs : List D) : semP .len [.kl xs] st = some (.int xs.length, st) := (rfl)
theorem sp_lenR {n : Nat} {xs : List D} (h : st[n]? = some (.lst xs)) : semP .len [.lr n] st = some (.int xs.length, st) := by
  simp [semP, sem1, seqOf, lstOf, h]
@[simp] theorem sp_tupT (xs : List D) : semP .tuple [.tup xs] st = some (.tup xs, st) := (rfl)
@[simp] theorem sp_tupL (xs : List D) : semP .tuple [.tl xs] st = some (.tup xs, st) := (rfl)
@[simp] theorem sp_tupK (xs : List D) : semP .tuple [.kl xs] st = some (.tup xs, st) := (rfl)
theorem sp_tupR {n : Nat} {xs : List D} (h : st[n]? = some (.lst xs)) : semP .tuple [.lr n] st = some (.tup xs, st) := by
  simp [semP, sem1, seqOf, lstOf, h]
@[simp] theorem sp_lstT (xs : List D) : semP .list [.tup xs] st = some (.tl xs, st) := (rfl)
@[simp] theorem sp_lstL (xs : List D) : semP .list [.tl xs] st = some (.tl xs, st) := (rfl)
@[simp] theorem sp_lstK (xs : List D) : semP .list [.kl xs] st = some (.tl xs, st) := (rfl)
theorem sp_lstR {n : Nat} {xs : List D} (h : st[n]? = some (.lst xs)) : semP .list [.lr n] st = some (.tl xs, st) := by
  simp [semP, sem1, seqOf, lstOf, h]
theorem allI_map : ∀ ns : List Int, allI (ns.map D.int) = some ns
  | [] => rfl
  | n :: ns => by
    have := allI_map ns
    unfold allI at *
    rw [List.map_cons, mapO, this]
theorem allB_map : ∀ ns : List Bool, allB (ns.map D.bl) = some ns
  | [] => rfl
  | n :: ns => by
    have := allB_map ns
    unfold allB at *
    rw [List.map_cons, mapO, this]
theorem sp_sum (ns : List Int) : semP .sum [.tl (ns.map D.int)] st = some (.int ns.sum, st) := by
  simp [semP, sem1, lstOf, allI_map]
theorem sp_all (ns : List Bool) : semP .all [.tl (ns.map D.bl)] st = some (.bl (ns.all id), st) := by
  simp [semP, sem1, lstOf, allB_map]
theorem sp_any (ns : List Bool) : semP .any [.tl (ns.map D.bl)] st = some (.bl (ns.any id), st) := by
  simp [semP, sem1, lstOf, allB_map]
/-! places -/
theorem atI_get' {α : Type} (xs : List α) (i : Nat) : L2.atI xs (i : Int) = xs[i]? := by
  unfold L2.atI L2.ixN
  rw [if_pos (by omega)]
  by_cases h : i < xs.length
  · rw [if_pos (by omega)]
    simp
  · rw [if_neg (by omega), List.getElem?_eq_none (by omega)]
    rfl
theorem sp_ixT {xs : List D} {i : Nat} {d : D} (h : xs[i]? = some d) : semP .ix [.tup xs, .int (i : Int)] st = some (d, st) := by
  simp [semP, sem2, seqOf, atI_get', h]
theorem sp_ixL {xs : List D} {i : Nat} {d : D} (h : xs[i]? = some d) : semP .ix [.tl xs, .int (i : Int)] st = some (d, st) := by
  simp [semP, sem2, seqOf, lstOf, atI_get', h]
theorem sp_ixK {xs : List D} {i : Nat} {d : D} (h : xs[i]? = some d) : semP .ix [.kl xs, .int (i : Int)] st = some (d, st) := by
  simp [semP, sem2, seqOf, lstOf, atI_get', h]
theorem sp_ixR {n : Nat} {xs : List D} {i : Nat} {d : D} (h0 : st[n]? = some (.lst xs)) (h : xs[i]? = some d) : semP .ix [.lr n, .int (i : Int)] st = some (d, st) := by
  simp [semP, sem2, seqOf, lstOf, h0, atI_get', h]
@[simp] theorem sp_ix0 (x : D) (xs : List D) : semP .ix [.tup (x :: xs), .int 0] st = some (x, st) := sp_ixT (i := 0) rfl
@[simp] theorem sp_ix1 (x y : D) (xs : List D) : semP .ix [.tup (x :: y :: xs), .int 1] st = some (y, st) := sp_ixT (i := 1) rfl
@[simp] theorem sp_ix2 (x y z : D) (xs : List D) : semP .ix [.tup (x :: y :: z :: xs), .int 2] st = some (z, st) := sp_ixT (i := 2) rfl
@[simp] theorem sp_ix3 (x y z w : D) (xs : List D) : semP .ix [.tup (x :: y :: z :: w :: xs), .int 3] st = some (w, st) := sp_ixT (i := 3) rfl
/-! types -/
@[simp] theorem sp_instI (ts : List Ty) : semP (.inst ts) [.int a] st = some (.bl (ts.any (subTy .int)), st) := (rfl)
@[simp] theorem sp_instB (ts : List Ty) (t : Bool) : semP (.inst ts) [.bl t] st = some (.bl (ts.any (subTy .bool)), st) := (rfl)
@[simp] theorem sp_instS (ts : List Ty) (s : List Nat) : semP (.inst ts) [.str s] st = some (.bl (ts.any (subTy .str)), st) := (rfl)
@[simp] theorem sp_instT (ts : List Ty) (xs : List D) : semP (.inst ts) [.tup xs] st = some (.bl (ts.any (subTy .tuple)), st) := (rfl)
@[simp] theorem sp_instL (ts : List Ty) (xs : List D) : semP (.inst ts) [.tl xs] st = some (.bl (ts.any (subTy .list)), st) := (rfl)
@[simp] theorem sp_instK (ts : List Ty) (xs : List D) : semP (.inst ts) [.kl xs] st = some (.bl (ts.any (subTy .list)), st) := (rfl)
@[simp] theorem sp_instN (ts : List Ty) : semP (.inst ts) [.non] st = some (.bl false, st) := (rfl)
theorem sp_instR (ts : List Ty) {n : Nat} {o : Ob} (h : st[n]? = some o) : semP (.inst ts) [.lr n] st = some (.bl (ts.any (subTy .list)), st) := by
  simp [semP, sem1, tyOf, h]
/-! stores -/
@[simp] theorem mat_i : mat (.int a) st = (.int a, st) := (rfl)
@[simp] theorem mat_b (t : Bool) : mat (.bl t) st = (.bl t, st) := (rfl)
@[simp] theorem mat_s (s : List Nat) : mat (.str s) st = (.str s, st) := (rfl)
@[simp] theorem mat_n : mat .non st = (.non, st) := (rfl)
@[simp] theorem mat_t (xs : List D) : mat (.tup xs) st = (.tup xs, st) := (rfl)
@[simp] theorem mat_k (xs : List D) : mat (.kl xs) st = (.kl xs, st) := (rfl)
@[simp] theorem mat_r (n : Nat) : mat (.lr n) st = (.lr n, st) := (rfl)
@[simp] theorem mat_f (g : Nat) : mat (.fn g) st = (.fn g, st) := (rfl)
@[simp] theorem mat_l (xs : List D) : mat (.tl xs) st = (.lr st.length, st ++ [.lst xs]) := (rfl)
@[simp] theorem mats_nil : mats [] st = ([], st) := (rfl)
@[simp] theorem mats_cons (d : D) (ds : List D) : mats (d :: ds) st = ((mat d st).1 :: (mats ds (mat d st).2).1, (mats ds (mat d st).2).2) := (rfl)
theorem mat_notl (h : notl d = true) : mat d st = (d, st) := by
  cases d <;> first | rfl | cases h
@[simp] theorem rcv_a (n : Nat) : rcv .append (.lr n) = true := (rfl)
@[simp] theorem rcv_0 (n : Nat) : rcv .pop0 (.lr n) = true := (rfl)
@[simp] theorem rcv_1 (n : Nat) : rcv .pop1 (.lr n) = true := (rfl)
theorem sp_app {n : Nat} {xs : List D} (h : st[n]? = some (.lst xs)) (hl : xs.length < sizeLine) (hd : notl d = true) : semP .append [.lr n, d] st = some (.non, st.set n (.lst (xs ++ [d]))) := by
  simp [semP, sem2, h, hl, mat_notl hd]
theorem setD_eq {n : Nat} {xs : List D} {i : Nat} (h : st[n]? = some (.lst xs)) (hi : i < xs.length) (hd : notl d = true) : setD (.lr n) (.int (i : Int)) d st = some (st.set n (.lst (xs.set i d))) := by
  have e : L2.ixN xs.length (i : Int) = some i := by
    unfold L2.ixN
    rw [if_pos (by omega), if_pos (by omega)]
    simp
  simp [setD, h, e, mat_notl hd]
@[simp] theorem nt_i : notl (.int a) = true := (rfl)
@[simp] theorem nt_b (t : Bool) : notl (.bl t) = true := (rfl)
@[simp] theorem nt_s (s : List Nat) : notl (.str s) = true := (rfl)
@[simp] theorem nt_n : notl .non = true := (rfl)
@[simp] theorem nt_t (xs : List D) : notl (.tup xs) = true := (rfl)
@[simp] theorem nt_k (xs : List D) : notl (.kl xs) = true := (rfl)
@[simp] theorem nt_r (n : Nat) : notl (.lr n) = true := (rfl)
@[simp] theorem nt_f (g : Nat) : notl (.fn g) = true := (rfl)
/-! sources -/
@[simp] theorem sv_t (xs : List D) : svOf st (.tup xs) = some (.fix xs, xs.length) := (rfl)
@[simp] theorem sv_l (xs : List D) : svOf st (.tl xs) = some (.fix xs, xs.length) := (rfl)
@[simp] theorem sv_k (xs : List D) : svOf st (.kl xs) = some (.fix xs, xs.length) := (rfl)
theorem sv_r {n : Nat} {xs : List D} (h : st[n]? = some (.lst xs)) : svOf st (.lr n) = some (.cell n, xs.length) := by
  simp [svOf, lstOf, h]
theorem rng1 (h1 : -(2 ^ 62) ≤ b) (h2 : b < 2 ^ 62) : rngOf [.int b] = some (.rng 0 1, b.toNat) := by
  have : inR b = true := by
    unfold inR
    rw [decide_eq_true h1, decide_eq_true h2]
    rfl
  simp only [rngOf, this, if_true]
theorem rng2 (h1 : -(2 ^ 62) ≤ a) (h2 : a < 2 ^ 62) (h3 : -(2 ^ 62) ≤ b) (h4 : b < 2 ^ 62) : rngOf [.int a, .int b] = some (.rng a 1, (b - a).toNat) := by
  have e1 : inR a = true := by
    unfold inR
    rw [decide_eq_true h1, decide_eq_true h2]
    rfl
  have e2 : inR b = true := by
    unfold inR
    rw [decide_eq_true h3, decide_eq_true h4]
    rfl
  simp only [rngOf, e1, e2, Bool.and_self, if_true]
end
/-! ### equality of plain data -/
mutual
/-- plain data, at most n deep -/
def pd : Nat → D → Bool
  | 0, _ => false
  | n + 1, d => match d with
    | .non => true
    | .bl _ => true
    | .int _ => true
    | .str s => s.all fun c => decide (c < 0x110000)
    | .tup xs => pds n xs
    | .il xs => pds n xs
    | _ => false
def pds : Nat → List D → Bool
  | _, [] => true
  | n, d :: ds => pd n d && pds n ds
end
mutual
def eqP : D → D → Bool
  | .non, .non => true
  | .bl a, .bl b => a == b
  | .bl a, .int b => (if a then 1 else 0) == b
  | .int a, .bl b => a == (if b then 1 else 0)
  | .int a, .int b => a == b
  | .str a, .str b => a == b
  | .tup xs, .tup ys => eqPs xs ys
  | .il xs, .il ys => eqPs xs ys
  | _, _ => false
def eqPs : List D → List D → Bool
  | [], [] => true
  | x :: xs, y :: ys => eqP x y && eqPs xs ys
  | _, _ => false
end
mutual
/-- the model's data of it -/
def dataOf : D → PyData
  | .bl b => .bool b
  | .int i => .int i
  | .str s => .str ⟨s.toArray⟩
  | .tup xs => .tuple (datasOf xs)
  | .il xs => .list (datasOf xs)
  | _ => .none
def datasOf : List D → List PyData
  | [] => []
  | d :: ds => dataOf d :: datasOf ds
end
theorem toP_pd (st : Sto) : ∀ (n : Nat) (d : D), pd n d = true → toP st n d = some (dataOf d) := by
  intro n
  induction n with
  | zero => intro d h; simp [pd] at h
  | succ n ih =>
    intro d h
    have many : ∀ ds : List D, pds n ds = true → mapO (toP st n) ds = some (datasOf ds) := by
      intro ds
      induction ds with
      | nil => intro _; rfl
      | cons d ds ih2 =>
        intro h
        have h' : pd n d = true ∧ pds n ds = true := by simpa [pds] using h
        rw [mapO, ih d h'.1, ih2 h'.2]
        rfl
    cases d with
    | non => rfl
    | bl b => rfl
    | int i => rfl
    | str s =>
      simp only [pd] at h
      simp only [toP]
      rw [if_pos (by
        unfold PySem.PyData.strOk
        simp only [List.all_eq_true, decide_eq_true_eq] at h
        simpa using h)]
      rfl
    | tup xs =>
      simp only [pd] at h
      simp only [toP, many xs h]
      rfl
    | il xs =>
      simp only [pd] at h
      simp only [toP, lstOf, many xs h]
      rfl
    | tl xs => simp [pd] at h
    | kl xs => simp [pd] at h
    | lr n => simp [pd] at h
    | fn g => simp [pd] at h
theorem str_beq' (a b : List Nat) : ((⟨a.toArray⟩ : Str) == ⟨b.toArray⟩) = (a == b) := by
  by_cases h : a = b
  · subst h
    simp
  · have : ¬ (⟨a.toArray⟩ : Str) = ⟨b.toArray⟩ := by
      intro z
      apply h
      have := congrArg (fun s : Str => s.cps.toList) z
      simpa using this
    rw [beq_eq_false_iff_ne.mpr this, beq_eq_false_iff_ne.mpr h]
mutual
theorem eqv_data : ∀ (n m : Nat) (a b : D), pd n a = true → pd m b = true → PyData.eqv (dataOf a) (dataOf b) = eqP a b
  | 0, _, _, _, h, _ => by simp [pd] at h
  | _ + 1, 0, _, _, _, h => by simp [pd] at h
  | n + 1, m + 1, .tup xs, .tup ys, h, k => by
    simp only [pd] at h k
    simp only [dataOf, PyData.eqv, eqP]
    exact eqvs_data n m xs ys h k
  | n + 1, m + 1, .str x, .str y, h, k => by
    simp only [dataOf, PyData.eqv, eqP]
    exact str_beq' x y
  | n + 1, m + 1, .il xs, .il ys, h, k => by
    simp only [pd] at h k
    simp only [dataOf, PyData.eqv, eqP]
    exact eqvs_data n m xs ys h k
  | n + 1, m + 1, .non, b, h, k => by cases b <;> first | (simp [pd] at k; done) | simp [dataOf, PyData.eqv, eqP]
  | n + 1, m + 1, .bl x, b, h, k => by cases b <;> first | (simp [pd] at k; done) | simp [dataOf, PyData.eqv, eqP]
  | n + 1, m + 1, .int x, b, h, k => by cases b <;> first | (simp [pd] at k; done) | simp [dataOf, PyData.eqv, eqP]
  | n + 1, m + 1, .tup xs, .non, h, k => by simp [dataOf, PyData.eqv, eqP]
  | n + 1, m + 1, .tup xs, .bl _, h, k => by simp [dataOf, PyData.eqv, eqP]
  | n + 1, m + 1, .tup xs, .int _, h, k => by simp [dataOf, PyData.eqv, eqP]
  | n + 1, m + 1, .tup xs, .str _, h, k => by simp [dataOf, PyData.eqv, eqP]
  | n + 1, m + 1, .tup xs, .il _, h, k => by simp [dataOf, PyData.eqv, eqP]
  | n + 1, m + 1, .tup xs, .tl _, h, k => by simp [pd] at k
  | n + 1, m + 1, .tup xs, .kl _, h, k => by simp [pd] at k
  | n + 1, m + 1, .tup xs, .lr _, h, k => by simp [pd] at k
  | n + 1, m + 1, .tup xs, .fn _, h, k => by simp [pd] at k
  | n + 1, m + 1, .str xs, .non, h, k => by simp [dataOf, PyData.eqv, eqP]
  | n + 1, m + 1, .str xs, .bl _, h, k => by simp [dataOf, PyData.eqv, eqP]
  | n + 1, m + 1, .str xs, .int _, h, k => by simp [dataOf, PyData.eqv, eqP]
  | n + 1, m + 1, .str xs, .tup _, h, k => by simp [dataOf, PyData.eqv, eqP]
  | n + 1, m + 1, .str xs, .il _, h, k => by simp [dataOf, PyData.eqv, eqP]
  | n + 1, m + 1, .str xs, .tl _, h, k => by simp [pd] at k
  | n + 1, m + 1, .str xs, .kl _, h, k => by simp [pd] at k
  | n + 1, m + 1, .str xs, .lr _, h, k => by simp [pd] at k
  | n + 1, m + 1, .str xs, .fn _, h, k => by simp [pd] at k
  | n + 1, m + 1, .il xs, .non, h, k => by simp [dataOf, PyData.eqv, eqP]
  | n + 1, m + 1, .il xs, .bl _, h, k => by simp [dataOf, PyData.eqv, eqP]
  | n + 1, m + 1, .il xs, .int _, h, k => by simp [dataOf, PyData.eqv, eqP]
  | n + 1, m + 1, .il xs, .str _, h, k => by simp [dataOf, PyData.eqv, eqP]
  | n + 1, m + 1, .il xs, .tup _, h, k => by simp [dataOf, PyData.eqv, eqP]
  | n + 1, m + 1, .il xs, .tl _, h, k => by simp [pd] at k
  | n + 1, m + 1, .il xs, .kl _, h, k => by simp [pd] at k
  | n + 1, m + 1, .il xs, .lr _, h, k => by simp [pd] at k
  | n + 1, m + 1, .il xs, .fn _, h, k => by simp [pd] at k
  | n + 1, m + 1, .tl _, _, h, _ => by simp [pd] at h
  | n + 1, m + 1, .kl _, _, h, _ => by simp [pd] at h
  | n + 1, m + 1, .lr _, _, h, _ => by simp [pd] at h
  | n + 1, m + 1, .fn _, _, h, _ => by simp [pd] at h
theorem eqvs_data : ∀ (n m : Nat) (a b : List D), pds n a = true → pds m b = true → PyData.eqvAll (datasOf a) (datasOf b) = eqPs a b
  | _, _, [], [], _, _ => by simp [datasOf, PyData.eqvAll, eqPs]
  | _, _, [], _ :: _, _, _ => by simp [datasOf, PyData.eqvAll, eqPs]
  | _, _, _ :: _, [], _, _ => by simp [datasOf, PyData.eqvAll, eqPs]
  | n, m, x :: xs, y :: ys, h, k => by
    have h' : pd n x = true ∧ pds n xs = true := by simpa [pds] using h
    have k' : pd m y = true ∧ pds m ys = true := by simpa [pds] using k
    simp only [datasOf, PyData.eqvAll, eqPs]
    rw [eqv_data n m x y h'.1 k'.1, eqvs_data n m xs ys h'.2 k'.2]
end
theorem eqD_pd {st : Sto} {a b : D} (h : pd 16 a = true) (k : pd 16 b = true) : eqD st a b = some (eqP a b) := by
  unfold eqD
  split
  · simp only [eqP]; rename_i i j; by_cases e : i = j <;> simp [e]
  · simp only [eqP]; rename_i i j; cases i <;> cases j <;> rfl
  · rfl
  · rw [toP_pd st 16 _ h, toP_pd st 16 _ k]
    show some (PyData.eqv (dataOf a) (dataOf b)) = _
    rw [eqv_data 16 16 _ _ h k]
theorem sp_eq {st : Sto} {a b : D} (h : pd 16 a = true) (k : pd 16 b = true) : semP .eq [a, b] st = some (.bl (eqP a b), st) := by
  simp [semP, sem2, eqD_pd h k]
theorem sp_ne {st : Sto} {a b : D} (h : pd 16 a = true) (k : pd 16 b = true) : semP .ne [a, b] st = some (.bl (!eqP a b), st) := by
  simp [semP, sem2, eqD_pd h k]
mutual
theorem eqP_refl : ∀ (n : Nat) (d : D), pd n d = true → eqP d d = true
  | 0, _, h => by simp [pd] at h
  | n + 1, .non, _ => by simp [eqP]
  | n + 1, .bl b, _ => by simp [eqP]
  | n + 1, .int i, _ => by simp [eqP]
  | n + 1, .str s, _ => by simp [eqP]
  | n + 1, .tup xs, h => by
    simp only [pd] at h
    simp only [eqP]
    exact eqPs_refl n xs h
  | n + 1, .il xs, h => by
    simp only [pd] at h
    simp only [eqP]
    exact eqPs_refl n xs h
  | n + 1, .tl _, h => by simp [pd] at h
  | n + 1, .kl _, h => by simp [pd] at h
  | n + 1, .lr _, h => by simp [pd] at h
  | n + 1, .fn _, h => by simp [pd] at h
theorem eqPs_refl : ∀ (n : Nat) (ds : List D), pds n ds = true → eqPs ds ds = true
  | _, [], _ => by simp [eqPs]
  | n, d :: ds, h => by
    have h' : pd n d = true ∧ pds n ds = true := by simpa [pds] using h
    simp only [eqPs]
    rw [eqP_refl n d h'.1, eqPs_refl n ds h'.2]
    rfl
end
/-! ### calls -/
section
variable {T : List Fn} {wf k g : Nat} {f : Fn} {ds : List D} {st : Sto}
theorem call_def (hT : T[g]? = some f) (hl : ds.length = f.np) : callF T wf (k + 1) g ds st = fin st.length (exSs ⟨callF T wf k, wf, T.length⟩ f.body (ds.map some ++ List.replicate (f.nl - f.np) none) st) := by
  rw [callF, hT]
  exact if_pos hl
theorem retn_same {n : Nat} {d : D} (h : st.length ≤ n) : retn n d st = .ok d st := by
  have e : st.take n = st := List.take_of_length_le h
  unfold retn
  split
  · split
    · rename_i j
      split
      · rw [e]
      · rename_i hj
        have : st[j]? = none := by
          rw [List.getElem?_eq_none_iff]
          rcases Nat.lt_or_ge j n with z | z
          · exact absurd (Nat.blt_eq.mpr z) hj
          · omega
        rw [this]
    · split
      · rw [e]
      · rfl
  · rfl
theorem fin_ret {ρ : Rho} {d : D} : fin st.length (.ok (.ret d, ρ) st) = .ok d st := retn_same (Nat.le_refl _)
theorem fin_nx {ρ : Rho} : fin st.length (.ok (.nx, ρ) st) = .ok .non st := retn_same (Nat.le_refl _)
theorem fin_retL {n : Nat} {ρ : Rho} {d : D} (h : st.length ≤ n) : fin n (.ok (.ret d, ρ) st) = .ok d st := retn_same h
theorem fin_ex {n c : Nat} {p : List D} (h : st.length ≤ n) : fin n (.ex c p st) = .ex c p st := by
  have e : st.take n = st := List.take_of_length_le h
  show (if (clean n st && belows n p) = true then Out.ex c p (st.take n) else .ex c p st) = _
  rw [e]
  exact ite_self _
/-- a store whose lists name its own lists alone -/
def Wf (st : Sto) : Prop := st.all (Ob.below st.length) = true
theorem clean_app {st ext : Sto} (h : Wf st) : clean st.length (st ++ ext) = true := by
  unfold clean
  rw [List.take_left']
  · exact h
  · rfl
theorem retn_app {ext : Sto} {d : D} (h : Wf st) (hb : below st.length d = true) : retn st.length d (st ++ ext) = .ok d st := by
  have e : (st ++ ext).take st.length = st := List.take_left' rfl
  unfold retn
  rw [if_pos (clean_app h)]
  split
  · rename_i j
    rw [if_pos (by simpa only [below] using hb), e]
  · rw [if_pos hb, e]
theorem retn_new {ext : Sto} {j : Nat} {xs : List D} (h : Wf st) (hj : st.length ≤ j) (hx : (st ++ ext)[j]? = some (.lst xs)) (hb : belows st.length xs = true) : retn st.length (.lr j) (st ++ ext) = .ok (.tl xs) st := by
  have e : (st ++ ext).take st.length = st := List.take_left' rfl
  unfold retn
  rw [if_pos (clean_app h)]
  simp only
  rw [if_neg (by
    intro z
    have := Nat.blt_eq.mp z
    omega)]
  simp only [hx]
  rw [if_pos hb, e]
theorem retn_tl {ext : Sto} {xs : List D} (h : Wf st) (hb : belows st.length xs = true) : retn st.length (.tl xs) (st ++ ext) = .ok (.tl xs) st := retn_app h (by simpa only [below] using hb)
theorem fin_retA {ext : Sto} {ρ : Rho} {d : D} (h : Wf st) (hb : below st.length d = true) : fin st.length (.ok (.ret d, ρ) (st ++ ext)) = .ok d st := retn_app h hb
theorem fin_exA {ext : Sto} {c : Nat} (h : Wf st) : fin st.length (.ex c [] (st ++ ext)) = .ex c [] st := by
  have e : (st ++ ext).take st.length = st := List.take_left' rfl
  show (if (clean st.length (st ++ ext) && belows st.length []) = true then Out.ex c [] ((st ++ ext).take st.length) else _) = _
  rw [clean_app h, e]
  rfl
end
theorem Wf_nil : Wf [] := rfl
mutual
theorem below_pd (m : Nat) : ∀ (n : Nat) (d : D), pd n d = true → below m d = true
  | 0, _, h => by simp [pd] at h
  | n + 1, .non, _ => by simp [below]
  | n + 1, .bl b, _ => by simp [below]
  | n + 1, .int i, _ => by simp [below]
  | n + 1, .str s, _ => by simp [below]
  | n + 1, .tup xs, h => by
    simp only [pd] at h
    simp only [below]
    exact belows_pd m n xs h
  | n + 1, .il xs, h => by
    simp only [pd] at h
    simp only [below]
    exact belows_pd m n xs h
  | n + 1, .tl _, h => by simp [pd] at h
  | n + 1, .kl _, h => by simp [pd] at h
  | n + 1, .lr _, h => by simp [pd] at h
  | n + 1, .fn _, h => by simp [pd] at h
theorem belows_pd (m : Nat) : ∀ (n : Nat) (ds : List D), pds n ds = true → belows m ds = true
  | _, [], _ => by simp [belows]
  | n, d :: ds, h => by
    have h' : pd n d = true ∧ pds n ds = true := by simpa [pds] using h
    simp only [belows]
    rw [below_pd m n d h'.1, belows_pd m n ds h'.2]
    rfl
end
/-! ### loops -/
section
variable {cf : Cf} {t : Tg} {b : List S} {sv : Sv}
/-- I: what is true ahead of turn i -/
theorem for_inv (I : Nat → Rho → Sto → Prop) : ∀ {k i : Nat} {ρ : Rho} {st : Sto}, I i ρ st → (∀ j ρ st, i ≤ j → j < i + k → I j ρ st → ∃ d ρ2 st2, sv.item st j = some d ∧ (kBody cf b (evTg cf t d ρ st) = .ok (.nx, ρ2) st2 ∨ kBody cf b (evTg cf t d ρ st) = .ok (.cnt, ρ2) st2) ∧ I (j + 1) ρ2 st2) →
    (∀ ρ st, I (i + k) ρ st → sv.ends st (i + k) = true) → ∃ ρ' st', forB cf t b sv k i ρ st = .ok (.nx, ρ') st' ∧ I (i + k) ρ' st'
  | 0, i, ρ, st, h0, _, he => ⟨ρ, st, forB_zero t b sv i (he ρ st h0), h0⟩
  | k + 1, i, ρ, st, h0, hs, he => by
    obtain ⟨d, ρ2, st2, e1, e2, h2⟩ := hs i ρ st (Nat.le_refl _) (by omega) h0
    have e : i + (k + 1) = i + 1 + k := by omega
    obtain ⟨ρ', st', e3, h3⟩ := for_inv I (k := k) h2 (fun j ρ st h1 h2 => hs j ρ st (by omega) (by omega)) (fun ρ st h => by
      have := he ρ st (by rw [e]; exact h)
      rw [e] at this
      exact this)
    refine ⟨ρ', st', ?_, by rw [e]; exact h3⟩
    rw [forB_succ t b sv k i d e1]
    rcases e2 with e2 | e2 <;> rw [e2] <;> exact e3
end
section
variable {cf : Cf} {elt : E} {tg : Tg} {cs : List E} {own : List Nat} {ρ : Rho} {sv : Sv}
/-- each turn adds one item, the store stays -/
theorem turns_map (F : Nat → D) {st : Sto} {body : D → List D → Sto → Out (List D)} : ∀ {k i : Nat} {acc : List D}, (∀ j acc, i ≤ j → j < i + k → acc.length < i + k → ∃ d, sv.item st j = some d ∧ body d acc st = .ok (acc ++ [F j]) st) → acc.length ≤ i → sv.ends st (i + k) = true →
    turns sv body k i acc st = .ok (acc ++ (List.range k).map fun j => F (i + j)) st
  | 0, i, acc, _, _, he => by
    rw [turns, if_pos (show sv.ends st i = true from he)]
    simp
  | k + 1, i, acc, hs, hl, he => by
    obtain ⟨d, e1, e2⟩ := hs i acc (Nat.le_refl _) (by omega) (by omega)
    have e : i + (k + 1) = i + 1 + k := by omega
    have ih := turns_map F (st := st) (body := body) (k := k) (i := i + 1) (acc := acc ++ [F i]) (fun j acc h1 h2 h3 => hs j acc (by omega) (by omega) (by omega)) (by simp; omega) (by rw [← e]; exact he)
    rw [turns, e1]
    show (body d acc st).bind _ = _
    rw [e2]
    show turns sv body k (i + 1) (acc ++ [F i]) st = _
    rw [ih, List.append_assoc]
    congr 1
    rw [List.range_succ_eq_map, List.map_cons, List.map_map]
    show acc ++ (F i :: List.map (fun j => F (i + 1 + j)) (List.range k)) = _
    congr 2
    apply List.map_congr_left
    intro j _
    show F (i + 1 + j) = F (i + (j + 1))
    congr 1
    omega
theorem comp_map (F : Nat → D) {st : Sto} {k : Nat} (h : ∀ j acc, j < k → acc.length < k → ∃ d, sv.item st j = some d ∧ turnB cf elt tg cs own ρ d acc st = .ok (acc ++ [F j]) st) (he : sv.ends st k = true) :
    compB cf elt tg cs own ρ sv k st = .ok (.tl ((List.range k).map F)) st := by
  unfold compB
  rw [turns_map F (i := 0) (acc := []) (fun j acc _ h2 h3 => h j acc (by omega) (by omega)) (Nat.le_refl _) (by simpa using he)]
  simp
/-- .. with a test -/
theorem turns_filter (P : Nat → Bool) (F : Nat → D) {st : Sto} {body : D → List D → Sto → Out (List D)} : ∀ {k i : Nat} {acc : List D}, (∀ j acc, i ≤ j → j < i + k → acc.length < i + k → ∃ d, sv.item st j = some d ∧ body d acc st = .ok (if P j then acc ++ [F j] else acc) st) → acc.length ≤ i → sv.ends st (i + k) = true →
    turns sv body k i acc st = .ok (acc ++ (((List.range k).map (i + ·)).filter P).map F) st
  | 0, i, acc, _, _, he => by
    rw [turns, if_pos (show sv.ends st i = true from he)]
    simp
  | k + 1, i, acc, hs, hl, he => by
    obtain ⟨d, e1, e2⟩ := hs i acc (Nat.le_refl _) (by omega) (by omega)
    have e : i + (k + 1) = i + 1 + k := by omega
    have ih := fun acc' hl' => turns_filter P F (st := st) (body := body) (k := k) (i := i + 1) (acc := acc') (fun j acc h1 h2 h3 => hs j acc (by omega) (by omega) (by omega)) hl' (by rw [← e]; exact he)
    rw [turns, e1]
    show (body d acc st).bind _ = _
    rw [e2]
    show turns sv body k (i + 1) (if P i then acc ++ [F i] else acc) st = _
    have er : (List.range (k + 1)).map (i + ·) = i :: (List.range k).map (i + 1 + ·) := by
      rw [List.range_succ_eq_map, List.map_cons, List.map_map]
      congr 1
      apply List.map_congr_left
      intro j _
      show i + (j + 1) = i + 1 + j
      omega
    rw [er, List.filter_cons]
    cases P i with
    | true =>
      rw [if_pos rfl, if_pos rfl, ih _ (by simp; omega), List.map_cons, List.append_assoc]
      rfl
    | false =>
      rw [if_neg Bool.false_ne_true, if_neg Bool.false_ne_true, ih _ (by omega)]
theorem comp_filter (P : Nat → Bool) (F : Nat → D) {st : Sto} {k : Nat} (h : ∀ j acc, j < k → acc.length < k → ∃ d, sv.item st j = some d ∧ turnB cf elt tg cs own ρ d acc st = .ok (if P j then acc ++ [F j] else acc) st) (he : sv.ends st k = true) :
    compB cf elt tg cs own ρ sv k st = .ok (.tl (((List.range k).filter P).map F)) st := by
  unfold compB
  rw [turns_filter P F (i := 0) (acc := []) (fun j acc _ h2 h3 => h j acc (by omega) (by omega)) (Nat.le_refl _) (by simpa using he)]
  simp
end
@[simp] theorem item_rng (lo c : Int) (st : Sto) (i : Nat) : Sv.item (.rng lo c) st i = some (.int (lo + i * c)) := (rfl)
@[simp] theorem item_fix (xs : List D) (st : Sto) (i : Nat) : Sv.item (.fix xs) st i = xs[i]? := (rfl)
theorem item_cell {n : Nat} {st : Sto} {xs : List D} (h : st[n]? = some (.lst xs)) (i : Nat) : Sv.item (.cell n) st i = xs[i]? := by
  simp [Sv.item, lstOf, h]
@[simp] theorem ends_rng (lo c : Int) (st : Sto) (n : Nat) : Sv.ends (.rng lo c) st n = true := (rfl)
@[simp] theorem ends_fix (xs : List D) (st : Sto) (n : Nat) : Sv.ends (.fix xs) st n = (xs.length == n) := (rfl)
theorem ends_cell {n : Nat} {st : Sto} {xs : List D} (h : st[n]? = some (.lst xs)) (i : Nat) : Sv.ends (.cell n) st i = (xs.length == i) := by
  simp [Sv.ends, lstOf, h]
theorem small_acc {acc : List D} {k : Nat} (h : acc.length < k) (hk : k ≤ 16777216) : acc.length < sizeLine := Nat.lt_of_lt_of_le h hk
/-- a for over a range from 0: R: the slots ahead of turn j, w: what no one reads -/
theorem for_rng {cf : Cf} {t : Tg} {b : List S} {J : Type} (R : Nat → J → Rho) {st : Sto} {k : Nat} {ρ : Rho} (w0 : J) (h0 : ρ = R 0 w0)
    (hs : ∀ j w, j < k → ∃ w', kBody cf b (evTg cf t (.int (j : Int)) (R j w) st) = .ok (.nx, R (j + 1) w') st) : ∃ w, forB cf t b (.rng 0 1) k 0 ρ st = .ok (.nx, R k w) st := by
  obtain ⟨ρ', st', h1, w, h2, h3⟩ := for_inv (cf := cf) (t := t) (b := b) (sv := .rng 0 1) (k := k) (i := 0) (ρ := ρ) (st := st) (fun i ρ s => ∃ w, ρ = R i w ∧ s = st) ⟨w0, h0, rfl⟩
    (fun j ρ s _ hj ⟨w, hρ, hs'⟩ => by
      subst hρ hs'
      obtain ⟨w', e⟩ := hs j w (by omega)
      refine ⟨_, _, _, rfl, .inl ?_, ⟨w', rfl, rfl⟩⟩
      have : (0 : Int) + (j : Int) * 1 = j := by omega
      rw [this]
      exact e) (fun _ _ _ => rfl)
  subst h2 h3
  rw [Nat.zero_add] at h1
  exact ⟨w, h1⟩
/-- .. the store too -/
theorem for_rngS {cf : Cf} {t : Tg} {b : List S} {J : Type} (R : Nat → J → Rho) (St : Nat → Sto) {k : Nat} {ρ : Rho} {st : Sto} (w0 : J) (h0 : ρ = R 0 w0) (h1 : st = St 0)
    (hs : ∀ j w, j < k → ∃ w', kBody cf b (evTg cf t (.int (j : Int)) (R j w) (St j)) = .ok (.nx, R (j + 1) w') (St (j + 1))) : ∃ w, forB cf t b (.rng 0 1) k 0 ρ st = .ok (.nx, R k w) (St k) := by
  obtain ⟨ρ', st', h1, w, h2, h3⟩ := for_inv (cf := cf) (t := t) (b := b) (sv := .rng 0 1) (k := k) (i := 0) (ρ := ρ) (st := st) (fun i ρ s => ∃ w, ρ = R i w ∧ s = St i) ⟨w0, h0, h1⟩
    (fun j ρ s _ hj ⟨w, hρ, hs'⟩ => by
      subst hρ hs'
      obtain ⟨w', e⟩ := hs j w (by omega)
      refine ⟨_, _, _, rfl, .inl ?_, ⟨w', rfl, rfl⟩⟩
      have : (0 : Int) + (j : Int) * 1 = j := by omega
      rw [this]
      exact e) (fun _ _ _ => rfl)
  subst h2 h3
  rw [Nat.zero_add] at h1
  exact ⟨w, h1⟩
/-- [.. for j in range(k)] -/
theorem comp_rng {cf : Cf} {elt : E} {tg : Tg} {cs : List E} {own : List Nat} {ρ : Rho} (F : Nat → D) {st : Sto} {k : Nat} (h : ∀ j acc, j < k → acc.length < k → turnB cf elt tg cs own ρ (.int (j : Int)) acc st = .ok (acc ++ [F j]) st) :
    compB cf elt tg cs own ρ (.rng 0 1) k st = .ok (.tl ((List.range k).map F)) st :=
  comp_map F (fun j acc h1 h2 => ⟨_, rfl, by
    have : (0 : Int) + (j : Int) * 1 = j := by omega
    rw [this]
    exact h j acc h1 h2⟩) rfl
theorem rngN {n : Nat} (h : n < 2 ^ 60) : rngOf [.int (n : Int)] = some (.rng 0 1, n) := by
  rw [rng1 (by omega) (by omega)]
  simp
theorem rngN1 {n : Nat} (h : n < 2 ^ 60) : rngOf [.int ((n : Int) + 1)] = some (.rng 0 1, n + 1) := by
  have := rngN (n := n + 1)
  rw [rng1 (by omega) (by omega)]
  congr 2
end Mn
/-! Wk1: what expressions give, over typed values. -/
namespace Wk
open Mn PySem
instance : Inhabited D := ⟨.non⟩
/-! ### tests -/
theorem a1 {a b : Bool} (h : (a && b) = true) : a = true := by cases a <;> simp_all
theorem a2 {a b : Bool} (h : (a && b) = true) : b = true := by cases a <;> simp_all
def imp (a b : Bool) : Bool := !a || b
theorem i1 {a b : Bool} (h : imp a b = true) (k : a = true) : b = true := by cases a <;> simp_all [imp]
theorem i0 {a b : Bool} (h : imp (!a) b = true) (k : a = false) : b = true := by cases a <;> simp_all [imp]
theorem c1 {c a b : Bool} (h : (bif c then a else b) = true) (k : c = true) : a = true := by cases c <;> simp_all
theorem c0 {c a b : Bool} (h : (bif c then a else b) = true) (k : c = false) : b = true := by cases c <;> simp_all
def b2i (b : Bool) : Int := bif b then 1 else 0
/-! ### typed values as values -/
section
variable {α β γ δ ε ζ : Type}
abbrev eI (a : Int) : D := .int a
abbrev eB (a : Bool) : D := .bl a
abbrev eS (a : List Nat) : D := .str a
abbrev eF (a : Nat) : D := .fn a
abbrev eU (_ : Unit) : D := .non
abbrev eD (d : D) : D := d
abbrev eT (e : α → D) (xs : List α) : D := .tup (xs.map e)
abbrev eL (e : α → D) (xs : List α) : D := .il (xs.map e)
abbrev eP1 (e1 : α → D) (p : α) : D := .tup [e1 p]
abbrev eP2 (e1 : α → D) (e2 : β → D) (p : α × β) : D := .tup [e1 p.1, e2 p.2]
abbrev eP3 (e1 : α → D) (e2 : β → D) (e3 : γ → D) (p : α × β × γ) : D := .tup [e1 p.1, e2 p.2.1, e3 p.2.2]
abbrev eP4 (e1 : α → D) (e2 : β → D) (e3 : γ → D) (e4 : δ → D) (p : α × β × γ × δ) : D := .tup [e1 p.1, e2 p.2.1, e3 p.2.2.1, e4 p.2.2.2]
abbrev eP5 (e1 : α → D) (e2 : β → D) (e3 : γ → D) (e4 : δ → D) (e5 : ε → D) (p : α × β × γ × δ × ε) : D := .tup [e1 p.1, e2 p.2.1, e3 p.2.2.1, e4 p.2.2.2.1, e5 p.2.2.2.2]
def eO (e : α → D) : Option α → D
  | none => .non
  | some a => e a
/-- not a list just made -/
class Nl (e : α → D) : Prop where
  nl : ∀ a, notl (e a) = true
/-- names no list of the store -/
class Bl (e : α → D) : Prop where
  bl : ∀ n a, below n (e a) = true
instance : Nl eI := ⟨fun _ => rfl⟩
instance : Nl eB := ⟨fun _ => rfl⟩
instance : Nl eS := ⟨fun _ => rfl⟩
instance : Nl eF := ⟨fun _ => rfl⟩
instance : Nl eU := ⟨fun _ => rfl⟩
instance {e : α → D} : Nl (eT e) := ⟨fun _ => rfl⟩
instance {e : α → D} : Nl (eL e) := ⟨fun _ => rfl⟩
instance {e1 : α → D} : Nl (eP1 e1) := ⟨fun _ => rfl⟩
instance {e1 : α → D} {e2 : β → D} : Nl (eP2 e1 e2) := ⟨fun _ => rfl⟩
instance {e1 : α → D} {e2 : β → D} {e3 : γ → D} : Nl (eP3 e1 e2 e3) := ⟨fun _ => rfl⟩
instance {e1 : α → D} {e2 : β → D} {e3 : γ → D} {e4 : δ → D} : Nl (eP4 e1 e2 e3 e4) := ⟨fun _ => rfl⟩
instance {e1 : α → D} {e2 : β → D} {e3 : γ → D} {e4 : δ → D} {e5 : ε → D} : Nl (eP5 e1 e2 e3 e4 e5) := ⟨fun _ => rfl⟩
instance {e : α → D} [h : Nl e] : Nl (eO e) := ⟨fun a => by cases a with
  | none => rfl
  | some a => exact h.nl a⟩
theorem belows_map {e : α → D} [h : Bl e] (n : Nat) : ∀ xs : List α, belows n (xs.map e) = true
  | [] => by simp [belows]
  | x :: xs => by simp [belows, h.bl n x, belows_map n xs]
instance : Bl eI := ⟨fun _ _ => by simp [below]⟩
instance : Bl eB := ⟨fun _ _ => by simp [below]⟩
instance : Bl eS := ⟨fun _ _ => by simp [below]⟩
instance : Bl eF := ⟨fun _ _ => by simp [below]⟩
instance : Bl eU := ⟨fun _ _ => by simp [below]⟩
instance {e : α → D} [Bl e] : Bl (eT e) := ⟨fun n a => by simp [below, belows_map]⟩
instance {e : α → D} [Bl e] : Bl (eL e) := ⟨fun n a => by simp [below, belows_map]⟩
instance {e1 : α → D} [h1 : Bl e1] : Bl (eP1 e1) := ⟨fun n a => by simp [below, belows, h1.bl]⟩
instance {e1 : α → D} {e2 : β → D} [h1 : Bl e1] [h2 : Bl e2] : Bl (eP2 e1 e2) := ⟨fun n a => by simp [below, belows, h1.bl, h2.bl]⟩
instance {e1 : α → D} {e2 : β → D} {e3 : γ → D} [h1 : Bl e1] [h2 : Bl e2] [h3 : Bl e3] : Bl (eP3 e1 e2 e3) := ⟨fun n a => by simp [below, belows, h1.bl, h2.bl, h3.bl]⟩
instance {e1 : α → D} {e2 : β → D} {e3 : γ → D} {e4 : δ → D} [h1 : Bl e1] [h2 : Bl e2] [h3 : Bl e3] [h4 : Bl e4] : Bl (eP4 e1 e2 e3 e4) := ⟨fun n a => by simp [below, belows, h1.bl, h2.bl, h3.bl, h4.bl]⟩
instance {e1 : α → D} {e2 : β → D} {e3 : γ → D} {e4 : δ → D} {e5 : ε → D} [h1 : Bl e1] [h2 : Bl e2] [h3 : Bl e3] [h4 : Bl e4] [h5 : Bl e5] : Bl (eP5 e1 e2 e3 e4 e5) := ⟨fun n a => by simp [below, belows, h1.bl, h2.bl, h3.bl, h4.bl, h5.bl]⟩
instance {e : α → D} [h : Bl e] : Bl (eO e) := ⟨fun n a => by cases a with
  | none => simp [eO, below]
  | some a => exact h.bl n a⟩
/-- == of values is == of what they stand for -/
class EqE (e : α → D) [BEq α] (n : outParam Nat) : Prop where
  pd : ∀ a, pd n (e a) = true
  eq : ∀ a b, eqP (e a) (e b) = (a == b)
instance : EqE eI 1 := ⟨fun _ => by simp [Mn.pd], fun _ _ => by simp [eqP]⟩
instance : EqE eB 1 := ⟨fun _ => by simp [Mn.pd], fun _ _ => by simp [eqP]⟩
theorem pds_map {e : α → D} {n : Nat} (h : ∀ a, pd n (e a) = true) : ∀ xs : List α, pds n (xs.map e) = true
  | [] => by simp [pds]
  | x :: xs => by simp [pds, h x, pds_map h xs]
theorem eqPs_map {e : α → D} [BEq α] (h : ∀ a b, eqP (e a) (e b) = (a == b)) : ∀ xs ys : List α, eqPs (xs.map e) (ys.map e) = (xs == ys)
  | [], [] => by simp [eqPs]
  | [], _ :: _ => by simp [eqPs]
  | _ :: _, [] => by simp [eqPs]
  | x :: xs, y :: ys => by simp [eqPs, h x y, eqPs_map h xs ys, List.cons_beq_cons]
theorem pd_up {n m : Nat} {d : D} (h : pd n d = true) (l : n ≤ m) : pd m d = true := by
  have : ∀ (k n : Nat), (∀ d, pd n d = true → pd (n + k) d = true) := by
    have up : ∀ (n : Nat) (d : D), (pd n d = true → pd (n + 1) d = true) := by
      intro n
      induction n with
      | zero => intro d h; simp [pd] at h
      | succ n ih =>
        have ups : ∀ ds : List D, pds n ds = true → pds (n + 1) ds = true := by
          intro ds
          induction ds with
          | nil => intro _; simp [pds]
          | cons d ds ih2 =>
            intro h
            simp only [pds, Bool.and_eq_true] at h ⊢
            exact ⟨ih d h.1, ih2 h.2⟩
        intro d h
        cases d with
        | tup xs => simp only [pd] at h ⊢; exact ups xs h
        | il xs => simp only [pd] at h ⊢; exact ups xs h
        | _ => simpa [pd] using h
    intro k
    induction k with
    | zero => intro n d h; exact h
    | succ k ih => intro n d h; exact up _ d (ih n d h)
  obtain ⟨k, rfl⟩ : ∃ k, m = n + k := ⟨m - n, by omega⟩
  exact this k n d h
instance {e : α → D} {n : Nat} [BEq α] [h : EqE e n] : EqE (eT e) (n + 1) := ⟨fun a => by simp only [Mn.pd]; exact pds_map h.pd a, fun a b => by simp only [eqP]; exact eqPs_map h.eq a b⟩
instance {e : α → D} {n : Nat} [BEq α] [h : EqE e n] : EqE (eL e) (n + 1) := ⟨fun a => by simp only [Mn.pd]; exact pds_map h.pd a, fun a b => by simp only [eqP]; exact eqPs_map h.eq a b⟩
instance {e1 : α → D} {n : Nat} [BEq α] [h1 : EqE e1 n] : EqE (eP1 e1) (n + 1) := ⟨fun a => by simp [Mn.pd, pds, h1.pd], fun a b => by simp [eqP, eqPs, h1.eq]⟩
instance {e1 : α → D} {e2 : β → D} {n m : Nat} [BEq α] [BEq β] [h1 : EqE e1 n] [h2 : EqE e2 m] : EqE (eP2 e1 e2) (n + m + 1) := ⟨fun a => by simp [Mn.pd, pds, pd_up (h1.pd a.1) (show n ≤ n + m by omega), pd_up (h2.pd a.2) (show m ≤ n + m by omega)], fun a b => by
  simp only [eqP, eqPs, h1.eq, h2.eq, Bool.and_true]
  rfl⟩
instance {e1 : α → D} {e2 : β → D} {e3 : γ → D} {n m k : Nat} [BEq α] [BEq β] [BEq γ] [h1 : EqE e1 n] [h2 : EqE e2 m] [h3 : EqE e3 k] : EqE (eP3 e1 e2 e3) (n + m + k + 1) := ⟨fun a => by simp [Mn.pd, pds, pd_up (h1.pd a.1) (show n ≤ n + m + k by omega), pd_up (h2.pd a.2.1) (show m ≤ n + m + k by omega), pd_up (h3.pd a.2.2) (show k ≤ n + m + k by omega)], fun a b => by
  simp only [eqP, eqPs, h1.eq, h2.eq, h3.eq, Bool.and_true]
  rfl⟩
instance {e1 : α → D} {e2 : β → D} {e3 : γ → D} {e4 : δ → D} {n m k l : Nat} [BEq α] [BEq β] [BEq γ] [BEq δ] [h1 : EqE e1 n] [h2 : EqE e2 m] [h3 : EqE e3 k] [h4 : EqE e4 l] : EqE (eP4 e1 e2 e3 e4) (n + m + k + l + 1) := ⟨fun a => by simp [Mn.pd, pds, pd_up (h1.pd a.1) (show n ≤ n + m + k + l by omega), pd_up (h2.pd a.2.1) (show m ≤ n + m + k + l by omega), pd_up (h3.pd a.2.2.1) (show k ≤ n + m + k + l by omega), pd_up (h4.pd a.2.2.2) (show l ≤ n + m + k + l by omega)], fun a b => by
  simp only [eqP, eqPs, h1.eq, h2.eq, h3.eq, h4.eq, Bool.and_true]
  rfl⟩
/-- not None -/
class Nn (e : α → D) : Prop where
  nn : ∀ a, isNon (e a) = false
instance : Nn eI := ⟨fun _ => rfl⟩
instance : Nn eB := ⟨fun _ => rfl⟩
instance : Nn eS := ⟨fun _ => rfl⟩
instance {e : α → D} : Nn (eT e) := ⟨fun _ => rfl⟩
instance {e : α → D} : Nn (eL e) := ⟨fun _ => rfl⟩
instance {e1 : α → D} {e2 : β → D} : Nn (eP2 e1 e2) := ⟨fun _ => rfl⟩
instance {e1 : α → D} {e2 : β → D} {e3 : γ → D} : Nn (eP3 e1 e2 e3) := ⟨fun _ => rfl⟩
instance {e1 : α → D} {e2 : β → D} {e3 : γ → D} {e4 : δ → D} : Nn (eP4 e1 e2 e3 e4) := ⟨fun _ => rfl⟩
instance {e1 : α → D} {e2 : β → D} {e3 : γ → D} {e4 : δ → D} {e5 : ε → D} : Nn (eP5 e1 e2 e3 e4 e5) := ⟨fun _ => rfl⟩
/-! ### back: from a value of any kind -/
class Un (e : α → D) where
  un : D → α
  is : D → Bool
  ok : ∀ d, is d = true → d = e (un d)
def unI : D → Int
  | .int i => i
  | _ => 0
def isI : D → Bool
  | .int _ => true
  | _ => false
instance : Un eI := ⟨unI, isI, fun d h => by cases d <;> first | rfl | cases h⟩
def unB : D → Bool
  | .bl i => i
  | _ => false
def isB : D → Bool
  | .bl _ => true
  | _ => false
instance : Un eB := ⟨unB, isB, fun d h => by cases d <;> first | rfl | cases h⟩
def unS : D → List Nat
  | .str i => i
  | _ => []
def isS : D → Bool
  | .str _ => true
  | _ => false
instance : Un eS := ⟨unS, isS, fun d h => by cases d <;> first | rfl | cases h⟩
instance : Un eD := ⟨id, fun _ => true, fun _ _ => rfl⟩
def unTs : D → List D
  | .tup xs => xs
  | _ => []
def isTs : D → Bool
  | .tup _ => true
  | _ => false
def unLs : D → List D
  | .il xs => xs
  | _ => []
def isLs : D → Bool
  | .il _ => true
  | _ => false
theorem un_map {e : α → D} [u : Un e] : ∀ {xs : List D}, xs.all (Un.is e) = true → (xs.map (Un.un e)).map e = xs
  | [], _ => rfl
  | x :: xs, h => by
    simp only [List.all_cons, Bool.and_eq_true] at h
    rw [List.map_cons, List.map_cons, un_map h.2, ← u.ok x h.1]
instance {e : α → D} [u : Un e] : Un (eT e) := ⟨fun d => (unTs d).map (Un.un e), fun d => isTs d && (unTs d).all (Un.is e), fun d h => by
  cases d with
  | tup xs => simp only [isTs, unTs, Bool.true_and] at h; simp only [unTs, eT, un_map h]
  | _ => cases h⟩
instance {e : α → D} [u : Un e] : Un (eL e) := ⟨fun d => (unLs d).map (Un.un e), fun d => isLs d && (unLs d).all (Un.is e), fun d h => by
  cases d with
  | il xs => simp only [isLs, unLs, Bool.true_and] at h; simp only [unLs, eL, un_map h]
  | _ => cases h⟩
instance {e1 : α → D} {e2 : β → D} [u1 : Un e1] [u2 : Un e2] : Un (eP2 e1 e2) := ⟨fun d => (Un.un e1 ((unTs d).getD 0 .non), Un.un e2 ((unTs d).getD 1 .non)), fun d => isTs d && Nat.beq (unTs d).length 2 && Un.is e1 ((unTs d).getD 0 .non) && Un.is e2 ((unTs d).getD 1 .non), fun d h => by
  cases d with
  | tup xs =>
    simp only [isTs, unTs, Bool.true_and, Bool.and_eq_true] at h
    obtain ⟨⟨h0, h1⟩, h2⟩ := h
    match xs, Nat.eq_of_beq_eq_true h0 with
    | [a, b], _ =>
      have k1 := u1.ok a h1
      have k2 := u2.ok b h2
      simp only [unTs, eP2, List.getD_cons_zero, List.getD_cons_succ, ← k1, ← k2]
  | _ => cases h⟩
instance {e1 : α → D} {e2 : β → D} {e3 : γ → D} [u1 : Un e1] [u2 : Un e2] [u3 : Un e3] : Un (eP3 e1 e2 e3) := ⟨fun d => (Un.un e1 ((unTs d).getD 0 .non), Un.un e2 ((unTs d).getD 1 .non), Un.un e3 ((unTs d).getD 2 .non)), fun d => isTs d && Nat.beq (unTs d).length 3 && Un.is e1 ((unTs d).getD 0 .non) && Un.is e2 ((unTs d).getD 1 .non) && Un.is e3 ((unTs d).getD 2 .non), fun d h => by
  cases d with
  | tup xs =>
    simp only [isTs, unTs, Bool.true_and, Bool.and_eq_true] at h
    obtain ⟨⟨⟨h0, h1⟩, h2⟩, h3⟩ := h
    match xs, Nat.eq_of_beq_eq_true h0 with
    | [a, b, c], _ =>
      have k1 := u1.ok a h1
      have k2 := u2.ok b h2
      have k3 := u3.ok c h3
      simp only [unTs, eP3, List.getD_cons_zero, List.getD_cons_succ, ← k1, ← k2, ← k3]
  | _ => cases h⟩
end
end Wk
/-! Wk2: expressions, one rule a construct. -/
namespace Wk
open Mn PySem
variable {cf : Cf} {ρ : Rho} {st st1 st2 st3 : Sto} {a b c : E} {es : List E} {d d1 d2 d3 : D} {ds : List D}
/-! ### what a run may need -/
def fitB (x y : Int) : Bool := Nat.ble (Builtin.Int.intBits x + Builtin.Int.intBits y) 134217728
def fdB (y : Int) : Bool := !decide (y = 0) && Nat.blt y.natAbs.log2 9000
def mdB (y : Int) : Bool := !decide (y = 0)
def szB (n : Nat) : Bool := Nat.ble n 16777216
theorem fitB_ok {x y : Int} (h : fitB x y = true) : fits x y := Nat.le_of_ble_eq_true h
theorem fdB_ok {y : Int} (h : fdB y = true) : y ≠ 0 ∧ y.natAbs.log2 < 9000 := by
  unfold fdB at h
  rw [Bool.and_eq_true] at h
  exact ⟨by simpa using h.1, Nat.blt_eq.mp h.2⟩
theorem mdB_ok {y : Int} (h : mdB y = true) : y ≠ 0 := by simpa [mdB] using h
theorem szB_ok {n : Nat} (h : szB n = true) : n ≤ sizeLine := Nat.le_of_ble_eq_true h
/-! ### names, constants, displays -/
theorem E_var {i : Nat} (h : ρ[i]? = some (some d)) : evE cf (.var i) ρ st = .ok d st := by rw [ev_var, h]
theorem E_cst : evE cf (.cst d) ρ st = .ok d st := ev_cst d
theorem E_frz (h : evE cf a ρ st = .ok d st1) : evE cf (.frz a) ρ st = .ok (frzD d) st1 := by rw [evE, h]; rfl
theorem Es_nil : evEs cf [] ρ st = .ok [] st := ev_nil
theorem Es_cons (h : evE cf a ρ st = .ok d st1) (k : evEs cf es ρ st1 = .ok ds st2) : evEs cf (a :: es) ρ st = .ok (d :: ds) st2 := by
  rw [ev_cons, h, kCons_ok, k, kCons2_ok]
theorem Es1 (h : evE cf a ρ st = .ok d st1) : evEs cf [a] ρ st = .ok [d] st1 := Es_cons h Es_nil
theorem Es2 (h : evE cf a ρ st = .ok d st1) (k : evE cf b ρ st1 = .ok d2 st2) : evEs cf [a, b] ρ st = .ok [d, d2] st2 := Es_cons h (Es1 k)
theorem ml0 : mats [] st = ([], st) := rfl
theorem mlc (h : notl d = true) (k : mats ds st = (ds, st)) : mats (d :: ds) st = (d :: ds, st) := by
  rw [mats_cons, mat_notl h, k]
theorem E_tup (h : evEs cf es ρ st = .ok ds st1) (k : mats ds st1 = (ds, st1)) : evE cf (.tupE es) ρ st = .ok (.tup ds) st1 := by
  rw [ev_tup, h, kTup_ok, k]
theorem E_lst (h : evEs cf es ρ st = .ok ds st1) (k : mats ds st1 = (ds, st1)) : evE cf (.lstE es) ρ st = .ok (.tl ds) st1 := by
  rw [ev_lst, h, kLst_ok, k]
/-! ### operations -/
theorem E_p1 {p : Pr} (h : evE cf a ρ st = .ok d st1) (k : semP p [d] st1 = some (d1, st2)) : evE cf (.prim p [a]) ρ st = .ok d1 st2 := by
  rw [ev_prim, Es1 h, kPrim_ok, k]
  rfl
theorem E_p2 {p : Pr} (h : evE cf a ρ st = .ok d st1) (h2 : evE cf b ρ st1 = .ok d2 st2) (k : semP p [d, d2] st2 = some (d3, st3)) : evE cf (.prim p [a, b]) ρ st = .ok d3 st3 := by
  rw [ev_prim, Es2 h h2, kPrim_ok, k]
  rfl
section
variable {x y : Int}
theorem E_add (h : evE cf a ρ st = .ok (.int x) st1) (k : evE cf b ρ st1 = .ok (.int y) st2) : evE cf (.prim .add [a, b]) ρ st = .ok (.int (x + y)) st2 := E_p2 h k sp_add
theorem E_sub (h : evE cf a ρ st = .ok (.int x) st1) (k : evE cf b ρ st1 = .ok (.int y) st2) : evE cf (.prim .sub [a, b]) ρ st = .ok (.int (x - y)) st2 := E_p2 h k sp_sub
theorem E_mul (o : fitB x y = true) (h : evE cf a ρ st = .ok (.int x) st1) (k : evE cf b ρ st1 = .ok (.int y) st2) : evE cf (.prim .mul [a, b]) ρ st = .ok (.int (x * y)) st2 := E_p2 h k (sp_mul (fitB_ok o))
theorem E_fdiv (o : fdB y = true) (h : evE cf a ρ st = .ok (.int x) st1) (k : evE cf b ρ st1 = .ok (.int y) st2) : evE cf (.prim .fdiv [a, b]) ρ st = .ok (.int (x.fdiv y)) st2 := E_p2 h k (sp_fdiv (fdB_ok o).1 (fdB_ok o).2)
theorem E_mod (o : mdB y = true) (h : evE cf a ρ st = .ok (.int x) st1) (k : evE cf b ρ st1 = .ok (.int y) st2) : evE cf (.prim .mod [a, b]) ρ st = .ok (.int (x.fmod y)) st2 := E_p2 h k (sp_mod (mdB_ok o))
theorem E_neg (h : evE cf a ρ st = .ok (.int x) st1) : evE cf (.prim .neg [a]) ρ st = .ok (.int (-x)) st1 := E_p1 h sp_neg
theorem E_abs (h : evE cf a ρ st = .ok (.int x) st1) : evE cf (.prim .abs [a]) ρ st = .ok (.int (x.natAbs : Int)) st1 := E_p1 h sp_abs
theorem E_toInt (h : evE cf a ρ st = .ok (.int x) st1) : evE cf (.prim .toInt [a]) ρ st = .ok (.int x) st1 := E_p1 h sp_toInt
theorem E_toIntB {t : Bool} (h : evE cf a ρ st = .ok (.bl t) st1) : evE cf (.prim .toInt [a]) ρ st = .ok (.int (b2i t)) st1 := E_p1 h (by rw [sp_toIntB]; cases t <;> rfl)
theorem E_lt (h : evE cf a ρ st = .ok (.int x) st1) (k : evE cf b ρ st1 = .ok (.int y) st2) : evE cf (.prim .lt [a, b]) ρ st = .ok (.bl (decide (x < y))) st2 := E_p2 h k sp_lt
theorem E_le (h : evE cf a ρ st = .ok (.int x) st1) (k : evE cf b ρ st1 = .ok (.int y) st2) : evE cf (.prim .le [a, b]) ρ st = .ok (.bl (decide (x ≤ y))) st2 := E_p2 h k sp_le
theorem E_gt (h : evE cf a ρ st = .ok (.int x) st1) (k : evE cf b ρ st1 = .ok (.int y) st2) : evE cf (.prim .gt [a, b]) ρ st = .ok (.bl (decide (x > y))) st2 := E_p2 h k sp_gt
theorem E_ge (h : evE cf a ρ st = .ok (.int x) st1) (k : evE cf b ρ st1 = .ok (.int y) st2) : evE cf (.prim .ge [a, b]) ρ st = .ok (.bl (decide (x ≥ y))) st2 := E_p2 h k sp_ge
theorem E_eqI (h : evE cf a ρ st = .ok (.int x) st1) (k : evE cf b ρ st1 = .ok (.int y) st2) : evE cf (.prim .eq [a, b]) ρ st = .ok (.bl (decide (x = y))) st2 := E_p2 h k sp_eqI
theorem E_neI (h : evE cf a ρ st = .ok (.int x) st1) (k : evE cf b ρ st1 = .ok (.int y) st2) : evE cf (.prim .ne [a, b]) ρ st = .ok (.bl (!decide (x = y))) st2 := E_p2 h k sp_neI
theorem E_max2 (h : evE cf a ρ st = .ok (.int x) st1) (k : evE cf b ρ st1 = .ok (.int y) st2) : evE cf (.prim .max2 [a, b]) ρ st = .ok (.int (max x y)) st2 := E_p2 h k (by
  rw [sp_max2]
  have : (if y > x then y else x) = max x y := by rw [Int.max_def]; split <;> split <;> omega
  rw [this])
theorem E_min2 (h : evE cf a ρ st = .ok (.int x) st1) (k : evE cf b ρ st1 = .ok (.int y) st2) : evE cf (.prim .min2 [a, b]) ρ st = .ok (.int (min x y)) st2 := E_p2 h k (by
  rw [sp_min2]
  have : (if y < x then y else x) = min x y := by rw [Int.min_def]; split <;> split <;> omega
  rw [this])
end
section
variable {α : Type} {e : α → D} {x y : α}
theorem E_eq [BEq α] {n : Nat} [h0 : EqE e n] (hn : n ≤ 16 := by decide) (h : evE cf a ρ st = .ok (e x) st1) (k : evE cf b ρ st1 = .ok (e y) st2) : evE cf (.prim .eq [a, b]) ρ st = .ok (.bl (x == y)) st2 := E_p2 h k (by
  rw [sp_eq (pd_up (h0.pd x) hn) (pd_up (h0.pd y) hn), h0.eq])
theorem E_ne [BEq α] {n : Nat} [h0 : EqE e n] (hn : n ≤ 16 := by decide) (h : evE cf a ρ st = .ok (e x) st1) (k : evE cf b ρ st1 = .ok (e y) st2) : evE cf (.prim .ne [a, b]) ρ st = .ok (.bl (!(x == y))) st2 := E_p2 h k (by
  rw [sp_ne (pd_up (h0.pd x) hn) (pd_up (h0.pd y) hn), h0.eq])
theorem E_eqD (o1 : pd 16 d1 = true) (o2 : pd 16 d2 = true) (h : evE cf a ρ st = .ok d1 st1) (k : evE cf b ρ st1 = .ok d2 st2) : evE cf (.prim .eq [a, b]) ρ st = .ok (.bl (eqP d1 d2)) st2 := E_p2 h k (sp_eq o1 o2)
theorem E_neD (o1 : pd 16 d1 = true) (o2 : pd 16 d2 = true) (h : evE cf a ρ st = .ok d1 st1) (k : evE cf b ρ st1 = .ok d2 st2) : evE cf (.prim .ne [a, b]) ρ st = .ok (.bl (!eqP d1 d2)) st2 := E_p2 h k (sp_ne o1 o2)
theorem E_isN [h0 : Nn e] {x : Option α} (h : evE cf a ρ st = .ok (eO e x) st1) : evE cf (.prim .isN [a, .cst .non]) ρ st = .ok (.bl x.isNone) st1 := E_p2 h E_cst (by
  rw [sp_isN]
  cases x with
  | none => rfl
  | some x => rw [show isNon (eO e (some x)) = false from h0.nn x]; rfl)
theorem E_notN [h0 : Nn e] {x : Option α} (h : evE cf a ρ st = .ok (eO e x) st1) : evE cf (.prim .notN [a, .cst .non]) ρ st = .ok (.bl x.isSome) st1 := E_p2 h E_cst (by
  rw [sp_notN]
  cases x with
  | none => rfl
  | some x => rw [show isNon (eO e (some x)) = false from h0.nn x]; rfl)
theorem E_isND (h : evE cf a ρ st = .ok d st1) : evE cf (.prim .isN [a, .cst .non]) ρ st = .ok (.bl (isNon d)) st1 := E_p2 h E_cst sp_isN
theorem E_notND (h : evE cf a ρ st = .ok d st1) : evE cf (.prim .notN [a, .cst .non]) ρ st = .ok (.bl (!isNon d)) st1 := E_p2 h E_cst sp_notN
/-- what is there, of what may be None -/
def getO [Inhabited α] : Option α → α
  | some a => a
  | none => default
theorem E_some [Inhabited α] {x : Option α} (o : x.isSome = true) (h : evE cf a ρ st = .ok (eO e x) st1) : evE cf a ρ st = .ok (e (getO x)) st1 := by
  rw [h]
  cases x with
  | none => cases o
  | some x => rfl
theorem E_un [u : Un e] (o : Un.is e d = true) (h : evE cf a ρ st = .ok d st1) : evE cf a ρ st = .ok (e (Un.un e d)) st1 := by
  rw [h, ← u.ok d o]
end
/-! ### sequences -/
section
variable {α β : Type} {e : α → D} {xs ys : List α} {i j : Int}
theorem sT : seqOf st (eT e xs) = some (xs.map e) := rfl
theorem sL : seqOf st (eL e xs) = some (xs.map e) := rfl
theorem sF : seqOf st (.tl (xs.map e)) = some (xs.map e) := rfl
theorem sR {k : Nat} (h : st[k]? = some (.lst (xs.map e))) : seqOf st (.lr k) = some (xs.map e) := by simp [seqOf, lstOf, h]
theorem lL : lstOf st (eL e xs) = some (xs.map e) := rfl
theorem lF : lstOf st (.tl (xs.map e)) = some (xs.map e) := rfl
theorem lR {k : Nat} (h : st[k]? = some (.lst (xs.map e))) : lstOf st (.lr k) = some (xs.map e) := by simp [lstOf, h]
theorem E_len (s : seqOf st1 d = some (xs.map e)) (h : evE cf a ρ st = .ok d st1) : evE cf (.prim .len [a]) ρ st = .ok (.int (xs.length : Int)) st1 := E_p1 h (by
  simp [semP, sem1, s])
def getI [Inhabited α] (xs : List α) (i : Int) : α := (L2.atI xs i).getD default
def ixB (xs : List α) (i : Int) : Bool := (L2.atI xs i).isSome
theorem atI_map {f : α → β} (xs : List α) (i : Int) : L2.atI (xs.map f) i = (L2.atI xs i).map f := by
  unfold L2.atI
  rw [List.length_map]
  cases L2.ixN xs.length i with
  | none => rfl
  | some k => simp
theorem E_ix [Inhabited α] (s : seqOf st2 d = some (xs.map e)) (o : ixB xs i = true) (h : evE cf a ρ st = .ok d st1) (k : evE cf b ρ st1 = .ok (.int i) st2) : evE cf (.prim .ix [a, b]) ρ st = .ok (e (getI xs i)) st2 := E_p2 h k (by
  unfold ixB at o
  cases z : L2.atI xs i with
  | none => rw [z] at o; cases o
  | some x => simp [semP, sem2, s, atI_map, z, getI])
theorem E_c0 (h : evE cf a ρ st = .ok (.tup (d :: ds)) st1) : evE cf (.prim .ix [a, .cst (.int 0)]) ρ st = .ok d st1 := E_p2 h E_cst (sp_ix0 _ _)
theorem E_c1 (h : evE cf a ρ st = .ok (.tup (d :: d1 :: ds)) st1) : evE cf (.prim .ix [a, .cst (.int 1)]) ρ st = .ok d1 st1 := E_p2 h E_cst (sp_ix1 _ _ _)
theorem E_c2 (h : evE cf a ρ st = .ok (.tup (d :: d1 :: d2 :: ds)) st1) : evE cf (.prim .ix [a, .cst (.int 2)]) ρ st = .ok d2 st1 := E_p2 h E_cst (sp_ix2 _ _ _ _)
theorem E_c3 (h : evE cf a ρ st = .ok (.tup (d :: d1 :: d2 :: d3 :: ds)) st1) : evE cf (.prim .ix [a, .cst (.int 3)]) ρ st = .ok d3 st1 := E_p2 h E_cst (sp_ix3 _ _ _ _ _)
theorem cut_map {f : α → β} (xs : List α) (lo hi : Option Int) : cut (xs.map f) lo hi = (cut xs lo hi).map f := by
  unfold cut
  rw [List.length_map, List.map_take, List.map_drop]
theorem E_sl00T (h : evE cf a ρ st = .ok (eT e xs) st1) : evE cf (.prim (.sl false false) [a]) ρ st = .ok (eT e (cut xs none none)) st1 := E_p1 h (by
  show semSl (eT e xs) none none st1 = _
  simp [semSl, cut_map])
theorem E_sl10T (h : evE cf a ρ st = .ok (eT e xs) st1) (k : evE cf b ρ st1 = .ok (.int i) st2) : evE cf (.prim (.sl true false) [a, b]) ρ st = .ok (eT e (cut xs (some i) none)) st2 := E_p2 h k (by
  show semSl (eT e xs) (some i) none st2 = _
  simp [semSl, cut_map])
theorem E_sl01T (h : evE cf a ρ st = .ok (eT e xs) st1) (k : evE cf b ρ st1 = .ok (.int i) st2) : evE cf (.prim (.sl false true) [a, b]) ρ st = .ok (eT e (cut xs none (some i))) st2 := E_p2 h k (by
  show semSl (eT e xs) none (some i) st2 = _
  simp [semSl, cut_map])
theorem E_sl11T (h : evE cf a ρ st = .ok (eT e xs) st1) (k : evE cf b ρ st1 = .ok (.int i) st2) (l : evE cf c ρ st2 = .ok (.int j) st3) : evE cf (.sl3 a b c) ρ st = .ok (eT e (cut xs (some i) (some j))) st3 := by
  rw [ev_sl3, h, kSlA_ok, k, kSlB_ok, l, kSlC_ok]
  simp [semSl, cut_map]
theorem semSl_l {lo hi : Option Int} (s : lstOf st d = some (xs.map e)) (n : ∀ ys, d ≠ .tup ys) : semSl d lo hi st = some (.tl ((cut xs lo hi).map e), st) := by
  unfold semSl
  split
  · exact absurd rfl (n _)
  · rw [s]
    simp [cut_map]
theorem E_sl10L (s : lstOf st2 d = some (xs.map e)) (n : isTup d = false) (h : evE cf a ρ st = .ok d st1) (k : evE cf b ρ st1 = .ok (.int i) st2) : evE cf (.prim (.sl true false) [a, b]) ρ st = .ok (.tl ((cut xs (some i) none).map e)) st2 := E_p2 h k (semSl_l s fun ys z => by rw [z] at n; cases n)
theorem E_sl01L (s : lstOf st2 d = some (xs.map e)) (n : isTup d = false) (h : evE cf a ρ st = .ok d st1) (k : evE cf b ρ st1 = .ok (.int i) st2) : evE cf (.prim (.sl false true) [a, b]) ρ st = .ok (.tl ((cut xs none (some i)).map e)) st2 := E_p2 h k (semSl_l s fun ys z => by rw [z] at n; cases n)
theorem E_sl11L (s : lstOf st3 d = some (xs.map e)) (n : isTup d = false) (h : evE cf a ρ st = .ok d st1) (k : evE cf b ρ st1 = .ok (.int i) st2) (l : evE cf c ρ st2 = .ok (.int j) st3) : evE cf (.sl3 a b c) ρ st = .ok (.tl ((cut xs (some i) (some j)).map e)) st3 := by
  rw [ev_sl3, h, kSlA_ok, k, kSlB_ok, l, kSlC_ok, semSl_l s fun ys z => by rw [z] at n; cases n]
  rfl
theorem E_addT (o : szB (xs.length + ys.length) = true) (h : evE cf a ρ st = .ok (eT e xs) st1) (k : evE cf b ρ st1 = .ok (eT e ys) st2) : evE cf (.prim .add [a, b]) ρ st = .ok (eT e (xs ++ ys)) st2 := E_p2 h k (by
  have := szB_ok o
  simp [semP, sem2, this])
theorem E_addL (o : szB (xs.length + ys.length) = true) (s1 : rdOf st2 d1 = some (xs.map e)) (s2 : rdOf st2 d2 = some (ys.map e)) (n : ∀ k, d2 ≠ .int k) (n1 : ∀ k, d1 ≠ .int k) (n2 : ∀ k, d1 ≠ .tup k) (h : evE cf a ρ st = .ok d1 st1) (k : evE cf b ρ st1 = .ok d2 st2) : evE cf (.prim .add [a, b]) ρ st = .ok (.tl ((xs ++ ys).map e)) st2 := E_p2 h k (by
  have := szB_ok o
  simp only [semP, sem2]
  split
  · exact absurd rfl (n1 _)
  · exact absurd rfl (n2 _)
  · exact absurd rfl (n2 _)
  · exact absurd rfl (n _)
  · simp [s1, s2, this])
theorem rL : rdOf st (eL e xs) = some (xs.map e) := rfl
theorem rF : rdOf st (.tl (xs.map e)) = some (xs.map e) := rfl
theorem rR {k : Nat} (h : st[k]? = some (.lst (xs.map e))) : rdOf st (.lr k) = some (xs.map e) := by simp [rdOf, mlOf, h]
def repL (k : Int) (xs : List α) : List α := (List.replicate k.toNat xs).flatten
def rpB (n : Nat) (k : Int) : Bool := decide (-(2 ^ 63) ≤ k) && decide (k < 2 ^ 63) && Nat.ble (n * k.toNat) 16777216
theorem repL_map {f : α → β} (k : Int) (xs : List α) : repL k (xs.map f) = (repL k xs).map f := by
  unfold repL
  rw [List.map_flatten, List.map_replicate]
theorem E_mulL (o : rpB xs.length i = true) (h : evE cf a ρ st = .ok (.tl (xs.map e)) st1) (k : evE cf b ρ st1 = .ok (.int i) st2) : evE cf (.prim .mul [a, b]) ρ st = .ok (.tl ((repL i xs).map e)) st2 := E_p2 h k (by
  unfold rpB at o
  simp only [Bool.and_eq_true, decide_eq_true_eq] at o
  have o2 : xs.length * i.toNat ≤ sizeLine := Nat.le_of_ble_eq_true o.2
  rw [← repL_map]
  simp only [semP, sem2, mlOf, List.length_map]
  rw [if_pos ⟨o.1.1, o.1.2, o2⟩]
  rfl)
theorem E_tuple (s : seqOf st1 d = some (xs.map e)) (h : evE cf a ρ st = .ok d st1) : evE cf (.prim .tuple [a]) ρ st = .ok (eT e xs) st1 := E_p1 h (by simp [semP, sem1, s])
theorem E_list (s : seqOf st1 d = some (xs.map e)) (h : evE cf a ρ st = .ok d st1) : evE cf (.prim .list [a]) ρ st = .ok (.tl (xs.map e)) st1 := E_p1 h (by simp [semP, sem1, s])
theorem E_revT (h : evE cf a ρ st = .ok (eT e xs) st1) : evE cf (.prim .rev [a]) ρ st = .ok (eT e xs.reverse) st1 := E_p1 h (by simp [semP, sem1])
theorem E_revL (s : lstOf st1 d = some (xs.map e)) (n : isTup d = false) (h : evE cf a ρ st = .ok d st1) : evE cf (.prim .rev [a]) ρ st = .ok (.tl (xs.reverse.map e)) st1 := E_p1 h (by
  cases d with
  | tup ys => cases n
  | _ => simp only [semP, sem1, s]; simp)
theorem E_all {f : α → Bool} {zs : List α} (s : lstOf st1 d = some ((zs.map f).map eB)) (h : evE cf a ρ st = .ok d st1) : evE cf (.prim .all [a]) ρ st = .ok (.bl (zs.all f)) st1 := E_p1 h (by
  have := allB_map (zs.map f)
  simp only [semP, sem1, s]
  rw [this]
  simp [List.all_map])
theorem E_any {f : α → Bool} {zs : List α} (s : lstOf st1 d = some ((zs.map f).map eB)) (h : evE cf a ρ st = .ok d st1) : evE cf (.prim .any [a]) ρ st = .ok (.bl (zs.any f)) st1 := E_p1 h (by
  have := allB_map (zs.map f)
  simp only [semP, sem1, s]
  rw [this]
  simp [List.any_map])
theorem E_sum {zs : List Int} (s : lstOf st1 d = some (zs.map eI)) (h : evE cf a ρ st = .ok d st1) : evE cf (.prim .sum [a]) ρ st = .ok (.int zs.sum) st1 := E_p1 h (by
  have := allI_map zs
  simp only [semP, sem1, s]
  rw [this])
def maxL : List Int → Int
  | [] => 0
  | x :: xs => maxI x xs
def minL : List Int → Int
  | [] => 0
  | x :: xs => minI x xs
def neB (xs : List Int) : Bool := !xs.isEmpty
theorem E_max {zs : List Int} (o : neB zs = true) (s : lstOf st1 d = some (zs.map eI)) (h : evE cf a ρ st = .ok d st1) : evE cf (.prim .max [a]) ρ st = .ok (.int (maxL zs)) st1 := E_p1 h (by
  have := allI_map zs
  cases zs with
  | nil => cases o
  | cons z zs =>
    simp only [semP, sem1, s]
    rw [this]
    rfl)
theorem E_min {zs : List Int} (o : neB zs = true) (s : lstOf st1 d = some (zs.map eI)) (h : evE cf a ρ st = .ok d st1) : evE cf (.prim .min [a]) ρ st = .ok (.int (minL zs)) st1 := E_p1 h (by
  have := allI_map zs
  cases zs with
  | nil => cases o
  | cons z zs =>
    simp only [semP, sem1, s]
    rw [this]
    rfl)
theorem E_inI {zs : List Int} {x : Int} (s : seqOf st2 d = some (zs.map eI)) (h : evE cf a ρ st = .ok (.int x) st1) (k : evE cf b ρ st1 = .ok d st2) : evE cf (.prim .isin [a, b]) ρ st = .ok (.bl (zs.any fun y => decide (y = x))) st2 := E_p2 h k (by
  have h1 : (zs.map eI).all flat = true := by simp [List.all_map, flat]
  have h2 : ((zs.map eI).any fun y => eqF y (.int x)) = zs.any fun y => decide (y = x) := by
    rw [List.any_map]
    congr 1
  simp only [semP, sem2, s, h1, h2]
  rfl)
theorem E_notinI {zs : List Int} {x : Int} (s : seqOf st2 d = some (zs.map eI)) (h : evE cf a ρ st = .ok (.int x) st1) (k : evE cf b ρ st1 = .ok d st2) : evE cf (.prim .notin [a, b]) ρ st = .ok (.bl (!zs.any fun y => decide (y = x))) st2 := E_p2 h k (by
  have h1 : (zs.map eI).all flat = true := by simp [List.all_map, flat]
  have h2 : ((zs.map eI).any fun y => eqF y (.int x)) = zs.any fun y => decide (y = x) := by
    rw [List.any_map]
    congr 1
  simp only [semP, sem2, s, h1, h2]
  rfl)
/-- the ints from lo, below hi -/
def rI (lo hi : Int) : List Int := (List.range (hi - lo).toNat).map fun i => lo + (i : Nat)
/-- .. from hi down, above lo -/
def rD (hi lo : Int) : List Int := (List.range (hi - lo).toNat).map fun i => hi - (i : Nat)
def rgB (lo hi : Int) : Bool := inR lo && inR hi
theorem rgD_eq (lo hi : Int) : rgD lo hi = (rI lo hi).map eI := by
  unfold rgD rI
  rw [List.map_map]
  rfl
theorem E_rgL1 (o : rgOk 0 j = true) (h : evE cf a ρ st = .ok (.int j) st1) : evE cf (.rngL false [a]) ρ st = .ok (.tl ((rI 0 j).map eI)) st1 := by
  rw [evE, Es1 h]
  show (match rgL false [.int j] with | some d => Out.ok d st1 | none => .no) = _
  simp only [rgL, o, if_true, rgD_eq]
  rfl
theorem E_rgT1 (o : rgOk 0 j = true) (h : evE cf a ρ st = .ok (.int j) st1) : evE cf (.rngL true [a]) ρ st = .ok (eT eI (rI 0 j)) st1 := by
  rw [evE, Es1 h]
  show (match rgL true [.int j] with | some d => Out.ok d st1 | none => .no) = _
  simp only [rgL, o, if_true, rgD_eq]
theorem E_rgL2 (o : rgOk i j = true) (h : evE cf a ρ st = .ok (.int i) st1) (k : evE cf b ρ st1 = .ok (.int j) st2) : evE cf (.rngL false [a, b]) ρ st = .ok (.tl ((rI i j).map eI)) st2 := by
  rw [evE, Es2 h k]
  show (match rgL false [.int i, .int j] with | some d => Out.ok d st2 | none => .no) = _
  simp only [rgL, o, if_true, rgD_eq]
  rfl
theorem E_rgT2 (o : rgOk i j = true) (h : evE cf a ρ st = .ok (.int i) st1) (k : evE cf b ρ st1 = .ok (.int j) st2) : evE cf (.rngL true [a, b]) ρ st = .ok (eT eI (rI i j)) st2 := by
  rw [evE, Es2 h k]
  show (match rgL true [.int i, .int j] with | some d => Out.ok d st2 | none => .no) = _
  simp only [rgL, o, if_true, rgD_eq]
end
/-! ### tests -/
theorem E_and {x y : Bool} (h : evE cf a ρ st = .ok (.bl x) st1) (k : x = true → evE cf b ρ st1 = .ok (.bl y) st1) : evE cf (.and a b) ρ st = .ok (.bl (x && y)) st1 := by
  rw [ev_and, h, kB_ok, kAnd_ok]
  cases x with
  | true => rw [if_pos rfl, k rfl]; rfl
  | false => rfl
theorem E_or {x y : Bool} (h : evE cf a ρ st = .ok (.bl x) st1) (k : x = false → evE cf b ρ st1 = .ok (.bl y) st1) : evE cf (.or a b) ρ st = .ok (.bl (x || y)) st1 := by
  rw [ev_or, h, kB_ok, kOr_ok]
  cases x with
  | true => rfl
  | false => rw [if_neg Bool.false_ne_true, k rfl]; rfl
theorem E_not {x : Bool} (h : evE cf a ρ st = .ok (.bl x) st1) : evE cf (.not a) ρ st = .ok (.bl (!x)) st1 := by
  rw [ev_not, h, kB_ok, kNot_ok]
theorem E_ite {α : Type} {e : α → D} {t : Bool} {x y : α} (h : evE cf c ρ st = .ok (.bl t) st1) (k : t = true → evE cf a ρ st1 = .ok (e x) st1) (l : t = false → evE cf b ρ st1 = .ok (e y) st1) : evE cf (.ite c a b) ρ st = .ok (e (bif t then x else y)) st1 := by
  rw [ev_ite, h, kB_ok, kIte_ok]
  cases t with
  | true => rw [if_pos rfl, k rfl]; rfl
  | false => rw [if_neg Bool.false_ne_true, l rfl]; rfl
theorem E_iteF {α : Type} {e : α → D} {t : Bool} {x y : List α} (h : evE cf c ρ st = .ok (.bl t) st1) (k : t = true → evE cf a ρ st1 = .ok (.tl (x.map e)) st1) (l : t = false → evE cf b ρ st1 = .ok (.tl (y.map e)) st1) : evE cf (.ite c a b) ρ st = .ok (.tl ((bif t then x else y).map e)) st1 := by
  rw [ev_ite, h, kB_ok, kIte_ok]
  cases t with
  | true => rw [if_pos rfl, k rfl]; rfl
  | false => rw [if_neg Bool.false_ne_true, l rfl]; rfl
theorem E_chain {p q : Pr} {x y z : Int} {t u : Bool} (hp : semI p x y = some (.bl t)) (hq : semP q [.int y, .int z] st2 = some (.bl u, st2)) (h : evE cf a ρ st = .ok (.int x) st1) (k : evE cf b ρ st1 = .ok (.int y) st2) (l : t = true → evE cf c ρ st2 = .ok (.int z) st2) : evE cf (.chain p q a b c) ρ st = .ok (.bl (t && u)) st2 := by
  rw [ev_chain, h, kChA_ok, k, kChB_ok _ _ _ _ _ t hp, kChC_eq]
  cases t with
  | true => rw [if_pos rfl, l rfl, kChD_ok, hq]; rfl
  | false => rfl
/-! ### types -/
def tyB (d : D) : Bool := (tyOf [] d).isSome
def isTy (ts : List Ty) (d : D) : Bool := match tyOf [] d with
  | some (some t) => ts.any (subTy t)
  | _ => false
theorem tyOf_nil {d : D} (h : (tyOf [] d).isSome = true) (st : Sto) : tyOf st d = tyOf [] d := by
  cases d with
  | lr n => simp [tyOf] at h
  | _ => rfl
theorem E_instD {ts : List Ty} (o : tyB d = true) (h : evE cf a ρ st = .ok d st1) : evE cf (.prim (.inst ts) [a]) ρ st = .ok (.bl (isTy ts d)) st1 := E_p1 h (by
  have := tyOf_nil o st1
  simp only [semP, sem1, this, isTy]
  unfold tyB at o
  cases z : tyOf [] d with
  | none => rw [z] at o; cases o
  | some t => cases t <;> rfl)
theorem E_inst {ts : List Ty} {t : Bool} (k : semP (.inst ts) [d] st1 = some (.bl t, st1)) (h : evE cf a ρ st = .ok d st1) : evE cf (.prim (.inst ts) [a]) ρ st = .ok (.bl t) st1 := E_p1 h k
/-! ### calls -/
theorem E_call {g : Nat} {R : Out D} (h : evEs cf es ρ st = .ok ds st1) (k : mats ds st1 = (ds, st1)) (r : cf.call g ds st1 = R) : evE cf (.call g es) ρ st = R := by
  rw [ev_call, h, kCall_ok, k, r]
theorem E_callv {i g : Nat} {R : Out D} (hi : ρ[i]? = some (some (.fn g))) (hg : Nat.blt g cf.nf = true) (h : evEs cf es ρ st = .ok ds st1) (k : mats ds st1 = (ds, st1)) (r : cf.call g ds st1 = R) : evE cf (.callv i es) ρ st = R := by
  rw [ev_callv, hi]
  show (if Nat.blt g cf.nf then kCall cf g (evEs cf es ρ st) else .no) = _
  rw [if_pos hg, h, kCall_ok, k, r]
theorem E_calle {f : E} {g : Nat} {R : Out D} (hf : evE cf f ρ st = .ok (.fn g) st1) (hg : Nat.blt g cf.nf = true) (h : evEs cf es ρ st1 = .ok ds st2) (k : mats ds st2 = (ds, st2)) (r : cf.call g ds st2 = R) : evE cf (.calle f es) ρ st = R := by
  rw [evE, hf]
  show (if Nat.blt g cf.nf then (evEs cf es ρ st1).bind fun ds st => cf.call g (mats ds st).1 (mats ds st).2 else .no) = _
  rw [if_pos hg, h]
  show cf.call g (mats ds st2).1 (mats ds st2).2 = _
  rw [k, r]
/-! ### comprehensions -/
/-- a walk over the values ys -/
structure IsW (sv : Sv) (n : Nat) (ys : List D) (st : Sto) : Prop where
  len : ys.length = n
  item : ∀ i, i < n → sv.item st i = ys[i]?
  ends : sv.ends st n = true
/-- a source: its values, at all stores of a kind -/
def SrcP (cf : Cf) (src : Src) (ρ : Rho) (st st1 : Sto) (ys : List D) (P : Sto → Prop) : Prop := ∃ sv n, evSrc cf src ρ st = .ok (sv, n) st1 ∧ ∀ st', P st' → IsW sv n ys st'
abbrev AnyS : Sto → Prop := fun _ => True
section
variable {α β : Type} {e : α → D} {e2 : β → D} {elt : E} {tg : Tg} {src : Src} {own : List Nat} {sv : Sv} {n : Nat} {xs : List α} {P0 : Sto → Prop}
theorem E_comp {f : α → β} {cf : Cf} (o : szB xs.length = true) (h : SrcP cf src ρ st st (xs.map e) P0) (hp : P0 st)
    (k : ∀ x ∈ xs, ∃ ρ', evTg cf tg (e x) (wipe ρ own) st = .ok ρ' st ∧ evE cf elt ρ' st = .ok (e2 (f x)) st) (nl : ∀ x ∈ xs, notl (e2 (f x)) = true) :
    evE cf (.comp elt tg src [] own) ρ st = .ok (.tl ((xs.map f).map e2)) st := by
  obtain ⟨sv, n, h, w⟩ := h
  have w := w st hp
  have hl : xs.length = n := by simpa using w.len
  rw [ev_comp, h, kComp_ok]
  by_cases hn : n = 0
  · subst hn
    have : xs = [] := List.eq_nil_of_length_eq_zero hl
    subst this
    have := comp_map (cf := cf) (elt := elt) (tg := tg) (cs := []) (own := own) (ρ := ρ) (sv := sv) (fun _ => D.non) (st := st) (k := 0) (fun j _ hj => absurd hj (Nat.not_lt_zero _)) w.ends
    simpa using this
  · obtain ⟨x0, hx0⟩ : ∃ x0, x0 ∈ xs := by
      cases xs with
      | nil => exact absurd hl.symm hn
      | cons x _ => exact ⟨x, by simp⟩
    have := comp_map (cf := cf) (elt := elt) (tg := tg) (cs := []) (own := own) (ρ := ρ) (sv := sv) (fun j => e2 (f (xs[j]?.getD x0))) (st := st) (k := n) (fun j acc hj ha => by
      have hj' : j < xs.length := by omega
      obtain ⟨ρ', k1, k2⟩ := k xs[j] (List.getElem_mem hj')
      refine ⟨e xs[j], by rw [w.item j hj]; simp [hj'], ?_⟩
      have hs : acc.length < sizeLine := Nat.lt_of_lt_of_le ha (by have := szB_ok o; omega)
      simp [turnB, k1, k2, hs, mat_notl (nl _ (List.getElem_mem hj')), hj']) w.ends
    rw [this]
    congr 2
    apply List.ext_getElem?
    intro j
    by_cases hj : j < n
    · have hj' : j < xs.length := by omega
      simp [hj, hj']
    · have hj' : ¬ j < xs.length := by omega
      simp [hj, hj']
theorem turns_filt {sv : Sv} {body : D → List D → Sto → Out (List D)} {e2 : β → D} (P : α → Bool) (f : α → β) : ∀ (k i : Nat) (zs : List α) (acc : List D), zs.length = k → (∀ j z, zs[j]? = some z → sv.item st (i + j) = some (e z)) → acc.length ≤ i →
    (∀ z ∈ zs, ∀ acc : List D, acc.length < i + k → body (e z) acc st = .ok (if P z then acc ++ [e2 (f z)] else acc) st) → sv.ends st (i + k) = true → turns sv body k i acc st = .ok (acc ++ ((zs.filter P).map f).map e2) st
  | 0, i, zs, acc, hl, _, _, _, he => by
    have : zs = [] := List.eq_nil_of_length_eq_zero hl
    subst this
    rw [turns, if_pos (show sv.ends st i = true from he)]
    simp
  | k + 1, i, [], acc, hl, _, _, _, _ => by simp at hl
  | k + 1, i, z :: zs, acc, hl, hi, ha, hb, he => by
    have e1 := hi 0 z rfl
    have e2' := hb z (by simp) acc (by omega)
    have ek : i + (k + 1) = i + 1 + k := by omega
    rw [turns, show sv.item st i = some (e z) from e1]
    show (body (e z) acc st).bind _ = _
    rw [e2']
    show turns sv body k (i + 1) (if P z then acc ++ [e2 (f z)] else acc) st = _
    rw [turns_filt P f k (i + 1) zs _ (by simpa using hl) (fun j y hj => by
      have := hi (j + 1) y (by simpa using hj)
      rw [show i + 1 + j = i + (j + 1) by omega]
      exact this) (by cases P z <;> simp <;> omega) (fun y hy acc h => hb y (List.mem_cons_of_mem _ hy) acc (by omega)) (by rw [← ek]; exact he)]
    cases hP : P z <;> simp [hP]
theorem E_compF {f : α → β} {P : α → Bool} {cnd : E} {cf : Cf} (o : szB xs.length = true) (h : SrcP cf src ρ st st (xs.map e) P0) (hp : P0 st)
    (k : ∀ x ∈ xs, ∃ ρ', evTg cf tg (e x) (wipe ρ own) st = .ok ρ' st ∧ evE cf cnd ρ' st = .ok (.bl (P x)) st ∧ (P x = true → evE cf elt ρ' st = .ok (e2 (f x)) st)) (nl : ∀ x ∈ xs, notl (e2 (f x)) = true) :
    evE cf (.comp elt tg src [cnd] own) ρ st = .ok (.tl (((xs.filter P).map f).map e2)) st := by
  obtain ⟨sv, n, h, w⟩ := h
  have w := w st hp
  have hl : xs.length = n := by simpa using w.len
  rw [ev_comp, h, kComp_ok]
  unfold compB
  rw [turns_filt (e := e) (e2 := e2) P f n 0 xs [] hl (fun j z hz => by
    have hj : j < xs.length := (List.getElem?_eq_some_iff.mp hz).1
    rw [Nat.zero_add, w.item j (by omega)]
    simp [hz]) (Nat.le_refl _) (fun z hz acc ha => by
    obtain ⟨ρ', k1, k2, k3⟩ := k z hz
    have hs : acc.length < sizeLine := Nat.lt_of_lt_of_le ha (by have := szB_ok o; omega)
    cases hP : P z with
    | true => simp [turnB, k1, k2, hP, k3 hP, hs, mat_notl (nl z hz)]
    | false => simp [turnB, k1, k2, hP]) (by rw [Nat.zero_add]; exact w.ends)]
  rfl
end
/-! ### what is walked -/
section
variable {α β : Type} {e : α → D} {e2 : β → D} {xs : List α} {ys : List β} {x y : Int} {P P1 P2 : Sto → Prop}
theorem W_fix (zs : List D) : IsW (.fix zs) zs.length zs st := ⟨rfl, fun i _ => rfl, by simp⟩
/-- a list or tuple as a source -/
def VP (st : Sto) (d : D) (ys : List D) (P : Sto → Prop) : Prop := ∃ sv, svOf st d = some (sv, ys.length) ∧ ∀ st', P st' → IsW sv ys.length ys st'
theorem v_T : VP st (eT e xs) (xs.map e) AnyS := ⟨.fix (xs.map e), by simp, fun _ _ => W_fix _⟩
theorem v_L : VP st (eL e xs) (xs.map e) AnyS := ⟨.fix (xs.map e), by simp [svOf], fun _ _ => W_fix _⟩
theorem v_F : VP st (.tl (xs.map e)) (xs.map e) AnyS := ⟨.fix (xs.map e), by simp [svOf], fun _ _ => W_fix _⟩
theorem v_K {ys : List D} : VP st (.kl ys) ys AnyS := ⟨.fix ys, by simp [svOf], fun _ _ => W_fix _⟩
theorem v_R {k : Nat} {ys : List D} (h : st[k]? = some (.lst ys)) : VP st (.lr k) ys (fun st => st[k]? = some (.lst ys)) := ⟨.cell k, by simp [svOf, lstOf, h], fun st' h' => ⟨rfl, fun i _ => item_cell h' i, by simp [ends_cell h']⟩⟩
theorem S_seq {ys : List D} (v : VP st1 d ys P) (h : evE cf a ρ st = .ok d st1) : SrcP cf (.ex a) ρ st st1 ys P := by
  obtain ⟨sv, v, w⟩ := v
  refine ⟨sv, ys.length, ?_, w⟩
  rw [ev_sex, h]
  exact kSvA_ok _ _ v
theorem rI_get (lo hi : Int) (i : Nat) (h : i < (hi - lo).toNat) : ((rI lo hi).map eI)[i]? = some (.int (lo + i)) := by
  simp [rI, h]
theorem rI_len (lo hi : Int) : (rI lo hi).length = (hi - lo).toNat := by simp [rI]
theorem W_rng {lo hi : Int} {n : Nat} (hn : (hi - lo).toNat = n) : IsW (.rng lo 1) n ((rI lo hi).map eI) st := ⟨by simp [rI_len, hn], fun i h => by
  rw [item_rng, rI_get lo hi i (by omega)]
  congr 3
  omega, rfl⟩
theorem S_rng1 (o : rgB 0 y = true) (h : evE cf a ρ st = .ok (.int y) st1) : SrcP cf (.rng [a]) ρ st st1 ((rI 0 y).map eI) AnyS := by
  unfold rgB at o
  rw [Bool.and_eq_true] at o
  refine ⟨.rng 0 1, y.toNat, ?_, fun _ _ => W_rng (by simp)⟩
  rw [ev_srng, Es1 h]
  exact kSvR_ok _ _ (by simp only [rngOf, o.2, if_true])
theorem S_rng2 (o : rgB x y = true) (h : evE cf a ρ st = .ok (.int x) st1) (k : evE cf b ρ st1 = .ok (.int y) st2) : SrcP cf (.rng [a, b]) ρ st st2 ((rI x y).map eI) AnyS := by
  unfold rgB at o
  rw [Bool.and_eq_true] at o
  refine ⟨.rng x 1, (y - x).toNat, ?_, fun _ _ => W_rng rfl⟩
  rw [ev_srng, Es2 h k]
  exact kSvR_ok _ _ (by simp only [rngOf, o.1, o.2, Bool.and_self, if_true])
theorem S_rngD (o : rgB x y = true) (h : evE cf a ρ st = .ok (.int x) st1) (k : evE cf b ρ st1 = .ok (.int y) st2) (l : evE cf c ρ st2 = .ok (.int (-1)) st3) : SrcP cf (.rng [a, b, c]) ρ st st3 ((rD x y).map eI) AnyS := by
  unfold rgB at o
  rw [Bool.and_eq_true] at o
  refine ⟨.rng x (-1), (x - y).toNat, ?_, fun _ _ => ⟨by simp [rD], fun i h => ?_, rfl⟩⟩
  · rw [ev_srng, Es_cons h (Es2 k l)]
    refine kSvR_ok _ _ ?_
    simp [rngOf, o.1, o.2]
  · rw [item_rng]
    simp only [rD, List.map_map, List.getElem?_map]
    rw [List.getElem?_range h]
    simp
    omega
/-- with their places -/
def enumI (xs : List α) : List (Int × α) := (List.range xs.length).zip xs |>.map fun p => ((p.1 : Int), p.2)
theorem enumI_get (xs : List α) (i : Nat) (x : α) (h : xs[i]? = some x) : (enumI xs)[i]? = some ((i : Int), x) := by
  have hi := (List.getElem?_eq_some_iff.mp h).1
  simp [enumI, List.getElem?_zip_eq_some, hi]
  exact (List.getElem?_eq_some_iff.mp h).2
theorem enumI_len (xs : List α) : (enumI xs).length = xs.length := by simp [enumI]
theorem W_enu {sv : Sv} {n : Nat} (w : IsW sv n (xs.map e) st) : IsW (.enu sv) n ((enumI xs).map (eP2 eI e)) st := by
  have hl : xs.length = n := by simpa using w.len
  refine ⟨by simp [enumI_len, hl], fun i h => ?_, w.ends⟩
  have hx : xs[i]? = some xs[i] := List.getElem?_eq_getElem (by omega)
  simp only [Sv.item]
  rw [w.item i h]
  simp [hx, enumI_get xs i _ hx]
theorem S_enu (v : VP st1 d (xs.map e) P) (h : evE cf a ρ st = .ok d st1) : SrcP cf (.enu a) ρ st st1 ((enumI xs).map (eP2 eI e)) P := by
  obtain ⟨sv, s1, w⟩ := v
  refine ⟨.enu sv, (xs.map e).length, ?_, fun st' hp => W_enu (w st' hp)⟩
  rw [ev_senu, h]
  exact kSvE_ok _ _ _ s1
theorem zip_get {xs : List α} {ys : List β} {i : Nat} {x : α} {y : β} (h : xs[i]? = some x) (k : ys[i]? = some y) : (xs.zip ys)[i]? = some (x, y) := by
  simp [List.getElem?_zip_eq_some, h, k]
theorem W_zip {s t : Sv} {n m : Nat} (w : IsW s n (xs.map e) st) (v : IsW t m (ys.map e2) st) : IsW (.zip s t) (min n m) ((xs.zip ys).map (eP2 e e2)) st := by
  have hl : xs.length = n := by simpa using w.len
  have hm : ys.length = m := by simpa using v.len
  refine ⟨by simp [hl, hm], fun i h => ?_, ?_⟩
  · have hx : xs[i]? = some xs[i] := List.getElem?_eq_getElem (by omega)
    have hy : ys[i]? = some ys[i] := List.getElem?_eq_getElem (by omega)
    simp only [Sv.item]
    rw [w.item i (by omega), v.item i (by omega)]
    simp only [List.getElem?_map, hx, hy, zip_get hx hy]
    rfl
  · simp only [Sv.ends, Bool.or_eq_true]
    rcases Nat.le_total n m with z | z
    · left; rw [Nat.min_eq_left z]; exact w.ends
    · right; rw [Nat.min_eq_right z]; exact v.ends
theorem S_zip {d e' : D} (v1 : VP st2 d (xs.map e) P1) (v2 : VP st2 e' (ys.map e2) P2) (n : isTup d = isTup e') (h : evE cf a ρ st = .ok d st1) (k : evE cf b ρ st1 = .ok e' st2) :
    SrcP cf (.zip a b) ρ st st2 ((xs.zip ys).map (eP2 e e2)) (fun st => P1 st ∧ P2 st) := by
  obtain ⟨sv, s1, w⟩ := v1
  obtain ⟨tv, t1, v⟩ := v2
  refine ⟨.zip sv tv, min (xs.map e).length (ys.map e2).length, ?_, fun st' hp => W_zip (w st' hp.1) (v st' hp.2)⟩
  rw [ev_szip, h, kSvZ_ok, k]
  exact kSvZ2_ok _ _ _ _ _ _ s1 t1 n
end
/-! ### targets -/
theorem T_nm {i : Nat} (n : notl d = true) : evTg cf (.nm i) d ρ st = .ok (ρ.set i (some d)) st := by rw [ev_nm, mat_notl n]
theorem Ts_nil : evTgs cf [] ds ρ st = .ok ρ st := ev_tgs0 ds
theorem Ts_cons {t : Tg} {ts : List Tg} {ρ1 ρ2 : Rho} (h : evTg cf t d ρ st = .ok ρ1 st1) (k : evTgs cf ts ds ρ1 st1 = .ok ρ2 st2) : evTgs cf (t :: ts) (d :: ds) ρ st = .ok ρ2 st2 := by
  rw [ev_tgs1, h, kTgs_ok, k]
theorem T_tp {ts : List Tg} {ρ1 : Rho} (s : seqOf st d = some ds) (l : ds.length = ts.length) (h : evTgs cf ts ds ρ st = .ok ρ1 st1) : evTg cf (.tp ts) d ρ st = .ok ρ1 st1 := by
  rw [ev_tp, s]
  show (if ds.length = ts.length then evTgs cf ts ds ρ st else .no) = _
  rw [if_pos l, h]
theorem T_sb {o i : E} {k j : Nat} {z : Int} {xs : List D} (n : notl d = true) (ho : evE cf o ρ st = .ok (.lr k) st) (hi : evE cf i ρ st = .ok (.int z) st) (hk : st[k]? = some (.lst xs)) (hj : L2.ixN xs.length z = some j) : evTg cf (.sb o i) d ρ st = .ok ρ (st.set k (.lst (xs.set j d))) := by
  rw [ev_sb, ho, kSbA_ok, hi, kSbB_ok]
  have : setD (.lr k) (.int z) d st = some (st.set k (.lst (xs.set j d))) := by simp [setD, hk, hj, mat_notl n]
  rw [this]
  rfl
end Wk
/-! Wk3: statements, loops, calls. -/
namespace Wk
open Mn PySem
variable {cf : Cf} {ρ ρ1 : Rho} {st st1 st2 st3 : Sto} {a b c : E} {es : List E} {d d1 d2 d3 : D} {ds : List D}
abbrev Kt := Fl → Rho → Sto → Prop
abbrev Et := Nat → List D → Sto → Prop
def Holds (x : Out (Fl × Rho)) (Q : Kt) (E : Et) : Prop := match x with
  | .ok (fl, ρ) st => Q fl ρ st
  | .ex c p st => E c p st
  | .no => False
/-- statements from here: what follows them -/
def HS (cf : Cf) (ss : List S) (ρ : Rho) (st : Sto) (Q : Kt) (E : Et) : Prop := Holds (exSs cf ss ρ st) Q E
/-- a def's end -/
def QF (n : Nat) (R : Out D) : Kt := fun fl ρ st => fin n (.ok (fl, ρ) st) = R
def EF (n : Nat) (R : Out D) : Et := fun c p st => fin n (.ex c p st) = R
section
variable {ss x y : List S} {Q : Kt} {E : Et}
theorem holds_seq {x : Out (Fl × Rho)} {s : List S} (h : Holds x (fun fl ρ st => match fl with
    | .nx => HS cf s ρ st Q E
    | fl => Q fl ρ st) E) : Holds (kSeq cf s x) Q E := by
  cases x with
  | ok p st =>
    obtain ⟨fl, ρ⟩ := p
    cases fl <;> exact h
  | ex c p st => exact h
  | no => exact h.elim
theorem HS_nil (h : Q .nx ρ st) : HS cf [] ρ st Q E := by
  unfold HS
  rw [ex_nil]
  exact h
theorem HS_app : ∀ {x : List S} {ρ : Rho} {st : Sto}, HS cf (x ++ ss) ρ st Q E → Holds (kSeq cf ss (exSs cf x ρ st)) Q E
  | [], ρ, st, h => by rw [ex_nil]; exact h
  | s :: x, ρ, st, h => by
    have h' : Holds (kSeq cf (x ++ ss) (exS cf s ρ st)) Q E := by
      have := h
      unfold HS at this
      rw [List.cons_append, ex_cons] at this
      exact this
    rw [ex_cons]
    cases z : exS cf s ρ st with
    | ok p st1 =>
      rw [z] at h'
      obtain ⟨fl, ρ1⟩ := p
      cases fl with
      | nx => exact HS_app (x := x) h'
      | brk => exact h'
      | cnt => exact h'
      | ret d => exact h'
    | ex c p st1 => rw [z] at h'; exact h'
    | no => rw [z] at h'; exact h'.elim
theorem HS_ret (h : evE cf a ρ st = .ok d st1) (q : Q (.ret d) ρ st1) : HS cf (.ret a :: ss) ρ st Q E := by
  unfold HS
  rw [ex_cons, ex_ret, h]
  exact q
theorem HS_retX {n : Nat} {p : List D} (h : evE cf a ρ st = .ex n p st1) (q : E n p st1) : HS cf (.ret a :: ss) ρ st Q E := by
  unfold HS
  rw [ex_cons, ex_ret, h]
  exact q
theorem HS_ret0 (q : Q (.ret .non) ρ st) : HS cf (.ret0 :: ss) ρ st Q E := by
  unfold HS
  rw [ex_cons, ex_ret0]
  exact q
theorem HS_pas (h : HS cf ss ρ st Q E) : HS cf (.pas :: ss) ρ st Q E := by
  unfold HS
  rw [ex_cons, ex_pas]
  exact h
theorem HS_brk (q : Q .brk ρ st) : HS cf (.brk :: ss) ρ st Q E := by
  unfold HS
  rw [ex_cons, ex_brk]
  exact q
theorem HS_cnt (q : Q .cnt ρ st) : HS cf (.cnt :: ss) ρ st Q E := by
  unfold HS
  rw [ex_cons, ex_cnt]
  exact q
theorem HS_ex (h : evE cf a ρ st = .ok d st1) (k : HS cf ss ρ st1 Q E) : HS cf (.ex a :: ss) ρ st Q E := by
  unfold HS
  rw [ex_cons, ex_ex, h]
  exact k
theorem HS_exX {n : Nat} {p : List D} (h : evE cf a ρ st = .ex n p st1) (k : E n p st1) : HS cf (.ex a :: ss) ρ st Q E := by
  unfold HS
  rw [ex_cons, ex_ex, h]
  exact k
theorem HS_asg {t : Tg} (h : evE cf a ρ st = .ok d st1) (g : evTg cf t d ρ st1 = .ok ρ1 st2) (k : HS cf ss ρ1 st2 Q E) : HS cf (.asg t a :: ss) ρ st Q E := by
  unfold HS
  rw [ex_cons, ex_asg, h, kAsg_ok, g]
  exact k
theorem HS_asgX {t : Tg} {n : Nat} {p : List D} (h : evE cf a ρ st = .ex n p st1) (k : E n p st1) : HS cf (.asg t a :: ss) ρ st Q E := by
  unfold HS
  rw [ex_cons, ex_asg, h]
  exact k
/-- a list just made goes to a name whose list will change -/
theorem HS_new {i : Nat} (h : evE cf a ρ st = .ok (.tl ds) st1) (k : HS cf ss (ρ.set i (some (.lr st1.length))) (st1 ++ [.lst ds]) Q E) : HS cf (.asg (.nm i) a :: ss) ρ st Q E :=
  HS_asg h (by rw [ev_nm]; rfl) k
theorem HS_aug {i : Nat} {p : Pr} {x y : Int} (hi : ρ[i]? = some (some (.int x))) (h : evE cf a ρ st = .ok (.int y) st1) (r : semI p x y = some d) (k : HS cf ss (ρ.set i (some d)) st1 Q E) : HS cf (.aug i p a :: ss) ρ st Q E := by
  unfold HS
  rw [ex_cons, ex_aug, hi]
  show Holds (kSeq cf ss (kAug i p ρ (.int x) (evE cf a ρ st))) Q E
  rw [h, kAug_ok _ _ _ _ _ r]
  exact k
theorem sI_fdiv {x y : Int} (o : fdB y = true) : semI .fdiv x y = some (.int (x.fdiv y)) := by
  have := fdB_ok o
  simp only [semI]
  rw [if_pos this]
theorem sI_mulB {x y : Int} (o : fitB x y = true) : semI .mul x y = some (.int (x * y)) := sI_mul (fitB_ok o)
theorem HS_augSet {o i : Mn.E} {p : Pr} {n j : Nat} {z x y : Int} {d : D} {xs : List D} (ho : evE cf o ρ st = .ok (.lr n) st) (hi : evE cf i ρ st = .ok (.int z) st) (hn : st[n]? = some (.lst xs)) (hj : L2.ixN xs.length z = some j) (hx : xs[j]? = some (.int x)) (h : evE cf a ρ st = .ok (.int y) st)
    (r : semI p x y = some d) (nd : notl d = true) (k : HS cf ss ρ (st.set n (.lst (xs.set j d))) Q E) : HS cf (.augS o i p a :: ss) ρ st Q E := by
  have e1 : sem2 .ix (.lr n) (.int z) st = some (.int x, st) := by
    have : L2.atI xs z = some (.int x) := by simp [L2.atI, hj, hx]
    simp [sem2, seqOf, lstOf, hn, this]
  have e2 : setD (.lr n) (.int z) d st = some (st.set n (.lst (xs.set j d))) := by simp [setD, hn, hj, mat_notl nd]
  unfold HS
  rw [ex_cons]
  have : exS cf (.augS o i p a) ρ st = .ok (.nx, ρ) (st.set n (.lst (xs.set j d))) := by
    rw [exS, ho]
    show ((evE cf i ρ st).bind fun k st => _) = _
    rw [hi]
    show (match mlOf [] (.lr n), sem2 .ix (.lr n) (.int z) st with
      | none, some (y, _) => _
      | _, _ => Out.no) = _
    rw [e1]
    show ((evE cf a ρ st).bind fun z' st => _) = _
    rw [h]
    show (match semI p x y with | some d => _ | none => Out.no) = _
    rw [r]
    show (match setD (.lr n) (.int z) d st with | some st => _ | none => Out.no) = _
    rw [e2]
  rw [this]
  exact k
theorem HS_if {t : Bool} (h : evE cf c ρ st = .ok (.bl t) st1) (k : t = true → HS cf (x ++ ss) ρ st1 Q E) (l : t = false → HS cf (y ++ ss) ρ st1 Q E) : HS cf (.ifS c x y :: ss) ρ st Q E := by
  unfold HS
  rw [ex_cons, ex_if, h, kB_ok, kIf_ok]
  cases t with
  | true => rw [if_pos rfl]; exact HS_app (k rfl)
  | false => rw [if_neg Bool.false_ne_true]; exact HS_app (l rfl)
/-- .. that tells what comes of it -/
theorem HS_ifV {t : Bool} {Q : Bool → Kt} {E : Bool → Et} (h : evE cf c ρ st = .ok (.bl t) st1) (k : t = true → HS cf (x ++ ss) ρ st1 (Q true) (E true)) (l : t = false → HS cf (y ++ ss) ρ st1 (Q false) (E false)) : HS cf (.ifS c x y :: ss) ρ st (Q t) (E t) :=
  HS_if h (fun z => by subst z; exact k rfl) fun z => by subst z; exact l rfl
theorem HS_rse {n : Nat} (h : evEs cf es ρ st = .ok ds st1) (l : ds.all notl = true) (k : E n ds st1) : HS cf (.rse n es :: ss) ρ st Q E := by
  unfold HS
  rw [ex_cons, ex_rse, h, kRse_ok, if_pos l]
  exact k
theorem HS_try {b : List S} {hs : List (Nat × Su)} (h : HS cf b ρ st (fun fl ρ st => match fl with
    | .nx => HS cf ss ρ st Q E
    | fl => Q fl ρ st) fun c p st => Holds (kSeq cf ss (handle c p ρ st hs)) Q E) : HS cf (.tryS b hs :: ss) ρ st Q E := by
  unfold HS
  rw [ex_cons, ex_try]
  unfold HS at h
  cases z : exSs cf b ρ st with
  | ok p st1 =>
    rw [z] at h
    obtain ⟨fl, ρ1⟩ := p
    cases fl <;> exact h
  | ex c p st1 => rw [z] at h; exact h
  | no => rw [z] at h; exact h.elim
/-! ### loops -/
/-- what a turn leads to -/
inductive Stp (σ τ : Type) where
  | nx (s : σ) | bk (s : σ) | rt (r : τ)
def Stp.els {σ τ : Type} (x : Stp σ τ) (f : σ → τ) : τ := match x with
  | .nx s => f s
  | .bk s => f s
  | .rt r => r
def Stp.all {σ τ : Type} (x : Stp σ τ) (g : σ → Bool) : Bool := match x with
  | .nx s => g s
  | .bk s => g s
  | .rt _ => true
section
variable {α σ τ : Type} {e : α → D} {t : Tg} {src : Src} {bd : List S} {sv : Sv} {n : Nat}
/-- the state of the loop is held -/
abbrev Rp (σ : Type) := σ → Rho → Sto → Prop
def QL (I : Rp σ) (s : σ) : Kt := fun fl ρ st => (fl = .nx ∨ fl = .cnt) ∧ I s ρ st
def EN : Et := fun _ _ _ => False
def okF (step : σ → α → σ) (ok : σ → α → Bool) : List α → σ → Bool
  | [], _ => true
  | x :: xs, s => ok s x && okF step ok xs (step s x)
theorem for_fold (step : σ → α → σ) (ok : σ → α → Bool) (I : Rp σ) {e : α → D} (ys : List D) (hn : ys.length = n) (hit : ∀ s ρ st, I s ρ st → ∀ i, i < n → sv.item st i = ys[i]?) (hend : ∀ s ρ st, I s ρ st → sv.ends st n = true)
    (body : ∀ s x ρ st, ok s x = true → I s ρ st → Holds (kBody cf bd (evTg cf t (e x) ρ st)) (QL I (step s x)) EN) :
    ∀ (k i : Nat) (xs : List α) (s : σ) (ρ : Rho) (st : Sto), i + k = n → xs.map e = ys.drop i → okF step ok xs s = true → I s ρ st → ∃ ρ' st', forB cf t bd sv k i ρ st = .ok (.nx, ρ') st' ∧ I (xs.foldl step s) ρ' st'
  | 0, i, xs, s, ρ, st, hk, hx, ho, hI => by
    have : xs = [] := by
      have : (xs.map e).length = 0 := by rw [hx, List.length_drop]; omega
      simpa using this
    subst this
    exact ⟨ρ, st, forB_zero t bd sv i (by have := hend s ρ st hI; rwa [show i = n by omega]), hI⟩
  | k + 1, i, xs, s, ρ, st, hk, hx, ho, hI => by
    cases xs with
    | nil =>
      have : (ys.drop i).length = 0 := by rw [← hx]; rfl
      rw [List.length_drop] at this
      omega
    | cons x xs =>
      have hi : ys[i]? = some (e x) := by
        have := congrArg (·[0]?) hx
        simpa using this.symm
      have hb := body s x ρ st (a1 ho) hI
      have hx' : xs.map e = ys.drop (i + 1) := by
        have := congrArg List.tail hx
        simpa using this
      rw [forB_succ t bd sv k i (e x) (by rw [hit s ρ st hI i (by omega), hi])]
      cases z : kBody cf bd (evTg cf t (e x) ρ st) with
      | ok p st1 =>
        rw [z] at hb
        obtain ⟨fl, ρ1⟩ := p
        obtain ⟨hf, hI1⟩ := hb
        obtain ⟨ρ', st', h1, h2⟩ := for_fold step ok I ys hn hit hend body k (i + 1) xs (step s x) ρ1 st1 (by omega) hx' (a2 ho) hI1
        refine ⟨ρ', st', ?_, h2⟩
        rcases hf with rfl | rfl <;> exact h1
      | ex c p st1 => rw [z] at hb; exact hb.elim
      | no => rw [z] at hb; exact hb.elim
theorem HS_for {ss : List S} (I : Rp σ) (step : σ → α → σ) (ok : σ → α → Bool) (xs : List α) (s0 : σ) {P : Sto → Prop} (h : SrcP cf src ρ st st1 (xs.map e) P)
    (hP : ∀ s ρ st, I s ρ st → P st) (h0 : I s0 ρ st1) (o : okF step ok xs s0 = true)
    (body : ∀ s x ρ st, ok s x = true → I s ρ st → Holds (kBody cf bd (evTg cf t (e x) ρ st)) (QL I (step s x)) EN)
    (rest : ∀ ρ st, I (xs.foldl step s0) ρ st → HS cf ss ρ st Q E) : HS cf (.for t src bd :: ss) ρ st Q E := by
  obtain ⟨sv, n, h1, w⟩ := h
  obtain ⟨ρ', st', h2, h3⟩ := for_fold step ok I (xs.map e) (w st1 (hP _ _ _ h0)).len (fun s ρ st hI i hi => (w st (hP s ρ st hI)).item i hi) (fun s ρ st hI => (w st (hP s ρ st hI)).ends) body n 0 xs s0 ρ st1 (by omega) rfl o h0
  unfold HS
  rw [ex_cons, ex_for, h1, kFor_ok, h2]
  exact rest ρ' st' h3
/-- .. that may be left -/
def forR (step : σ → α → Stp σ τ) : List α → σ → Stp σ τ
  | [], s => .nx s
  | x :: xs, s => match step s x with
    | .nx s => forR step xs s
    | .bk s => .bk s
    | .rt r => .rt r
def okR (step : σ → α → Stp σ τ) (ok : σ → α → Bool) : List α → σ → Bool
  | [], _ => true
  | x :: xs, s => ok s x && (match step s x with
    | .nx s => okR step ok xs s
    | _ => true)
def QR (I : Rp σ) (Q : τ → Kt) (o : Stp σ τ) : Kt := fun fl ρ st => match o with
  | .nx s => (fl = .nx ∨ fl = .cnt) ∧ I s ρ st
  | .bk s => fl = .brk ∧ I s ρ st
  | .rt r => (∃ d, fl = .ret d) ∧ Q r fl ρ st
def ER (E : τ → Et) (o : Stp σ τ) : Et := fun c p st => match o with
  | .rt r => E r c p st
  | _ => False
theorem for_ret (step : σ → α → Stp σ τ) (ok : σ → α → Bool) (I : Rp σ) {e : α → D} {Q : τ → Kt} {E : τ → Et} (ys : List D) (hn : ys.length = n) (hit : ∀ s ρ st, I s ρ st → ∀ i, i < n → sv.item st i = ys[i]?) (hend : ∀ s ρ st, I s ρ st → sv.ends st n = true)
    (body : ∀ s x ρ st, ok s x = true → I s ρ st → Holds (kBody cf bd (evTg cf t (e x) ρ st)) (QR I Q (step s x)) (ER E (step s x))) :
    ∀ (k i : Nat) (xs : List α) (s : σ) (ρ : Rho) (st : Sto), i + k = n → xs.map e = ys.drop i → okR step ok xs s = true → I s ρ st →
      Holds (forB cf t bd sv k i ρ st) (fun fl ρ' st' => match forR step xs s with
        | .nx s => fl = .nx ∧ I s ρ' st'
        | .bk s => fl = .nx ∧ I s ρ' st'
        | .rt r => (∃ d, fl = .ret d) ∧ Q r fl ρ' st') (ER E (forR step xs s))
  | 0, i, xs, s, ρ, st, hk, hx, ho, hI => by
    have : xs = [] := by
      have : (xs.map e).length = 0 := by rw [hx, List.length_drop]; omega
      simpa using this
    subst this
    rw [forB_zero t bd sv i (by have := hend s ρ st hI; rwa [show i = n by omega])]
    exact ⟨rfl, hI⟩
  | k + 1, i, xs, s, ρ, st, hk, hx, ho, hI => by
    cases xs with
    | nil =>
      have : (ys.drop i).length = 0 := by rw [← hx]; rfl
      rw [List.length_drop] at this
      omega
    | cons x xs =>
      have hi : ys[i]? = some (e x) := by
        have := congrArg (·[0]?) hx
        simpa using this.symm
      have hb := body s x ρ st (a1 ho) hI
      have hx' : xs.map e = ys.drop (i + 1) := by
        have := congrArg List.tail hx
        simpa using this
      rw [forB_succ t bd sv k i (e x) (by rw [hit s ρ st hI i (by omega), hi])]
      have ho2 := a2 ho
      cases zs : step s x with
      | nx s1 =>
        rw [zs] at hb ho2
        have er : forR step (x :: xs) s = forR step xs s1 := by rw [forR, zs]
        rw [er]
        cases z : kBody cf bd (evTg cf t (e x) ρ st) with
        | ok p st1 =>
          rw [z] at hb
          obtain ⟨fl, ρ1⟩ := p
          obtain ⟨hf, hI1⟩ := hb
          have := for_ret step ok I ys hn hit hend body k (i + 1) xs s1 ρ1 st1 (by omega) hx' ho2 hI1
          rcases hf with rfl | rfl <;> exact this
        | ex c p st1 => rw [z] at hb; exact hb.elim
        | no => rw [z] at hb; exact hb.elim
      | bk s1 =>
        rw [zs] at hb
        have er : forR step (x :: xs) s = .bk s1 := by rw [forR, zs]
        rw [er]
        cases z : kBody cf bd (evTg cf t (e x) ρ st) with
        | ok p st1 =>
          rw [z] at hb
          obtain ⟨fl, ρ1⟩ := p
          obtain ⟨hf, hI1⟩ := hb
          subst hf
          exact ⟨rfl, hI1⟩
        | ex c p st1 => rw [z] at hb; exact hb.elim
        | no => rw [z] at hb; exact hb.elim
      | rt r =>
        rw [zs] at hb
        have er : forR step (x :: xs) s = .rt r := by rw [forR, zs]
        rw [er]
        cases z : kBody cf bd (evTg cf t (e x) ρ st) with
        | ok p st1 =>
          rw [z] at hb
          obtain ⟨fl, ρ1⟩ := p
          obtain ⟨⟨d, hf⟩, hI1⟩ := hb
          subst hf
          exact ⟨⟨d, rfl⟩, hI1⟩
        | ex c p st1 => rw [z] at hb; exact hb
        | no => rw [z] at hb; exact hb.elim
theorem HS_forR {ss : List S} {Q : τ → Kt} {E : τ → Et} (I : Rp σ) (step : σ → α → Stp σ τ) (ok : σ → α → Bool) (xs : List α) (s0 : σ) (f : σ → τ) (g : σ → Bool) {P : Sto → Prop} (h : SrcP cf src ρ st st1 (xs.map e) P)
    (hP : ∀ s ρ st, I s ρ st → P st) (h0 : I s0 ρ st1) (o : okR step ok xs s0 = true) (o2 : (forR step xs s0).all g = true)
    (body : ∀ s x ρ st, ok s x = true → I s ρ st → Holds (kBody cf bd (evTg cf t (e x) ρ st)) (QR I Q (step s x)) (ER E (step s x)))
    (rest : ∀ s ρ st, g s = true → I s ρ st → HS cf ss ρ st (Q (f s)) (E (f s))) : HS cf (.for t src bd :: ss) ρ st (Q ((forR step xs s0).els f)) (E ((forR step xs s0).els f)) := by
  obtain ⟨sv, n, h1, w⟩ := h
  have h2 := for_ret step ok I (xs.map e) (w st1 (hP _ _ _ h0)).len (fun s ρ st hI i hi => (w st (hP s ρ st hI)).item i hi) (fun s ρ st hI => (w st (hP s ρ st hI)).ends) body n 0 xs s0 ρ st1 (by omega) rfl o h0
  unfold HS
  rw [ex_cons, ex_for, h1, kFor_ok]
  generalize forB cf t bd sv n 0 ρ st1 = z at h2 ⊢
  generalize forR step xs s0 = w at h2 o2 ⊢
  cases w with
  | nx s =>
    cases z with
    | ok p st2 =>
      obtain ⟨fl, ρ2⟩ := p
      obtain ⟨hf, hI⟩ := h2
      subst hf
      exact rest s ρ2 st2 o2 hI
    | ex c p st2 => exact h2.elim
    | no => exact h2.elim
  | bk s =>
    cases z with
    | ok p st2 =>
      obtain ⟨fl, ρ2⟩ := p
      obtain ⟨hf, hI⟩ := h2
      subst hf
      exact rest s ρ2 st2 o2 hI
    | ex c p st2 => exact h2.elim
    | no => exact h2.elim
  | rt r =>
    cases z with
    | ok p st2 =>
      obtain ⟨fl, ρ2⟩ := p
      obtain ⟨⟨d, hf⟩, hI⟩ := h2
      subst hf
      exact hI
    | ex c p st2 => exact h2
    | no => exact h2.elim
end
/-! ### while -/
section
variable {σ τ : Type} {bd : List S}
def whV (c : σ → Bool) (step : σ → σ) : Nat → σ → σ
  | 0, s => s
  | n + 1, s => bif c s then whV c step n (step s) else s
/-- it ends within n turns, each may be run -/
def whO (c : σ → Bool) (oc : σ → Bool) (step : σ → σ) (ok : σ → Bool) : Nat → σ → Bool
  | 0, _ => false
  | n + 1, s => oc s && (bif c s then ok s && whO c oc step ok n (step s) else true)
def wfB (n : Nat) : Bool := Nat.blt n.log2 134217000
theorem while_ok (I : Rp σ) (cv oc : σ → Bool) (step : σ → σ) (ok : σ → Bool) (hc : ∀ s ρ st, oc s = true → I s ρ st → evE cf c ρ st = .ok (.bl (cv s)) st)
    (body : ∀ s ρ st, oc s = true → cv s = true → ok s = true → I s ρ st → HS cf bd ρ st (QL I (step s)) EN) :
    ∀ (n m : Nat) (s : σ) (ρ : Rho) (st : Sto), n ≤ m → whO cv oc step ok n s = true → I s ρ st → ∃ ρ' st', whB cf c bd m ρ st = .ok (.nx, ρ') st' ∧ I (whV cv step n s) ρ' st'
  | 0, m, s, ρ, st, hm, ho, hI => by cases ho
  | n + 1, 0, s, ρ, st, hm, ho, hI => by omega
  | n + 1, m + 1, s, ρ, st, hm, ho, hI => by
    have o1 := a1 ho
    have o2 := a2 ho
    rw [whB_succ, hc s ρ st o1 hI, kB_ok, kWc_ok, whV]
    cases z : cv s with
    | true =>
      rw [z] at o2
      have hb := body s ρ st o1 z (a1 o2) hI
      rw [if_pos rfl]
      unfold HS at hb
      cases y : exSs cf bd ρ st with
      | ok p st1 =>
        rw [y] at hb
        obtain ⟨fl, ρ1⟩ := p
        obtain ⟨hf, hI1⟩ := hb
        obtain ⟨ρ', st', h1, h2⟩ := while_ok I cv oc step ok hc body n m (step s) ρ1 st1 (by omega) (a2 o2) hI1
        refine ⟨ρ', st', ?_, h2⟩
        rcases hf with rfl | rfl <;> exact h1
      | ex c p st1 => rw [y] at hb; exact hb.elim
      | no => rw [y] at hb; exact hb.elim
    | false =>
      rw [if_neg Bool.false_ne_true]
      exact ⟨ρ, st, rfl, hI⟩
theorem HS_while {ss : List S} (I : Rp σ) (cv oc : σ → Bool) (step : σ → σ) (ok : σ → Bool) (n : Nat) (s0 : σ) (hw : n ≤ cf.wf) (h0 : I s0 ρ st) (o : whO cv oc step ok n s0 = true) (hc : ∀ s ρ st, oc s = true → I s ρ st → evE cf c ρ st = .ok (.bl (cv s)) st)
    (body : ∀ s ρ st, oc s = true → cv s = true → ok s = true → I s ρ st → HS cf bd ρ st (QL I (step s)) EN)
    (rest : ∀ ρ st, I (whV cv step n s0) ρ st → HS cf ss ρ st Q E) : HS cf (.whl c bd :: ss) ρ st Q E := by
  obtain ⟨ρ', st', h2, h3⟩ := while_ok I cv oc step ok hc body n cf.wf s0 ρ st hw o h0
  unfold HS
  rw [ex_cons, ex_whl, h2]
  exact rest ρ' st' h3
/-- .. that may be left -/
def whR (c : σ → Bool) (step : σ → Stp σ τ) : Nat → σ → Stp σ τ
  | 0, s => .nx s
  | n + 1, s => bif c s then (match step s with
    | .nx s => whR c step n s
    | .bk s => .bk s
    | .rt r => .rt r) else .nx s
def whOR (c : σ → Bool) (oc : σ → Bool) (step : σ → Stp σ τ) (ok : σ → Bool) : Nat → σ → Bool
  | 0, _ => false
  | n + 1, s => oc s && (bif c s then ok s && (match step s with
    | .nx s => whOR c oc step ok n s
    | _ => true) else true)
theorem while_ret {Q : τ → Kt} {E : τ → Et} (I : Rp σ) (cv oc : σ → Bool) (step : σ → Stp σ τ) (ok : σ → Bool) (hc : ∀ s ρ st, oc s = true → I s ρ st → evE cf c ρ st = .ok (.bl (cv s)) st)
    (body : ∀ s ρ st, oc s = true → cv s = true → ok s = true → I s ρ st → HS cf bd ρ st (QR I Q (step s)) (ER E (step s))) :
    ∀ (n m : Nat) (s : σ) (ρ : Rho) (st : Sto), n ≤ m → whOR cv oc step ok n s = true → I s ρ st → Holds (whB cf c bd m ρ st) (fun fl ρ' st' => match whR cv step n s with
        | .nx s => fl = .nx ∧ I s ρ' st'
        | .bk s => fl = .nx ∧ I s ρ' st'
        | .rt r => (∃ d, fl = .ret d) ∧ Q r fl ρ' st') (ER E (whR cv step n s))
  | 0, m, s, ρ, st, hm, ho, hI => by cases ho
  | n + 1, 0, s, ρ, st, hm, ho, hI => by omega
  | n + 1, m + 1, s, ρ, st, hm, ho, hI => by
    have o1 := a1 ho
    have o2 := a2 ho
    rw [whB_succ, hc s ρ st o1 hI, kB_ok, kWc_ok]
    cases z : cv s with
    | true =>
      rw [z] at o2
      have hb := body s ρ st o1 z (a1 o2) hI
      have o3 := a2 o2
      rw [if_pos rfl]
      unfold HS at hb
      cases zs : step s with
      | nx s1 =>
        rw [zs] at hb o3
        have er : whR cv step (n + 1) s = whR cv step n s1 := by rw [whR, z, zs]; rfl
        rw [er]
        cases y : exSs cf bd ρ st with
        | ok p st1 =>
          rw [y] at hb
          obtain ⟨fl, ρ1⟩ := p
          obtain ⟨hf, hI1⟩ := hb
          have := while_ret I cv oc step ok hc body n m s1 ρ1 st1 (by omega) o3 hI1
          rcases hf with rfl | rfl <;> exact this
        | ex c p st1 => rw [y] at hb; exact hb.elim
        | no => rw [y] at hb; exact hb.elim
      | bk s1 =>
        rw [zs] at hb
        have er : whR cv step (n + 1) s = .bk s1 := by rw [whR, z, zs]; rfl
        rw [er]
        cases y : exSs cf bd ρ st with
        | ok p st1 =>
          rw [y] at hb
          obtain ⟨fl, ρ1⟩ := p
          obtain ⟨hf, hI1⟩ := hb
          subst hf
          exact ⟨rfl, hI1⟩
        | ex c p st1 => rw [y] at hb; exact hb.elim
        | no => rw [y] at hb; exact hb.elim
      | rt r =>
        rw [zs] at hb
        have er : whR cv step (n + 1) s = .rt r := by rw [whR, z, zs]; rfl
        rw [er]
        cases y : exSs cf bd ρ st with
        | ok p st1 =>
          rw [y] at hb
          obtain ⟨fl, ρ1⟩ := p
          obtain ⟨⟨d, hf⟩, hI1⟩ := hb
          subst hf
          exact ⟨⟨d, rfl⟩, hI1⟩
        | ex c p st1 => rw [y] at hb; exact hb
        | no => rw [y] at hb; exact hb.elim
    | false =>
      have er : whR cv step (n + 1) s = .nx s := by rw [whR, z]; rfl
      rw [if_neg Bool.false_ne_true, er]
      exact ⟨rfl, hI⟩
theorem HS_whileR {ss : List S} {Q : τ → Kt} {E : τ → Et} (I : Rp σ) (cv oc : σ → Bool) (step : σ → Stp σ τ) (ok : σ → Bool) (n : Nat) (s0 : σ) (f : σ → τ) (g : σ → Bool) (hw : n ≤ cf.wf) (h0 : I s0 ρ st) (o : whOR cv oc step ok n s0 = true) (o2 : (whR cv step n s0).all g = true)
    (hc : ∀ s ρ st, oc s = true → I s ρ st → evE cf c ρ st = .ok (.bl (cv s)) st) (body : ∀ s ρ st, oc s = true → cv s = true → ok s = true → I s ρ st → HS cf bd ρ st (QR I Q (step s)) (ER E (step s)))
    (rest : ∀ s ρ st, g s = true → I s ρ st → HS cf ss ρ st (Q (f s)) (E (f s))) : HS cf (.whl c bd :: ss) ρ st (Q ((whR cv step n s0).els f)) (E ((whR cv step n s0).els f)) := by
  have h2 := while_ret I cv oc step ok hc body n cf.wf s0 ρ st hw o h0
  unfold HS
  rw [ex_cons, ex_whl]
  generalize whB cf c bd cf.wf ρ st = z at h2 ⊢
  generalize whR cv step n s0 = w at h2 o2 ⊢
  cases w with
  | nx s =>
    cases z with
    | ok p st2 =>
      obtain ⟨fl, ρ2⟩ := p
      obtain ⟨hf, hI⟩ := h2
      subst hf
      exact rest s ρ2 st2 o2 hI
    | ex c p st2 => exact h2.elim
    | no => exact h2.elim
  | bk s =>
    cases z with
    | ok p st2 =>
      obtain ⟨fl, ρ2⟩ := p
      obtain ⟨hf, hI⟩ := h2
      subst hf
      exact rest s ρ2 st2 o2 hI
    | ex c p st2 => exact h2.elim
    | no => exact h2.elim
  | rt r =>
    cases z with
    | ok p st2 =>
      obtain ⟨fl, ρ2⟩ := p
      obtain ⟨⟨d, hf⟩, hI⟩ := h2
      subst hf
      exact hI
    | ex c p st2 => exact h2
    | no => exact h2.elim
end
end
theorem HB {t : Tg} {bd : List S} {Q : Kt} {E : Et} (h : evTg cf t d ρ st = .ok ρ1 st1) (k : HS cf bd ρ1 st1 Q E) : Holds (kBody cf bd (evTg cf t d ρ st)) Q E := by
  rw [h, kBody_ok]
  exact k
/-! ### a def -/
section
variable {T : List Fn} {wf k g : Nat} {f : Fn} {R : Out D}
theorem call_HS (hT : T[g]? = some f) (hl : ds.length = f.np) (h : HS ⟨callF T wf k, wf, T.length⟩ f.body (ds.map some ++ List.replicate (f.nl - f.np) none) st (QF st.length R) (EF st.length R)) : callF T wf (k + 1) g ds st = R := by
  rw [call_def hT hl]
  unfold HS at h
  generalize exSs ⟨callF T wf k, wf, T.length⟩ f.body (ds.map some ++ List.replicate (f.nl - f.np) none) st = x at h ⊢
  cases x with
  | ok p st => obtain ⟨fl, ρ⟩ := p; exact h
  | ex c p st => exact h
  | no => exact h.elim
/-! what a def may give -/
inductive Ex (α : Type) where
  | ok (a : α) | ex (c : Nat) (p : List D)
def outX {α : Type} (e : α → D) (st : Sto) : Ex α → Out D
  | .ok a => .ok (e a) st
  | .ex c p => .ex c p st
/-- the script's state at the store's first place -/
abbrev S2 := Int × Int
def ss (st : Sto) (s : S2) : Sto := st.set 0 (.lst [.int s.1, .int s.2])
theorem ss_len (s : S2) : (ss st s).length = st.length := by simp [ss]
theorem ss_ss (s t : S2) : ss (ss st s) t = ss st t := by simp [ss]
def outS {α : Type} (e : α → D) (st : Sto) (p : α × S2) : Out D := .ok (e p.1) (ss st p.2)
end
theorem q_ret {n : Nat} (h : st.length = n) : QF n (.ok d st) (.ret d) ρ st := by subst h; exact fin_ret
theorem q_retS {s s' : S2} : QF (ss st s).length (.ok d (ss st s')) (.ret d) ρ (ss st s') := q_ret (by rw [ss_len, ss_len])
theorem q_nx {n : Nat} (h : st.length = n) : QF n (.ok .non st) .nx ρ st := by subst h; exact fin_nx
theorem q_ex {n m : Nat} {p : List D} (h : st.length = n) : EF n (.ex m p st) m p st := fin_ex (Nat.le_of_eq h)
/-! ### lists that change -/
/-- B: the store at the start; each list's place and what it holds -/
structure MS (B : Sto) (cs : List (Nat × List D)) (st : Sto) : Prop where
  wf : Wf B
  wfs : Wf st
  len : B.length ≤ st.length
  fr : ∀ j, j < B.length → st[j]? = B[j]?
  nd : (cs.map (·.1)).Nodup
  own : ∀ p ∈ cs, B.length ≤ p.1
  at_ : ∀ p ∈ cs, st[p.1]? = some (.lst p.2)
section
variable {B : Sto} {cs l r : List (Nat × List D)} {k : Nat} {xs ys : List D}
theorem MS.nil (h : Wf st) : MS st [] st := ⟨h, h, Nat.le_refl _, fun _ _ => rfl, by simp, by simp, by simp⟩
theorem MS.lt (m : MS B cs st) {p : Nat × List D} (h : p ∈ cs) : p.1 < st.length := (List.getElem?_eq_some_iff.mp (m.at_ p h)).1
mutual
theorem below_up {n k : Nat} (h : n ≤ k) : ∀ d : D, below n d = true → below k d = true
  | .tup xs, z => by simp only [below] at z ⊢; exact belows_up h xs z
  | .tl xs, z => by simp only [below] at z ⊢; exact belows_up h xs z
  | .kl xs, z => by simp only [below] at z ⊢; exact belows_up h xs z
  | .il xs, z => by simp only [below] at z ⊢; exact belows_up h xs z
  | .lr i, z => by simp only [below] at z ⊢; exact Nat.blt_eq.mpr (Nat.lt_of_lt_of_le (Nat.blt_eq.mp z) h)
  | .non, _ => by simp [below]
  | .bl _, _ => by simp [below]
  | .int _, _ => by simp [below]
  | .str _, _ => by simp [below]
  | .fn _, _ => by simp [below]
theorem belows_up {n k : Nat} (h : n ≤ k) : ∀ ds : List D, belows n ds = true → belows k ds = true
  | [], _ => by simp [belows]
  | d :: ds, z => by
    simp only [belows, Bool.and_eq_true] at z ⊢
    exact ⟨below_up h d z.1, belows_up h ds z.2⟩
end
theorem ob_up {n k : Nat} (h : n ≤ k) {o : Ob} (z : o.below n = true) : o.below k = true := by
  cases o with
  | lst xs => exact belows_up h xs z
theorem wf_app (w : Wf st) (h : ∀ n, belows n xs = true) : Wf (st ++ [.lst xs]) := by
  unfold Wf at w ⊢
  rw [List.all_eq_true] at w ⊢
  intro o ho
  rcases List.mem_append.mp ho with z | z
  · exact ob_up (by simp) (w o z)
  · have : o = .lst xs := by simpa using z
    subst this
    exact h _
theorem wf_set {i : Nat} (w : Wf st) (h : ∀ n, belows n xs = true) : Wf (st.set i (.lst xs)) := by
  unfold Wf at w ⊢
  rw [List.all_eq_true] at w ⊢
  intro o ho
  rw [List.length_set]
  rcases List.mem_or_eq_of_mem_set ho with z | z
  · exact w o z
  · subst z
    exact h _
theorem MS.new (m : MS B cs st) (hb : ∀ n, belows n xs = true) : MS B ((st.length, xs) :: cs) (st ++ [.lst xs]) := by
  refine ⟨m.wf, wf_app m.wfs hb, by have := m.len; simp; omega, fun j h => ?_, ?_, fun p h => ?_, fun p h => ?_⟩
  · rw [List.getElem?_append_left (by have := m.len; omega)]
    exact m.fr j h
  · rw [List.map_cons, List.nodup_cons]
    refine ⟨fun z => ?_, m.nd⟩
    obtain ⟨q, hq, e⟩ := List.mem_map.mp z
    have := m.lt hq
    simp only at e
    omega
  · rcases List.mem_cons.mp h with rfl | h
    · exact m.len
    · exact m.own p h
  · rcases List.mem_cons.mp h with rfl | h
    · simp
    · rw [List.getElem?_append_left (m.lt h)]
      exact m.at_ p h
theorem MS.get (m : MS B (l ++ (k, xs) :: r) st) : st[k]? = some (.lst xs) := m.at_ (k, xs) (by simp)
theorem MS.set (m : MS B (l ++ (k, xs) :: r) st) (hb : ∀ n, belows n ys = true) : MS B (l ++ (k, ys) :: r) (st.set k (.lst ys)) := by
  have hk := m.lt (p := (k, xs)) (by simp)
  have nd := m.nd
  rw [List.map_append, List.map_cons] at nd
  have own := m.own (k, xs) (by simp)
  have ne : ∀ p, p ∈ l ∨ p ∈ r → k ≠ p.1 := fun p h z => by
    have n2 := List.nodup_append.mp nd
    rcases h with h | h
    · exact n2.2.2 p.1 (List.mem_map.mpr ⟨p, h, rfl⟩) k (by simp) z.symm
    · have := (List.nodup_cons.mp n2.2.1).1
      exact this (z ▸ List.mem_map.mpr ⟨p, h, rfl⟩)
  refine ⟨m.wf, wf_set m.wfs hb, by rw [List.length_set]; exact m.len, fun j h => ?_, by rw [List.map_append, List.map_cons]; exact nd, fun p h => ?_, fun p h => ?_⟩
  · rw [List.getElem?_set_ne (by simp only at own; omega)]
    exact m.fr j h
  · rcases List.mem_append.mp h with h | h
    · exact m.own p (List.mem_append_left _ h)
    · rcases List.mem_cons.mp h with rfl | h
      · exact own
      · exact m.own p (List.mem_append_right _ (List.mem_cons_of_mem _ h))
  · rcases List.mem_append.mp h with h | h
    · rw [List.getElem?_set_ne (ne p (.inl h))]
      exact m.at_ p (List.mem_append_left _ h)
    · rcases List.mem_cons.mp h with rfl | h
      · simp only
        rw [List.getElem?_set_self hk]
      · rw [List.getElem?_set_ne (ne p (.inr h))]
        exact m.at_ p (List.mem_append_right _ (List.mem_cons_of_mem _ h))
theorem MS.sub (m : MS B cs st) (h : l.Sublist cs) : MS B l st := ⟨m.wf, m.wfs, m.len, m.fr, m.nd.sublist (h.map _), fun p k => m.own p (h.subset k), fun p k => m.at_ p (h.subset k)⟩
theorem MS.take (m : MS B cs st) : st.take B.length = B := by
  apply List.ext_getElem?
  intro j
  by_cases h : j < B.length
  · rw [List.getElem?_take_of_lt h, m.fr j h]
  · rw [List.getElem?_eq_none (by rw [List.length_take]; omega), List.getElem?_eq_none (by omega)]
theorem MS.app (m : MS B cs st) : ∃ ext, st = B ++ ext := ⟨st.drop B.length, by
  have := List.take_append_drop B.length st
  rw [m.take] at this
  exact this.symm⟩
theorem MS.ret (m : MS B cs st) (h : below B.length d = true) : QF B.length (.ok d B) (.ret d) ρ st := by
  obtain ⟨ext, rfl⟩ := m.app
  exact fin_retA m.wf h
theorem MS.nx (m : MS B cs st) : QF B.length (.ok .non B) .nx ρ st := by
  obtain ⟨ext, rfl⟩ := m.app
  exact retn_app m.wf rfl
theorem MS.retL (m : MS B (l ++ (k, xs) :: r) st) (h : belows B.length xs = true) : QF B.length (.ok (.tl xs) B) (.ret (.lr k)) ρ st := by
  have e := m.get
  have o := m.own (k, xs) (by simp)
  obtain ⟨ext, rfl⟩ := m.app
  exact retn_new m.wf o e h
theorem MS.ex {n : Nat} (m : MS B cs st) : EF B.length (.ex n [] B) n [] st := by
  obtain ⟨ext, rfl⟩ := m.app
  exact fin_exA m.wf
end
end Wk
/-! Wk4: what raises, the state, lists that change: statements. -/
namespace Wk
open Mn PySem
variable {cf : Cf} {ρ ρ1 : Rho} {st st1 st2 st3 : Sto} {a b c : Mn.E} {es : List Mn.E} {d d1 d2 d3 : D} {ds : List D}
/-- turns enough for any loop -/
def Big (wf : Nat) : Prop := ∀ n : Nat, wfB n = true → n ≤ wf
theorem big_gen (M : Nat) : ∃ wf : Nat, ∀ n : Nat, Nat.blt n.log2 M = true → n ≤ wf := ⟨2 ^ M, fun n h => by
  by_cases h0 : n = 0
  · subst h0; exact Nat.zero_le _
  · exact Nat.le_of_lt ((Nat.log2_lt h0).mp (Nat.blt_eq.mp h))⟩
theorem big_ex : ∃ wf, Big wf := big_gen 134217000
theorem jt {α : Type} {P : α → Prop} {c : Bool} {a b : α} (hc : c = true) (h : P (bif c then a else b)) : P a := by subst hc; exact h
theorem jf {α : Type} {P : α → Prop} {c : Bool} {a b : α} (hc : c = false) (h : P (bif c then a else b)) : P b := by subst hc; exact h
/-! ### strings and other data compared -/
class EqV {α : Type} (e : α → D) [BEq α] : Prop where
  eq : ∀ a b, eqP (e a) (e b) = (a == b)
instance {α : Type} {e : α → D} {n : Nat} [BEq α] [h : EqE e n] : EqV e := ⟨h.eq⟩
instance : EqV eS := ⟨fun _ _ => by simp [eqP]⟩
instance {α : Type} {e : α → D} [BEq α] [h : EqV e] : EqV (eT e) := ⟨fun a b => by simp only [eqP]; exact eqPs_map h.eq a b⟩
instance {α : Type} {e : α → D} [BEq α] [h : EqV e] : EqV (eL e) := ⟨fun a b => by simp only [eqP]; exact eqPs_map h.eq a b⟩
instance {α β : Type} {e1 : α → D} {e2 : β → D} [BEq α] [BEq β] [h1 : EqV e1] [h2 : EqV e2] : EqV (eP2 e1 e2) := ⟨fun a b => by
  simp only [eqP, eqPs, h1.eq, h2.eq, Bool.and_true]
  rfl⟩
section
variable {α : Type} {e : α → D} {x y : α}
def pdB (d : D) : Bool := pd 16 d
theorem E_eqV [BEq α] [h0 : EqV e] (o1 : pdB (e x) = true) (o2 : pdB (e y) = true) (h : evE cf a ρ st = .ok (e x) st1) (k : evE cf b ρ st1 = .ok (e y) st2) : evE cf (.prim .eq [a, b]) ρ st = .ok (.bl (x == y)) st2 := E_p2 h k (by
  rw [sp_eq o1 o2, h0.eq])
theorem E_neV [BEq α] [h0 : EqV e] (o1 : pdB (e x) = true) (o2 : pdB (e y) = true) (h : evE cf a ρ st = .ok (e x) st1) (k : evE cf b ρ st1 = .ok (e y) st2) : evE cf (.prim .ne [a, b]) ρ st = .ok (.bl (!(x == y))) st2 := E_p2 h k (by
  rw [sp_ne o1 o2, h0.eq])
theorem E_eqDD (o1 : pdB d1 = true) (o2 : pdB d2 = true) (h : evE cf a ρ st = .ok d1 st1) (k : evE cf b ρ st1 = .ok d2 st2) : evE cf (.prim .eq [a, b]) ρ st = .ok (.bl (eqP d1 d2)) st2 := E_p2 h k (sp_eq o1 o2)
theorem E_neDD (o1 : pdB d1 = true) (o2 : pdB d2 = true) (h : evE cf a ρ st = .ok d1 st1) (k : evE cf b ρ st1 = .ok d2 st2) : evE cf (.prim .ne [a, b]) ρ st = .ok (.bl (!eqP d1 d2)) st2 := E_p2 h k (sp_ne o1 o2)
end
/-! ### values of any kind: their items -/
def itD : D → List D
  | .tup xs => xs
  | .il xs => xs
  | _ => []
def sqD : D → Bool
  | .tup _ => true
  | .il _ => true
  | _ => false
theorem sD (o : sqD d = true) : seqOf st d = some ((itD d).map eD) := by
  cases d <;> first | (cases o; done) | simp [seqOf, lstOf, itD, List.map_id']
theorem v_D (o : sqD d = true) : VP st d ((itD d).map eD) AnyS := by
  refine ⟨.fix (itD d), ?_, fun _ _ => ?_⟩
  · rw [List.length_map]
    cases d <;> first | (cases o; done) | rfl
  · have := W_fix (st := ‹Sto›) (itD d)
    simpa [List.map_id'] using this
/-! ### what raises -/
section
variable {α β : Type} {e : α → D} {e2 : β → D}
def Ex.bind (m : Ex α) (f : α → Ex β) : Ex β := match m with
  | .ok a => f a
  | .ex c p => .ex c p
def Ex.isOk : Ex α → Bool
  | .ok _ => true
  | .ex _ _ => false
def Ex.get [Inhabited α] : Ex α → α
  | .ok a => a
  | .ex _ _ => default
theorem E_get [Inhabited α] {m : Ex α} (o : m.isOk = true) (h : evE cf a ρ st = outX e st1 m) : evE cf a ρ st = .ok (e m.get) st1 := by
  cases m with
  | ok v => exact h
  | ex c p => cases o
/-- a part that may raise, then the whole -/
theorem X_bind {m : Ex α} {f : α → Ex β} {w : Mn.E} (h : evE cf a ρ st = outX e st m) (k : ∀ v, m = .ok v → evE cf a ρ st = .ok (e v) st → evE cf w ρ st = outX e2 st (f v)) (l : ∀ c p, evE cf a ρ st = .ex c p st → evE cf w ρ st = .ex c p st) : evE cf w ρ st = outX e2 st (m.bind f) := by
  cases m with
  | ok v => exact k v rfl h
  | ex c p => exact l c p h
variable {n : Nat} {p : List D}
theorem X_here (h : evE cf a ρ st = .ex n p st1) : evEs cf (a :: es) ρ st = .ex n p st1 := by rw [ev_cons, h]; rfl
theorem X_next (h : evE cf a ρ st = .ok d st1) (k : evEs cf es ρ st1 = .ex n p st2) : evEs cf (a :: es) ρ st = .ex n p st2 := by rw [ev_cons, h, kCons_ok, k]; rfl
theorem X_tup (h : evEs cf es ρ st = .ex n p st1) : evE cf (.tupE es) ρ st = .ex n p st1 := by rw [ev_tup, h]; rfl
theorem X_call {g : Nat} (h : evEs cf es ρ st = .ex n p st1) : evE cf (.call g es) ρ st = .ex n p st1 := by rw [ev_call, h]; rfl
theorem X_prim {q : Pr} (h : evEs cf es ρ st = .ex n p st1) : evE cf (.prim q es) ρ st = .ex n p st1 := by rw [ev_prim, h]; rfl
theorem X_frz (h : evE cf a ρ st = .ex n p st1) : evE cf (.frz a) ρ st = .ex n p st1 := by rw [evE, h]; rfl
theorem E_callX {g : Nat} {m : Ex α} (h : evEs cf es ρ st = .ok ds st1) (k : mats ds st1 = (ds, st1)) (r : cf.call g ds st1 = outX e st1 m) : evE cf (.call g es) ρ st = outX e st1 m := E_call h k r
variable {ss : List S} {Q : Kt} {E : Et}
theorem HS_retM {m : Ex α} (h : evE cf a ρ st = outX e st m) (k : ∀ v, m = .ok v → Q (.ret (e v)) ρ st) (l : ∀ c p, m = .ex c p → E c p st) : HS cf (.ret a :: ss) ρ st Q E := by
  cases m with
  | ok v => exact HS_ret h (k v rfl)
  | ex c p => exact HS_retX h (l c p rfl)
/-- .. and goes on with what is given -/
theorem HS_asgM {τ : Type} {m : Ex α} {f : α → Ex τ} {t : Tg} {Q : Ex τ → Kt} {E : Ex τ → Et} (h : evE cf a ρ st = outX e st m) (k : ∀ v, m = .ok v → ∃ ρ1, evTg cf t (e v) ρ st = .ok ρ1 st ∧ HS cf ss ρ1 st (Q (f v)) (E (f v))) (l : ∀ c p, E (.ex c p) c p st) :
    HS cf (.asg t a :: ss) ρ st (Q (m.bind f)) (E (m.bind f)) := by
  cases m with
  | ok v =>
    obtain ⟨ρ1, k1, k2⟩ := k v rfl
    exact HS_asg h k1 k2
  | ex c p => exact HS_asgX h (l c p)
theorem HS_exM {τ : Type} {m : Ex α} {f : α → Ex τ} {Q : Ex τ → Kt} {E : Ex τ → Et} (h : evE cf a ρ st = outX e st m) (k : ∀ v, m = .ok v → HS cf ss ρ st (Q (f v)) (E (f v))) (l : ∀ c p, E (.ex c p) c p st) : HS cf (.ex a :: ss) ρ st (Q (m.bind f)) (E (m.bind f)) := by
  cases m with
  | ok v => exact HS_ex h (k v rfl)
  | ex c p => exact HS_exX h (l c p)
/-! the body of a try: its end, its errors -/
def QT {τ : Type} (Q : τ → Kt) (o : Ex τ) : Kt := fun fl ρ st => match o with
  | .ok v => (∃ d, fl = .ret d) ∧ Q v fl ρ st
  | .ex _ _ => False
def ET {τ : Type} (st0 : Sto) (o : Ex τ) : Et := fun c p st => o = .ex c p ∧ st = st0
def Ex.els {τ : Type} (m : Ex τ) (f : Nat → List D → τ) : τ := match m with
  | .ok v => v
  | .ex c p => f c p
theorem HS_tryM {τ : Type} {m : Ex τ} {f : Nat → List D → τ} {bd : List S} {hs : List (Nat × Su)} {Q : τ → Kt} {E : τ → Et} (o : Bool) (h : HS cf bd ρ st (QT Q m) (ET st m)) (k : ∀ c p, m = .ex c p → ∃ d, handle c p ρ st hs = .ok (.ret d, ρ) st ∧ Q (f c p) (.ret d) ρ st) :
    HS cf (.tryS bd hs :: ss) ρ st (Q (m.els f)) (E (m.els f)) := by
  refine HS_try ?_
  unfold HS at h ⊢
  cases z : exSs cf bd ρ st with
  | ok q st1 =>
    rw [z] at h
    obtain ⟨fl, ρ1⟩ := q
    cases m with
    | ok v =>
      obtain ⟨⟨d, rfl⟩, hq⟩ := h
      exact hq
    | ex c p => exact h.elim
  | ex c p st1 =>
    rw [z] at h
    obtain ⟨hm, hst⟩ := h
    subst hm hst
    obtain ⟨d, h1, h2⟩ := k c p rfl
    show Holds (kSeq cf ss (handle c p ρ st1 hs)) _ _
    rw [h1]
    exact h2
  | no => rw [z] at h; exact h.elim
theorem q_ok {n : Nat} {v : α} (h : st.length = n) : QF n (outX e st (.ok v)) (.ret (e v)) ρ st := q_ret h
theorem q_exX {n m : Nat} {p : List D} (h : st.length = n) : EF n (outX e st (.ex m p)) m p st := q_ex h
end
/-! ### lists that change, by statements -/
section
variable {B : Sto} {cs l r : List (Nat × List D)} {k : Nat} {xs : List D} {ss : List S} {Q : Kt} {E : Et}
theorem HM_new {i : Nat} (m : MS B cs st) (h : evE cf a ρ st = .ok (.tl ds) st) (hb : ∀ n, belows n ds = true) (n : ∀ k st', MS B ((k, ds) :: cs) st' → HS cf ss (ρ.set i (some (.lr k))) st' Q E) : HS cf (.asg (.nm i) a :: ss) ρ st Q E :=
  HS_new h (n _ _ (m.new hb))
theorem HM_app {i : Nat} (m : MS B (l ++ (k, xs) :: r) st) (hi : ρ[i]? = some (some (.lr k))) (h : evE cf a ρ st = .ok d st) (nd : notl d = true) (hb : ∀ n, belows n (xs ++ [d]) = true) (o : szB (xs.length + 1) = true) (n : ∀ st', MS B (l ++ (k, xs ++ [d]) :: r) st' → HS cf ss ρ st' Q E) : HS cf (.ex (.meth .append (.var i) [a]) :: ss) ρ st Q E := by
  refine HS_ex (d := .non) (st1 := st.set k (.lst (xs ++ [d]))) ?_ (n _ (m.set hb))
  rw [ev_meth, E_var hi, kMeth_ok, rcv_a, if_pos rfl, Es1 h, kMeth2_ok, sp_app m.get (by have := szB_ok o; omega) nd]
  rfl
theorem HM_set {i : Nat} {b : Mn.E} {z : Int} (m : MS B (l ++ (k, xs) :: r) st) (h : evE cf a ρ st = .ok d st) (nd : notl d = true) (hi : ρ[i]? = some (some (.lr k))) (he : evE cf b ρ st = .ok (.int z) st) (o : ixB xs z = true) (hb : ∀ n j, belows n (xs.set j d) = true) (n : ∀ j st', L2.ixN xs.length z = some j → MS B (l ++ (k, xs.set j d) :: r) st' → HS cf ss ρ st' Q E) : HS cf (.asg (.sb (.var i) b) a :: ss) ρ st Q E := by
  obtain ⟨j, hj⟩ : ∃ j, L2.ixN xs.length z = some j := by
    unfold ixB L2.atI at o
    cases e : L2.ixN xs.length z with
    | none => rw [e] at o; cases o
    | some j => exact ⟨j, rfl⟩
  exact HS_asg h (T_sb nd (E_var hi) he m.get hj) (n j _ hj (m.set fun n => hb n j))
/-- the list with another item -/
def setI {α : Type} (xs : List α) (i : Int) (x : α) : List α := match L2.ixN xs.length i with
  | some j => xs.set j x
  | none => xs
theorem setI_map {α : Type} {f : α → D} {xs : List α} {i : Int} {x : α} {j : Nat} (h : L2.ixN (xs.map f).length i = some j) : (xs.map f).set j (f x) = (setI xs i x).map f := by
  rw [List.length_map] at h
  unfold setI
  rw [h, List.map_set]
theorem ixB_map {α : Type} {f : α → D} {xs : List α} {i : Int} (h : ixB xs i = true) : ixB (xs.map f) i = true := by
  unfold ixB at h ⊢
  rw [atI_map, Option.isSome_map]
  exact h
theorem HM_setE {α : Type} {e : α → D} [Bl e] {x : α} {xs : List α} {i : Nat} {b : Mn.E} {z : Int} (m : MS B (l ++ (k, xs.map e) :: r) st) (h : evE cf a ρ st = .ok (e x) st) (nd : notl (e x) = true) (hi : ρ[i]? = some (some (.lr k))) (hb : evE cf b ρ st = .ok (.int z) st) (o : ixB xs z = true)
    (n : ∀ st', MS B (l ++ (k, (setI xs z x).map e) :: r) st' → HS cf ss ρ st' Q E) : HS cf (.asg (.sb (.var i) b) a :: ss) ρ st Q E :=
  HM_set m h nd hi hb (ixB_map o) (fun n j => by rw [← List.map_set]; exact belows_map _ _) fun j st' hj m' => n st' (by rw [← setI_map hj]; exact m')
theorem HM_appE {α : Type} {e : α → D} [Bl e] {x : α} {xs : List α} {i : Nat} (m : MS B (l ++ (k, xs.map e) :: r) st) (hi : ρ[i]? = some (some (.lr k))) (h : evE cf a ρ st = .ok (e x) st) (nd : notl (e x) = true) (o : szB (xs.length + 1) = true) (n : ∀ st', MS B (l ++ (k, (xs ++ [x]).map e) :: r) st' → HS cf ss ρ st' Q E) :
    HS cf (.ex (.meth .append (.var i) [a]) :: ss) ρ st Q E := HM_app m hi h nd (fun n => by rw [show xs.map e ++ [e x] = (xs ++ [x]).map e by simp]; exact belows_map _ _) (by rw [List.length_map]; exact o) fun st' m' => n st' (by rw [List.map_append]; exact m')
theorem HM_aug {xs : List Int} {i : Nat} {p : Pr} {b : Mn.E} {z y w : Int} (m : MS B (l ++ (k, xs.map eI) :: r) st) (hi : ρ[i]? = some (some (.lr k))) (hb : evE cf b ρ st = .ok (.int z) st) (h : evE cf a ρ st = .ok (.int y) st) (o : ixB xs z = true) (s : semI p (getI xs z) y = some (.int w))
    (n : ∀ st', MS B (l ++ (k, (setI xs z w).map eI) :: r) st' → HS cf ss ρ st' Q E) : HS cf (.augS (.var i) b p a :: ss) ρ st Q E := by
  have o' := o
  unfold ixB L2.atI at o'
  cases e : L2.ixN xs.length z with
  | none => rw [e] at o'; cases o'
  | some j =>
    rw [e] at o'
    have hx : xs[j]? = some (getI xs z) := by
      unfold getI L2.atI
      rw [e]
      cases q : xs[j]? with
      | none => simp [q] at o'
      | some x => simp [q]
    have e' : L2.ixN (xs.map eI).length z = some j := by rw [List.length_map]; exact e
    refine HS_augSet (E_var hi) hb m.get e' (by simp [hx]) h s rfl (n _ ?_)
    have := setI_map (f := eI) (x := w) e'
    rw [← this]
    exact m.set fun n => by rw [← List.map_set]; exact belows_map _ _
theorem MS.retE {α : Type} {e : α → D} [Bl e] {xs : List α} (m : MS B (l ++ (k, xs.map e) :: r) st) : QF B.length (.ok (.tl (xs.map e)) B) (.ret (.lr k)) ρ st := m.retL (belows_map _ _)
end
/-! ### the script's state -/
section
variable {s s' : S2} {B : Sto} {cs : List (Nat × List D)}
theorem ss_get (h : 0 < st.length) : (ss st s)[0]? = some (.lst [.int s.1, .int s.2]) := by
  unfold ss
  rw [List.getElem?_set_self h]
theorem MS.upS (m : MS (ss B s) cs (ss st s)) (h : 0 < B.length) : MS (ss B s') cs (ss st s') := by
  have len := m.len
  rw [ss_len, ss_len] at len
  have wup : ∀ st : Sto, 0 < st.length → Wf (ss st s) → Wf (ss st s') := fun st h w => by
    unfold Wf at w ⊢
    rw [List.all_eq_true] at w ⊢
    intro o ho
    rw [ss_len] at w ⊢
    unfold ss at ho w
    obtain ⟨j, hj⟩ := List.mem_iff_getElem?.mp ho
    by_cases z : j = 0
    · subst z
      rw [List.getElem?_set_self h] at hj
      cases hj
      simp [Ob.below, belows, below]
    · rw [List.getElem?_set_ne (Ne.symm z)] at hj
      exact w o (List.mem_iff_getElem?.mpr ⟨j, by rw [List.getElem?_set_ne (Ne.symm z)]; exact hj⟩)
  refine ⟨wup B h m.wf, wup st (by omega) m.wfs, by rw [ss_len, ss_len]; exact len, fun j hj => ?_, m.nd, fun p hp => by have := m.own p hp; rw [ss_len] at this ⊢; exact this, fun p hp => ?_⟩
  · rw [ss_len] at hj
    have := m.fr j (by rw [ss_len]; exact hj)
    unfold ss at this ⊢
    by_cases z : j = 0
    · subst z
      rw [List.getElem?_set_self (by omega), List.getElem?_set_self h]
    · rw [List.getElem?_set_ne (Ne.symm z), List.getElem?_set_ne (Ne.symm z)] at this ⊢
      exact this
  · have o := m.own p hp
    rw [ss_len] at o
    have := m.at_ p hp
    unfold ss at this ⊢
    rw [List.getElem?_set_ne (by omega)] at this ⊢
    exact this
theorem MS.eqS (m : MS (ss B s) cs st) (h : 0 < B.length) : st = ss st s := by
  have h0 := m.fr 0 (by rw [ss_len]; exact h)
  rw [ss_get h] at h0
  apply List.ext_getElem?
  intro j
  unfold ss
  by_cases z : j = 0
  · subst z
    rw [h0, List.getElem?_set_self (List.getElem?_eq_some_iff.mp h0).1]
  · rw [List.getElem?_set_ne (Ne.symm z)]
/-- [f(x) for x in xs], drawing on the state -/
def mapS {α β : Type} (f : α → S2 → β × S2) : List α → S2 → List β × S2
  | [], s => ([], s)
  | x :: xs, s => ((f x s).1 :: (mapS f xs (f x s).2).1, (mapS f xs (f x s).2).2)
def okS {α β : Type} (f : α → S2 → β × S2) (ok : α → S2 → Bool) : List α → S2 → Bool
  | [], _ => true
  | x :: xs, s => ok x s && okS f ok xs (f x s).2
theorem turns_S {α β : Type} {e : α → D} {e2 : β → D} {sv : Sv} {body : D → List D → Sto → Out (List D)} (f : α → S2 → β × S2) (ok : α → S2 → Bool) : ∀ (k i : Nat) (zs : List α) (acc : List D) (s : S2), zs.length = k → (∀ s j z, zs[j]? = some z → sv.item (ss st s) (i + j) = some (e z)) → acc.length ≤ i → okS f ok zs s = true →
    (∀ z s, ok z s = true → ∀ acc : List D, acc.length < i + k → body (e z) acc (ss st s) = .ok (acc ++ [e2 (f z s).1]) (ss st (f z s).2)) → (∀ s, sv.ends (ss st s) (i + k) = true) → turns sv body k i acc (ss st s) = .ok (acc ++ (mapS f zs s).1.map e2) (ss st (mapS f zs s).2)
  | 0, i, zs, acc, s, hl, _, _, _, _, he => by
    have : zs = [] := List.eq_nil_of_length_eq_zero hl
    subst this
    rw [turns, if_pos (show sv.ends (ss st s) i = true from he s)]
    simp [mapS]
  | k + 1, i, [], acc, s, hl, _, _, _, _, _ => by simp at hl
  | k + 1, i, z :: zs, acc, s, hl, hi, ha, ho, hb, he => by
    have e1 := hi s 0 z rfl
    have e2' := hb z s (a1 ho) acc (by omega)
    have ek : i + (k + 1) = i + 1 + k := by omega
    rw [turns, show sv.item (ss st s) i = some (e z) from e1]
    show (body (e z) acc (ss st s)).bind _ = _
    rw [e2']
    show turns sv body k (i + 1) (acc ++ [e2 (f z s).1]) (ss st (f z s).2) = _
    rw [turns_S (e := e) (e2 := e2) f ok k (i + 1) zs _ _ (by simpa using hl) (fun s j y hj => by
      have := hi s (j + 1) y (by simpa using hj)
      rw [show i + 1 + j = i + (j + 1) by omega]
      exact this) (by simp; omega) (a2 ho) (fun y s h acc h2 => hb y s h acc (by omega)) (fun s => by rw [← ek]; exact he s)]
    simp [mapS]
theorem E_compS {α β : Type} {e : α → D} {e2 : β → D} {elt : Mn.E} {tg : Tg} {src : Src} {own : List Nat} {xs : List α} {f : α → S2 → β × S2} {cf : Cf} (ok : α → S2 → Bool) (o : szB xs.length = true) (h : SrcP cf src ρ (ss st s) (ss st s) (xs.map e) AnyS) (ho : okS f ok xs s = true)
    (k : ∀ x s, ok x s = true → ∃ ρ', evTg cf tg (e x) (wipe ρ own) (ss st s) = .ok ρ' (ss st s) ∧ evE cf elt ρ' (ss st s) = .ok (e2 (f x s).1) (ss st (f x s).2)) (nl : ∀ b, notl (e2 b) = true) :
    evE cf (.comp elt tg src [] own) ρ (ss st s) = .ok (.tl ((mapS f xs s).1.map e2)) (ss st (mapS f xs s).2) := by
  obtain ⟨sv, n, h, w⟩ := h
  have w := fun s' : S2 => w (ss st s') trivial
  have hl : xs.length = n := by simpa using (w s).len
  rw [ev_comp, h, kComp_ok]
  unfold compB
  rw [turns_S (e := e) (e2 := e2) f ok n 0 xs [] s hl (fun s j z hz => by
    have hj : j < xs.length := (List.getElem?_eq_some_iff.mp hz).1
    rw [Nat.zero_add, (w s).item j (by omega)]
    simp [hz]) (Nat.le_refl _) ho (fun z s hz acc ha => by
    obtain ⟨ρ', k1, k2⟩ := k z s hz
    have hs : acc.length < sizeLine := Nat.lt_of_lt_of_le ha (by have := szB_ok o; omega)
    simp [turnB, k1, k2, hs, mat_notl (nl _)]) (fun s => by rw [Nat.zero_add]; exact (w s).ends)]
  rfl
end
end Wk
/-! Wk5: the rest that the printed walks name. -/
namespace Wk
open Mn PySem
variable {cf : Cf} {ρ ρ1 : Rho} {st st1 st2 st3 : Sto} {a b c : Mn.E} {es : List Mn.E} {d d1 d2 d3 : D} {ds : List D}
section
variable {α : Type} {e : α → D}
def Ex.all (m : Ex α) (p : α → Bool) : Bool := match m with
  | .ok a => p a
  | .ex _ _ => true
theorem Ex.all_ok {m : Ex α} {p : α → Bool} {v : α} (h : Ex.all m p = true) (k : m = .ok v) : p v = true := by subst k; exact h
def Ex.exs (m : Ex α) (p : Nat → List D → Bool) : Bool := match m with
  | .ok _ => true
  | .ex c ds => p c ds
theorem Ex.exs_ok {m : Ex α} {p : Nat → List D → Bool} {c : Nat} {ds : List D} (h : Ex.exs m p = true) (k : m = .ex c ds) : p c ds = true := by subst k; exact h
theorem q_nxX {n : Nat} (h : st.length = n) : QF n (outX eU st (.ok ())) .nx ρ st := q_nx h
theorem q_law {t : Bool} : QF 0 (.ok (eB t) []) (.ret (eB t)) ρ st := by
  show retn 0 (.bl t) st = _
  unfold retn
  have : clean 0 st = true := by simp [clean]
  rw [if_pos this]
  rfl
theorem E_frzL {xs : List α} (h : evE cf a ρ st = .ok (.tl (xs.map e)) st1) : evE cf (.frz a) ρ st = .ok (eL e xs) st1 := by rw [E_frz h]; rfl
def tryB (e : α → D) [Un e] (p : List D) : Bool := match p with
  | [d] => Un.is e d
  | _ => false
theorem tryB_ok [Un e] {p : List D} (h : tryB e p = true) : ∃ d, p = [d] ∧ d = e (Un.un e d) := by
  match p, h with
  | [d], h => exact ⟨d, rfl, Un.ok d h⟩
theorem E_lenP (h : evE cf a ρ st = .ok (.tup ds) st1) : evE cf (.prim .len [a]) ρ st = .ok (.int (ds.length : Int)) st1 := E_p1 h (sp_lenT ds)
end
section
variable {B : Sto} {cs l r : List (Nat × List D)} {k : Nat} {xs : List D} {ss' : List S} {Q : Kt} {E : Et} {s : S2}
theorem MS.exX {α : Type} {e : α → D} {n : Nat} (m : MS B cs st) : EF B.length (outX e B (.ex n [])) n [] st := m.ex
theorem MS.retS (m : MS (ss B s) cs (ss st s)) (h0 : 0 < B.length) (h : below B.length d = true) : QF B.length (.ok d (ss B s)) (.ret d) ρ (ss st s) := by
  have := MS.ret (ρ := ρ) m (d := d) (by rw [ss_len]; exact h)
  rwa [ss_len] at this
theorem MS.retES {α : Type} {e : α → D} [Bl e] {xs : List α} (m : MS (ss B s) (l ++ (k, xs.map e) :: r) (ss st s)) (h0 : 0 < B.length) : QF B.length (.ok (.tl (xs.map e)) (ss B s)) (.ret (.lr k)) ρ (ss st s) := by
  have := MS.retE (ρ := ρ) m
  rwa [ss_len] at this
theorem HM_newE {α : Type} {e : α → D} [Bl e] {xs : List α} {i : Nat} (m : MS B cs st) (h : evE cf a ρ st = .ok (.tl (xs.map e)) st) (n : ∀ k st', MS B ((k, xs.map e) :: cs) st' → HS cf ss' (ρ.set i (some (.lr k))) st' Q E) : HS cf (.asg (.nm i) a :: ss') ρ st Q E :=
  HM_new m h (fun _ => belows_map _ _) n
theorem HM_newES {α : Type} {e : α → D} [Bl e] {xs : List α} {i : Nat} (h0 : 0 < B.length) (m : MS (ss B s) cs (ss st s)) (h : evE cf a ρ (ss st s) = .ok (.tl (xs.map e)) (ss st s)) (n : ∀ k st', MS (ss B s) ((k, xs.map e) :: cs) (ss st' s) → HS cf ss' (ρ.set i (some (.lr k))) (ss st' s) Q E) : HS cf (.asg (.nm i) a :: ss') ρ (ss st s) Q E :=
  HM_newE m h fun k st' m' => by
    have e := m'.eqS h0
    rw [e] at m' ⊢
    exact n k st' m'
theorem HM_setES {α : Type} {e : α → D} [Bl e] {x : α} {xs : List α} {i : Nat} {b : Mn.E} {z : Int} (h0 : 0 < B.length) (m : MS (ss B s) (l ++ (k, xs.map e) :: r) (ss st s)) (h : evE cf a ρ (ss st s) = .ok (e x) (ss st s)) (nd : notl (e x) = true) (hi : ρ[i]? = some (some (.lr k))) (hb : evE cf b ρ (ss st s) = .ok (.int z) (ss st s)) (o : ixB xs z = true)
    (n : ∀ st', MS (ss B s) (l ++ (k, (setI xs z x).map e) :: r) (ss st' s) → HS cf ss' ρ (ss st' s) Q E) : HS cf (.asg (.sb (.var i) b) a :: ss') ρ (ss st s) Q E :=
  HM_setE m h nd hi hb o fun st' m' => by
    have e := m'.eqS h0
    rw [e] at m' ⊢
    exact n st' m'
theorem HM_appES {α : Type} {e : α → D} [Bl e] {x : α} {xs : List α} {i : Nat} (h0 : 0 < B.length) (m : MS (ss B s) (l ++ (k, xs.map e) :: r) (ss st s)) (hi : ρ[i]? = some (some (.lr k))) (h : evE cf a ρ (ss st s) = .ok (e x) (ss st s)) (nd : notl (e x) = true) (o : szB (xs.length + 1) = true) (n : ∀ st', MS (ss B s) (l ++ (k, (xs ++ [x]).map e) :: r) (ss st' s) → HS cf ss' ρ (ss st' s) Q E) :
    HS cf (.ex (.meth .append (.var i) [a]) :: ss') ρ (ss st s) Q E :=
  HM_appE m hi h nd o fun st' m' => by
    have e := m'.eqS h0
    rw [e] at m' ⊢
    exact n st' m'
theorem HM_augS {xs : List Int} {i : Nat} {p : Pr} {b : Mn.E} {z y w : Int} (h0 : 0 < B.length) (m : MS (ss B s) (l ++ (k, xs.map eI) :: r) (ss st s)) (hi : ρ[i]? = some (some (.lr k))) (hb : evE cf b ρ (ss st s) = .ok (.int z) (ss st s)) (h : evE cf a ρ (ss st s) = .ok (.int y) (ss st s)) (o : ixB xs z = true) (q : semI p (getI xs z) y = some (.int w))
    (n : ∀ st', MS (ss B s) (l ++ (k, (setI xs z w).map eI) :: r) (ss st' s) → HS cf ss' ρ (ss st' s) Q E) : HS cf (.augS (.var i) b p a :: ss') ρ (ss st s) Q E :=
  HM_aug m hi hb h o q fun st' m' => by
    have e := m'.eqS h0
    rw [e] at m' ⊢
    exact n st' m'
end
/-! ### defs whose specs are written here -/
section
variable {T : List Fn} {wf k g : Nat}
def fWhole : Fn := ⟨1, 1, [.ret (.and (.prim (.inst [.int]) [.var 0]) (.not (.prim (.inst [.bool]) [.var 0])))]⟩
end
end Wk
def V.l_is_whole (d : Mn.D) : Bool := Wk.isTy [.int] d && !Wk.isTy [.bool] d
def O.l_is_whole (d : Mn.D) : Bool := Mn.notl d && Wk.tyB d
namespace Wk
open Mn PySem
section
variable {st : Sto} {T : List Fn} {wf k g : Nat}
theorem whole_w {d : D} (hT : T[g]? = some fWhole) (h : O.l_is_whole d = true) : callF T wf (k + 1) g [eD d] st = .ok (eB (V.l_is_whole d)) st := by
  have o := a2 h
  refine call_HS (f := fWhole) hT rfl ?_
  exact HS_ret (E_and (E_instD o (E_var rfl)) fun _ => E_not (E_instD o (E_var rfl))) (q_ret rfl)
end
end Wk
/-! Wk6: defs that all laws share: odd, honest, same, the draws. -/
open Wk Mn PySem
namespace Wk
abbrev oddS : List Nat := [97, 32, 119, 111, 114, 100, 32, 116, 104, 97, 116, 32, 110, 111, 116, 104, 105, 110, 103, 32, 101, 108, 115, 101, 32, 105, 115]
mutual
def oddD : D → Bool
  | .str s => s == oddS
  | .tup xs => oddDs xs
  | .il xs => oddDs xs
  | _ => false
def oddDs : List D → Bool
  | [] => false
  | d :: ds => oddD d || oddDs ds
end
mutual
/-- the law's sameness -/
def sameD : D → D → Bool
  | a, .tup ys => (match a with
    | .tup xs => sameDs xs ys
    | _ => false)
  | a, .bl b => (match a with
    | .bl c => c == b
    | _ => false)
  | a, .str s => (match a with
    | .str r => r == s
    | _ => false)
  | a, .non => isNon a
  | a, .int i => (match a with
    | .int j => decide (j = i)
    | _ => false)
  | _, _ => false
def sameDs : List D → List D → Bool
  | [], [] => true
  | x :: xs, y :: ys => sameD x y && sameDs xs ys
  | _, _ => false
end
mutual
/-- short all through -/
def szD : D → Bool
  | .tup xs => szB xs.length && szDs xs
  | .il xs => szB xs.length && szDs xs
  | _ => true
def szDs : List D → Bool
  | [] => true
  | d :: ds => szD d && szDs ds
end
end Wk
def V.l_odd (d : D) : Bool := oddD d
def O.l_odd (d : D) : Bool := pdB d && szD d
def V.l_honest (d : D) : D := bif oddD d then .str [111, 100, 100] else d
def O.l_honest (d : D) : Bool := pdB d && szD d
def V.l_same (a b : D) : Bool := sameD a b
def O.l_same (a b : D) : Bool := pdB a && pdB b && szD a
namespace Wk
variable {T : List Fn} {wf k g g1 : Nat} {st : Sto}
theorem pd_notl {n : Nat} {d : D} (h : pd n d = true) : notl d = true := by
  cases d <;> first | rfl | (cases n <;> simp [pd] at h)
theorem pds_mem {n : Nat} : ∀ {ds : List D}, pds n ds = true → ∀ d ∈ ds, pd n d = true
  | x :: xs, h, d, hd => by
    simp only [pds, Bool.and_eq_true] at h
    rcases List.mem_cons.mp hd with rfl | z
    · exact h.1
    · exact pds_mem h.2 d z
theorem szDs_mem : ∀ {ds : List D}, szDs ds = true → ∀ d ∈ ds, szD d = true
  | x :: xs, h, d, hd => by
    simp only [szDs, Bool.and_eq_true] at h
    rcases List.mem_cons.mp hd with rfl | z
    · exact h.1
    · exact szDs_mem h.2 d z
theorem oddDs_len : ∀ xs : List D, decide (((xs.filter oddD).length : Int) > 0) = oddDs xs
  | [] => rfl
  | x :: xs => by
    have := oddDs_len xs
    cases h : oddD x with
    | true => simp [oddDs, h]
    | false => rw [List.filter_cons_of_neg (by simp [h]), this, oddDs, h, Bool.false_or]
def fOdd (o : Nat) : Fn := ⟨1, 2, [.ifS (.prim .eq [.var 0, .cst (.str oddS)]) [.ret (.cst (.bl true))] [], .ret (.and (.prim (.inst [.tuple, .list]) [.var 0]) (.prim .gt [.prim .len [.comp (.var 1) (.nm 1) (.ex (.var 0)) [.call o [.var 1]] [1]], .cst (.int 0)]))]⟩
theorem odd_gen (hT : T[g]? = some (fOdd g)) : ∀ (n k : Nat) (d : D), pd n d = true → n ≤ 16 → szD d = true → n ≤ k → callF T wf k g [d] st = .ok (.bl (oddD d)) st := by
  intro n
  induction n with
  | zero => intro k d h; simp [pd] at h
  | succ n ih =>
    intro k d h h16 hz hk
    obtain ⟨k, rfl⟩ : ∃ k', k = k' + 1 := ⟨k - 1, by omega⟩
    refine call_HS (f := fOdd g) hT rfl ?_
    have hp : pdB d = true := pd_up h (by omega)
    have seqs : ∀ xs : List D, (d = .tup xs ∨ d = .il xs) → HS ⟨callF T wf k, wf, T.length⟩ (fOdd g).body [some d, none] st (QF st.length (.ok (.bl (oddD d)) st)) (EF st.length (.ok (.bl (oddD d)) st)) := fun xs hd => by
      have hx : pds n xs = true := by rcases hd with rfl | rfl <;> simpa [pd] using h
      have hzx : szB xs.length = true ∧ szDs xs = true := by rcases hd with rfl | rfl <;> simpa [szD] using hz
      have e0 : eqP d (.str oddS) = false := by rcases hd with rfl | rfl <;> rfl
      have sq : sqD d = true ∧ itD d = xs ∧ tyB d = true ∧ isTy [.tuple, .list] d = true ∧ oddD d = oddDs xs := by rcases hd with rfl | rfl <;> simp [sqD, itD, tyB, tyOf, isTy, subTy, oddD]
      obtain ⟨q1, q2, q3, q4, q5⟩ := sq
      refine HS_if (E_eqDD hp (by decide) (E_var rfl) E_cst) (fun hc => by rw [e0] at hc; cases hc) fun _ => ?_
      refine HS_ret (E_and (E_instD q3 (E_var rfl)) fun _ => E_gt (E_len (e := eD) sF (E_compF (e := eD) (e2 := eD) (f := id) (P := oddD) (by rw [q2]; exact hzx.1) (S_seq (v_D q1) (E_var rfl)) trivial (fun y hm => ⟨_, T_nm (pd_notl (pds_mem hx y (q2 ▸ hm))), E_call (Es_cons (E_var rfl) Es_nil) (mlc (pd_notl (pds_mem hx y (q2 ▸ hm))) ml0) (ih k y (pds_mem hx y (q2 ▸ hm)) (by omega) (szDs_mem hzx.2 y (q2 ▸ hm)) (by omega)), fun _ => E_var rfl⟩) fun y hm => pd_notl (pds_mem hx y (q2 ▸ hm)))) E_cst) ?_
      rw [q4, q5, q2, Bool.true_and, List.map_id, oddDs_len]
      exact q_ret rfl
    have scal : isTy [.tuple, .list] d = false → tyB d = true → oddD d = eqP d (.str oddS) → HS ⟨callF T wf k, wf, T.length⟩ (fOdd g).body [some d, none] st (QF st.length (.ok (.bl (oddD d)) st)) (EF st.length (.ok (.bl (oddD d)) st)) := fun h1 h2 h3 => by
      refine HS_if (E_eqDD hp (by decide) (E_var rfl) E_cst) (fun hc => ?_) fun hc => ?_
      · rw [h3, hc]
        exact HS_ret E_cst (q_ret rfl)
      · refine HS_ret (E_and (y := false) (E_instD h2 (E_var rfl)) fun z => by rw [h1] at z; cases z) ?_
        rw [h1, h3, hc]
        exact q_ret rfl
    cases d with
    | tup xs => exact seqs xs (.inl rfl)
    | il xs => exact seqs xs (.inr rfl)
    | non => exact scal rfl rfl rfl
    | bl b => exact scal rfl rfl rfl
    | int i => exact scal rfl rfl rfl
    | str s => exact scal rfl rfl rfl
    | tl xs => simp [pd] at h
    | kl xs => simp [pd] at h
    | lr xs => simp [pd] at h
    | fn xs => simp [pd] at h
theorem odd_w {d : D} (hT : T[g]? = some (fOdd g)) (h : O.l_odd d = true) : callF T wf (k + 17) g [d] st = .ok (eB (V.l_odd d)) st := odd_gen hT 16 _ d (a1 h) (by decide) (a2 h) (by omega)
def fHonest (o : Nat) : Fn := ⟨1, 1, [.ret (.ite (.call o [.var 0]) (.cst (.str [111, 100, 100])) (.var 0))]⟩
theorem honest_w {d : D} (hT : T[g]? = some (fHonest g1)) (h1 : T[g1]? = some (fOdd g1)) (h : O.l_honest d = true) : callF T wf (k + 18) g [d] st = .ok (eD (V.l_honest d)) st := by
  refine call_HS (f := fHonest g1) hT rfl ?_
  exact HS_ret (E_ite (e := eD) (E_call (Es_cons (E_var rfl) Es_nil) (mlc (pd_notl (a1 h)) ml0) (odd_w h1 h)) (fun _ => E_cst) fun _ => E_var rfl) (q_ret rfl)
/-! ### the same -/
theorem sameDs_all : ∀ xs ys : List D, sameDs xs ys = (decide ((xs.length : Int) = ys.length) && (rI 0 (ys.length : Int)).all fun i => decide ((xs.length : Int) = ys.length) && sameD (getI xs i) (getI ys i)) := by
  have key : ∀ xs ys : List D, xs.length = ys.length → (sameDs xs ys = true ↔ ∀ i, i < ys.length → sameD (xs.getD i .non) (ys.getD i .non) = true) := by
    intro xs
    induction xs with
    | nil => intro ys h; cases ys with
      | nil => simp [sameDs]
      | cons _ _ => simp at h
    | cons x xs ih => intro ys h; cases ys with
      | nil => simp at h
      | cons y ys =>
        have h' : xs.length = ys.length := by simpa using h
        simp only [sameDs, Bool.and_eq_true, ih ys h']
        constructor
        · rintro ⟨a, b⟩ i hi
          cases i with
          | zero => simpa using a
          | succ i => simpa using b i (by simpa using hi)
        · intro k
          exact ⟨by simpa using k 0 (by simp), fun i hi => by simpa using k (i + 1) (by simpa using hi)⟩
  have gi : ∀ (xs : List D) (i : Nat), getI xs (i : Int) = xs.getD i .non := fun xs i => by
    unfold getI
    rw [atI_get']
    rfl
  intro xs ys
  by_cases h : xs.length = ys.length
  · have h' : ((xs.length : Int) = ys.length) := by omega
    rw [Bool.eq_iff_iff, key xs ys h]
    simp only [h', decide_true, Bool.true_and, List.all_eq_true]
    constructor
    · intro k i hi
      simp only [rI, List.mem_map, List.mem_range] at hi
      obtain ⟨j, hj, rfl⟩ := hi
      rw [Int.zero_add, gi, gi]
      exact k j (by omega)
    · intro k i hi
      have := k (i : Int) (by simp only [rI, List.mem_map, List.mem_range]; exact ⟨i, by omega, by omega⟩)
      rwa [gi, gi] at this
  · have h' : ¬ ((xs.length : Int) = ys.length) := by omega
    simp only [h', decide_false, Bool.false_and]
    have : ∀ xs ys : List D, xs.length ≠ ys.length → sameDs xs ys = false := by
      intro xs
      induction xs with
      | nil => intro ys h; cases ys with
        | nil => simp at h
        | cons _ _ => rfl
      | cons x xs ih => intro ys h; cases ys with
        | nil => rfl
        | cons y ys =>
          simp only [sameDs]
          rw [ih ys (by simpa using h), Bool.and_false]
    exact this xs ys h
def sTup (s : Nat) : S := .ifS (.prim (.inst [.tuple]) [.var 1]) [.ret (.and (.prim (.inst [.tuple]) [.var 0]) (.and (.prim .eq [.prim .len [.var 0], .prim .len [.var 1]]) (.prim .all [.comp (.call s [.prim .ix [.var 0, .var 2], .prim .ix [.var 1, .var 2]]) (.nm 2) (.rng [.prim .len [.var 1]]) [] [2]])))] []
def sBl : S := .ifS (.prim (.inst [.bool]) [.var 1]) [.ret (.and (.prim (.inst [.bool]) [.var 0]) (.prim .eq [.var 0, .var 1]))] []
def sStr : S := .ifS (.prim (.inst [.str]) [.var 1]) [.ret (.and (.prim (.inst [.str]) [.var 0]) (.prim .eq [.var 0, .var 1]))] []
def sNon : S := .ifS (.prim .isN [.var 1, .cst (.non)]) [.ret (.prim .isN [.var 0, .cst (.non)])] []
def sInt (w : Nat) : S := .ret (.and (.call w [.var 0]) (.prim .eq [.var 0, .var 1]))
def sInt2 : S := .ret (.and (.prim (.inst [.int]) [.var 0]) (.and (.not (.prim (.inst [.bool]) [.var 0])) (.prim .eq [.var 0, .var 1])))
/-- the four orders in which the laws' texts ask -/
def sameB (v s w : Nat) : List S := match v with
  | 0 => [sBl, sTup s, sStr, sNon, sInt w]
  | 1 => [sTup s, sBl, sStr, sNon, sInt w]
  | _ => [sTup s, sNon, sBl, sStr, sInt2]
def fSame (v s w : Nat) : Fn := ⟨2, 3, sameB v s w⟩
theorem ty_of_pd {n : Nat} {d : D} (h : pd n d = true) : tyB d = true := by
  cases d <;> first | rfl | (cases n <;> simp [pd] at h)
theorem getI_mem {xs : List D} {i : Int} (h : i ∈ rI 0 (xs.length : Int)) : getI xs i ∈ xs ∧ ixB xs i = true := by
  simp only [rI, List.mem_map, List.mem_range] at h
  obtain ⟨j, hj, rfl⟩ := h
  have hj' : j < xs.length := by omega
  rw [Int.zero_add]
  unfold getI ixB
  rw [atI_get', List.getElem?_eq_getElem hj']
  exact ⟨List.getElem_mem hj', rfl⟩
section
variable {ρ : Rho} {ss : List S} {a b : D} {K : Nat} {x : Option D}
/-- a clause that does not bear -/
theorem st_skip {ts : List Ty} {r : E} {Q : Kt} {E : Et} (o : tyB b = true) (h : isTy ts b = false) (k : HS ⟨callF T wf K, wf, T.length⟩ ss [some a, some b, none] st Q E) : HS ⟨callF T wf K, wf, T.length⟩ (.ifS (.prim (.inst ts) [.var 1]) [.ret r] [] :: ss) [some a, some b, none] st Q E :=
  HS_if (E_instD o (E_var rfl)) (fun z => by rw [h] at z; cases z) fun _ => k
theorem st_hit {ts : List Ty} {r : E} {Q : Kt} {E : Et} {t : Bool} (o : tyB b = true) (h : isTy ts b = true) (k : evE ⟨callF T wf K, wf, T.length⟩ r [some a, some b, none] st = .ok (.bl t) st) (q : Q (.ret (.bl t)) [some a, some b, none] st) : HS ⟨callF T wf K, wf, T.length⟩ (.ifS (.prim (.inst ts) [.var 1]) [.ret r] [] :: ss) [some a, some b, none] st Q E :=
  HS_if (E_instD o (E_var rfl)) (fun _ => HS_ret k q) fun z => by rw [h] at z; cases z
theorem st_skipN {r : E} {Q : Kt} {E : Et} (h : isNon b = false) (k : HS ⟨callF T wf K, wf, T.length⟩ ss [some a, some b, none] st Q E) : HS ⟨callF T wf K, wf, T.length⟩ (.ifS (.prim .isN [.var 1, .cst .non]) [.ret r] [] :: ss) [some a, some b, none] st Q E :=
  HS_if (E_isND (E_var rfl)) (fun z => by rw [h] at z; cases z) fun _ => k
end
theorem same_gen {v w : Nat} (hT : T[g]? = some (fSame v g w)) (hW : v < 2 → T[w]? = some fWhole) : ∀ (n k : Nat) (a b : D), pd 16 a = true → pd n b = true → n ≤ 16 → szD a = true → n < k → callF T wf k g [a, b] st = .ok (.bl (sameD a b)) st := by
  intro n
  induction n with
  | zero => intro k a b _ h; simp [pd] at h
  | succ n ih =>
    intro k a b ha hb h16 hz hk
    obtain ⟨k, rfl⟩ : ∃ k', k = k' + 1 := ⟨k - 1, by omega⟩
    obtain ⟨k, rfl⟩ : ∃ k', k = k' + 1 := ⟨k - 1, by omega⟩
    refine call_HS (f := fSame v g w) hT rfl ?_
    have pa : pdB a = true := ha
    have pb : pdB b = true := pd_up hb h16
    have ta := ty_of_pd ha
    have tb := ty_of_pd hb
    have eq1 : ∀ {cf : Cf}, evE cf (.prim .eq [.var 0, .var 1]) [some a, some b, none] st = .ok (.bl (eqP a b)) st := E_eqDD pa pb (E_var rfl) (E_var rfl)
    have go : ∀ (t : Bool), sameD a b = t → (∀ Q E, Q (.ret (.bl t)) [some a, some b, none] st → HS ⟨callF T wf (k + 1), wf, T.length⟩ (sameB v g w) [some a, some b, none] st Q E) → HS ⟨callF T wf (k + 1), wf, T.length⟩ (fSame v g w).body [some a, some b, none] st (QF st.length (.ok (.bl (sameD a b)) st)) (EF st.length (.ok (.bl (sameD a b)) st)) := fun t ht hh => hh _ _ (by rw [ht]; exact q_ret rfl)
    have q0 : ∀ ts c, evE c (.prim (.inst ts) [.var 0]) [some a, some b, none] st = .ok (.bl (isTy ts a)) st := fun ts c => E_instD ta (E_var rfl)
    have hwh : v < 2 → evE ⟨callF T wf (k + 1), wf, T.length⟩ (.call w [.var 0]) [some a, some b, none] st = .ok (.bl (V.l_is_whole a)) st := fun hv => E_call (Es_cons (E_var rfl) Es_nil) (mlc (pd_notl ha) ml0) (whole_w (hW hv) (by unfold O.l_is_whole; rw [pd_notl ha, ta]; rfl))
    have end3 : ∀ {Q E} (t : Bool), isNon b = false → isTy [.bool] b = false → isTy [.str] b = false → isTy [.tuple] b = false → sameD a b = t → (V.l_is_whole a && eqP a b) = t → Q (.ret (.bl t)) [some a, some b, none] st → HS ⟨callF T wf (k + 1), wf, T.length⟩ (sameB v g w) [some a, some b, none] st Q E := fun {Q E} t n1 n2 n3 n4 _ ht q => by
      match v, hwh with
      | 0, hwh => exact st_skip tb n2 (st_skip tb n4 (st_skip tb n3 (st_skipN n1 (HS_ret (E_and (hwh (by decide)) fun _ => eq1) (by rw [ht]; exact q)))))
      | 1, hwh => exact st_skip tb n4 (st_skip tb n2 (st_skip tb n3 (st_skipN n1 (HS_ret (E_and (hwh (by decide)) fun _ => eq1) (by rw [ht]; exact q)))))
      | v + 2, _ => exact st_skip tb n4 (st_skipN n1 (st_skip tb n2 (st_skip tb n3 (HS_ret (E_and (q0 _ _) fun _ => E_and (E_not (q0 _ _)) fun _ => eq1) (by rw [← Bool.and_assoc]; rw [show (isTy [.int] a && !isTy [.bool] a) = V.l_is_whole a from rfl, ht]; exact q)))))
    cases b with
    | non =>
      refine go (isNon a) (by cases a <;> rfl) ?_
      intro Q E q
      exact by
        have hn : ∀ {cf : Cf}, evE cf (.prim .isN [.var 0, .cst .non]) [some a, some .non, none] st = .ok (.bl (isNon a)) st := E_isND (E_var rfl)
        have hit : ∀ {ss : List S}, HS ⟨callF T wf (k + 1), wf, T.length⟩ (sNon :: ss) [some a, some .non, none] st Q E := HS_if (E_isND (E_var rfl)) (fun _ => HS_ret hn q) fun z => by cases z
        match v with
        | 0 => exact st_skip tb rfl (st_skip tb rfl (st_skip tb rfl hit))
        | 1 => exact st_skip tb rfl (st_skip tb rfl (st_skip tb rfl hit))
        | v + 2 => exact st_skip tb rfl hit
    | bl c =>
      exact go _ rfl fun Q E q => by
        have hh : ∀ {cf : Cf}, evE cf (.and (.prim (.inst [.bool]) [.var 0]) (.prim .eq [.var 0, .var 1])) [some a, some (.bl c), none] st = .ok (.bl (isTy [.bool] a && eqP a (.bl c))) st := E_and (q0 _ _) fun _ => eq1
        have e : (isTy [.bool] a && eqP a (.bl c)) = sameD a (.bl c) := by cases a <;> first | rfl | (simp [isTy, tyOf, subTy, sameD]; done) | simp [isTy, tyOf, subTy, sameD, eqP]
        rw [← e] at q
        match v with
        | 0 => exact st_hit tb rfl hh q
        | 1 => exact st_skip tb rfl (st_hit tb rfl hh q)
        | v + 2 => exact st_skip tb rfl (st_skipN rfl (st_hit tb rfl hh q))
    | str c =>
      exact go _ rfl fun Q E q => by
        have hh : ∀ {cf : Cf}, evE cf (.and (.prim (.inst [.str]) [.var 0]) (.prim .eq [.var 0, .var 1])) [some a, some (.str c), none] st = .ok (.bl (isTy [.str] a && eqP a (.str c))) st := E_and (q0 _ _) fun _ => eq1
        have e : (isTy [.str] a && eqP a (.str c)) = sameD a (.str c) := by cases a <;> first | rfl | (simp [isTy, tyOf, subTy, sameD]; done) | simp [isTy, tyOf, subTy, sameD, eqP]
        rw [← e] at q
        match v with
        | 0 => exact st_skip tb rfl (st_skip tb rfl (st_hit tb rfl hh q))
        | 1 => exact st_skip tb rfl (st_skip tb rfl (st_hit tb rfl hh q))
        | v + 2 => exact st_skip tb rfl (st_skipN rfl (st_skip tb rfl (st_hit tb rfl hh q)))
    | int c =>
      have e : (V.l_is_whole a && eqP a (.int c)) = sameD a (.int c) := by
        cases a <;> first | rfl | (simp [V.l_is_whole, isTy, tyOf, subTy, sameD]; done) | (simp [V.l_is_whole, isTy, tyOf, subTy, sameD, eqP]; rename_i x; by_cases hx : x = c <;> simp [hx])
      exact go _ rfl fun Q E q => end3 _ rfl rfl rfl rfl rfl e q
    | il ys =>
      have e : (V.l_is_whole a && eqP a (.il ys)) = sameD a (.il ys) := by
        cases a <;> first | rfl | (simp [V.l_is_whole, isTy, tyOf, subTy, sameD]; done) | simp [V.l_is_whole, isTy, tyOf, subTy, sameD, eqP]
      exact go _ rfl fun Q E q => end3 _ rfl rfl rfl rfl rfl e q
    | tup ys =>
      exact go _ rfl fun Q E q => by
        have hy : pds n ys = true := by simpa [pd] using hb
        have hh : ∃ t, evE ⟨callF T wf (k + 1), wf, T.length⟩ (.and (.prim (.inst [.tuple]) [.var 0]) (.and (.prim .eq [.prim .len [.var 0], .prim .len [.var 1]]) (.prim .all [.comp (.call g [.prim .ix [.var 0, .var 2], .prim .ix [.var 1, .var 2]]) (.nm 2) (.rng [.prim .len [.var 1]]) [] [2]]))) [some a, some (.tup ys), none] st = .ok (.bl t) st ∧ t = sameD a (.tup ys) := by
          cases a with
          | tup xs =>
            have hx : pds 15 xs = true := by simpa [pd] using ha
            have hzx : szB xs.length = true ∧ szDs xs = true := by simpa [szD] using hz
            refine ⟨isTy [.tuple] (.tup xs) && (decide ((xs.length : Int) = ys.length) && (rI 0 (ys.length : Int)).all fun i => decide ((xs.length : Int) = ys.length) && sameD (getI xs i) (getI ys i)), E_and (q0 _ _) fun _ => E_and (E_eqI (E_len (e := eD) (xs := xs) (by simp [seqOf, List.map_id']) (E_var rfl)) (E_len (e := eD) (xs := ys) (by simp [seqOf, List.map_id']) (E_var rfl))) fun hl => ?_, ?_⟩
            · have hl' : (xs.length : Int) = ys.length := of_decide_eq_true hl
              have hsz : ys.length ≤ 16777216 := by have := szB_ok hzx.1; unfold sizeLine at this; omega
              have hlen : (rI 0 (ys.length : Int)).length = ys.length := by simp [rI]
              have hm : ∀ i ∈ rI 0 (ys.length : Int), getI xs i ∈ xs ∧ ixB xs i = true ∧ getI ys i ∈ ys ∧ ixB ys i = true := fun i hi => ⟨(getI_mem (by rw [hl']; exact hi)).1, (getI_mem (by rw [hl']; exact hi)).2, (getI_mem hi).1, (getI_mem hi).2⟩
              exact E_all (f := fun i => decide ((xs.length : Int) = ys.length) && sameD (getI xs i) (getI ys i)) (zs := rI 0 (ys.length : Int)) lF (E_comp (e := eI) (e2 := eB) (by rw [hlen]; exact Nat.ble_eq_true_of_le hsz) (S_rng1 (by unfold rgB inR; simp; omega) (E_len (e := eD) (xs := ys) (by simp [seqOf, List.map_id']) (E_var rfl))) trivial (fun i hi => ⟨_, T_nm rfl, by
                obtain ⟨m1, m2, m3, m4⟩ := hm i hi
                rw [hl, Bool.true_and]
                exact E_call (Es_cons (E_ix (e := eD) (xs := xs) (by simp [seqOf, List.map_id']) m2 (E_var rfl) (E_var rfl)) (Es_cons (E_ix (e := eD) (xs := ys) (by simp [seqOf, List.map_id']) m4 (E_var rfl) (E_var rfl)) Es_nil)) (mlc (pd_notl (pds_mem hx _ m1)) (mlc (pd_notl (pds_mem hy _ m3)) ml0)) (ih (k + 1) _ _ (pd_up (pds_mem hx _ m1) (by decide)) (pds_mem hy _ m3) (by omega) (szDs_mem hzx.2 _ m1) (by omega))⟩) (fun _ _ => rfl))
            · rw [show isTy [.tuple] (.tup xs) = true from rfl, Bool.true_and, sameD, ← sameDs_all]
          | _ => exact ⟨_, E_and (y := false) (q0 _ _) (fun z => by cases z), rfl⟩
        obtain ⟨t, hh, e⟩ := hh
        rw [← e] at q
        match v with
        | 0 => exact st_skip tb rfl (st_hit tb rfl hh q)
        | 1 => exact st_hit tb rfl hh q
        | v + 2 => exact st_hit tb rfl hh q
    | tl xs => simp [pd] at hb
    | kl xs => simp [pd] at hb
    | lr xs => simp [pd] at hb
    | fn xs => simp [pd] at hb
theorem same_w {a b : D} {v : Nat} (hT : T[g]? = some (fSame v g g1)) (h1 : T[g1]? = some fWhole) (h : O.l_same a b = true) : callF T wf (k + 18) g [a, b] st = .ok (eB (V.l_same a b)) st :=
  same_gen hT (fun _ => h1) 16 _ a b (a1 (a1 h)) (a2 (a1 h)) (by decide) (a2 h) (by omega)
end Wk
namespace Wk
variable {cf : Cf} {ρ : Rho} {st st1 : Sto} {α : Type} {e : α → D} {a b c : Mn.E}
def Ex.mapE (e : α → D) : Ex α → Ex D
  | .ok a => .ok (e a)
  | .ex c p => .ex c p
theorem X_D {m : Ex α} (h : evE cf a ρ st = outX e st1 m) : evE cf a ρ st = outX eD st1 (m.mapE e) := by cases m <;> exact h
theorem E_callF {T : List Fn} {wf n N : Nat} {es : List Mn.E} {ds : List D} {g : Nat} {R : Out D} (h : evEs ⟨callF T wf n, wf, N⟩ es ρ st = .ok ds st1) (k : mats ds st1 = (ds, st1)) (r : callF T wf n g ds st1 = R) : evE ⟨callF T wf n, wf, N⟩ (.call g es) ρ st = R := E_call h k r
theorem E_callFX {T : List Fn} {wf n N : Nat} {es : List Mn.E} {ds : List D} {g : Nat} {m : Ex α} (h : evEs ⟨callF T wf n, wf, N⟩ es ρ st = .ok ds st1) (k : mats ds st1 = (ds, st1)) (r : callF T wf n g ds st1 = outX e st1 m) : evE ⟨callF T wf n, wf, N⟩ (.call g es) ρ st = outX e st1 m := E_call h k r
theorem E_callFE {T : List Fn} {wf n N : Nat} {es : List Mn.E} {ds : List D} {g : Nat} {R : Out D} (ds' : List D) (h : evEs ⟨callF T wf n, wf, N⟩ es ρ st = .ok ds st1) (e : ds = ds') (k : mats ds' st1 = (ds', st1)) (r : callF T wf n g ds' st1 = R) : evE ⟨callF T wf n, wf, N⟩ (.call g es) ρ st = R := E_call (e ▸ h) k r
theorem E_callE {es : List Mn.E} {ds : List D} {g : Nat} {R : Out D} (ds' : List D) (h : evEs cf es ρ st = .ok ds st1) (e : ds = ds') (k : mats ds' st1 = (ds', st1)) (r : cf.call g ds' st1 = R) : evE cf (.call g es) ρ st = R := E_call (e ▸ h) k r
theorem X_ite {t : Bool} {x y : Ex α} (h : evE cf c ρ st = .ok (.bl t) st1) (k : t = true → evE cf a ρ st1 = outX e st1 x) (l : t = false → evE cf b ρ st1 = outX e st1 y) : evE cf (.ite c a b) ρ st = outX e st1 (bif t then x else y) := by
  cases t with
  | true => rw [ev_ite, h]; exact k rfl
  | false => rw [ev_ite, h]; exact l rfl
end Wk
/-! ### draws -/
def V.l_take (s : S2) (m : Int) : Int × S2 := bif decide (s.1 > 0) then (s.1.fmod m, (s.1.fdiv m, s.2)) else ((((s.2 * 48271 + 11).fmod 2147483647).fdiv 7).fmod m, (s.1, (s.2 * 48271 + 11).fmod 2147483647))
def O.l_take (s : S2) (m : Int) : Bool := decide (0 < m) && fdB m && fitB s.2 48271
namespace Wk
variable {T : List Fn} {wf k g g1 : Nat} {st : Sto}
def fTake : Fn := ⟨2, 3, [.ifS (.prim .gt [.prim .ix [.var 0, .cst (.int 0)], .cst (.int 0)]) [.asg (.nm 2) (.prim .mod [.prim .toInt [.prim .ix [.var 0, .cst (.int 0)]], .var 1]), .asg (.sb (.var 0) (.cst (.int 0))) (.prim .fdiv [.prim .ix [.var 0, .cst (.int 0)], .var 1]), .ret (.var 2)] [], .asg (.sb (.var 0) (.cst (.int 1))) (.prim .mod [.prim .toInt [.prim .add [.prim .mul [.prim .ix [.var 0, .cst (.int 1)], .cst (.int 48271)], .cst (.int 11)]], .cst (.int 2147483647)]), .ret (.prim .mod [.prim .toInt [.prim .fdiv [.prim .ix [.var 0, .cst (.int 1)], .cst (.int 7)]], .var 1])]⟩
theorem HS_st {cf : Cf} {ss : List S} {ρ : Rho} {s1 s2 : Sto} {Q : Kt} {E : Et} (e : s1 = s2) (k : HS cf ss ρ s2 Q E) : HS cf ss ρ s1 Q E := e ▸ k
theorem take_w {s : S2} {a_m : Int} (hT : T[g]? = some fTake) (h0 : 0 < st.length) (h : O.l_take s a_m = true) : callF T wf (k + 1) g [.lr 0, eI a_m] (ss st s) = outS eI st (V.l_take s a_m) := by
  refine call_HS (f := fTake) hT rfl ?_
  rw [show (ss st s).length = st.length from ss_len s]
  have o1 : fdB a_m = true := a2 (a1 h)
  have om : mdB a_m = true := a1 o1
  have gt : ∀ s : S2, (ss st s)[0]? = some (.lst ([s.1, s.2].map eI)) := fun s => ss_get h0
  have ix0 : ∀ {cf ρ} {s : S2}, ρ[0]? = some (some (.lr 0)) → evE cf (.prim .ix [.var 0, .cst (.int 0)]) ρ (ss st s) = .ok (.int s.1) (ss st s) := fun {cf ρ s} hr => E_ix (e := eI) (xs := [s.1, s.2]) (sR (gt s)) rfl (E_var hr) E_cst
  have ix1 : ∀ {cf ρ} {s : S2}, ρ[0]? = some (some (.lr 0)) → evE cf (.prim .ix [.var 0, .cst (.int 1)]) ρ (ss st s) = .ok (.int s.2) (ss st s) := fun {cf ρ s} hr => E_ix (e := eI) (xs := [s.1, s.2]) (sR (gt s)) rfl (E_var hr) E_cst
  have up : ∀ (s : S2) (xs : List D) (x y : Int), xs = [.int x, .int y] → (ss st s).set 0 (.lst xs) = ss st (x, y) := fun s xs x y e => by subst e; simp [ss]
  refine HS_ifV (Q := fun b => QF st.length (outS eI st (bif b then (s.1.fmod a_m, (s.1.fdiv a_m, s.2)) else ((((s.2 * 48271 + 11).fmod 2147483647).fdiv 7).fmod a_m, (s.1, (s.2 * 48271 + 11).fmod 2147483647))))) (E := fun b => EF st.length (outS eI st (bif b then (s.1.fmod a_m, (s.1.fdiv a_m, s.2)) else ((((s.2 * 48271 + 11).fmod 2147483647).fdiv 7).fmod a_m, (s.1, (s.2 * 48271 + 11).fmod 2147483647))))) (E_gt (ix0 rfl) E_cst) (fun _ => ?_) (fun _ => ?_)
  · refine HS_asg (E_mod om (E_toInt (ix0 rfl)) (E_var rfl)) (T_nm rfl) ?_
    refine HS_asg (E_fdiv o1 (ix0 rfl) (E_var rfl)) (T_sb rfl (E_var rfl) E_cst (gt s) (j := 0) rfl) ?_
    refine HS_st (up s _ (s.1.fdiv a_m) s.2 rfl) ?_
    exact HS_ret (E_var rfl) (q_ret (by rw [ss_len]))
  · refine HS_asg (E_mod (by decide) (E_toInt (E_add (E_mul (a2 h) (ix1 rfl) E_cst) E_cst)) E_cst) (T_sb rfl (E_var rfl) E_cst (gt s) (j := 1) rfl) ?_
    refine HS_st (up s _ s.1 ((s.2 * 48271 + 11).fmod 2147483647) rfl) ?_
    exact HS_ret (E_mod om (E_toInt (E_fdiv (by decide) (ix1 (s := (s.1, (s.2 * 48271 + 11).fmod 2147483647)) rfl) E_cst)) (E_var rfl)) (q_ret (by rw [ss_len]))
end Wk
/-! Lb1: defs that many laws share: wholes, powers, choices, the state. -/
namespace Lb
open Mn PySem
variable {T : List Fn} {wf k g : Nat} {st : Sto}
theorem fin_retS {n : Nat} {ρ : Rho} {d : D} (h : st.length = n) : fin n (.ok (.ret d, ρ) st) = .ok d st := fin_retL (Nat.le_of_eq h)
/-! ### an int that is no bool -/
def fWhole : Fn := ⟨1, 1, [.ret (.and (.prim (.inst [.int]) [.var 0]) (.not (.prim (.inst [.bool]) [.var 0])))]⟩
theorem whole_i (hT : T[g]? = some fWhole) {a : Int} : callF T wf (k + 1) g [.int a] st = .ok (.bl true) st := by
  rw [call_def hT rfl]
  simp [fWhole, subTy, fin_ret]
theorem whole_b (hT : T[g]? = some fWhole) {a : Bool} : callF T wf (k + 1) g [.bl a] st = .ok (.bl false) st := by
  rw [call_def hT rfl]
  simp [fWhole, subTy, fin_ret]
theorem whole_n (hT : T[g]? = some fWhole) : callF T wf (k + 1) g [.non] st = .ok (.bl false) st := by
  rw [call_def hT rfl]
  simp [fWhole, subTy, fin_ret]
theorem whole_s (hT : T[g]? = some fWhole) {s : List Nat} : callF T wf (k + 1) g [.str s] st = .ok (.bl false) st := by
  rw [call_def hT rfl]
  simp [fWhole, subTy, fin_ret]
theorem whole_t (hT : T[g]? = some fWhole) {xs : List D} : callF T wf (k + 1) g [.tup xs] st = .ok (.bl false) st := by
  rw [call_def hT rfl]
  simp [fWhole, subTy, fin_ret]
/-! ### powers -/
/-- total = 1; for _ in range(e): total = total * a -/
def fPow : Fn := ⟨2, 4, [.asg (.nm 2) (.cst (.int 1)), .for (.nm 3) (.rng [.var 1]) [.asg (.nm 2) (.prim .mul [.var 2, .var 0])], .ret (.var 2)]⟩
theorem sm_pow {n : Nat} {a : Int} (h : sm n a) : ∀ e : Nat, sm (n * e + 1) (a ^ e)
  | 0 => by simp [sm]
  | e + 1 => by
    rw [Int.pow_succ]
    exact sm_mono (sm_mul (sm_pow h e) h) (by rw [Nat.mul_succ]; omega)
theorem pow_ok (hT : T[g]? = some fPow) {a : Int} {e n : Nat} (ha : sm n a) (hn : n * e + n + 1 ≤ 134217728) (he : e < 2 ^ 60) : callF T wf (k + 1) g [.int a, .int e] st = .ok (.int (a ^ e)) st := by
  rw [call_def hT rfl]
  obtain ⟨w, h1⟩ := for_rng (cf := ⟨callF T wf k, wf, T.length⟩) (t := .nm 3) (b := [.asg (.nm 2) (.prim .mul [.var 2, .var 0])]) (fun i w => [some (.int a), some (.int e), some (.int (a ^ i)), w]) (st := st) (k := e) none rfl
    (fun j w hj => ⟨some (.int j), by
      have hf : fits (a ^ j) a := fits_sm (sm_pow ha j) ha (by
        have : n * j ≤ n * e := Nat.mul_le_mul_left _ (by omega)
        omega)
      simp [hf, Int.pow_succ]⟩)
  simp [fPow, rngN he] at h1 ⊢
  simp [h1, fin_ret]
/-! ### choices: n (n-1) .. / 1 2 .. as the loops reckon it -/
def choL (n : Int) : Nat → Int
  | 0 => 1
  | j + 1 => (choL n j * (n - j)).fdiv (j + 1)
theorem sm_fdiv {n : Nat} {a b : Int} (h : sm n a) (hb : 1 ≤ b) : sm n (a.fdiv b) := by
  unfold sm at *
  refine Nat.lt_of_le_of_lt ?_ h
  rcases Int.le_total 0 a with h0 | h0
  · have h1 : 0 ≤ a.fdiv b := Int.fdiv_nonneg h0 (by omega)
    have h2 : a.fdiv b ≤ a := by
      rw [Int.fdiv_eq_ediv_of_nonneg a (by omega : (0 : Int) ≤ b)]
      exact Int.ediv_le_self b h0
    omega
  · have h1 : a.fdiv b ≤ 0 := by
      rw [Int.fdiv_eq_ediv_of_nonneg a (by omega : (0 : Int) ≤ b)]
      exact Int.ediv_nonpos_of_nonpos_of_neg h0 (by omega)
    have h2 : a ≤ a.fdiv b := by
      rw [Int.fdiv_eq_ediv_of_nonneg a (by omega : (0 : Int) ≤ b)]
      rw [Int.le_ediv_iff_mul_le (by omega)]
      have : a * b ≤ a * 1 := Int.mul_le_mul_of_nonpos_left h0 hb
      omega
    omega
theorem sm_choL {n : Int} {m : Nat} (h : ∀ j : Nat, (j : Int) ≤ n → sm m (n - j)) : ∀ j : Nat, (j : Int) ≤ n → sm (m * j + 1) (choL n j)
  | 0, _ => by simp [choL, sm]
  | j + 1, hj => by
    have := sm_choL h j (by omega)
    exact sm_mono (sm_fdiv (sm_mul this (h j (by omega))) (by omega)) (by rw [Nat.mul_succ]; omega)
theorem log2_small {n : Nat} (h : n < 2 ^ 62) : n.log2 < 9000 := by
  by_cases h0 : n = 0
  · subst h0; decide
  · exact Nat.lt_of_lt_of_le ((Nat.log2_lt h0).mpr h) (by decide)
/-- the loop that both texts have -/
theorem cho_loop {cf : Cf} {n : Int} {e m : Nat} (hs : ∀ j : Nat, j < e → sm m (n - j)) (hc : ∀ j : Nat, j < e → sm (m * j + 1) (choL n j)) (hm : m * e + m + 1 ≤ 134217728) (he : e < 2 ^ 60) :
    ∃ w, forB cf (.nm 3) [.asg (.nm 2) (.prim .fdiv [.prim .mul [.var 2, .prim .sub [.var 0, .var 3]], .prim .add [.var 3, .cst (.int 1)]])] (.rng 0 1) e 0 [some (.int n), some (.int e), some (.int 1), none] st = .ok (.nx, [some (.int n), some (.int e), some (.int (choL n e)), w]) st :=
  for_rng (fun i w => [some (.int n), some (.int e), some (.int (choL n i)), w]) none rfl
    (fun j w hj => ⟨some (.int j), by
      have hf : fits (choL n j) (n - j) := fits_sm (hc j hj) (hs j hj) (by
        have : m * j ≤ m * e := Nat.mul_le_mul_left _ (by omega)
        omega)
      have h1 : ((j : Int) + 1) ≠ 0 := by omega
      have h2 : ((j : Int) + 1).natAbs.log2 < 9000 := log2_small (by omega)
      simp [hf, choL, h1, h2]⟩)
def fCho : Fn := ⟨2, 4, [.ifS (.prim .gt [.var 1, .var 0]) [.ret (.cst (.int 0))] [], .asg (.nm 2) (.cst (.int 1)), .for (.nm 3) (.rng [.var 1]) [.asg (.nm 2) (.prim .fdiv [.prim .mul [.var 2, .prim .sub [.var 0, .var 3]], .prim .add [.var 3, .cst (.int 1)]])], .ret (.var 2)]⟩
/-- n below 2^m -/
theorem cho_ok (hT : T[g]? = some fCho) {n : Int} {e m : Nat} (he : (e : Int) ≤ n) (hn : n < 2 ^ m) (hm : m ≤ 60) (hb : m * e + m + 1 ≤ 134217728) : callF T wf (k + 1) g [.int n, .int e] st = .ok (.int (choL n e)) st := by
  rw [call_def hT rfl]
  have hp : (2 : Int) ^ m ≤ 2 ^ 60 := by
    have : (2 : Nat) ^ m ≤ 2 ^ 60 := Nat.pow_le_pow_right (by decide) hm
    exact_mod_cast this
  have hs : ∀ j : Nat, (j : Int) ≤ n → sm m (n - j) := fun j hj => by
    unfold sm
    have : ((2 : Nat) ^ m : Int) = (2 : Int) ^ m := by norm_cast
    have h2 : ((n - j).natAbs : Int) < ((2 ^ m : Nat) : Int) := by
      push_cast
      omega
    exact_mod_cast h2
  obtain ⟨w, h1⟩ := cho_loop (cf := ⟨callF T wf k, wf, T.length⟩) (st := st) (n := n) (e := e) (m := m) (fun j hj => hs j (by omega)) (fun j hj => sm_choL hs j (by omega)) hb (by omega)
  have h0 : ¬ n < (e : Int) := by omega
  simp [fCho, h0, rngN (n := e) (by omega)] at h1 ⊢
  simp [h1, fin_ret]
end Lb
/-! Lb2: the script's state, what is drawn from it. -/
namespace Lb
open Mn PySem
variable {T : List Fn} {wf k g : Nat} {st : Sto}
theorem ixR0 {n : Nat} {x : D} {xs : List D} (h : st[n]? = some (.lst (x :: xs))) : semP .ix [.lr n, .int 0] st = some (x, st) := sp_ixR (i := 0) h rfl
theorem ixR1 {n : Nat} {x y : D} {xs : List D} (h : st[n]? = some (.lst (x :: y :: xs))) : semP .ix [.lr n, .int 1] st = some (y, st) := sp_ixR (i := 1) h rfl
theorem set0 {n : Nat} {x d : D} {xs : List D} (h : st[n]? = some (.lst (x :: xs))) (hd : notl d = true) : setD (.lr n) (.int 0) d st = some (st.set n (.lst (d :: xs))) := setD_eq (i := 0) h (by simp) hd
theorem set1 {n : Nat} {x y d : D} {xs : List D} (h : st[n]? = some (.lst (x :: y :: xs))) (hd : notl d = true) : setD (.lr n) (.int 1) d st = some (st.set n (.lst (x :: d :: xs))) := setD_eq (i := 1) h (by simp) hd
theorem cut_all {xs : List D} {n : Nat} (h : xs.length ≤ n) : cut xs none (some (n : Int)) = xs := by
  have e : min n xs.length = xs.length := by omega
  simp [cut, HT.sIx, e, show ¬ ((n : Int) < 0) by omega]
def fState : Fn := ⟨1, 4, [.asg (.nm 1) (.cst (.int 0)), .asg (.nm 2) (.cst (.int 1)), .for (.nm 3) (.ex (.prim (.sl false true) [.var 0, .cst (.int 63)])) [.asg (.nm 1) (.prim .add [.prim .mul [.var 1, .cst (.int 1000003)], .prim .abs [.var 3]]), .asg (.nm 2) (.prim .mod [.prim .toInt [.prim .add [.prim .mul [.var 2, .cst (.int 48271)], .var 3]], .cst (.int 2147483647)])], .ret (.lstE [.var 1, .var 2])]⟩
theorem state_ok (hT : T[g]? = some fState) {ns : List Int} (hl : ns.length ≤ 63) (hb : ∀ z ∈ ns, Builtin.Int.intBits z ≤ 1048576) :
    ∃ s t : Int, callF T wf (k + 1) g [.kl (ns.map D.int)] st = .ok (.tl [.int s, .int t]) st ∧ 0 ≤ s ∧ 0 ≤ t ∧ t < 2147483647 := by
  rw [call_def hT rfl]
  have hbz : ∀ z ∈ ns, sm 1048577 z := fun z hz => by
    have h1 := hb z hz
    unfold Builtin.Int.intBits at h1
    unfold sm
    split at h1
    · rename_i h0
      have : z = 0 := by simpa using h0
      subst this
      exact Nat.pos_of_ne_zero (by simp)
    · rename_i h0
      have h2 : z.natAbs ≠ 0 := by
        intro q
        have : z = 0 := by omega
        simp [this] at h0
      exact Nat.lt_of_lt_of_le ((Nat.log2_lt h2).mp (Nat.lt_of_lt_of_le (Nat.lt_succ_self _) h1)) (Nat.pow_le_pow_right (by decide) (by decide))
  have e63 : cut (ns.map D.int) none (some 63) = ns.map D.int := cut_all (n := 63) (by simpa using hl)
  obtain ⟨ρ', st', h1, s, t, w, h2, h3, h4, h5, h6⟩ := for_inv (cf := ⟨callF T wf k, wf, T.length⟩) (t := .nm 3) (b := [.asg (.nm 1) (.prim .add [.prim .mul [.var 1, .cst (.int 1000003)], .prim .abs [.var 3]]), .asg (.nm 2) (.prim .mod [.prim .toInt [.prim .add [.prim .mul [.var 2, .cst (.int 48271)], .var 3]], .cst (.int 2147483647)])])
    (sv := .fix (ns.map D.int)) (k := ns.length) (i := 0) (ρ := [some (.kl (ns.map D.int)), some (.int 0), some (.int 1), none]) (st := st)
    (fun i ρ s' => ∃ s t w, ρ = [some (.kl (ns.map D.int)), some (.int s), some (.int t), w] ∧ s' = st ∧ (0 ≤ s ∧ sm (1048600 + 21 * i) s) ∧ 0 ≤ t ∧ t < 2147483647) ⟨0, 1, none, rfl, rfl, ⟨by decide, Nat.pos_of_ne_zero (by simp)⟩, by decide, by decide⟩
    (fun j ρ s' _ hj ⟨s, t, w, hρ, hs, ⟨q1, q2⟩, q3, q4⟩ => by
      subst hρ hs
      have hj' : j < ns.length := by omega
      have hz := hbz ns[j] (List.getElem_mem hj')
      have f1 : fits s 1000003 := fits_sm q2 (sm_lit (n := 20) (by decide)) (by omega)
      have f2 : fits t 48271 := fits_sm (n := 31) (sm_lit (by omega)) (sm_lit (n := 16) (by decide)) (by decide)
      refine ⟨.int ns[j], [some (.kl (ns.map D.int)), some (.int (s * 1000003 + (ns[j].natAbs : Int))), some (.int ((t * 48271 + ns[j]).fmod 2147483647)), some (.int ns[j])], s', by simp [hj'], .inl (by simp [f1, f2]), _, _, _, rfl, rfl, ⟨by omega, ?_⟩, ?_, ?_⟩
      · refine sm_mono (sm_add (n := 1048600 + 21 * j + 20) (sm_mul q2 (sm_lit (n := 20) (by decide))) ?_) (by omega)
        refine sm_mono (n := 1048577) ?_ (by omega)
        unfold sm at *
        simpa using hz
      · exact Int.fmod_nonneg_of_pos _ (by decide)
      · exact Int.fmod_lt_of_pos _ (by decide))
    (fun _ _ _ => by simp)
  subst h2 h3
  refine ⟨s, t, ?_, h4.1, h5, h6⟩
  have hsl : semP (.sl false true) [.kl (ns.map D.int), .int 63] st' = some (.tl (ns.map D.int), st') := by
    show semSl (.kl (ns.map D.int)) none (some 63) st' = _
    simp [semSl, lstOf, e63]
  simp [fState, hsl] at h1 ⊢
  simp [h1, fin_ret]
def fTake : Fn := ⟨2, 3, [.ifS (.prim .gt [.prim .ix [.var 0, .cst (.int 0)], .cst (.int 0)]) [.asg (.nm 2) (.prim .mod [.prim .toInt [.prim .ix [.var 0, .cst (.int 0)]], .var 1]), .asg (.sb (.var 0) (.cst (.int 0))) (.prim .fdiv [.prim .ix [.var 0, .cst (.int 0)], .var 1]), .ret (.var 2)] [], .asg (.sb (.var 0) (.cst (.int 1))) (.prim .mod [.prim .toInt [.prim .add [.prim .mul [.prim .ix [.var 0, .cst (.int 1)], .cst (.int 48271)], .cst (.int 11)]], .cst (.int 2147483647)]), .ret (.prim .mod [.prim .toInt [.prim .fdiv [.prim .ix [.var 0, .cst (.int 1)], .cst (.int 7)]], .var 1])]⟩
/-- the state at n -/
def StOk (st : Sto) (n : Nat) : Prop := ∃ s t : Int, st[n]? = some (.lst [.int s, .int t]) ∧ 0 ≤ s ∧ 0 ≤ t ∧ t < 2147483647
theorem take_ok (hT : T[g]? = some fTake) {n : Nat} {m : Int} (h : StOk st n) (h1 : 1 ≤ m) (h2 : m < 2 ^ 62) :
    ∃ (v s t : Int), callF T wf (k + 1) g [.lr n, .int m] st = .ok (.int v) (st.set n (.lst [.int s, .int t])) ∧ (0 ≤ v ∧ v < m) ∧ StOk (st.set n (.lst [.int s, .int t])) n := by
  obtain ⟨s, t, e, q1, q2, q3⟩ := h
  have hn : n < st.length := (List.getElem?_eq_some_iff.mp e).1
  have hm : m ≠ 0 := by omega
  have hml : m.natAbs.log2 < 9000 := log2_small (by omega)
  by_cases hs : 0 < s
  · refine ⟨s.fmod m, s.fdiv m, t, ?_, ⟨Int.fmod_nonneg_of_pos _ (by omega), Int.fmod_lt_of_pos _ (by omega)⟩, s.fdiv m, t, ?_, Int.fdiv_nonneg (by omega) (by omega), q2, q3⟩
    · rw [call_def hT rfl]
      simp [fTake, ixR0 e, hs, hm, hml, set0 e, fin_retS]
    · rw [List.getElem?_set_self hn]
  · have f2 : fits t 48271 := fits_sm (n := 31) (sm_lit (by omega)) (sm_lit (n := 16) (by decide)) (by decide)
    refine ⟨(((t * 48271 + 11).fmod 2147483647).fdiv 7).fmod m, s, (t * 48271 + 11).fmod 2147483647, ?_, ⟨Int.fmod_nonneg_of_pos _ (by omega), Int.fmod_lt_of_pos _ (by omega)⟩, s, _, by rw [List.getElem?_set_self hn], q1, Int.fmod_nonneg_of_pos _ (by decide), Int.fmod_lt_of_pos _ (by decide)⟩
    rw [call_def hT rfl]
    have e2 : (st.set n (.lst [.int s, .int ((t * 48271 + 11).fmod 2147483647)]))[n]? = some (.lst [.int s, .int ((t * 48271 + 11).fmod 2147483647)]) := by rw [List.getElem?_set_self hn]
    have l7 : Nat.log2 7 < 9000 := by decide
    simp [fTake, ixR0 e, ixR1 e, hs, hm, hml, f2, set1 e, ixR1 e2, l7, fin_retS]
end Lb
/-! Wk7: from the walk of a law's last def to its promise. -/
open Wk Mn PySem
namespace Wk
theorem law_plain {T : List Fn} {k g h nl : Nat} {body : List S} {V O : S2 → Bool} (hT : T[g]? = some ⟨1, nl + 2, .asg (.nm 1) (.call h [.var 0]) :: body⟩) (hS : T[h]? = some Lb.fState)
    (w : ∀ wf, Big wf → ∀ (st : Sto) (s : S2) (w0 : Option D), (∀ s, Wf (ss st s)) → 0 < st.length → O s = true → HS ⟨callF T wf (k + 1), wf, T.length⟩ body (w0 :: some (.lr 0) :: List.replicate nl none) (ss st s) (QF 0 (.ok (eB (V s)) [])) (EF 0 (.ok (eB (V s)) [])))
    (m : ∀ s : S2, 0 ≤ s.1 → 0 ≤ s.2 → s.2 < 2147483647 → V s = true ∧ O s = true) : Mn.Plain T (k + 2) g := fun ns h1 h2 => by
  obtain ⟨wf, hwf⟩ := big_ex
  obtain ⟨s, t, e, a, b, c⟩ := Lb.state_ok (wf := wf) (k := k) (st := []) hS h1 h2
  obtain ⟨hv, ho⟩ := m (s, t) a b c
  refine ⟨wf, [], ?_⟩
  have : callF T wf (k + 2) g [.kl (ns.map D.int)] [] = .ok (eB (V (s, t))) [] := by
    refine call_HS hT rfl ?_
    refine HS_asg (E_call (Es_cons (E_var rfl) Es_nil) (mlc rfl ml0) e) (show evTg _ _ _ _ _ = .ok ((some (.kl (ns.map D.int)) :: some (.lr 0) :: List.replicate nl none)) (ss [.lst []] (s, t)) from ?_) ?_
    · rw [ev_nm]
      rfl
    · exact w wf hwf [.lst []] (s, t) _ (fun s => rfl) (by decide) ho
  rw [hv] at this
  exact this
end Wk
/-! Wk8: sorted, in, count, xor, and/or with draws, calls of defs that are values. -/
namespace Wk
instance {α : Type} : Inhabited (Ex α) := ⟨.ex 0 []⟩
open Mn PySem PySem.W
open PyProof.Rows (lex_self lex_diff itemOrd itemLt)
variable {cf : Cf} {ρ : Rho} {st st1 st2 st3 : Sto} {a b c : Mn.E} {es : List Mn.E} {d d1 d2 d3 : D} {ds : List D}
abbrev eTl {α : Type} (e : α → D) (xs : List α) : D := .tl (xs.map e)
/-! ### order -/
def ltL {α : Type} [BEq α] (lt : α → α → Bool) : List α → List α → Bool
  | [], [] => false
  | [], _ :: _ => true
  | _ :: _, [] => false
  | x :: xs, y :: ys => bif x == y then ltL lt xs ys else lt x y
def ltP {α β : Type} [BEq α] (l1 : α → α → Bool) (l2 : β → β → Bool) (a b : α × β) : Bool := bif a.1 == b.1 then l2 a.2 b.2 else l1 a.1 b.1
def ltP3 {α β γ : Type} [BEq α] [BEq β] (l1 : α → α → Bool) (l2 : β → β → Bool) (l3 : γ → γ → Bool) (a b : α × β × γ) : Bool := bif a.1 == b.1 then (bif a.2.1 == b.2.1 then l3 a.2.2 b.2.2 else l2 a.2.1 b.2.1) else l1 a.1 b.1
def ltI (a b : Int) : Bool := decide (a < b)
def ltB (a b : Bool) : Bool := !a && b
def ltS (a b : List Nat) : Bool := decide (a < b)
class OrdE {α : Type} (e : α → D) [BEq α] (lt : outParam (α → α → Bool)) : Prop where
  al : ∀ a b, alike (dataOf (e a)) (dataOf (e b)) = true
  eq : ∀ a b, PyData.eqv (dataOf (e a)) (dataOf (e b)) = (a == b)
  lt : ∀ a b, dataLt (dataOf (e a)) (dataOf (e b)) = lt a b
theorem lex_irr : ∀ l : List (Int ⊕ List Nat), PyProof.Rows.lexLt itemOrd l l = false
  | [] => rfl
  | x :: l => (lex_self (O := itemOrd) x l l).trans (lex_irr l)
theorem lex_last {x y : PyData} (h : alike x y = true) : PyProof.Rows.lexLt itemOrd (keyToksAll [x]) (keyToksAll [y]) = dataLt x y := by
  cases e : PyData.eqv x y with
  | true =>
    rw [dataLt_all_yes h e, lex_irr]
    unfold dataLt
    rw [(toks_eqv x y h).1 e, lex_irr]
  | false => exact dataLt_all_no h e
instance : OrdE eI ltI := ⟨fun a b => by simp [dataOf, alike], fun a b => by simp [dataOf, PyData.eqv], fun a b => by simp only [dataOf, dataLt_int]; rfl⟩
instance : OrdE eB ltB := ⟨fun a b => by simp [dataOf, alike], fun a b => by simp [dataOf, PyData.eqv], fun a b => by simp only [dataOf, dataLt_bool]; cases a <;> cases b <;> rfl⟩
instance : OrdE eS ltS := ⟨fun a b => by simp [dataOf, alike], fun a b => by simp only [dataOf, PyData.eqv]; exact str_beq' a b, fun a b => by simp only [dataOf, dataLt_str]; rfl⟩
section
variable {α β γ : Type} {e1 : α → D} {e2 : β → D} {e3 : γ → D}
theorem cons_yes {x y : PyData} {xs ys : List PyData} (h : alike x y = true) {t : Bool} (e : PyData.eqv x y = t) : PyProof.Rows.lexLt itemOrd (keyToksAll (x :: xs)) (keyToksAll (y :: ys)) = bif t then PyProof.Rows.lexLt itemOrd (keyToksAll xs) (keyToksAll ys) else dataLt x y := by
  cases t with
  | true => exact dataLt_all_yes h e
  | false => exact dataLt_all_no h e
instance [BEq α] [BEq β] {l1 : α → α → Bool} {l2 : β → β → Bool} [h1 : OrdE e1 l1] [h2 : OrdE e2 l2] : OrdE (eP2 e1 e2) (ltP l1 l2) := ⟨fun a b => by simp [dataOf, datasOf, alike, alikeAll, h1.al, h2.al], fun a b => by
  simp only [dataOf, datasOf, PyData.eqv, PyData.eqvAll, h1.eq, h2.eq, Bool.and_true]; rfl, fun a b => by
  simp only [dataOf, datasOf]
  rw [dataLt_tuple, cons_yes (h1.al a.1 b.1) (h1.eq a.1 b.1), lex_last (h2.al a.2 b.2), h1.lt, h2.lt]
  rfl⟩
instance [BEq α] [BEq β] [BEq γ] {l1 : α → α → Bool} {l2 : β → β → Bool} {l3 : γ → γ → Bool} [h1 : OrdE e1 l1] [h2 : OrdE e2 l2] [h3 : OrdE e3 l3] : OrdE (eP3 e1 e2 e3) (ltP3 l1 l2 l3) := ⟨fun a b => by simp [dataOf, datasOf, alike, alikeAll, h1.al, h2.al, h3.al], fun a b => by
  simp only [dataOf, datasOf, PyData.eqv, PyData.eqvAll, h1.eq, h2.eq, h3.eq, Bool.and_true]; rfl, fun a b => by
  simp only [dataOf, datasOf]
  rw [dataLt_tuple, cons_yes (h1.al a.1 b.1) (h1.eq a.1 b.1), cons_yes (h2.al a.2.1 b.2.1) (h2.eq a.2.1 b.2.1), lex_last (h3.al a.2.2 b.2.2), h1.lt, h2.lt, h3.lt]
  rfl⟩
theorem datas_map (e : α → D) : ∀ xs : List α, datasOf (xs.map e) = xs.map fun a => dataOf (e a)
  | [] => rfl
  | x :: xs => by simp only [List.map_cons, datasOf, datas_map e xs]
theorem al_map [BEq α] {l1 : α → α → Bool} [h1 : OrdE e1 l1] : ∀ xs ys : List α, alikeAll (datasOf (xs.map e1)) (datasOf (ys.map e1)) = true
  | [], _ => by simp [datasOf, alikeAll]
  | _ :: _, [] => by simp [datasOf, alikeAll]
  | x :: xs, y :: ys => by simp [datasOf, alikeAll, h1.al x y, al_map xs ys]
theorem eqv_map [BEq α] {l1 : α → α → Bool} [h1 : OrdE e1 l1] : ∀ xs ys : List α, PyData.eqvAll (datasOf (xs.map e1)) (datasOf (ys.map e1)) = (xs == ys)
  | [], [] => by simp [datasOf, PyData.eqvAll]
  | [], _ :: _ => by simp [datasOf, PyData.eqvAll]
  | _ :: _, [] => by simp [datasOf, PyData.eqvAll]
  | x :: xs, y :: ys => by simp [datasOf, PyData.eqvAll, h1.eq x y, eqv_map xs ys, List.cons_beq_cons]
theorem lt_map [BEq α] {l1 : α → α → Bool} [h1 : OrdE e1 l1] : ∀ xs ys : List α, PyProof.Rows.lexLt itemOrd (keyToksAll (datasOf (xs.map e1))) (keyToksAll (datasOf (ys.map e1))) = ltL l1 xs ys
  | [], [] => by simp only [List.map_nil, datasOf, ltL]; exact lex_irr _
  | [], y :: ys => by
    simp only [List.map_nil, List.map_cons, datasOf, ltL, keyToksAll]
    rw [lex_diff (O := itemOrd) (by simp)]
    decide
  | x :: xs, [] => by
    simp only [List.map_nil, List.map_cons, datasOf, ltL, keyToksAll]
    rw [lex_diff (O := itemOrd) (by simp)]
    decide
  | x :: xs, y :: ys => by
    simp only [List.map_cons, datasOf, ltL]
    rw [cons_yes (h1.al x y) (h1.eq x y), lt_map xs ys, h1.lt]
instance [BEq α] {l1 : α → α → Bool} [h1 : OrdE e1 l1] : OrdE (eT e1) (ltL l1) := ⟨fun a b => by simp only [dataOf, alike]; exact al_map a b, fun a b => by simp only [dataOf, PyData.eqv]; exact eqv_map a b, fun a b => by simp only [dataOf]; rw [dataLt_tuple]; exact lt_map a b⟩
/-- what sorted asks of an item: a tuple that is not empty, or none at all -/
class Sk {α : Type} (e : α → D) (tu : outParam Bool) (ok : outParam (α → Bool)) : Prop where
  h : ∀ a, ok a = true → (bif tu then neTupP (dataOf (e a)) else noTupP (dataOf (e a))) = true
def okA {α : Type} (_ : α) : Bool := true
def okN {α : Type} (xs : List α) : Bool := !xs.isEmpty
instance : Sk eI false okA := ⟨fun _ _ => rfl⟩
instance : Sk eB false okA := ⟨fun _ _ => rfl⟩
instance : Sk eS false okA := ⟨fun _ _ => rfl⟩
instance : Sk (eP2 e1 e2) true okA := ⟨fun _ _ => rfl⟩
instance : Sk (eP3 e1 e2 e3) true okA := ⟨fun _ _ => rfl⟩
instance : Sk (eT e1) true okN := ⟨fun a h => by
  cases a with
  | nil => cases h
  | cons x xs => rfl⟩
def sortE {α : Type} (lt : α → α → Bool) (xs : List α) : List α := xs.mergeSort fun a b => !lt b a
theorem toPs_map {e : α → D} : ∀ xs : List α, (∀ a ∈ xs, pd 16 (e a) = true) → mapO (toP st 16) (xs.map e) = some (xs.map fun a => dataOf (e a))
  | [], _ => rfl
  | x :: xs, h => by
    rw [List.map_cons, mapO, toP_pd st 16 _ (h x (by simp)), toPs_map xs fun a ha => h a (List.mem_cons_of_mem _ ha)]
    rfl
theorem sortD_map {e : α → D} [BEq α] {lt : α → α → Bool} {tu : Bool} {ok : α → Bool} [h0 : OrdE e lt] [h1 : Sk e tu ok] {xs : List α} (p : ∀ a ∈ xs, pd 16 (e a) = true) (o : xs.all ok = true) : sortD st (xs.map e) = some ((sortE lt xs).map e) := by
  unfold sortD
  rw [toPs_map xs p]
  have ho : sortOk (xs.map fun a => dataOf (e a)) = true := by
    unfold sortOk
    rw [Bool.and_eq_true]
    refine ⟨?_, ?_⟩
    · rw [List.all_map, List.all_eq_true]
      intro a _
      show List.all (xs.map fun a => dataOf (e a)) _ = true
      rw [List.all_map, List.all_eq_true]
      intro b _
      exact h0.al a b
    · have := List.all_eq_true.mp o
      cases tu with
      | true =>
        rw [Bool.or_eq_true]; left
        simp only [List.all_map, List.all_eq_true]
        exact fun a ha => h1.h a (this a ha)
      | false =>
        rw [Bool.or_eq_true]; right
        simp only [List.all_map, List.all_eq_true]
        exact fun a ha => h1.h a (this a ha)
  show (if sortOk _ = true then _ else none) = _
  rw [if_pos ho]
  have hz : (xs.map e).zip (xs.map fun a => dataOf (e a)) = xs.map fun a => (e a, dataOf (e a)) := by
    clear p o ho
    induction xs with
    | nil => rfl
    | cons x xs ih => rw [List.map_cons, List.map_cons, List.zip_cons_cons, ih, List.map_cons]
  rw [hz]
  unfold sortE
  rw [← mergeSort_mapF (f := fun a => (e a, dataOf (e a))) (le := fun a b => !lt b a) (fun a b => by rw [h0.lt]) _ _ (Nat.le_refl _), List.map_map]
  rfl
theorem E_sort {e : α → D} [BEq α] {lt : α → α → Bool} {tu : Bool} {ok : α → Bool} {n : Nat} [h0 : OrdE e lt] [h1 : Sk e tu ok] [h2 : EqE e n] {xs : List α} (hn : n ≤ 16) (o : xs.all ok = true) (s : seqOf st1 d = some (xs.map e)) (h : evE cf a ρ st = .ok d st1) :
    evE cf (.prim .sorted [a]) ρ st = .ok (.tl ((sortE lt xs).map e)) st1 := E_p1 h (by
  simp only [semP, sem1, s]
  rw [sortD_map (e := e) (lt := lt) (tu := tu) (ok := ok) (fun a _ => pd_up (h2.pd a) hn) o])
theorem E_sortV {e : α → D} [BEq α] {lt : α → α → Bool} {tu : Bool} {ok : α → Bool} [h0 : OrdE e lt] [h1 : Sk e tu ok] {xs : List α} (hp : (xs.all fun a => pdB (e a)) = true) (o : xs.all ok = true) (s : seqOf st1 d = some (xs.map e)) (h : evE cf a ρ st = .ok d st1) :
    evE cf (.prim .sorted [a]) ρ st = .ok (.tl ((sortE lt xs).map e)) st1 := E_p1 h (by
  simp only [semP, sem1, s]
  rw [sortD_map (e := e) (lt := lt) (tu := tu) (ok := ok) (fun a ha => List.all_eq_true.mp hp a ha) o])
theorem all_okA : ∀ xs : List α, xs.all okA = true
  | [] => rfl
  | x :: xs => by simp [okA, all_okA xs]
/-! ### in, count -/
theorem eqF_eqP {a b : D} (h : flat a = true) (k : flat b = true) : eqF a b = eqP a b := by
  cases a <;> cases b <;> first | (simp [flat] at h; done) | (simp [flat] at k; done) | simp [eqF, eqP]
theorem in_pd {x : D} {xs : List D} {p : Bool} (hx : pd 15 x = true) (hs : ∀ y ∈ xs, pd 15 y = true) (s : seqOf st d = some xs) :
    semP .isin [x, d] st = some (.bl (xs.any fun y => eqP y x), st) ∧ semP .notin [x, d] st = some (.bl (!xs.any fun y => eqP y x), st) := by
  have ps : mapO (toP st 15) xs = some (xs.map dataOf) := by
    clear s
    induction xs with
    | nil => rfl
    | cons y ys ih =>
      rw [mapO, toP_pd st 15 y (hs y (by simp)), ih fun z hz => hs z (List.mem_cons_of_mem _ hz)]
      rfl
  have any2 : ((xs.map dataOf).any fun q => PyData.eqv q (dataOf x)) = xs.any fun y => eqP y x := by
    rw [List.any_map]
    clear s ps
    induction xs with
    | nil => rfl
    | cons y ys ih =>
      rw [List.any_cons, List.any_cons, ih fun z hz => hs z (List.mem_cons_of_mem _ hz)]
      congr 1
      exact eqv_data 15 15 y x (hs y (by simp)) hx
  have any1 : (flat x && xs.all flat) = true → (xs.any fun y => eqF y x) = xs.any fun y => eqP y x := by
    intro h
    rw [Bool.and_eq_true] at h
    clear s ps any2
    induction xs with
    | nil => rfl
    | cons y ys ih =>
      have h2 := h.2
      rw [List.all_cons, Bool.and_eq_true] at h2
      rw [List.any_cons, List.any_cons, ih (fun z hz => hs z (List.mem_cons_of_mem _ hz)) ⟨h.1, h2.2⟩, eqF_eqP h2.1 h.1]
  constructor
  · simp only [semP, sem2, s, toP_pd st 15 x hx, ps]
    split
    · rename_i h; rw [any1 h]
    · rw [any2]
  · simp only [semP, sem2, s, toP_pd st 15 x hx, ps]
    split
    · rename_i h; rw [any1 h]
    · rw [any2]
section
variable {e : α → D} [BEq α] {n : Nat} [h0 : EqE e n] {x : α} {xs : List α}
include h0 in
theorem any_E : ((xs.map e).any fun y => eqP y (e x)) = xs.any fun y => y == x := by
  rw [List.any_map]
  congr 1
  funext y
  exact h0.eq y x
theorem E_inE (hn : n ≤ 15) (s : seqOf st2 d = some (xs.map e)) (h : evE cf a ρ st = .ok (e x) st1) (k : evE cf b ρ st1 = .ok d st2) : evE cf (.prim .isin [a, b]) ρ st = .ok (.bl (xs.any fun y => y == x)) st2 := E_p2 h k (by
  rw [(in_pd (p := true) (pd_up (h0.pd x) hn) (fun y hy => by
    obtain ⟨z, _, rfl⟩ := List.mem_map.mp hy
    exact pd_up (h0.pd z) hn) s).1, any_E])
theorem E_notinE (hn : n ≤ 15) (s : seqOf st2 d = some (xs.map e)) (h : evE cf a ρ st = .ok (e x) st1) (k : evE cf b ρ st1 = .ok d st2) : evE cf (.prim .notin [a, b]) ρ st = .ok (.bl (!xs.any fun y => y == x)) st2 := E_p2 h k (by
  rw [(in_pd (p := true) (pd_up (h0.pd x) hn) (fun y hy => by
    obtain ⟨z, _, rfl⟩ := List.mem_map.mp hy
    exact pd_up (h0.pd z) hn) s).2, any_E])
theorem E_count (hn : n ≤ 15) (s : lstOf st2 d = some (xs.map e)) (r : rcv .count d = true) (h : evE cf a ρ st = .ok d st1) (k : evE cf b ρ st1 = .ok (e x) st2) : evE cf (.meth .count a [b]) ρ st = .ok (.int (xs.countP fun y => y == x : Nat)) st2 := by
  rw [evE, h]
  show (if rcv .count d then (evEs cf [b] ρ st1).bind fun ds st => binds (semP .count (d :: ds) st) else .no) = _
  rw [if_pos r, Es1 k]
  show binds (semP .count [d, e x] st2) = _
  have ps : mapO (toP st2 15) (xs.map e) = some (xs.map fun a => dataOf (e a)) := by
    clear s
    induction xs with
    | nil => rfl
    | cons y ys ih =>
      rw [List.map_cons, mapO, toP_pd st2 15 _ (pd_up (h0.pd y) hn), ih]
      rfl
  simp only [semP, sem2, s, toP_pd st2 15 _ (pd_up (h0.pd x) hn), ps]
  rw [List.countP_map]
  show Out.ok _ _ = _
  congr 4
  funext y
  show PyData.eqv (dataOf (e y)) (dataOf (e x)) = _
  rw [eqv_data 15 15 _ _ (pd_up (h0.pd y) hn) (pd_up (h0.pd x) hn)]
  exact h0.eq y x
end
/-- among texts -/
def inS (xs : List (List Nat)) (x : List Nat) : Bool := xs.any fun y => y == x
def inO (xs : List (List Nat)) (x : Option (List Nat)) : Bool := match x with
  | some s => inS xs s
  | none => false
theorem in_flat {x : D} {xs : List D} (hx : flat x = true) (hs : xs.all flat = true) (s : seqOf st d = some xs) :
    semP .isin [x, d] st = some (.bl (xs.any fun y => eqF y x), st) ∧ semP .notin [x, d] st = some (.bl (!xs.any fun y => eqF y x), st) := by
  constructor <;> simp only [semP, sem2, s, hx, hs] <;> rfl
theorem flatS (xs : List (List Nat)) : (xs.map eS).all flat = true := by simp [List.all_map, flat]
theorem anyS (xs : List (List Nat)) (x : List Nat) : ((xs.map eS).any fun y => eqF y (eS x)) = inS xs x := by
  unfold inS
  rw [List.any_map]
  rfl
theorem anyO (xs : List (List Nat)) (x : Option (List Nat)) : ((xs.map eS).any fun y => eqF y (eO eS x)) = inO xs x := by
  cases x with
  | some x => exact anyS xs x
  | none =>
    rw [List.any_map]
    induction xs with
    | nil => rfl
    | cons y ys ih => rw [List.any_cons, ih]; rfl
theorem flatO (x : Option (List Nat)) : flat (eO eS x) = true := by cases x <;> rfl
theorem E_inS {x : List Nat} {xs : List (List Nat)} (s : seqOf st2 d = some (xs.map eS)) (h : evE cf a ρ st = .ok (eS x) st1) (k : evE cf b ρ st1 = .ok d st2) : evE cf (.prim .isin [a, b]) ρ st = .ok (.bl (inS xs x)) st2 := E_p2 h k (by rw [(in_flat (x := eS x) rfl (flatS xs) s).1, anyS])
theorem E_notinS {x : List Nat} {xs : List (List Nat)} (s : seqOf st2 d = some (xs.map eS)) (h : evE cf a ρ st = .ok (eS x) st1) (k : evE cf b ρ st1 = .ok d st2) : evE cf (.prim .notin [a, b]) ρ st = .ok (.bl (!inS xs x)) st2 := E_p2 h k (by rw [(in_flat (x := eS x) rfl (flatS xs) s).2, anyS])
theorem E_inO {x : Option (List Nat)} {xs : List (List Nat)} (s : seqOf st2 d = some (xs.map eS)) (h : evE cf a ρ st = .ok (eO eS x) st1) (k : evE cf b ρ st1 = .ok d st2) : evE cf (.prim .isin [a, b]) ρ st = .ok (.bl (inO xs x)) st2 := E_p2 h k (by rw [(in_flat (flatO x) (flatS xs) s).1, anyO])
theorem E_notinO {x : Option (List Nat)} {xs : List (List Nat)} (s : seqOf st2 d = some (xs.map eS)) (h : evE cf a ρ st = .ok (eO eS x) st1) (k : evE cf b ρ st1 = .ok d st2) : evE cf (.prim .notin [a, b]) ρ st = .ok (.bl (!inO xs x)) st2 := E_p2 h k (by rw [(in_flat (flatO x) (flatS xs) s).2, anyO])
/-- among anything flat -/
def inD (xs : List D) (x : D) : Bool := xs.any fun y => eqF y x
def flatB (x : D) : Bool := flat x
theorem E_inD {x : D} {xs : List D} (o1 : flatB x = true) (o2 : xs.all flatB = true) (s : seqOf st2 d = some (xs.map eD)) (h : evE cf a ρ st = .ok x st1) (k : evE cf b ρ st1 = .ok d st2) : evE cf (.prim .isin [a, b]) ρ st = .ok (.bl (inD xs x)) st2 := E_p2 h k (by
  rw [(in_flat (xs := xs.map eD) o1 (by rw [List.all_map]; exact o2) s).1]; simp [inD])
theorem E_notinD {x : D} {xs : List D} (o1 : flatB x = true) (o2 : xs.all flatB = true) (s : seqOf st2 d = some (xs.map eD)) (h : evE cf a ρ st = .ok x st1) (k : evE cf b ρ st1 = .ok d st2) : evE cf (.prim .notin [a, b]) ρ st = .ok (.bl (!inD xs x)) st2 := E_p2 h k (by
  rw [(in_flat (xs := xs.map eD) o1 (by rw [List.all_map]; exact o2) s).2]; simp [inD])
end
theorem E_TD {α : Type} {e : α → D} {xs : List α} (h : evE cf a ρ st = .ok (eT e xs) st1) : evE cf a ρ st = .ok (eT eD (xs.map e)) st1 := by rw [h]; simp
theorem E_LD {α : Type} {e : α → D} {xs : List α} (h : evE cf a ρ st = .ok (eL e xs) st1) : evE cf a ρ st = .ok (eL eD (xs.map e)) st1 := by rw [h]; simp
/-! ### xor -/
theorem E_xor {x y : Int} (h : evE cf a ρ st = .ok (.int x) st1) (k : evE cf b ρ st1 = .ok (.int y) st2) : evE cf (.prim .xor [a, b]) ρ st = .ok (.int (Builtin.bitXor x y)) st2 := E_p2 h k rfl
/-! ### and, or, choices with draws behind -/
theorem E_orS {x y : Bool} {sx : Sto} {s1 s2 : S2} (h : evE cf a ρ st = .ok (.bl x) (ss sx s1)) (k : x = false → evE cf b ρ (ss sx s1) = .ok (.bl y) (ss sx s2)) : evE cf (.or a b) ρ st = .ok (.bl (x || y)) (ss sx (bif x then s1 else s2)) := by
  rw [ev_or, h, kB_ok, kOr_ok]
  cases x with
  | true => rfl
  | false => rw [if_neg Bool.false_ne_true, k rfl]; rfl
theorem E_andS {x y : Bool} {sx : Sto} {s1 s2 : S2} (h : evE cf a ρ st = .ok (.bl x) (ss sx s1)) (k : x = true → evE cf b ρ (ss sx s1) = .ok (.bl y) (ss sx s2)) : evE cf (.and a b) ρ st = .ok (.bl (x && y)) (ss sx (bif x then s2 else s1)) := by
  rw [ev_and, h, kB_ok, kAnd_ok]
  cases x with
  | true => rw [if_pos rfl, k rfl]; rfl
  | false => rfl
theorem E_iteS {α : Type} {e : α → D} {t : Bool} {x y : α} {sx : Sto} {s1 s2 s3 : S2} (h : evE cf c ρ st = .ok (.bl t) (ss sx s1)) (k : t = true → evE cf a ρ (ss sx s1) = .ok (e x) (ss sx s2)) (l : t = false → evE cf b ρ (ss sx s1) = .ok (e y) (ss sx s3)) : evE cf (.ite c a b) ρ st = .ok (e (bif t then x else y)) (ss sx (bif t then s2 else s3)) := by
  rw [ev_ite, h, kB_ok, kIte_ok]
  cases t with
  | true => rw [if_pos rfl, k rfl]; rfl
  | false => rw [if_neg Bool.false_ne_true, l rfl]; rfl
/-! ### defs as values -/
theorem E_callvF {T : List Fn} {wf n N : Nat} {es : List Mn.E} {ds : List D} {i g : Nat} {R : Out D} (hi : ρ[i]? = some (some (.fn g))) (h : evEs ⟨callF T wf n, wf, N⟩ es ρ st = .ok ds st1) (k : mats ds st1 = (ds, st1)) (r : Nat.blt g N = true ∧ callF T wf n g ds st1 = R) :
    evE ⟨callF T wf n, wf, N⟩ (.callv i es) ρ st = R := E_callv (cf := ⟨callF T wf n, wf, N⟩) hi r.1 h k r.2
theorem E_calleF {T : List Fn} {wf n N : Nat} {f : Mn.E} {es : List Mn.E} {ds : List D} {g : Nat} {R : Out D} (hf : evE ⟨callF T wf n, wf, N⟩ f ρ st = .ok (.fn g) st1) (h : evEs ⟨callF T wf n, wf, N⟩ es ρ st1 = .ok ds st2) (k : mats ds st2 = (ds, st2)) (r : Nat.blt g N = true ∧ callF T wf n g ds st2 = R) :
    evE ⟨callF T wf n, wf, N⟩ (.calle f es) ρ st = R := E_calle (cf := ⟨callF T wf n, wf, N⟩) hf r.1 h k r.2
theorem outX_D {α : Type} {e : α → D} {m : Ex α} {R : Out D} (h : R = outX e st m) : R = outX eD st (m.mapE e) := by cases m <;> exact h
end Wk
open Wk Mn
def S_5 : List Nat := [53]
def S_absolute : List Nat := [97, 98, 115, 111, 108, 117, 116, 101]
def S_broken : List Nat := [98, 114, 111, 107, 101, 110]
def S_count : List Nat := [99, 111, 117, 110, 116]
def S_half : List Nat := [104, 97, 108, 102]
def S_krein : List Nat := [107, 114, 101, 105, 110]
def S_malformed : List Nat := [109, 97, 108, 102, 111, 114, 109, 101, 100]
def S_raised : List Nat := [114, 97, 105, 115, 101, 100]
def S_squares : List Nat := [115, 113, 117, 97, 114, 101, 115]
def S_told : List Nat := [116, 111, 108, 100]
def S_whole : List Nat := [119, 104, 111, 108, 101]
def V.l_near_k24_r3 (b_found : List (Int × Int × Int × Int)) (sv : S2) : List (Int × Int × Int × Int) × S2 := ((List.map (fun (y1 : Int × Int × Int × Int) => y1) (List.filter (fun (y1 : Int × Int × Int × Int) => ((decide (y1.2.1 ≤ (y1.1 - (2 : Int)))) && ((decide (y1.2.2.1 < y1.2.1)) && (decide (y1.2.2.2 ≤ y1.2.1))))) b_found)), sv)
def O.l_near_k24_r3 (b_found : List (Int × Int × Int × Int)) (sv : S2) : Bool := (szB (List.length b_found))
def V.l_near_k24_r2 (b_n : Int) (b_p : Int) (sv : S2) : List (Int × Int × Int × Int) × S2 := (V.l_near_k24_r3 [((Int.fdiv (b_n * (b_n - (1 : Int))) (2 : Int)), ((2 : Int) * (b_n - (2 : Int))), (b_n - (2 : Int)), (4 : Int)), ((b_n * b_n), ((2 : Int) * (b_n - (1 : Int))), (b_n - (2 : Int)), (2 : Int)), ((b_n * b_n), ((3 : Int) * (b_n - (1 : Int))), b_n, (6 : Int)), (b_p, (Int.fdiv (b_p - (1 : Int)) (2 : Int)), (Int.fdiv (b_p - (5 : Int)) (4 : Int)), (Int.fdiv (b_p - (1 : Int)) (4 : Int))), ((10 : Int), (3 : Int), (0 : Int), (1 : Int)), ((16 : Int), (5 : Int), (0 : Int), (2 : Int)), ((28 : Int), (9 : Int), (0 : Int), (4 : Int)), ((50 : Int), (21 : Int), (4 : Int), (12 : Int)), ((21 : Int), (10 : Int), (4 : Int), (5 : Int)), ((7 : Int), (3 : Int), (1 : Int), (1 : Int)), ((10 : Int), (3 : Int), (1 : Int), (1 : Int)), ((27 : Int), (16 : Int), (10 : Int), (8 : Int)), ((50 : Int), (7 : Int), (0 : Int), (1 : Int)), ((6 : Int), (3 : Int), (0 : Int), (3 : Int)), ((6 : Int), (1 : Int), (0 : Int), (0 : Int)), ((33 : Int), (16 : Int), (7 : Int), (8 : Int)), ((57 : Int), (28 : Int), (13 : Int), (14 : Int))] sv)
def O.l_near_k24_r2 (b_n : Int) (b_p : Int) (sv : S2) : Bool := (fitB b_n (b_n - (1 : Int)) && (fitB (2 : Int) (b_n - (2 : Int)) && (fitB b_n b_n && (fitB (2 : Int) (b_n - (1 : Int)) && (fitB b_n b_n && (fitB (3 : Int) (b_n - (1 : Int)) && (O.l_near_k24_r3 [((Int.fdiv (b_n * (b_n - (1 : Int))) (2 : Int)), ((2 : Int) * (b_n - (2 : Int))), (b_n - (2 : Int)), (4 : Int)), ((b_n * b_n), ((2 : Int) * (b_n - (1 : Int))), (b_n - (2 : Int)), (2 : Int)), ((b_n * b_n), ((3 : Int) * (b_n - (1 : Int))), b_n, (6 : Int)), (b_p, (Int.fdiv (b_p - (1 : Int)) (2 : Int)), (Int.fdiv (b_p - (5 : Int)) (4 : Int)), (Int.fdiv (b_p - (1 : Int)) (4 : Int))), ((10 : Int), (3 : Int), (0 : Int), (1 : Int)), ((16 : Int), (5 : Int), (0 : Int), (2 : Int)), ((28 : Int), (9 : Int), (0 : Int), (4 : Int)), ((50 : Int), (21 : Int), (4 : Int), (12 : Int)), ((21 : Int), (10 : Int), (4 : Int), (5 : Int)), ((7 : Int), (3 : Int), (1 : Int), (1 : Int)), ((10 : Int), (3 : Int), (1 : Int), (1 : Int)), ((27 : Int), (16 : Int), (10 : Int), (8 : Int)), ((50 : Int), (7 : Int), (0 : Int), (1 : Int)), ((6 : Int), (3 : Int), (0 : Int), (3 : Int)), ((6 : Int), (1 : Int), (0 : Int), (0 : Int)), ((33 : Int), (16 : Int), (7 : Int), (8 : Int)), ((57 : Int), (28 : Int), (13 : Int), (14 : Int))] sv)))))))
def V.l_near_k24_r1 (b_n : Int) (sv : S2) : List (Int × Int × Int × Int) × S2 := (V.l_near_k24_r2 b_n (getI [(5 : Int), (13 : Int), (17 : Int), (29 : Int), (37 : Int), (41 : Int), (53 : Int), (61 : Int)] ((V.l_take sv (8 : Int)).1)) ((V.l_take sv (8 : Int)).2))
def O.l_near_k24_r1 (b_n : Int) (sv : S2) : Bool := ((O.l_take sv (8 : Int)) && (ixB [(5 : Int), (13 : Int), (17 : Int), (29 : Int), (37 : Int), (41 : Int), (53 : Int), (61 : Int)] ((V.l_take sv (8 : Int)).1) && (O.l_near_k24_r2 b_n (getI [(5 : Int), (13 : Int), (17 : Int), (29 : Int), (37 : Int), (41 : Int), (53 : Int), (61 : Int)] ((V.l_take sv (8 : Int)).1)) ((V.l_take sv (8 : Int)).2))))
def V.l_near_k24 (s : S2) : List (Int × Int × Int × Int) × S2 := (V.l_near_k24_r1 ((4 : Int) + (V.l_take s (8 : Int)).1) ((V.l_take s (8 : Int)).2))
def O.l_near_k24 (s : S2) : Bool := ((O.l_take s (8 : Int)) && (O.l_near_k24_r1 ((4 : Int) + (V.l_take s (8 : Int)).1) ((V.l_take s (8 : Int)).2)))
def V.l_root_l1  (q : Int) : Int := (q + (1 : Int))
def O.l_root_l1  (q : Int) : Bool := true
def V.l_root_c1 (b_w : Int) (q : Int) : Bool := (decide ((q * q) < b_w))
def O.l_root_c1 (b_w : Int) (q : Int) : Bool := (fitB q q)
def V.l_root (a_w : Int) : Option Int := (bif ((decide ((whV (V.l_root_c1 a_w) (V.l_root_l1) (Int.toNat (a_w - (0 : Int)) + 1) (0 : Int)) > (0 : Int))) && (decide (((whV (V.l_root_c1 a_w) (V.l_root_l1) (Int.toNat (a_w - (0 : Int)) + 1) (0 : Int)) * (whV (V.l_root_c1 a_w) (V.l_root_l1) (Int.toNat (a_w - (0 : Int)) + 1) (0 : Int))) = a_w))) then (some (whV (V.l_root_c1 a_w) (V.l_root_l1) (Int.toNat (a_w - (0 : Int)) + 1) (0 : Int))) else none)
def O.l_root (a_w : Int) : Bool := (wfB (Int.toNat (a_w - (0 : Int)) + 1) && ((whO (V.l_root_c1 a_w) (O.l_root_c1 a_w) (V.l_root_l1) (O.l_root_l1) (Int.toNat (a_w - (0 : Int)) + 1) (0 : Int)) && (imp (decide ((whV (V.l_root_c1 a_w) (V.l_root_l1) (Int.toNat (a_w - (0 : Int)) + 1) (0 : Int)) > (0 : Int))) (fitB (whV (V.l_root_c1 a_w) (V.l_root_l1) (Int.toNat (a_w - (0 : Int)) + 1) (0 : Int)) (whV (V.l_root_c1 a_w) (V.l_root_l1) (Int.toNat (a_w - (0 : Int)) + 1) (0 : Int))))))
def V.l_frac_l1  (q : Int × Int) : Int × Int := (q.2, (Int.fmod q.1 q.2))
def O.l_frac_l1  (q : Int × Int) : Bool := (mdB q.2 && true)
def V.l_frac_c1  (q : Int × Int) : Bool := (!decide (q.2 = (0 : Int)))
def O.l_frac_c1  (q : Int × Int) : Bool := true
def V.l_frac_r3 (b_n : Int) (b_d : Int) (b_a : Int) : Int × Int := ((Int.fdiv b_n b_a), (Int.fdiv b_d b_a))
def O.l_frac_r3 (b_n : Int) (b_d : Int) (b_a : Int) : Bool := (fdB b_a && (fdB b_a))
def V.l_frac_r2 (b_n : Int) (b_d : Int) (b_a : Int) : Int × Int := (V.l_frac_r3 b_n b_d (bif (decide (b_d > (0 : Int))) then b_a else (-b_a)))
def O.l_frac_r2 (b_n : Int) (b_d : Int) (b_a : Int) : Bool := (O.l_frac_r3 b_n b_d (bif (decide (b_d > (0 : Int))) then b_a else (-b_a)))
def V.l_frac (a_n : Int) (a_d : Int) : Int × Int := (V.l_frac_r2 a_n a_d ((whV (V.l_frac_c1) (V.l_frac_l1) (Int.natAbs (Int.natAbs a_d : Int) + 1) ((Int.natAbs a_n : Int), (Int.natAbs a_d : Int))).1))
def O.l_frac (a_n : Int) (a_d : Int) : Bool := (wfB (Int.natAbs (Int.natAbs a_d : Int) + 1) && ((whO (V.l_frac_c1) (O.l_frac_c1) (V.l_frac_l1) (O.l_frac_l1) (Int.natAbs (Int.natAbs a_d : Int) + 1) ((Int.natAbs a_n : Int), (Int.natAbs a_d : Int))) && (O.l_frac_r2 a_n a_d ((whV (V.l_frac_c1) (V.l_frac_l1) (Int.natAbs (Int.natAbs a_d : Int) + 1) ((Int.natAbs a_n : Int), (Int.natAbs a_d : Int))).1))))
def V.l_parts_r2 (b_v : Int) (b_q : Option Int) (b_w : Int) (b_u : Int) : Int × Int × (Option Int) × (Option (Int × Int)) × (Option (Int × Int)) := (b_w, b_u, b_q, (some (V.l_frac (((b_v - (1 : Int)) * (getO b_q)) - b_u) ((2 : Int) * (getO b_q)))), (some (V.l_frac (((b_v - (1 : Int)) * (getO b_q)) + b_u) ((2 : Int) * (getO b_q)))))
def O.l_parts_r2 (b_v : Int) (b_q : Option Int) (b_w : Int) (b_u : Int) : Bool := (Option.isSome b_q && (fitB (b_v - (1 : Int)) (getO b_q) && (Option.isSome b_q && (fitB (2 : Int) (getO b_q) && ((O.l_frac (((b_v - (1 : Int)) * (getO b_q)) - b_u) ((2 : Int) * (getO b_q))) && (Option.isSome b_q && (fitB (b_v - (1 : Int)) (getO b_q) && (Option.isSome b_q && (fitB (2 : Int) (getO b_q) && ((O.l_frac (((b_v - (1 : Int)) * (getO b_q)) + b_u) ((2 : Int) * (getO b_q))) && true))))))))))
def V.l_parts_r1 (b_v : Int) (b_w : Int) (b_u : Int) : Int × Int × (Option Int) × (Option (Int × Int)) × (Option (Int × Int)) := (bif (Option.isNone (V.l_root b_w)) then (b_w, b_u, none, none, none) else (V.l_parts_r2 b_v (V.l_root b_w) b_w b_u))
def O.l_parts_r1 (b_v : Int) (b_w : Int) (b_u : Int) : Bool := ((O.l_root b_w) && (bif (Option.isNone (V.l_root b_w)) then true else (O.l_parts_r2 b_v (V.l_root b_w) b_w b_u)))
def V.l_parts (a_v : Int) (a_k : Int) (a_l : Int) (a_m : Int) : Int × Int × (Option Int) × (Option (Int × Int)) × (Option (Int × Int)) := (V.l_parts_r1 a_v (((a_l - a_m) * (a_l - a_m)) + ((4 : Int) * (a_k - a_m))) (((2 : Int) * a_k) + ((a_v - (1 : Int)) * (a_l - a_m))))
def O.l_parts (a_v : Int) (a_k : Int) (a_l : Int) (a_m : Int) : Bool := (fitB (a_l - a_m) (a_l - a_m) && (fitB (4 : Int) (a_k - a_m) && (fitB (2 : Int) a_k && (fitB (a_v - (1 : Int)) (a_l - a_m) && (O.l_parts_r1 a_v (((a_l - a_m) * (a_l - a_m)) + ((4 : Int) * (a_k - a_m))) (((2 : Int) * a_k) + ((a_v - (1 : Int)) * (a_l - a_m))))))))
def V.l_is_square (a_w : Int) : Bool := ((decide (a_w = (0 : Int))) || (Option.isSome (V.l_root a_w)))
def O.l_is_square (a_w : Int) : Bool := (imp (!(decide (a_w = (0 : Int)))) (O.l_root a_w))
def V.l_broken_l4 (b_v : Int) (q : Unit) (x : Int) : Stp Unit (Option (List Nat)) := (bif ((decide ((x * x) ≤ b_v)) && (V.l_is_square (b_v - (x * x)))) then (.rt none) else (.nx ()))
def O.l_broken_l4 (b_v : Int) (q : Unit) (x : Int) : Bool := (fitB x x && ((imp (decide ((x * x) ≤ b_v)) (fitB x x && (O.l_is_square (b_v - (x * x))))) && (bif ((decide ((x * x) ≤ b_v)) && (V.l_is_square (b_v - (x * x)))) then true else true)))
def V.l_broken_r3 (b_v : Int) : Option (List Nat) := (Stp.els (forR (V.l_broken_l4 b_v) (rI (0 : Int) b_v) ()) (fun q => (some S_squares)))
def O.l_broken_r3 (b_v : Int) : Bool := (rgB (0 : Int) b_v && ((okR (V.l_broken_l4 b_v) (O.l_broken_l4 b_v) (rI (0 : Int) b_v) ()) && (Stp.all (forR (V.l_broken_l4 b_v) (rI (0 : Int) b_v) ()) (fun q => true))))
def V.l_broken_r9  : Option (List Nat) := none
def O.l_broken_r9  : Bool := true
def V.l_broken_r8 (b_v : Int) (b_f : Option (Int × Int)) (b_g : Option (Int × Int)) : Option (List Nat) := (bif ((decide (((2 : Int) * b_v) > ((getO b_f).1 * ((getO b_f).1 + (3 : Int))))) || (decide (((2 : Int) * b_v) > ((getO b_g).1 * ((getO b_g).1 + (3 : Int)))))) then (some S_absolute) else (V.l_broken_r9))
def O.l_broken_r8 (b_v : Int) (b_f : Option (Int × Int)) (b_g : Option (Int × Int)) : Bool := (fitB (2 : Int) b_v && (Option.isSome b_f && (Option.isSome b_f && (fitB ((getO b_f).1) ((getO b_f).1 + (3 : Int)) && ((imp (!(decide (((2 : Int) * b_v) > ((getO b_f).1 * ((getO b_f).1 + (3 : Int)))))) (fitB (2 : Int) b_v && (Option.isSome b_g && (Option.isSome b_g && (fitB ((getO b_g).1) ((getO b_g).1 + (3 : Int))))))) && (bif ((decide (((2 : Int) * b_v) > ((getO b_f).1 * ((getO b_f).1 + (3 : Int))))) || (decide (((2 : Int) * b_v) > ((getO b_g).1 * ((getO b_g).1 + (3 : Int)))))) then true else (O.l_broken_r9)))))))
def V.l_broken_r7 (b_v : Int) (b_k : Int) (b_m : Int) (b_f : Option (Int × Int)) (b_g : Option (Int × Int)) (b_r : Int) (b_s : Int) : Option (List Nat) := (bif (!List.any [(0 : Int), b_k] (fun y => decide (y = b_m))) then (bif ((decide (((b_r + (1 : Int)) * ((b_k + b_r) + (((2 : Int) * b_r) * b_s))) > (((b_k + b_r) * (b_s + (1 : Int))) * (b_s + (1 : Int))))) || (decide (((b_s + (1 : Int)) * ((b_k + b_s) + (((2 : Int) * b_r) * b_s))) > (((b_k + b_s) * (b_r + (1 : Int))) * (b_r + (1 : Int)))))) then (some S_krein) else (V.l_broken_r8 b_v b_f b_g)) else (V.l_broken_r9))
def O.l_broken_r7 (b_v : Int) (b_k : Int) (b_m : Int) (b_f : Option (Int × Int)) (b_g : Option (Int × Int)) (b_r : Int) (b_s : Int) : Bool := (bif (!List.any [(0 : Int), b_k] (fun y => decide (y = b_m))) then (fitB (2 : Int) b_r && (fitB ((2 : Int) * b_r) b_s && (fitB (b_r + (1 : Int)) ((b_k + b_r) + (((2 : Int) * b_r) * b_s)) && (fitB (b_k + b_r) (b_s + (1 : Int)) && (fitB ((b_k + b_r) * (b_s + (1 : Int))) (b_s + (1 : Int)) && ((imp (!(decide (((b_r + (1 : Int)) * ((b_k + b_r) + (((2 : Int) * b_r) * b_s))) > (((b_k + b_r) * (b_s + (1 : Int))) * (b_s + (1 : Int)))))) (fitB (2 : Int) b_r && (fitB ((2 : Int) * b_r) b_s && (fitB (b_s + (1 : Int)) ((b_k + b_s) + (((2 : Int) * b_r) * b_s)) && (fitB (b_k + b_s) (b_r + (1 : Int)) && (fitB ((b_k + b_s) * (b_r + (1 : Int))) (b_r + (1 : Int)))))))) && (bif ((decide (((b_r + (1 : Int)) * ((b_k + b_r) + (((2 : Int) * b_r) * b_s))) > (((b_k + b_r) * (b_s + (1 : Int))) * (b_s + (1 : Int))))) || (decide (((b_s + (1 : Int)) * ((b_k + b_s) + (((2 : Int) * b_r) * b_s))) > (((b_k + b_s) * (b_r + (1 : Int))) * (b_r + (1 : Int)))))) then true else (O.l_broken_r8 b_v b_f b_g)))))))) else (O.l_broken_r9))
def V.l_broken_r6 (b_v : Int) (b_k : Int) (b_l : Int) (b_m : Int) (b_q : Option Int) (b_f : Option (Int × Int)) (b_g : Option (Int × Int)) : Option (List Nat) := (V.l_broken_r7 b_v b_k b_m b_f b_g (Int.fdiv ((b_l - b_m) + (getO b_q)) (2 : Int)) (Int.fdiv ((b_l - b_m) - (getO b_q)) (2 : Int)))
def O.l_broken_r6 (b_v : Int) (b_k : Int) (b_l : Int) (b_m : Int) (b_q : Option Int) (b_f : Option (Int × Int)) (b_g : Option (Int × Int)) : Bool := (Option.isSome b_q && (Option.isSome b_q && (O.l_broken_r7 b_v b_k b_m b_f b_g (Int.fdiv ((b_l - b_m) + (getO b_q)) (2 : Int)) (Int.fdiv ((b_l - b_m) - (getO b_q)) (2 : Int)))))
def V.l_broken_r5 (b_v : Int) (b_k : Int) (b_l : Int) (b_m : Int) (b_q : Option Int) (b_f : Option (Int × Int)) (b_g : Option (Int × Int)) : Option (List Nat) := (bif ((!decide ((getO b_f).2 = (1 : Int))) || ((!decide ((getO b_g).2 = (1 : Int))) || ((decide ((getO b_f).1 < (0 : Int))) || (decide ((getO b_g).1 < (0 : Int)))))) then (some S_whole) else (V.l_broken_r6 b_v b_k b_l b_m b_q b_f b_g))
def O.l_broken_r5 (b_v : Int) (b_k : Int) (b_l : Int) (b_m : Int) (b_q : Option Int) (b_f : Option (Int × Int)) (b_g : Option (Int × Int)) : Bool := (Option.isSome b_f && ((imp (!(!decide ((getO b_f).2 = (1 : Int)))) (Option.isSome b_g && (imp (!(!decide ((getO b_g).2 = (1 : Int)))) (Option.isSome b_f && (imp (!(decide ((getO b_f).1 < (0 : Int)))) (Option.isSome b_g)))))) && (bif ((!decide ((getO b_f).2 = (1 : Int))) || ((!decide ((getO b_g).2 = (1 : Int))) || ((decide ((getO b_f).1 < (0 : Int))) || (decide ((getO b_g).1 < (0 : Int)))))) then true else (O.l_broken_r6 b_v b_k b_l b_m b_q b_f b_g))))
def V.l_broken_r2 (b_v : Int) (b_k : Int) (b_l : Int) (b_m : Int) (b_w : Int) (b_u : Int) (b_q : Option Int) (b_f : Option (Int × Int)) (b_g : Option (Int × Int)) : Option (List Nat) := (bif (Option.isNone b_q) then (bif ((V.l_is_square b_w) || (!decide (b_u = (0 : Int)))) then (some S_whole) else (V.l_broken_r3 b_v)) else (V.l_broken_r5 b_v b_k b_l b_m b_q b_f b_g))
def O.l_broken_r2 (b_v : Int) (b_k : Int) (b_l : Int) (b_m : Int) (b_w : Int) (b_u : Int) (b_q : Option Int) (b_f : Option (Int × Int)) (b_g : Option (Int × Int)) : Bool := (bif (Option.isNone b_q) then ((O.l_is_square b_w) && (bif ((V.l_is_square b_w) || (!decide (b_u = (0 : Int)))) then true else (O.l_broken_r3 b_v))) else (O.l_broken_r5 b_v b_k b_l b_m b_q b_f b_g))
def V.l_broken_r1 (b_v : Int) (b_k : Int) (b_l : Int) (b_m : Int) : Option (List Nat) := (V.l_broken_r2 b_v b_k b_l b_m ((V.l_parts b_v b_k b_l b_m).1) ((V.l_parts b_v b_k b_l b_m).2.1) ((V.l_parts b_v b_k b_l b_m).2.2.1) ((V.l_parts b_v b_k b_l b_m).2.2.2.1) ((V.l_parts b_v b_k b_l b_m).2.2.2.2))
def O.l_broken_r1 (b_v : Int) (b_k : Int) (b_l : Int) (b_m : Int) : Bool := ((O.l_parts b_v b_k b_l b_m) && (O.l_broken_r2 b_v b_k b_l b_m ((V.l_parts b_v b_k b_l b_m).1) ((V.l_parts b_v b_k b_l b_m).2.1) ((V.l_parts b_v b_k b_l b_m).2.2.1) ((V.l_parts b_v b_k b_l b_m).2.2.2.1) ((V.l_parts b_v b_k b_l b_m).2.2.2.2)))
def V.l_broken (a_v : Int) (a_k : Int) (a_l : Int) (a_m : Int) : Option (List Nat) := (bif (!decide ((a_k * ((a_k - a_l) - (1 : Int))) = (((a_v - a_k) - (1 : Int)) * a_m))) then (some S_count) else (V.l_broken_r1 a_v a_k a_l a_m))
def O.l_broken (a_v : Int) (a_k : Int) (a_l : Int) (a_m : Int) : Bool := (fitB a_k ((a_k - a_l) - (1 : Int)) && (fitB ((a_v - a_k) - (1 : Int)) a_m && (bif (!decide ((a_k * ((a_k - a_l) - (1 : Int))) = (((a_v - a_k) - (1 : Int)) * a_m))) then true else (O.l_broken_r1 a_v a_k a_l a_m))))
def V.l_is_told (a_pair : (List Nat) × D) (a_due : D) : Bool := (((a_pair.1 == S_told)) && (V.l_same a_pair.2 a_due))
def O.l_is_told (a_pair : (List Nat) × D) (a_due : D) : Bool := (notl a_due && (pdB (eS a_pair.1) && (pdB (eS S_told) && (imp ((a_pair.1 == S_told)) (notl a_pair.2 && (notl a_due && (O.l_same a_pair.2 a_due)))))))
def V.is_integer (a_value : D) : Bool := ((isTy [.int] a_value) && (!(isTy [.bool] a_value)))
def O.is_integer (a_value : D) : Bool := (notl a_value && (tyB a_value && (imp (isTy [.int] a_value) (tyB a_value))))
def V.root_of_r2 (b_n : Int) (b_low : Int) (b_high : Int) (b_middle : Int) : Int × Int := (bif (decide ((b_middle * b_middle) ≤ b_n)) then (b_middle, b_high) else (b_low, b_middle))
def O.root_of_r2 (b_n : Int) (b_low : Int) (b_high : Int) (b_middle : Int) : Bool := (fitB b_middle b_middle && (bif (decide ((b_middle * b_middle) ≤ b_n)) then true else true))
def V.root_of_l1 (b_n : Int) (q : Int × Int) : Int × Int := (V.root_of_r2 b_n q.1 q.2 (Int.fdiv (q.1 + q.2) (2 : Int)))
def O.root_of_l1 (b_n : Int) (q : Int × Int) : Bool := (O.root_of_r2 b_n q.1 q.2 (Int.fdiv (q.1 + q.2) (2 : Int)))
def V.root_of_c1  (q : Int × Int) : Bool := (decide ((q.2 - q.1) > (1 : Int)))
def O.root_of_c1  (q : Int × Int) : Bool := true
def V.root_of_r3 (b_n : Int) (b_low : Int) : Option Int := (bif (decide ((b_low * b_low) = b_n)) then (some b_low) else none)
def O.root_of_r3 (b_n : Int) (b_low : Int) : Bool := (fitB b_low b_low)
def V.root_of (a_n : Int) : Option Int := (V.root_of_r3 a_n ((whV (V.root_of_c1) (V.root_of_l1 a_n) (Int.toNat ((a_n + (1 : Int)) - (0 : Int)) + 1) ((0 : Int), (a_n + (1 : Int)))).1))
def O.root_of (a_n : Int) : Bool := (wfB (Int.toNat ((a_n + (1 : Int)) - (0 : Int)) + 1) && ((whO (V.root_of_c1) (O.root_of_c1) (V.root_of_l1 a_n) (O.root_of_l1 a_n) (Int.toNat ((a_n + (1 : Int)) - (0 : Int)) + 1) ((0 : Int), (a_n + (1 : Int)))) && (O.root_of_r3 a_n ((whV (V.root_of_c1) (V.root_of_l1 a_n) (Int.toNat ((a_n + (1 : Int)) - (0 : Int)) + 1) ((0 : Int), (a_n + (1 : Int)))).1))))
def V.spread_of (a_v : Int) (a_k : Int) (a_l : Int) (a_m : Int) : (Option Int) × Int := ((V.root_of (((a_l - a_m) * (a_l - a_m)) + ((4 : Int) * (a_k - a_m)))), (((2 : Int) * a_k) + ((a_v - (1 : Int)) * (a_l - a_m))))
def O.spread_of (a_v : Int) (a_k : Int) (a_l : Int) (a_m : Int) : Bool := (fitB (a_l - a_m) (a_l - a_m) && (fitB (4 : Int) (a_k - a_m) && ((O.root_of (((a_l - a_m) * (a_l - a_m)) + ((4 : Int) * (a_k - a_m)))) && (fitB (2 : Int) a_k && (fitB (a_v - (1 : Int)) (a_l - a_m))))))
def V.is_whole_r4 (b_q : Option Int) (b_one : Int) (b_two : Int) : Bool := ((decide (b_one ≥ (0 : Int))) && ((decide (b_two ≥ (0 : Int))) && ((decide ((Int.fmod b_one ((2 : Int) * (getO b_q))) = (0 : Int))) && (decide ((Int.fmod b_two ((2 : Int) * (getO b_q))) = (0 : Int))))))
def O.is_whole_r4 (b_q : Option Int) (b_one : Int) (b_two : Int) : Bool := (imp (decide (b_one ≥ (0 : Int))) (imp (decide (b_two ≥ (0 : Int))) (Option.isSome b_q && (fitB (2 : Int) (getO b_q) && (mdB ((2 : Int) * (getO b_q)) && (imp (decide ((Int.fmod b_one ((2 : Int) * (getO b_q))) = (0 : Int))) (Option.isSome b_q && (fitB (2 : Int) (getO b_q) && (mdB ((2 : Int) * (getO b_q)))))))))))
def V.is_whole_r3 (b_v : Int) (b_q : Option Int) (b_u : Int) : Bool := (V.is_whole_r4 b_q (((b_v - (1 : Int)) * (getO b_q)) - b_u) (((b_v - (1 : Int)) * (getO b_q)) + b_u))
def O.is_whole_r3 (b_v : Int) (b_q : Option Int) (b_u : Int) : Bool := (Option.isSome b_q && (fitB (b_v - (1 : Int)) (getO b_q) && (Option.isSome b_q && (fitB (b_v - (1 : Int)) (getO b_q) && (O.is_whole_r4 b_q (((b_v - (1 : Int)) * (getO b_q)) - b_u) (((b_v - (1 : Int)) * (getO b_q)) + b_u))))))
def V.is_whole_r2 (b_v : Int) (b_q : Option Int) (b_u : Int) : Bool := (bif (eqP ((eO eI) b_q) ((eO eI) (some (0 : Int)))) then false else (V.is_whole_r3 b_v b_q b_u))
def O.is_whole_r2 (b_v : Int) (b_q : Option Int) (b_u : Int) : Bool := (pdB ((eO eI) b_q) && (pdB ((eO eI) (some (0 : Int))) && (bif (eqP ((eO eI) b_q) ((eO eI) (some (0 : Int)))) then true else (O.is_whole_r3 b_v b_q b_u))))
def V.is_whole_r1 (b_v : Int) (b_q : Option Int) (b_u : Int) : Bool := (bif (Option.isNone b_q) then (decide (b_u = (0 : Int))) else (V.is_whole_r2 b_v b_q b_u))
def O.is_whole_r1 (b_v : Int) (b_q : Option Int) (b_u : Int) : Bool := (bif (Option.isNone b_q) then true else (O.is_whole_r2 b_v b_q b_u))
def V.is_whole (a_v : Int) (a_k : Int) (a_l : Int) (a_m : Int) : Bool := (V.is_whole_r1 a_v ((V.spread_of a_v a_k a_l a_m).1) ((V.spread_of a_v a_k a_l a_m).2))
def O.is_whole (a_v : Int) (a_k : Int) (a_l : Int) (a_m : Int) : Bool := ((O.spread_of a_v a_k a_l a_m) && (O.is_whole_r1 a_v ((V.spread_of a_v a_k a_l a_m).1) ((V.spread_of a_v a_k a_l a_m).2)))
def V.is_two_squares (a_v : Int) : Bool := (List.any (List.filter (fun (y1 : Int) => (decide ((y1 * y1) ≤ a_v))) (rI (0 : Int) (a_v + (1 : Int)))) ((fun (y1 : Int) => (Option.isSome (V.root_of (a_v - (y1 * y1)))))))
def O.is_two_squares (a_v : Int) : Bool := (rgB (0 : Int) (a_v + (1 : Int)) && (szB (List.length (rI (0 : Int) (a_v + (1 : Int)))) && (List.all (rI (0 : Int) (a_v + (1 : Int))) (fun (y1 : Int) => (fitB y1 y1 && (imp (decide ((y1 * y1) ≤ a_v)) (fitB y1 y1 && (O.root_of (a_v - (y1 * y1))))))))))
def V.values_of_r1 (b_v : Int) (b_l : Int) (b_m : Int) (b_q : Option Int) (b_u : Int) : Int × Int × Int × Int := ((Int.fdiv ((b_l - b_m) + (getO b_q)) (2 : Int)), (Int.fdiv (((b_v - (1 : Int)) * (getO b_q)) - b_u) ((2 : Int) * (getO b_q))), (Int.fdiv ((b_l - b_m) - (getO b_q)) (2 : Int)), (Int.fdiv (((b_v - (1 : Int)) * (getO b_q)) + b_u) ((2 : Int) * (getO b_q))))
def O.values_of_r1 (b_v : Int) (b_l : Int) (b_m : Int) (b_q : Option Int) (b_u : Int) : Bool := (Option.isSome b_q && (fitB (b_v - (1 : Int)) (getO b_q) && (Option.isSome b_q && (fitB (b_v - (1 : Int)) (getO b_q) && (Option.isSome b_q && (Option.isSome b_q && (fitB (2 : Int) (getO b_q) && (fdB ((2 : Int) * (getO b_q)) && (Option.isSome b_q && (Option.isSome b_q && (fitB (2 : Int) (getO b_q) && (fdB ((2 : Int) * (getO b_q))))))))))))))
def V.values_of (a_v : Int) (a_k : Int) (a_l : Int) (a_m : Int) : Int × Int × Int × Int := (V.values_of_r1 a_v a_l a_m ((V.spread_of a_v a_k a_l a_m).1) ((V.spread_of a_v a_k a_l a_m).2))
def O.values_of (a_v : Int) (a_k : Int) (a_l : Int) (a_m : Int) : Bool := ((O.spread_of a_v a_k a_l a_m) && (O.values_of_r1 a_v a_l a_m ((V.spread_of a_v a_k a_l a_m).1) ((V.spread_of a_v a_k a_l a_m).2)))
def V.is_below_krein (a_k : Int) (a_r : Int) (a_s : Int) : Bool := (bif (decide (((a_r + (1 : Int)) * ((a_k + a_r) + (((2 : Int) * a_r) * a_s))) > (((a_k + a_r) * (a_s + (1 : Int))) * (a_s + (1 : Int))))) then false else (decide (((a_s + (1 : Int)) * ((a_k + a_s) + (((2 : Int) * a_r) * a_s))) ≤ (((a_k + a_s) * (a_r + (1 : Int))) * (a_r + (1 : Int))))))
def O.is_below_krein (a_k : Int) (a_r : Int) (a_s : Int) : Bool := (fitB (2 : Int) a_r && (fitB ((2 : Int) * a_r) a_s && (fitB (a_r + (1 : Int)) ((a_k + a_r) + (((2 : Int) * a_r) * a_s)) && (fitB (a_k + a_r) (a_s + (1 : Int)) && (fitB ((a_k + a_r) * (a_s + (1 : Int))) (a_s + (1 : Int)) && (bif (decide (((a_r + (1 : Int)) * ((a_k + a_r) + (((2 : Int) * a_r) * a_s))) > (((a_k + a_r) * (a_s + (1 : Int))) * (a_s + (1 : Int))))) then true else (fitB (2 : Int) a_r && (fitB ((2 : Int) * a_r) a_s && (fitB (a_s + (1 : Int)) ((a_k + a_s) + (((2 : Int) * a_r) * a_s)) && (fitB (a_k + a_s) (a_r + (1 : Int)) && (fitB ((a_k + a_s) * (a_r + (1 : Int))) (a_r + (1 : Int)))))))))))))
def V.broken_of_r5 (b_v : Int) (b_k : Int) (b_r : Int) (b_f : Int) (b_s : Int) (b_g : Int) : Option (List Nat) := (bif (!(V.is_below_krein b_k b_r b_s)) then (some S_krein) else (bif ((decide (((2 : Int) * b_v) > (b_f * (b_f + (3 : Int))))) || (decide (((2 : Int) * b_v) > (b_g * (b_g + (3 : Int)))))) then (some S_absolute) else none))
def O.broken_of_r5 (b_v : Int) (b_k : Int) (b_r : Int) (b_f : Int) (b_s : Int) (b_g : Int) : Bool := ((O.is_below_krein b_k b_r b_s) && (bif (!(V.is_below_krein b_k b_r b_s)) then true else (fitB (2 : Int) b_v && (fitB b_f (b_f + (3 : Int)) && (imp (!(decide (((2 : Int) * b_v) > (b_f * (b_f + (3 : Int)))))) (fitB (2 : Int) b_v && (fitB b_g (b_g + (3 : Int)))))))))
def V.broken_of_r4 (b_v : Int) (b_k : Int) (b_l : Int) (b_m : Int) : Option (List Nat) := (V.broken_of_r5 b_v b_k ((V.values_of b_v b_k b_l b_m).1) ((V.values_of b_v b_k b_l b_m).2.1) ((V.values_of b_v b_k b_l b_m).2.2.1) ((V.values_of b_v b_k b_l b_m).2.2.2))
def O.broken_of_r4 (b_v : Int) (b_k : Int) (b_l : Int) (b_m : Int) : Bool := ((O.values_of b_v b_k b_l b_m) && (O.broken_of_r5 b_v b_k ((V.values_of b_v b_k b_l b_m).1) ((V.values_of b_v b_k b_l b_m).2.1) ((V.values_of b_v b_k b_l b_m).2.2.1) ((V.values_of b_v b_k b_l b_m).2.2.2)))
def V.broken_of_r3 (b_v : Int) (b_k : Int) (b_l : Int) (b_m : Int) : Option (List Nat) := (bif (List.any [(0 : Int), b_k] (fun y => decide (y = b_m))) then none else (V.broken_of_r4 b_v b_k b_l b_m))
def O.broken_of_r3 (b_v : Int) (b_k : Int) (b_l : Int) (b_m : Int) : Bool := (bif (List.any [(0 : Int), b_k] (fun y => decide (y = b_m))) then true else (O.broken_of_r4 b_v b_k b_l b_m))
def V.broken_of_r2 (b_v : Int) (b_k : Int) (b_l : Int) (b_m : Int) : Option (List Nat) := (bif (Option.isNone ((V.spread_of b_v b_k b_l b_m).1)) then (bif (V.is_two_squares b_v) then none else (some S_squares)) else (V.broken_of_r3 b_v b_k b_l b_m))
def O.broken_of_r2 (b_v : Int) (b_k : Int) (b_l : Int) (b_m : Int) : Bool := ((O.spread_of b_v b_k b_l b_m) && (bif (Option.isNone ((V.spread_of b_v b_k b_l b_m).1)) then (O.is_two_squares b_v) else (O.broken_of_r3 b_v b_k b_l b_m)))
def V.broken_of_r1 (b_v : Int) (b_k : Int) (b_l : Int) (b_m : Int) : Option (List Nat) := (bif (!(V.is_whole b_v b_k b_l b_m)) then (some S_whole) else (V.broken_of_r2 b_v b_k b_l b_m))
def O.broken_of_r1 (b_v : Int) (b_k : Int) (b_l : Int) (b_m : Int) : Bool := ((O.is_whole b_v b_k b_l b_m) && (bif (!(V.is_whole b_v b_k b_l b_m)) then true else (O.broken_of_r2 b_v b_k b_l b_m)))
def V.broken_of (a_v : Int) (a_k : Int) (a_l : Int) (a_m : Int) : Option (List Nat) := (bif (!decide ((a_k * ((a_k - a_l) - (1 : Int))) = (((a_v - a_k) - (1 : Int)) * a_m))) then (some S_count) else (V.broken_of_r1 a_v a_k a_l a_m))
def O.broken_of (a_v : Int) (a_k : Int) (a_l : Int) (a_m : Int) : Bool := (fitB a_k ((a_k - a_l) - (1 : Int)) && (fitB ((a_v - a_k) - (1 : Int)) a_m && (bif (!decide ((a_k * ((a_k - a_l) - (1 : Int))) = (((a_v - a_k) - (1 : Int)) * a_m))) then true else (O.broken_of_r1 a_v a_k a_l a_m))))
def V.feasible_numbers_r4 (b_v : D) (b_k : Int) (b_found : List (Int × Int × Int)) (b_m : Int) (b_left : Int) : (List (Int × Int × Int)) := (bif ((decide (b_left ≥ (0 : Int))) && ((decide ((Int.fmod b_left b_k) = (0 : Int))) && (Option.isNone (V.broken_of (Un.un eI b_v) b_k (Int.fdiv b_left b_k) b_m)))) then b_found ++ [(b_k, (Int.fdiv b_left b_k), b_m)] else b_found)
def O.feasible_numbers_r4 (b_v : D) (b_k : Int) (b_found : List (Int × Int × Int)) (b_m : Int) (b_left : Int) : Bool := ((imp (decide (b_left ≥ (0 : Int))) (mdB b_k && (imp (decide ((Int.fmod b_left b_k) = (0 : Int))) (Un.is eI b_v && (fdB b_k && (O.broken_of (Un.un eI b_v) b_k (Int.fdiv b_left b_k) b_m)))))) && (bif ((decide (b_left ≥ (0 : Int))) && ((decide ((Int.fmod b_left b_k) = (0 : Int))) && (Option.isNone (V.broken_of (Un.un eI b_v) b_k (Int.fdiv b_left b_k) b_m)))) then (fdB b_k && (szB (List.length b_found + 1) && true)) else true))
def V.feasible_numbers_l3 (b_v : D) (b_k : Int) (q : (List (Int × Int × Int))) (x : Int) : (List (Int × Int × Int)) := (V.feasible_numbers_r4 b_v b_k q x ((b_k * (b_k - (1 : Int))) - ((((Un.un eI b_v) - b_k) - (1 : Int)) * x)))
def O.feasible_numbers_l3 (b_v : D) (b_k : Int) (q : (List (Int × Int × Int))) (x : Int) : Bool := (fitB b_k (b_k - (1 : Int)) && (Un.is eI b_v && (fitB (((Un.un eI b_v) - b_k) - (1 : Int)) x && (O.feasible_numbers_r4 b_v b_k q x ((b_k * (b_k - (1 : Int))) - ((((Un.un eI b_v) - b_k) - (1 : Int)) * x))))))
def V.feasible_numbers_l2 (b_v : D) (q : (List (Int × Int × Int))) (x : Int) : (List (Int × Int × Int)) := (List.foldl (V.feasible_numbers_l3 b_v x) q (rI (1 : Int) x))
def O.feasible_numbers_l2 (b_v : D) (q : (List (Int × Int × Int))) (x : Int) : Bool := (rgB (1 : Int) x && ((okF (V.feasible_numbers_l3 b_v x) (O.feasible_numbers_l3 b_v x) (rI (1 : Int) x) q) && true))
def V.feasible_numbers_r1 (b_v : D) : Ex (List (Int × Int × Int)) := (.ok (sortE (ltP3 ltI ltI ltI) (List.foldl (V.feasible_numbers_l2 b_v) [] (rI (2 : Int) ((Int.fdiv ((Un.un eI b_v) - (1 : Int)) (2 : Int)) + (1 : Int))))))
def O.feasible_numbers_r1 (b_v : D) : Bool := (Un.is eI b_v && (rgB (2 : Int) ((Int.fdiv ((Un.un eI b_v) - (1 : Int)) (2 : Int)) + (1 : Int)) && ((okF (V.feasible_numbers_l2 b_v) (O.feasible_numbers_l2 b_v) (rI (2 : Int) ((Int.fdiv ((Un.un eI b_v) - (1 : Int)) (2 : Int)) + (1 : Int))) []) && true)))
def V.feasible_numbers (a_v : D) : Ex (List (Int × Int × Int)) := (bif ((!(V.is_integer a_v)) || (!((decide ((3 : Int) ≤ (Un.un eI a_v))) && (decide ((Un.un eI a_v) ≤ (100 : Int)))))) then (.ex 1 []) else (V.feasible_numbers_r1 a_v))
def O.feasible_numbers (a_v : D) : Bool := (notl a_v && (notl a_v && ((O.is_integer a_v) && ((imp (!(!(V.is_integer a_v))) (Un.is eI a_v)) && (bif ((!(V.is_integer a_v)) || (!((decide ((3 : Int) ≤ (Un.un eI a_v))) && (decide ((Un.un eI a_v) ≤ (100 : Int)))))) then true else (O.feasible_numbers_r1 a_v))))))
def V.disp0 (f : Nat) (x0 : D) : Ex (List (Int × Int × Int)) := (bif Nat.beq f 11 then (V.feasible_numbers x0) else (.ex 0 []))
def O.disp0 (f : Nat) (x0 : D) : Bool := (bif Nat.beq f 11 then (O.feasible_numbers x0) else false)
def V.disp1 (f : Nat) (x0 : D) (x1 : D) : Ex D := (.ex 0 [])
def O.disp1 (f : Nat) (x0 : D) (x1 : D) : Bool := false
def V.disp2 (f : Nat) (x0 : D) (x1 : D) (x2 : D) : Ex D := (.ex 0 [])
def O.disp2 (f : Nat) (x0 : D) (x1 : D) (x2 : D) : Bool := false
def V.check_numbers_r1 (b_v : D) (b_k : D) (b_l : D) (b_m : D) : Ex Unit := (bif ((!((decide ((1 : Int) ≤ (Un.un eI b_k))) && (decide ((Un.un eI b_k) ≤ ((Un.un eI b_v) - (2 : Int)))))) || ((!((decide ((0 : Int) ≤ (Un.un eI b_l))) && (decide ((Un.un eI b_l) ≤ ((Un.un eI b_k) - (1 : Int)))))) || (!((decide ((0 : Int) ≤ (Un.un eI b_m))) && (decide ((Un.un eI b_m) ≤ (Un.un eI b_k))))))) then (.ex 1 []) else (.ok ()))
def O.check_numbers_r1 (b_v : D) (b_k : D) (b_l : D) (b_m : D) : Bool := (Un.is eI b_k && ((imp (decide ((1 : Int) ≤ (Un.un eI b_k))) (Un.is eI b_v)) && ((imp (!(!((decide ((1 : Int) ≤ (Un.un eI b_k))) && (decide ((Un.un eI b_k) ≤ ((Un.un eI b_v) - (2 : Int))))))) (Un.is eI b_l && ((imp (decide ((0 : Int) ≤ (Un.un eI b_l))) (Un.is eI b_k)) && (imp (!(!((decide ((0 : Int) ≤ (Un.un eI b_l))) && (decide ((Un.un eI b_l) ≤ ((Un.un eI b_k) - (1 : Int))))))) (Un.is eI b_m && (imp (decide ((0 : Int) ≤ (Un.un eI b_m))) (Un.is eI b_k))))))) && (bif ((!((decide ((1 : Int) ≤ (Un.un eI b_k))) && (decide ((Un.un eI b_k) ≤ ((Un.un eI b_v) - (2 : Int)))))) || ((!((decide ((0 : Int) ≤ (Un.un eI b_l))) && (decide ((Un.un eI b_l) ≤ ((Un.un eI b_k) - (1 : Int)))))) || (!((decide ((0 : Int) ≤ (Un.un eI b_m))) && (decide ((Un.un eI b_m) ≤ (Un.un eI b_k))))))) then true else true))))
def V.check_numbers (a_v : D) (a_k : D) (a_l : D) (a_m : D) : Ex Unit := (bif ((!(List.all [a_v, a_k, a_l, a_m] ((fun (y1 : D) => (V.is_integer y1))))) || (!((decide ((3 : Int) ≤ (Un.un eI a_v))) && (decide ((Un.un eI a_v) ≤ (400 : Int)))))) then (.ex 1 []) else (V.check_numbers_r1 a_v a_k a_l a_m))
def O.check_numbers (a_v : D) (a_k : D) (a_l : D) (a_m : D) : Bool := (notl a_v && (notl a_k && (notl a_l && (notl a_m && (notl a_v && (notl a_k && (notl a_l && (notl a_m && (szB (List.length [a_v, a_k, a_l, a_m]) && ((List.all [a_v, a_k, a_l, a_m] (fun (y1 : D) => (notl y1 && (notl y1 && (O.is_integer y1))))) && ((imp (!(!(List.all [a_v, a_k, a_l, a_m] ((fun (y1 : D) => (V.is_integer y1)))))) (Un.is eI a_v)) && (bif ((!(List.all [a_v, a_k, a_l, a_m] ((fun (y1 : D) => (V.is_integer y1))))) || (!((decide ((3 : Int) ≤ (Un.un eI a_v))) && (decide ((Un.un eI a_v) ≤ (400 : Int)))))) then true else (O.check_numbers_r1 a_v a_k a_l a_m)))))))))))))
def V.broken_condition (a_v : D) (a_k : D) (a_l : D) (a_m : D) : Ex (Option (List Nat)) := ((V.check_numbers a_v a_k a_l a_m).bind (fun _ => (.ok (V.broken_of (Un.un eI a_v) (Un.un eI a_k) (Un.un eI a_l) (Un.un eI a_m)))))
def O.broken_condition (a_v : D) (a_k : D) (a_l : D) (a_m : D) : Bool := (notl a_v && (notl a_k && (notl a_l && (notl a_m && (notl a_v && (notl a_k && (notl a_l && (notl a_m && ((O.check_numbers a_v a_k a_l a_m) && (Ex.all (V.check_numbers a_v a_k a_l a_m) (fun _ => (Un.is eI a_v && (Un.is eI a_k && (Un.is eI a_l && (Un.is eI a_m && (O.broken_of (Un.un eI a_v) (Un.un eI a_k) (Un.un eI a_l) (Un.un eI a_m)))))))))))))))))
def V.web_eigenvalues_r3 (b_v : D) (b_k : D) (b_l : D) (b_m : D) : Ex ((Int × Int) × (Int × Int)) := (.ok (((V.values_of (Un.un eI b_v) (Un.un eI b_k) (Un.un eI b_l) (Un.un eI b_m)).1, (V.values_of (Un.un eI b_v) (Un.un eI b_k) (Un.un eI b_l) (Un.un eI b_m)).2.1), ((V.values_of (Un.un eI b_v) (Un.un eI b_k) (Un.un eI b_l) (Un.un eI b_m)).2.2.1, (V.values_of (Un.un eI b_v) (Un.un eI b_k) (Un.un eI b_l) (Un.un eI b_m)).2.2.2)))
def O.web_eigenvalues_r3 (b_v : D) (b_k : D) (b_l : D) (b_m : D) : Bool := (Un.is eI b_v && (Un.is eI b_k && (Un.is eI b_l && (Un.is eI b_m && ((O.values_of (Un.un eI b_v) (Un.un eI b_k) (Un.un eI b_l) (Un.un eI b_m)) && true)))))
def V.web_eigenvalues_r2 (b_v : D) (b_k : D) (b_l : D) (b_m : D) : Ex ((Int × Int) × (Int × Int)) := (bif (Option.isNone ((V.spread_of (Un.un eI b_v) (Un.un eI b_k) (Un.un eI b_l) (Un.un eI b_m)).1)) then (.ex 2 [eS S_half]) else (V.web_eigenvalues_r3 b_v b_k b_l b_m))
def O.web_eigenvalues_r2 (b_v : D) (b_k : D) (b_l : D) (b_m : D) : Bool := (Un.is eI b_v && (Un.is eI b_k && (Un.is eI b_l && (Un.is eI b_m && ((O.spread_of (Un.un eI b_v) (Un.un eI b_k) (Un.un eI b_l) (Un.un eI b_m)) && (bif (Option.isNone ((V.spread_of (Un.un eI b_v) (Un.un eI b_k) (Un.un eI b_l) (Un.un eI b_m)).1)) then true else (O.web_eigenvalues_r3 b_v b_k b_l b_m)))))))
def V.web_eigenvalues_r1 (b_v : D) (b_k : D) (b_l : D) (b_m : D) : Ex ((Int × Int) × (Int × Int)) := (bif (inO [S_count, S_whole] (V.broken_of (Un.un eI b_v) (Un.un eI b_k) (Un.un eI b_l) (Un.un eI b_m))) then (.ex 2 [eS S_broken]) else (V.web_eigenvalues_r2 b_v b_k b_l b_m))
def O.web_eigenvalues_r1 (b_v : D) (b_k : D) (b_l : D) (b_m : D) : Bool := (Un.is eI b_v && (Un.is eI b_k && (Un.is eI b_l && (Un.is eI b_m && ((O.broken_of (Un.un eI b_v) (Un.un eI b_k) (Un.un eI b_l) (Un.un eI b_m)) && (bif (inO [S_count, S_whole] (V.broken_of (Un.un eI b_v) (Un.un eI b_k) (Un.un eI b_l) (Un.un eI b_m))) then true else (O.web_eigenvalues_r2 b_v b_k b_l b_m)))))))
def V.web_eigenvalues (a_v : D) (a_k : D) (a_l : D) (a_m : D) : Ex ((Int × Int) × (Int × Int)) := ((V.check_numbers a_v a_k a_l a_m).bind (fun _ => (V.web_eigenvalues_r1 a_v a_k a_l a_m)))
def O.web_eigenvalues (a_v : D) (a_k : D) (a_l : D) (a_m : D) : Bool := (notl a_v && (notl a_k && (notl a_l && (notl a_m && (notl a_v && (notl a_k && (notl a_l && (notl a_m && ((O.check_numbers a_v a_k a_l a_m) && (Ex.all (V.check_numbers a_v a_k a_l a_m) (fun _ => (O.web_eigenvalues_r1 a_v a_k a_l a_m))))))))))))
def V.disp3 (f : Nat) (x0 : D) (x1 : D) (x2 : D) (x3 : D) : Ex D := (bif Nat.beq f 9 then (Ex.mapE (eO eS) (V.broken_condition x0 x1 x2 x3)) else (bif Nat.beq f 10 then (Ex.mapE (eP2 (eP2 eI eI) (eP2 eI eI)) (V.web_eigenvalues x0 x1 x2 x3)) else (.ex 0 [])))
def O.disp3 (f : Nat) (x0 : D) (x1 : D) (x2 : D) (x3 : D) : Bool := (bif Nat.beq f 9 then (O.broken_condition x0 x1 x2 x3) else (bif Nat.beq f 10 then (O.web_eigenvalues x0 x1 x2 x3) else false))
def V.disp4 (f : Nat) (x0 : D) (x1 : D) (x2 : D) (x3 : D) (x4 : D) : Ex D := (.ex 0 [])
def O.disp4 (f : Nat) (x0 : D) (x1 : D) (x2 : D) (x3 : D) (x4 : D) : Bool := false
def V.l_told_r4 (b_f : Nat) (b_given : List D) : Ex ((List Nat) × D) := (bif (decide ((List.length b_given : Int) = (4 : Int))) then (Ex.bind (V.disp3 b_f (getI b_given (0 : Int)) (getI b_given (1 : Int)) (getI b_given (2 : Int)) (getI b_given (3 : Int))) (fun z10 => (.ok (S_told, z10)))) else (Ex.bind (V.disp4 b_f (getI b_given (0 : Int)) (getI b_given (1 : Int)) (getI b_given (2 : Int)) (getI b_given (3 : Int)) (getI b_given (4 : Int))) (fun z13 => (.ok (S_told, z13)))))
def O.l_told_r4 (b_f : Nat) (b_given : List D) : Bool := (bif (decide ((List.length b_given : Int) = (4 : Int))) then (ixB b_given (0 : Int) && (ixB b_given (1 : Int) && (ixB b_given (2 : Int) && (ixB b_given (3 : Int) && (notl (getI b_given (0 : Int)) && (notl (getI b_given (1 : Int)) && (notl (getI b_given (2 : Int)) && (notl (getI b_given (3 : Int)) && ((O.disp3 b_f (getI b_given (0 : Int)) (getI b_given (1 : Int)) (getI b_given (2 : Int)) (getI b_given (3 : Int))) && (Ex.all (V.disp3 b_f (getI b_given (0 : Int)) (getI b_given (1 : Int)) (getI b_given (2 : Int)) (getI b_given (3 : Int))) (fun z10 => (notl z10)))))))))))) else (ixB b_given (0 : Int) && (ixB b_given (1 : Int) && (ixB b_given (2 : Int) && (ixB b_given (3 : Int) && (ixB b_given (4 : Int) && (notl (getI b_given (0 : Int)) && (notl (getI b_given (1 : Int)) && (notl (getI b_given (2 : Int)) && (notl (getI b_given (3 : Int)) && (notl (getI b_given (4 : Int)) && ((O.disp4 b_f (getI b_given (0 : Int)) (getI b_given (1 : Int)) (getI b_given (2 : Int)) (getI b_given (3 : Int)) (getI b_given (4 : Int))) && (Ex.all (V.disp4 b_f (getI b_given (0 : Int)) (getI b_given (1 : Int)) (getI b_given (2 : Int)) (getI b_given (3 : Int)) (getI b_given (4 : Int))) (fun z13 => (notl z13)))))))))))))))
def V.l_told_r3 (b_f : Nat) (b_given : List D) : Ex ((List Nat) × D) := (bif (decide ((List.length b_given : Int) = (3 : Int))) then (Ex.bind (V.disp2 b_f (getI b_given (0 : Int)) (getI b_given (1 : Int)) (getI b_given (2 : Int))) (fun z7 => (.ok (S_told, z7)))) else (V.l_told_r4 b_f b_given))
def O.l_told_r3 (b_f : Nat) (b_given : List D) : Bool := (bif (decide ((List.length b_given : Int) = (3 : Int))) then (ixB b_given (0 : Int) && (ixB b_given (1 : Int) && (ixB b_given (2 : Int) && (notl (getI b_given (0 : Int)) && (notl (getI b_given (1 : Int)) && (notl (getI b_given (2 : Int)) && ((O.disp2 b_f (getI b_given (0 : Int)) (getI b_given (1 : Int)) (getI b_given (2 : Int))) && (Ex.all (V.disp2 b_f (getI b_given (0 : Int)) (getI b_given (1 : Int)) (getI b_given (2 : Int))) (fun z7 => (notl z7)))))))))) else (O.l_told_r4 b_f b_given))
def V.l_told_r2 (b_f : Nat) (b_given : List D) : Ex ((List Nat) × D) := (bif (decide ((List.length b_given : Int) = (2 : Int))) then (Ex.bind (V.disp1 b_f (getI b_given (0 : Int)) (getI b_given (1 : Int))) (fun z4 => (.ok (S_told, z4)))) else (V.l_told_r3 b_f b_given))
def O.l_told_r2 (b_f : Nat) (b_given : List D) : Bool := (bif (decide ((List.length b_given : Int) = (2 : Int))) then (ixB b_given (0 : Int) && (ixB b_given (1 : Int) && (notl (getI b_given (0 : Int)) && (notl (getI b_given (1 : Int)) && ((O.disp1 b_f (getI b_given (0 : Int)) (getI b_given (1 : Int))) && (Ex.all (V.disp1 b_f (getI b_given (0 : Int)) (getI b_given (1 : Int))) (fun z4 => (notl z4)))))))) else (O.l_told_r3 b_f b_given))
def V.l_told_t1 (b_f : Nat) (b_given : List D) : Ex ((List Nat) × D) := (bif (decide ((List.length b_given : Int) = (1 : Int))) then (Ex.bind (V.disp0 b_f (getI b_given (0 : Int))) (fun z1 => (.ok (S_told, ((eT (eP3 eI eI eI)) z1))))) else (V.l_told_r2 b_f b_given))
def O.l_told_t1 (b_f : Nat) (b_given : List D) : Bool := (bif (decide ((List.length b_given : Int) = (1 : Int))) then (ixB b_given (0 : Int) && (notl (getI b_given (0 : Int)) && (O.disp0 b_f (getI b_given (0 : Int))))) else (O.l_told_r2 b_f b_given))
def V.l_told (a_f : Nat) (a_given : List D) : (List Nat) × D := (Ex.els (V.l_told_t1 a_f a_given) (fun c p => (bif Nat.beq c 1 then (S_malformed, (.non : D)) else (bif Nat.beq c 2 then (S_raised, (Un.un eD (p.getD 0 .non))) else default))))
def O.l_told (a_f : Nat) (a_given : List D) : Bool := ((O.l_told_t1 a_f a_given) && (Ex.exs (V.l_told_t1 a_f a_given) (fun c p => (bif Nat.beq c 1 then true else (bif Nat.beq c 2 then tryB eD p else false)))))
def V.l_tells (a_f : Nat) (a_given : List D) (a_due : D) : Bool := (V.l_is_told (V.l_told a_f a_given) a_due)
def O.l_tells (a_f : Nat) (a_given : List D) (a_due : D) : Bool := (notl a_due && ((O.l_told a_f a_given) && (notl a_due && (O.l_is_told (V.l_told a_f a_given) a_due))))
def V.l_is_raised (a_pair : (List Nat) × D) (a_reason : List Nat) : Bool := (bif ((a_reason == S_malformed)) then ((a_pair.1 == S_malformed)) else (((a_pair.1 == S_raised)) && (V.l_same a_pair.2 (eS a_reason))))
def O.l_is_raised (a_pair : (List Nat) × D) (a_reason : List Nat) : Bool := (pdB (eS a_reason) && (pdB (eS S_malformed) && (bif ((a_reason == S_malformed)) then (pdB (eS a_pair.1) && (pdB (eS S_malformed))) else (pdB (eS a_pair.1) && (pdB (eS S_raised) && (imp ((a_pair.1 == S_raised)) (notl a_pair.2 && (O.l_same a_pair.2 (eS a_reason)))))))))
def V.l_raises (a_f : Nat) (a_given : List D) (a_reason : List Nat) : Bool := (V.l_is_raised (V.l_told a_f a_given) a_reason)
def O.l_raises (a_f : Nat) (a_given : List D) (a_reason : List Nat) : Bool := ((O.l_told a_f a_given) && (O.l_is_raised (V.l_told a_f a_given) a_reason))
def V.l_holds_k24_r6 (b_given : Int × Int × Int × Int) (b_v : Int) (b_k : Int) (b_l : Int) (b_m : Int) (b_f : Option (Int × Int)) (b_g : Option (Int × Int)) (b_r : Int) (b_s : Int) : Bool := (bif ((!decide ((b_r + b_s) = (b_l - b_m))) || ((!decide ((b_r * b_s) = (b_m - b_k))) || ((!decide (((getO b_f).1 + (getO b_g).1) = (b_v - (1 : Int)))) || (!decide (((b_k + ((getO b_f).1 * b_r)) + ((getO b_g).1 * b_s)) = (0 : Int)))))) then false else (V.l_tells (10 : Nat) [(eI b_given.1), (eI b_given.2.1), (eI b_given.2.2.1), (eI b_given.2.2.2)] ((eP2 (eP2 eI eI) (eP2 eI eI)) ((b_r, (getO b_f).1), (b_s, (getO b_g).1)))))
def O.l_holds_k24_r6 (b_given : Int × Int × Int × Int) (b_v : Int) (b_k : Int) (b_l : Int) (b_m : Int) (b_f : Option (Int × Int)) (b_g : Option (Int × Int)) (b_r : Int) (b_s : Int) : Bool := ((imp (!(!decide ((b_r + b_s) = (b_l - b_m)))) (fitB b_r b_s && (imp (!(!decide ((b_r * b_s) = (b_m - b_k)))) (Option.isSome b_f && (Option.isSome b_g && (imp (!(!decide (((getO b_f).1 + (getO b_g).1) = (b_v - (1 : Int))))) (Option.isSome b_f && (fitB ((getO b_f).1) b_r && (Option.isSome b_g && (fitB ((getO b_g).1) b_s)))))))))) && (bif ((!decide ((b_r + b_s) = (b_l - b_m))) || ((!decide ((b_r * b_s) = (b_m - b_k))) || ((!decide (((getO b_f).1 + (getO b_g).1) = (b_v - (1 : Int)))) || (!decide (((b_k + ((getO b_f).1 * b_r)) + ((getO b_g).1 * b_s)) = (0 : Int)))))) then true else (Option.isSome b_f && (Option.isSome b_g && (O.l_tells (10 : Nat) [(eI b_given.1), (eI b_given.2.1), (eI b_given.2.2.1), (eI b_given.2.2.2)] ((eP2 (eP2 eI eI) (eP2 eI eI)) ((b_r, (getO b_f).1), (b_s, (getO b_g).1))))))))
def V.l_holds_k24_r5 (b_given : Int × Int × Int × Int) (b_v : Int) (b_k : Int) (b_l : Int) (b_m : Int) (b_q : Option Int) (b_f : Option (Int × Int)) (b_g : Option (Int × Int)) : Bool := (V.l_holds_k24_r6 b_given b_v b_k b_l b_m b_f b_g (Int.fdiv ((b_l - b_m) + (getO b_q)) (2 : Int)) (Int.fdiv ((b_l - b_m) - (getO b_q)) (2 : Int)))
def O.l_holds_k24_r5 (b_given : Int × Int × Int × Int) (b_v : Int) (b_k : Int) (b_l : Int) (b_m : Int) (b_q : Option Int) (b_f : Option (Int × Int)) (b_g : Option (Int × Int)) : Bool := (Option.isSome b_q && (Option.isSome b_q && (O.l_holds_k24_r6 b_given b_v b_k b_l b_m b_f b_g (Int.fdiv ((b_l - b_m) + (getO b_q)) (2 : Int)) (Int.fdiv ((b_l - b_m) - (getO b_q)) (2 : Int)))))
def V.l_holds_k24_r4 (b_given : Int × Int × Int × Int) (b_v : Int) (b_k : Int) (b_l : Int) (b_m : Int) (b_q : Option Int) (b_f : Option (Int × Int)) (b_g : Option (Int × Int)) : Bool := (bif (Option.isNone b_q) then (V.l_raises (10 : Nat) [(eI b_given.1), (eI b_given.2.1), (eI b_given.2.2.1), (eI b_given.2.2.2)] S_half) else (V.l_holds_k24_r5 b_given b_v b_k b_l b_m b_q b_f b_g))
def O.l_holds_k24_r4 (b_given : Int × Int × Int × Int) (b_v : Int) (b_k : Int) (b_l : Int) (b_m : Int) (b_q : Option Int) (b_f : Option (Int × Int)) (b_g : Option (Int × Int)) : Bool := (bif (Option.isNone b_q) then (O.l_raises (10 : Nat) [(eI b_given.1), (eI b_given.2.1), (eI b_given.2.2.1), (eI b_given.2.2.2)] S_half) else (O.l_holds_k24_r5 b_given b_v b_k b_l b_m b_q b_f b_g))
def V.l_holds_k24_r3 (b_given : Int × Int × Int × Int) (b_due : Option (List Nat)) (b_v : Int) (b_k : Int) (b_l : Int) (b_m : Int) (b_q : Option Int) (b_f : Option (Int × Int)) (b_g : Option (Int × Int)) : Bool := (bif (inO [S_count, S_whole] b_due) then (V.l_raises (10 : Nat) [(eI b_given.1), (eI b_given.2.1), (eI b_given.2.2.1), (eI b_given.2.2.2)] S_broken) else (V.l_holds_k24_r4 b_given b_v b_k b_l b_m b_q b_f b_g))
def O.l_holds_k24_r3 (b_given : Int × Int × Int × Int) (b_due : Option (List Nat)) (b_v : Int) (b_k : Int) (b_l : Int) (b_m : Int) (b_q : Option Int) (b_f : Option (Int × Int)) (b_g : Option (Int × Int)) : Bool := (bif (inO [S_count, S_whole] b_due) then (O.l_raises (10 : Nat) [(eI b_given.1), (eI b_given.2.1), (eI b_given.2.2.1), (eI b_given.2.2.2)] S_broken) else (O.l_holds_k24_r4 b_given b_v b_k b_l b_m b_q b_f b_g))
def V.l_holds_k24_r2 (b_given : Int × Int × Int × Int) (b_due : Option (List Nat)) (b_v : Int) (b_k : Int) (b_l : Int) (b_m : Int) : Bool := (V.l_holds_k24_r3 b_given b_due b_v b_k b_l b_m ((V.l_parts b_v b_k b_l b_m).2.2.1) ((V.l_parts b_v b_k b_l b_m).2.2.2.1) ((V.l_parts b_v b_k b_l b_m).2.2.2.2))
def O.l_holds_k24_r2 (b_given : Int × Int × Int × Int) (b_due : Option (List Nat)) (b_v : Int) (b_k : Int) (b_l : Int) (b_m : Int) : Bool := ((O.l_parts b_v b_k b_l b_m) && (O.l_holds_k24_r3 b_given b_due b_v b_k b_l b_m ((V.l_parts b_v b_k b_l b_m).2.2.1) ((V.l_parts b_v b_k b_l b_m).2.2.2.1) ((V.l_parts b_v b_k b_l b_m).2.2.2.2)))
def V.l_holds_k24_r1 (b_given : Int × Int × Int × Int) (b_due : Option (List Nat)) (b_v : Int) (b_k : Int) (b_l : Int) (b_m : Int) : Bool := (bif (!(V.l_tells (9 : Nat) [(eI b_given.1), (eI b_given.2.1), (eI b_given.2.2.1), (eI b_given.2.2.2)] ((eO eS) b_due))) then false else (V.l_holds_k24_r2 b_given b_due b_v b_k b_l b_m))
def O.l_holds_k24_r1 (b_given : Int × Int × Int × Int) (b_due : Option (List Nat)) (b_v : Int) (b_k : Int) (b_l : Int) (b_m : Int) : Bool := ((O.l_tells (9 : Nat) [(eI b_given.1), (eI b_given.2.1), (eI b_given.2.2.1), (eI b_given.2.2.2)] ((eO eS) b_due)) && (bif (!(V.l_tells (9 : Nat) [(eI b_given.1), (eI b_given.2.1), (eI b_given.2.2.1), (eI b_given.2.2.2)] ((eO eS) b_due))) then true else (O.l_holds_k24_r2 b_given b_due b_v b_k b_l b_m)))
def V.l_holds_k24 (a_given : Int × Int × Int × Int) : Bool := (V.l_holds_k24_r1 a_given (V.l_broken a_given.1 a_given.2.1 a_given.2.2.1 a_given.2.2.2) a_given.1 a_given.2.1 a_given.2.2.1 a_given.2.2.2)
def O.l_holds_k24 (a_given : Int × Int × Int × Int) : Bool := ((O.l_broken a_given.1 a_given.2.1 a_given.2.2.1 a_given.2.2.2) && (O.l_holds_k24_r1 a_given (V.l_broken a_given.1 a_given.2.1 a_given.2.2.1 a_given.2.2.2) a_given.1 a_given.2.1 a_given.2.2.1 a_given.2.2.2))
def V.l_feasible_r3 (b_v : Int) (b_k : Int) (b_found : List (Int × Int × Int)) (b_l : Int) (b_m : Int) : (List (Int × Int × Int)) := (bif (((decide ((1 : Int) ≤ b_m)) && (decide (b_m < b_k))) && (Option.isNone (V.l_broken b_v b_k b_l b_m))) then b_found ++ [(b_k, b_l, b_m)] else b_found)
def O.l_feasible_r3 (b_v : Int) (b_k : Int) (b_found : List (Int × Int × Int)) (b_l : Int) (b_m : Int) : Bool := ((imp ((decide ((1 : Int) ≤ b_m)) && (decide (b_m < b_k))) (O.l_broken b_v b_k b_l b_m)) && (bif (((decide ((1 : Int) ≤ b_m)) && (decide (b_m < b_k))) && (Option.isNone (V.l_broken b_v b_k b_l b_m))) then (szB (List.length b_found + 1) && true) else true))
def V.l_feasible_l2 (b_v : Int) (b_k : Int) (q : (List (Int × Int × Int))) (x : Int) : (List (Int × Int × Int)) := (V.l_feasible_r3 b_v b_k q x (Int.fdiv (b_k * ((b_k - x) - (1 : Int))) ((b_v - b_k) - (1 : Int))))
def O.l_feasible_l2 (b_v : Int) (b_k : Int) (q : (List (Int × Int × Int))) (x : Int) : Bool := (fitB b_k ((b_k - x) - (1 : Int)) && (fdB ((b_v - b_k) - (1 : Int)) && (O.l_feasible_r3 b_v b_k q x (Int.fdiv (b_k * ((b_k - x) - (1 : Int))) ((b_v - b_k) - (1 : Int))))))
def V.l_feasible_l1 (b_v : Int) (q : (List (Int × Int × Int))) (x : Int) : (List (Int × Int × Int)) := (List.foldl (V.l_feasible_l2 b_v x) q (rI (0 : Int) x))
def O.l_feasible_l1 (b_v : Int) (q : (List (Int × Int × Int))) (x : Int) : Bool := (rgB (0 : Int) x && ((okF (V.l_feasible_l2 b_v x) (O.l_feasible_l2 b_v x) (rI (0 : Int) x) q) && true))
def V.l_feasible (a_v : Int) : List (Int × Int × Int) := (List.foldl (V.l_feasible_l1 a_v) [] (rI (1 : Int) ((Int.fdiv (a_v - (1 : Int)) (2 : Int)) + (1 : Int))))
def O.l_feasible (a_v : Int) : Bool := (rgB (1 : Int) ((Int.fdiv (a_v - (1 : Int)) (2 : Int)) + (1 : Int)) && ((okF (V.l_feasible_l1 a_v) (O.l_feasible_l1 a_v) (rI (1 : Int) ((Int.fdiv (a_v - (1 : Int)) (2 : Int)) + (1 : Int))) []) && true))
def V.law_k24_l3  (q : S2) (x : Int × Int × Int × Int) : Stp S2 (Stp S2 Bool) := (bif (((decide ((1 : Int) ≤ x.2.1)) && (decide (x.2.1 ≤ (x.1 - (2 : Int))))) && (((decide ((0 : Int) ≤ x.2.2.1)) && (decide (x.2.2.1 < x.2.1))) && (((decide ((0 : Int) ≤ x.2.2.2)) && (decide (x.2.2.2 ≤ x.2.1))) && (!(V.l_holds_k24 x))))) then (.rt (.rt false)) else (.nx q))
def O.law_k24_l3  (q : S2) (x : Int × Int × Int × Int) : Bool := ((imp ((decide ((1 : Int) ≤ x.2.1)) && (decide (x.2.1 ≤ (x.1 - (2 : Int))))) (imp ((decide ((0 : Int) ≤ x.2.2.1)) && (decide (x.2.2.1 < x.2.1))) (imp ((decide ((0 : Int) ≤ x.2.2.2)) && (decide (x.2.2.2 ≤ x.2.1))) (O.l_holds_k24 x)))) && (bif (((decide ((1 : Int) ≤ x.2.1)) && (decide (x.2.1 ≤ (x.1 - (2 : Int))))) && (((decide ((0 : Int) ≤ x.2.2.1)) && (decide (x.2.2.1 < x.2.1))) && (((decide ((0 : Int) ≤ x.2.2.2)) && (decide (x.2.2.2 ≤ x.2.1))) && (!(V.l_holds_k24 x))))) then true else true))
def V.law_k24_r2 (b_row : Int × Int × Int × Int) (sv : S2) : Stp S2 Bool := (Stp.els (forR (V.law_k24_l3) [((b_row.1 + (1 : Int)), b_row.2.1, b_row.2.2.1, b_row.2.2.2), (b_row.1, b_row.2.1, b_row.2.2.1, (max (0 : Int) (b_row.2.2.2 - (1 : Int)))), (b_row.1, b_row.2.1, (max (0 : Int) (b_row.2.2.1 - (1 : Int))), b_row.2.2.2), (b_row.1, ((b_row.1 - b_row.2.1) - (1 : Int)), (((b_row.1 - ((2 : Int) * b_row.2.1)) + b_row.2.2.2) - (2 : Int)), ((b_row.1 - ((2 : Int) * b_row.2.1)) + b_row.2.2.1))] sv) (fun q => (.nx q)))
def O.law_k24_r2 (b_row : Int × Int × Int × Int) (sv : S2) : Bool := (fitB (2 : Int) b_row.2.1 && (fitB (2 : Int) b_row.2.1 && ((okR (V.law_k24_l3) (O.law_k24_l3) [((b_row.1 + (1 : Int)), b_row.2.1, b_row.2.2.1, b_row.2.2.2), (b_row.1, b_row.2.1, b_row.2.2.1, (max (0 : Int) (b_row.2.2.2 - (1 : Int)))), (b_row.1, b_row.2.1, (max (0 : Int) (b_row.2.2.1 - (1 : Int))), b_row.2.2.2), (b_row.1, ((b_row.1 - b_row.2.1) - (1 : Int)), (((b_row.1 - ((2 : Int) * b_row.2.1)) + b_row.2.2.2) - (2 : Int)), ((b_row.1 - ((2 : Int) * b_row.2.1)) + b_row.2.2.1))] sv) && (Stp.all (forR (V.law_k24_l3) [((b_row.1 + (1 : Int)), b_row.2.1, b_row.2.2.1, b_row.2.2.2), (b_row.1, b_row.2.1, b_row.2.2.1, (max (0 : Int) (b_row.2.2.2 - (1 : Int)))), (b_row.1, b_row.2.1, (max (0 : Int) (b_row.2.2.1 - (1 : Int))), b_row.2.2.2), (b_row.1, ((b_row.1 - b_row.2.1) - (1 : Int)), (((b_row.1 - ((2 : Int) * b_row.2.1)) + b_row.2.2.2) - (2 : Int)), ((b_row.1 - ((2 : Int) * b_row.2.1)) + b_row.2.2.1))] sv) (fun q => true)))))
def V.law_k24_l1  (q : S2) (x : Int × Int × Int × Int) : Stp S2 Bool := (bif (!(V.l_holds_k24 x)) then (.rt false) else (V.law_k24_r2 x q))
def O.law_k24_l1  (q : S2) (x : Int × Int × Int × Int) : Bool := ((O.l_holds_k24 x) && (bif (!(V.l_holds_k24 x)) then true else (O.law_k24_r2 x q)))
def V.law_k24_r8 (b_v : Int) (b_k : Int) (b_l : Int) (b_m : Int) (sv : S2) : Stp S2 Bool := (bif (((decide (b_m ≤ b_k)) && (!(V.l_holds_k24 (b_v, b_k, b_l, b_m)))) || (!(V.l_holds_k24 (b_v, b_k, b_l, (V.l_take sv (b_k + (1 : Int))).1)))) then (.rt false) else (.nx (bif ((decide (b_m ≤ b_k)) && (!(V.l_holds_k24 (b_v, b_k, b_l, b_m)))) then sv else (V.l_take sv (b_k + (1 : Int))).2)))
def O.law_k24_r8 (b_v : Int) (b_k : Int) (b_l : Int) (b_m : Int) (sv : S2) : Bool := ((imp (decide (b_m ≤ b_k)) (O.l_holds_k24 (b_v, b_k, b_l, b_m))) && ((imp (!((decide (b_m ≤ b_k)) && (!(V.l_holds_k24 (b_v, b_k, b_l, b_m))))) ((O.l_take sv (b_k + (1 : Int))) && (O.l_holds_k24 (b_v, b_k, b_l, (V.l_take sv (b_k + (1 : Int))).1)))) && (bif (((decide (b_m ≤ b_k)) && (!(V.l_holds_k24 (b_v, b_k, b_l, b_m)))) || (!(V.l_holds_k24 (b_v, b_k, b_l, (V.l_take sv (b_k + (1 : Int))).1)))) then true else true)))
def V.law_k24_r7 (b_v : Int) (b_k : Int) (sv : S2) : Stp S2 Bool := (V.law_k24_r8 b_v b_k ((V.l_take sv b_k).1) (Int.fdiv (b_k * ((b_k - (V.l_take sv b_k).1) - (1 : Int))) ((b_v - b_k) - (1 : Int))) ((V.l_take sv b_k).2))
def O.law_k24_r7 (b_v : Int) (b_k : Int) (sv : S2) : Bool := ((O.l_take sv b_k) && (fitB b_k ((b_k - (V.l_take sv b_k).1) - (1 : Int)) && (fdB ((b_v - b_k) - (1 : Int)) && (O.law_k24_r8 b_v b_k ((V.l_take sv b_k).1) (Int.fdiv (b_k * ((b_k - (V.l_take sv b_k).1) - (1 : Int))) ((b_v - b_k) - (1 : Int))) ((V.l_take sv b_k).2)))))
def V.law_k24_r6 (b_v : Int) (sv : S2) : Stp S2 Bool := (V.law_k24_r7 b_v ((1 : Int) + (V.l_take sv (b_v - (2 : Int))).1) ((V.l_take sv (b_v - (2 : Int))).2))
def O.law_k24_r6 (b_v : Int) (sv : S2) : Bool := ((O.l_take sv (b_v - (2 : Int))) && (O.law_k24_r7 b_v ((1 : Int) + (V.l_take sv (b_v - (2 : Int))).1) ((V.l_take sv (b_v - (2 : Int))).2)))
def V.law_k24_l5  (q : S2) (x : Int) : Stp S2 Bool := (V.law_k24_r6 ((3 : Int) + (V.l_take ((V.l_take q (2 : Int)).2) (getI [(20 : Int), (398 : Int)] ((V.l_take q (2 : Int)).1))).1) ((V.l_take ((V.l_take q (2 : Int)).2) (getI [(20 : Int), (398 : Int)] ((V.l_take q (2 : Int)).1))).2))
def O.law_k24_l5  (q : S2) (x : Int) : Bool := ((O.l_take q (2 : Int)) && (ixB [(20 : Int), (398 : Int)] ((V.l_take q (2 : Int)).1) && ((O.l_take ((V.l_take q (2 : Int)).2) (getI [(20 : Int), (398 : Int)] ((V.l_take q (2 : Int)).1))) && (O.law_k24_r6 ((3 : Int) + (V.l_take ((V.l_take q (2 : Int)).2) (getI [(20 : Int), (398 : Int)] ((V.l_take q (2 : Int)).1))).1) ((V.l_take ((V.l_take q (2 : Int)).2) (getI [(20 : Int), (398 : Int)] ((V.l_take q (2 : Int)).1))).2)))))
def V.law_k24_l10  (q : S2) (x : Int) : Stp S2 Bool := (bif (!(V.l_tells (11 : Nat) [(eI x)] ((eT (eP3 eI eI eI)) (V.l_feasible x)))) then (.rt false) else (.nx q))
def O.law_k24_l10  (q : S2) (x : Int) : Bool := ((O.l_feasible x) && ((O.l_tells (11 : Nat) [(eI x)] ((eT (eP3 eI eI eI)) (V.l_feasible x))) && (bif (!(V.l_tells (11 : Nat) [(eI x)] ((eT (eP3 eI eI eI)) (V.l_feasible x)))) then true else true)))
def V.law_k24_l14  (q : S2) (x : D) : Stp S2 (Stp S2 Bool) := (bif ((!(V.l_raises (9 : Nat) (Un.un (eT eD) x) S_malformed)) || (!(V.l_raises (10 : Nat) (Un.un (eT eD) x) S_malformed))) then (.rt (.rt false)) else (.nx q))
def O.law_k24_l14  (q : S2) (x : D) : Bool := (notl x && (Un.is (eT eD) x && ((O.l_raises (9 : Nat) (Un.un (eT eD) x) S_malformed) && ((imp (!(!(V.l_raises (9 : Nat) (Un.un (eT eD) x) S_malformed))) (Un.is (eT eD) x && (O.l_raises (10 : Nat) (Un.un (eT eD) x) S_malformed))) && (bif ((!(V.l_raises (9 : Nat) (Un.un (eT eD) x) S_malformed)) || (!(V.l_raises (10 : Nat) (Un.un (eT eD) x) S_malformed))) then true else true)))))
def V.law_k24_r13 (b_bad : D) (sv : S2) : Stp S2 Bool := (Stp.els (forR (V.law_k24_l14) [((eP4 eD eI eI eI) (b_bad, (3 : Int), (0 : Int), (1 : Int))), ((eP4 eI eD eI eI) ((10 : Int), b_bad, (0 : Int), (1 : Int))), ((eP4 eI eI eD eI) ((10 : Int), (3 : Int), b_bad, (1 : Int))), ((eP4 eI eI eI eD) ((10 : Int), (3 : Int), (0 : Int), b_bad))] sv) (fun q => (.nx q)))
def O.law_k24_r13 (b_bad : D) (sv : S2) : Bool := (notl b_bad && (notl b_bad && (notl b_bad && (notl b_bad && ((okR (V.law_k24_l14) (O.law_k24_l14) [((eP4 eD eI eI eI) (b_bad, (3 : Int), (0 : Int), (1 : Int))), ((eP4 eI eD eI eI) ((10 : Int), b_bad, (0 : Int), (1 : Int))), ((eP4 eI eI eD eI) ((10 : Int), (3 : Int), b_bad, (1 : Int))), ((eP4 eI eI eI eD) ((10 : Int), (3 : Int), (0 : Int), b_bad))] sv) && (Stp.all (forR (V.law_k24_l14) [((eP4 eD eI eI eI) (b_bad, (3 : Int), (0 : Int), (1 : Int))), ((eP4 eI eD eI eI) ((10 : Int), b_bad, (0 : Int), (1 : Int))), ((eP4 eI eI eD eI) ((10 : Int), (3 : Int), b_bad, (1 : Int))), ((eP4 eI eI eI eD) ((10 : Int), (3 : Int), (0 : Int), b_bad))] sv) (fun q => true)))))))
def V.law_k24_l12  (q : S2) (x : D) : Stp S2 Bool := (bif (!(V.l_raises (11 : Nat) [x] S_malformed)) then (.rt false) else (V.law_k24_r13 x q))
def O.law_k24_l12  (q : S2) (x : D) : Bool := (notl x && (notl x && ((O.l_raises (11 : Nat) [x] S_malformed) && (bif (!(V.l_raises (11 : Nat) [x] S_malformed)) then true else (O.law_k24_r13 x q)))))
def V.law_k24_l16  (q : S2) (x : Int × Int × Int × Int) : Stp S2 Bool := (bif ((!(V.l_raises (9 : Nat) [(eI x.1), (eI x.2.1), (eI x.2.2.1), (eI x.2.2.2)] S_malformed)) || (!(V.l_raises (10 : Nat) [(eI x.1), (eI x.2.1), (eI x.2.2.1), (eI x.2.2.2)] S_malformed))) then (.rt false) else (.nx q))
def O.law_k24_l16  (q : S2) (x : Int × Int × Int × Int) : Bool := ((O.l_raises (9 : Nat) [(eI x.1), (eI x.2.1), (eI x.2.2.1), (eI x.2.2.2)] S_malformed) && ((imp (!(!(V.l_raises (9 : Nat) [(eI x.1), (eI x.2.1), (eI x.2.2.1), (eI x.2.2.2)] S_malformed))) (O.l_raises (10 : Nat) [(eI x.1), (eI x.2.1), (eI x.2.2.1), (eI x.2.2.2)] S_malformed)) && (bif ((!(V.l_raises (9 : Nat) [(eI x.1), (eI x.2.1), (eI x.2.2.1), (eI x.2.2.2)] S_malformed)) || (!(V.l_raises (10 : Nat) [(eI x.1), (eI x.2.1), (eI x.2.2.1), (eI x.2.2.2)] S_malformed))) then true else true)))
def V.law_k24_r15 (sv : S2) : Bool := (Stp.els (forR (V.law_k24_l16) [((2 : Int), (1 : Int), (0 : Int), (0 : Int)), ((401 : Int), (3 : Int), (0 : Int), (1 : Int)), ((10 : Int), (0 : Int), (0 : Int), (0 : Int)), ((10 : Int), (9 : Int), (8 : Int), (0 : Int)), ((10 : Int), (3 : Int), (3 : Int), (1 : Int)), ((10 : Int), (3 : Int), (0 : Int), (4 : Int))] sv) (fun q => ((V.l_raises (11 : Nat) [(.int 2 : D)] S_malformed) && (V.l_raises (11 : Nat) [(.int 101 : D)] S_malformed))))
def O.law_k24_r15 (sv : S2) : Bool := ((okR (V.law_k24_l16) (O.law_k24_l16) [((2 : Int), (1 : Int), (0 : Int), (0 : Int)), ((401 : Int), (3 : Int), (0 : Int), (1 : Int)), ((10 : Int), (0 : Int), (0 : Int), (0 : Int)), ((10 : Int), (9 : Int), (8 : Int), (0 : Int)), ((10 : Int), (3 : Int), (3 : Int), (1 : Int)), ((10 : Int), (3 : Int), (0 : Int), (4 : Int))] sv) && (Stp.all (forR (V.law_k24_l16) [((2 : Int), (1 : Int), (0 : Int), (0 : Int)), ((401 : Int), (3 : Int), (0 : Int), (1 : Int)), ((10 : Int), (0 : Int), (0 : Int), (0 : Int)), ((10 : Int), (9 : Int), (8 : Int), (0 : Int)), ((10 : Int), (3 : Int), (3 : Int), (1 : Int)), ((10 : Int), (3 : Int), (0 : Int), (4 : Int))] sv) (fun q => ((O.l_raises (11 : Nat) [(.int 2 : D)] S_malformed) && (imp (V.l_raises (11 : Nat) [(.int 2 : D)] S_malformed) (O.l_raises (11 : Nat) [(.int 101 : D)] S_malformed))))))
def V.law_k24_r11 (sv : S2) : Bool := (Stp.els (forR (V.law_k24_l12) [(.non : D), (.bl true : D), (.str S_5 : D), (eI (-1 : Int)), ((eP1 eI) (5 : Int))] sv) (fun q => (V.law_k24_r15 q)))
def O.law_k24_r11 (sv : S2) : Bool := ((okR (V.law_k24_l12) (O.law_k24_l12) [(.non : D), (.bl true : D), (.str S_5 : D), (eI (-1 : Int)), ((eP1 eI) (5 : Int))] sv) && (Stp.all (forR (V.law_k24_l12) [(.non : D), (.bl true : D), (.str S_5 : D), (eI (-1 : Int)), ((eP1 eI) (5 : Int))] sv) (fun q => (O.law_k24_r15 q))))
def V.law_k24_r9 (sv : S2) : Bool := (Stp.els (forR (V.law_k24_l10) [((3 : Int) + (V.l_take sv (25 : Int)).1), ((3 : Int) + (V.l_take ((V.l_take sv (25 : Int)).2) (43 : Int)).1), (16 : Int)] ((V.l_take ((V.l_take sv (25 : Int)).2) (43 : Int)).2)) (fun q => (V.law_k24_r11 q)))
def O.law_k24_r9 (sv : S2) : Bool := ((O.l_take sv (25 : Int)) && ((O.l_take ((V.l_take sv (25 : Int)).2) (43 : Int)) && ((okR (V.law_k24_l10) (O.law_k24_l10) [((3 : Int) + (V.l_take sv (25 : Int)).1), ((3 : Int) + (V.l_take ((V.l_take sv (25 : Int)).2) (43 : Int)).1), (16 : Int)] ((V.l_take ((V.l_take sv (25 : Int)).2) (43 : Int)).2)) && (Stp.all (forR (V.law_k24_l10) [((3 : Int) + (V.l_take sv (25 : Int)).1), ((3 : Int) + (V.l_take ((V.l_take sv (25 : Int)).2) (43 : Int)).1), (16 : Int)] ((V.l_take ((V.l_take sv (25 : Int)).2) (43 : Int)).2)) (fun q => (O.law_k24_r11 q))))))
def V.law_k24_r4 (sv : S2) : Bool := (Stp.els (forR (V.law_k24_l5) (rI (0 : Int) (8 : Int)) sv) (fun q => (V.law_k24_r9 q)))
def O.law_k24_r4 (sv : S2) : Bool := (rgB (0 : Int) (8 : Int) && ((okR (V.law_k24_l5) (O.law_k24_l5) (rI (0 : Int) (8 : Int)) sv) && (Stp.all (forR (V.law_k24_l5) (rI (0 : Int) (8 : Int)) sv) (fun q => (O.law_k24_r9 q)))))
def V.law_k24 (s : S2) : Bool := (Stp.els (forR (V.law_k24_l1) ((V.l_near_k24 s).1) ((V.l_near_k24 s).2)) (fun q => (V.law_k24_r4 q)))
def O.law_k24 (s : S2) : Bool := ((O.l_near_k24 s) && ((okR (V.law_k24_l1) (O.law_k24_l1) ((V.l_near_k24 s).1) ((V.l_near_k24 s).2)) && (Stp.all (forR (V.law_k24_l1) ((V.l_near_k24 s).1) ((V.l_near_k24 s).2)) (fun q => (O.law_k24_r4 q)))))
namespace Gk24
open Wk Mn
/-- _law_take(state, m) -/
def f13 : Mn.Fn := ⟨2, 3, [.ifS (.prim .gt [.prim .ix [.var 0, .cst (.int 0)], .cst (.int 0)]) [.asg (.nm 2) (.prim .mod [.prim .toInt [.prim .ix [.var 0, .cst (.int 0)]], .var 1]), .asg (.sb (.var 0) (.cst (.int 0))) (.prim .fdiv [.prim .ix [.var 0, .cst (.int 0)], .var 1]), .ret (.var 2)] [], .asg (.sb (.var 0) (.cst (.int 1))) (.prim .mod [.prim .toInt [.prim .add [.prim .mul [.prim .ix [.var 0, .cst (.int 1)], .cst (.int 48271)], .cst (.int 11)]], .cst (.int 2147483647)]), .ret (.prim .mod [.prim .toInt [.prim .fdiv [.prim .ix [.var 0, .cst (.int 1)], .cst (.int 7)]], .var 1])]⟩
def f27_r3 : List Mn.S := [.ret (.comp (.var 4) (.nm 4) (.ex (.var 3)) [.and (.prim .le [.prim .ix [.var 4, .cst (.int 1)], .prim .sub [.prim .ix [.var 4, .cst (.int 0)], .cst (.int 2)]]) (.and (.prim .lt [.prim .ix [.var 4, .cst (.int 2)], .prim .ix [.var 4, .cst (.int 1)]]) (.prim .le [.prim .ix [.var 4, .cst (.int 3)], .prim .ix [.var 4, .cst (.int 1)]]))] [4])]
def f27_r2 : List Mn.S := (.asg (.nm 3) (.frz (.lstE [.tupE [.prim .fdiv [.prim .mul [.var 1, .prim .sub [.var 1, .cst (.int 1)]], .cst (.int 2)], .prim .mul [.cst (.int 2), .prim .sub [.var 1, .cst (.int 2)]], .prim .sub [.var 1, .cst (.int 2)], .cst (.int 4)], .tupE [.prim .mul [.var 1, .var 1], .prim .mul [.cst (.int 2), .prim .sub [.var 1, .cst (.int 1)]], .prim .sub [.var 1, .cst (.int 2)], .cst (.int 2)], .tupE [.prim .mul [.var 1, .var 1], .prim .mul [.cst (.int 3), .prim .sub [.var 1, .cst (.int 1)]], .var 1, .cst (.int 6)], .tupE [.var 2, .prim .fdiv [.prim .sub [.var 2, .cst (.int 1)], .cst (.int 2)], .prim .fdiv [.prim .sub [.var 2, .cst (.int 5)], .cst (.int 4)], .prim .fdiv [.prim .sub [.var 2, .cst (.int 1)], .cst (.int 4)]], .tupE [.cst (.int 10), .cst (.int 3), .cst (.int 0), .cst (.int 1)], .tupE [.cst (.int 16), .cst (.int 5), .cst (.int 0), .cst (.int 2)], .tupE [.cst (.int 28), .cst (.int 9), .cst (.int 0), .cst (.int 4)], .tupE [.cst (.int 50), .cst (.int 21), .cst (.int 4), .cst (.int 12)], .tupE [.cst (.int 21), .cst (.int 10), .cst (.int 4), .cst (.int 5)], .tupE [.cst (.int 7), .cst (.int 3), .cst (.int 1), .cst (.int 1)], .tupE [.cst (.int 10), .cst (.int 3), .cst (.int 1), .cst (.int 1)], .tupE [.cst (.int 27), .cst (.int 16), .cst (.int 10), .cst (.int 8)], .tupE [.cst (.int 50), .cst (.int 7), .cst (.int 0), .cst (.int 1)], .tupE [.cst (.int 6), .cst (.int 3), .cst (.int 0), .cst (.int 3)], .tupE [.cst (.int 6), .cst (.int 1), .cst (.int 0), .cst (.int 0)], .tupE [.cst (.int 33), .cst (.int 16), .cst (.int 7), .cst (.int 8)], .tupE [.cst (.int 57), .cst (.int 28), .cst (.int 13), .cst (.int 14)]]))) :: f27_r3
def f27_r1 : List Mn.S := (.asg (.nm 2) (.prim .ix [.lstE [.cst (.int 5), .cst (.int 13), .cst (.int 17), .cst (.int 29), .cst (.int 37), .cst (.int 41), .cst (.int 53), .cst (.int 61)], .call 13 [.var 0, .cst (.int 8)]])) :: f27_r2
/-- _law_near(state); state=0 n=1 p=2 found=3 row=4 -/
def f27 : Mn.Fn := ⟨1, 5, (.asg (.nm 1) (.prim .add [.cst (.int 4), .call 13 [.var 0, .cst (.int 8)]])) :: f27_r1⟩
abbrev I_21_1 (st : Sto) (b_w : Int) : Rp (Int) := fun q rr sx => rr = [some (eI b_w), some (eI q)] ∧ st = sx
def f21_b1 : List Mn.S := [.asg (.nm 1) (.prim .add [.var 1, .cst (.int 1)])]
/-- _law_root(w); w=0 q=1 -/
def f21 : Mn.Fn := ⟨1, 2, [.asg (.nm 1) (.cst (.int 0)), .whl (.prim .lt [.prim .mul [.var 1, .var 1], .var 0]) f21_b1, .ret (.ite (.and (.prim .gt [.var 1, .cst (.int 0)]) (.prim .eq [.prim .mul [.var 1, .var 1], .var 0])) (.var 1) (.cst (.non)))]⟩
abbrev I_20_1 (st : Sto) (b_n : Int) (b_d : Int) : Rp (Int × Int) := fun q rr sx => rr = [some (eI b_n), some (eI b_d), some (eI q.1), some (eI q.2)] ∧ st = sx
def f20_b1 : List Mn.S := [.asg (.tp [.nm 2, .nm 3]) (.tupE [.var 3, .prim .mod [.prim .toInt [.var 2], .var 3]])]
def f20_r3 : List Mn.S := [.ret (.tupE [.prim .fdiv [.var 0, .var 2], .prim .fdiv [.var 1, .var 2]])]
def f20_r2 : List Mn.S := (.asg (.nm 2) (.ite (.prim .gt [.var 1, .cst (.int 0)]) (.var 2) (.prim .neg [.var 2]))) :: f20_r3
/-- _law_frac(n, d); n=0 d=1 a=2 b=3 -/
def f20 : Mn.Fn := ⟨2, 4, (.asg (.tp [.nm 2, .nm 3]) (.tupE [.prim .abs [.var 0], .prim .abs [.var 1]])) :: (.whl (.prim .ne [.var 3, .cst (.int 0)]) f20_b1) :: f20_r2⟩
def f23_r2 : List Mn.S := [.asg (.tp [.nm 7, .nm 8]) (.tupE [.call 20 [.prim .sub [.prim .mul [.prim .sub [.var 0, .cst (.int 1)], .var 4], .var 6], .prim .mul [.cst (.int 2), .var 4]], .call 20 [.prim .add [.prim .mul [.prim .sub [.var 0, .cst (.int 1)], .var 4], .var 6], .prim .mul [.cst (.int 2), .var 4]]]), .ret (.tupE [.var 5, .var 6, .var 4, .var 7, .var 8])]
def f23_r1 : List Mn.S := (.asg (.nm 4) (.call 21 [.var 5])) :: (.ifS (.prim .isN [.var 4, .cst .non]) [.ret (.tupE [.var 5, .var 6, .cst (.non), .cst (.non), .cst (.non)])] []) :: f23_r2
/-- _law_parts(v, k, l, m); v=0 k=1 l=2 m=3 q=4 w=5 u=6 f=7 g=8 -/
def f23 : Mn.Fn := ⟨4, 9, (.asg (.tp [.nm 5, .nm 6]) (.tupE [.prim .add [.prim .mul [.prim .sub [.var 2, .var 3], .prim .sub [.var 2, .var 3]], .prim .mul [.cst (.int 4), .prim .sub [.var 1, .var 3]]], .prim .add [.prim .mul [.cst (.int 2), .var 1], .prim .mul [.prim .sub [.var 0, .cst (.int 1)], .prim .sub [.var 2, .var 3]]]])) :: f23_r1⟩
/-- _law_is_square(w); w=0 -/
def f22 : Mn.Fn := ⟨1, 1, [.ret (.or (.prim .eq [.var 0, .cst (.int 0)]) (.prim .notN [.call 21 [.var 0], .cst .non]))]⟩
abbrev I_24_4 (st : Sto) (b_v : Int) : Rp (Unit) := fun q rr sx => ∃ w1 w2 w3 w4 w5 w6 w7 w8 w9 w10 w11 : Option D, rr = [some (eI b_v), w1, w2, w3, w4, w5, w6, w7, w8, w9, w10, w11] ∧ st = sx
def f24_b4 : List Mn.S := [.ifS (.and (.prim .le [.prim .mul [.var 9, .var 9], .var 0]) (.call 22 [.prim .sub [.var 0, .prim .mul [.var 9, .var 9]]])) [.ret (.cst (.non))] []]
def f24_r3 : List Mn.S := [.for (.nm 9) (.rng [.var 0]) f24_b4, .ret (.cst (.str S_squares))]
def f24_r9 : List Mn.S := [.ret (.cst (.non))]
def f24_r8 : List Mn.S := [.ifS (.or (.prim .gt [.prim .mul [.cst (.int 2), .var 0], .prim .mul [.prim .ix [.var 7, .cst (.int 0)], .prim .add [.prim .ix [.var 7, .cst (.int 0)], .cst (.int 3)]]]) (.prim .gt [.prim .mul [.cst (.int 2), .var 0], .prim .mul [.prim .ix [.var 8, .cst (.int 0)], .prim .add [.prim .ix [.var 8, .cst (.int 0)], .cst (.int 3)]]])) [.ret (.cst (.str S_absolute))] []]
def f24_r7 : List Mn.S := (.ifS (.prim .notin [.var 3, .tupE [.cst (.int 0), .var 1]]) ((.ifS (.or (.prim .gt [.prim .mul [.prim .add [.var 10, .cst (.int 1)], .prim .add [.prim .add [.var 1, .var 10], .prim .mul [.prim .mul [.cst (.int 2), .var 10], .var 11]]], .prim .mul [.prim .mul [.prim .add [.var 1, .var 10], .prim .add [.var 11, .cst (.int 1)]], .prim .add [.var 11, .cst (.int 1)]]]) (.prim .gt [.prim .mul [.prim .add [.var 11, .cst (.int 1)], .prim .add [.prim .add [.var 1, .var 11], .prim .mul [.prim .mul [.cst (.int 2), .var 10], .var 11]]], .prim .mul [.prim .mul [.prim .add [.var 1, .var 11], .prim .add [.var 10, .cst (.int 1)]], .prim .add [.var 10, .cst (.int 1)]]])) [.ret (.cst (.str S_krein))] []) :: f24_r8) []) :: f24_r9
def f24_r6 : List Mn.S := (.asg (.tp [.nm 10, .nm 11]) (.tupE [.prim .fdiv [.prim .add [.prim .sub [.var 2, .var 3], .var 6], .cst (.int 2)], .prim .fdiv [.prim .sub [.prim .sub [.var 2, .var 3], .var 6], .cst (.int 2)]])) :: f24_r7
def f24_r5 : List Mn.S := (.ifS (.or (.prim .ne [.prim .ix [.var 7, .cst (.int 1)], .cst (.int 1)]) (.or (.prim .ne [.prim .ix [.var 8, .cst (.int 1)], .cst (.int 1)]) (.or (.prim .lt [.prim .ix [.var 7, .cst (.int 0)], .cst (.int 0)]) (.prim .lt [.prim .ix [.var 8, .cst (.int 0)], .cst (.int 0)])))) [.ret (.cst (.str S_whole))] []) :: f24_r6
def f24_r2 : List Mn.S := (.ifS (.prim .isN [.var 6, .cst .non]) ((.ifS (.or (.call 22 [.var 4]) (.prim .ne [.var 5, .cst (.int 0)])) [.ret (.cst (.str S_whole))] []) :: f24_r3) []) :: f24_r5
def f24_r1 : List Mn.S := (.asg (.tp [.nm 4, .nm 5, .nm 6, .nm 7, .nm 8]) (.call 23 [.var 0, .var 1, .var 2, .var 3])) :: f24_r2
/-- _law_broken(v, k, l, m); v=0 k=1 l=2 m=3 w=4 u=5 q=6 f=7 g=8 x=9 r=10 s=11 -/
def f24 : Mn.Fn := ⟨4, 12, (.ifS (.prim .ne [.prim .mul [.var 1, .prim .sub [.prim .sub [.var 1, .var 2], .cst (.int 1)]], .prim .mul [.prim .sub [.prim .sub [.var 0, .var 1], .cst (.int 1)], .var 3]]) [.ret (.cst (.str S_count))] []) :: f24_r1⟩
/-- _law_same(value, due) -/
def f14 : Mn.Fn := ⟨2, 3, [.ifS (.prim (.inst [.tuple]) [.var 1]) [.ret (.and (.prim (.inst [.tuple]) [.var 0]) (.and (.prim .eq [.prim .len [.var 0], .prim .len [.var 1]]) (.prim .all [.comp (.call 14 [.prim .ix [.var 0, .var 2], .prim .ix [.var 1, .var 2]]) (.nm 2) (.rng [.prim .len [.var 1]]) [] [2]])))] [], .ifS (.prim .isN [.var 1, .cst (.non)]) [.ret (.prim .isN [.var 0, .cst (.non)])] [], .ifS (.prim (.inst [.bool]) [.var 1]) [.ret (.and (.prim (.inst [.bool]) [.var 0]) (.prim .eq [.var 0, .var 1]))] [], .ifS (.prim (.inst [.str]) [.var 1]) [.ret (.and (.prim (.inst [.str]) [.var 0]) (.prim .eq [.var 0, .var 1]))] [], .ret (.and (.prim (.inst [.int]) [.var 0]) (.and (.not (.prim (.inst [.bool]) [.var 0])) (.prim .eq [.var 0, .var 1])))]⟩
/-- _law_is_told(pair, due); pair=0 due=1 -/
def f16 : Mn.Fn := ⟨2, 2, [.ret (.and (.prim .eq [.prim .ix [.var 0, .cst (.int 0)], .cst (.str S_told)]) (.call 14 [.prim .ix [.var 0, .cst (.int 1)], .var 1]))]⟩
/-- is_integer(value); value=0 -/
def f0 : Mn.Fn := ⟨1, 1, [.ret (.and (.prim (.inst [.int]) [.var 0]) (.not (.prim (.inst [.bool]) [.var 0])))]⟩
abbrev I_1_1 (st : Sto) (b_n : Int) : Rp (Int × Int) := fun q rr sx => ∃ w3 : Option D, rr = [some (eI b_n), some (eI q.1), some (eI q.2), w3] ∧ st = sx
def f1_r2 : List Mn.S := [.ifS (.prim .le [.prim .mul [.var 3, .var 3], .var 0]) [.asg (.nm 1) (.var 3)] [.asg (.nm 2) (.var 3)]]
def f1_b1 : List Mn.S := (.asg (.nm 3) (.prim .fdiv [.prim .add [.var 1, .var 2], .cst (.int 2)])) :: f1_r2
def f1_r3 : List Mn.S := [.ret (.ite (.prim .eq [.prim .mul [.var 1, .var 1], .var 0]) (.var 1) (.cst (.non)))]
/-- root_of(n); n=0 low=1 high=2 middle=3 -/
def f1 : Mn.Fn := ⟨1, 4, (.asg (.tp [.nm 1, .nm 2]) (.tupE [.cst (.int 0), .prim .add [.var 0, .cst (.int 1)]])) :: (.whl (.prim .gt [.prim .sub [.var 2, .var 1], .cst (.int 1)]) f1_b1) :: f1_r3⟩
/-- spread_of(v, k, l, m); v=0 k=1 l=2 m=3 -/
def f3 : Mn.Fn := ⟨4, 4, [.ret (.tupE [.call 1 [.prim .add [.prim .mul [.prim .sub [.var 2, .var 3], .prim .sub [.var 2, .var 3]], .prim .mul [.cst (.int 4), .prim .sub [.var 1, .var 3]]]], .prim .add [.prim .mul [.cst (.int 2), .var 1], .prim .mul [.prim .sub [.var 0, .cst (.int 1)], .prim .sub [.var 2, .var 3]]]])]⟩
def f4_r4 : List Mn.S := [.ret (.and (.prim .ge [.var 6, .cst (.int 0)]) (.and (.prim .ge [.var 7, .cst (.int 0)]) (.and (.prim .eq [.prim .mod [.var 6, .prim .mul [.cst (.int 2), .var 4]], .cst (.int 0)]) (.prim .eq [.prim .mod [.var 7, .prim .mul [.cst (.int 2), .var 4]], .cst (.int 0)]))))]
def f4_r3 : List Mn.S := (.asg (.tp [.nm 6, .nm 7]) (.tupE [.prim .sub [.prim .mul [.prim .sub [.var 0, .cst (.int 1)], .var 4], .var 5], .prim .add [.prim .mul [.prim .sub [.var 0, .cst (.int 1)], .var 4], .var 5]])) :: f4_r4
def f4_r2 : List Mn.S := (.ifS (.prim .eq [.var 4, .cst (.int 0)]) [.ret (.cst (.bl false))] []) :: f4_r3
def f4_r1 : List Mn.S := (.ifS (.prim .isN [.var 4, .cst .non]) [.ret (.prim .eq [.var 5, .cst (.int 0)])] []) :: f4_r2
/-- is_whole(v, k, l, m); v=0 k=1 l=2 m=3 q=4 u=5 one=6 two=7 -/
def f4 : Mn.Fn := ⟨4, 8, (.asg (.tp [.nm 4, .nm 5]) (.call 3 [.var 0, .var 1, .var 2, .var 3])) :: f4_r1⟩
/-- is_two_squares(v); v=0 a=1 -/
def f5 : Mn.Fn := ⟨1, 2, [.ret (.prim .any [.comp (.prim .notN [.call 1 [.prim .sub [.var 0, .prim .mul [.var 1, .var 1]]], .cst .non]) (.nm 1) (.rng [.prim .add [.var 0, .cst (.int 1)]]) [.prim .le [.prim .mul [.var 1, .var 1], .var 0]] [1]])]⟩
def f6_r1 : List Mn.S := [.asg (.tp [.nm 6, .nm 7]) (.tupE [.prim .sub [.prim .mul [.prim .sub [.var 0, .cst (.int 1)], .var 4], .var 5], .prim .add [.prim .mul [.prim .sub [.var 0, .cst (.int 1)], .var 4], .var 5]]), .ret (.tupE [.prim .fdiv [.prim .add [.prim .sub [.var 2, .var 3], .var 4], .cst (.int 2)], .prim .fdiv [.var 6, .prim .mul [.cst (.int 2), .var 4]], .prim .fdiv [.prim .sub [.prim .sub [.var 2, .var 3], .var 4], .cst (.int 2)], .prim .fdiv [.var 7, .prim .mul [.cst (.int 2), .var 4]]])]
/-- values_of(v, k, l, m); v=0 k=1 l=2 m=3 q=4 u=5 one=6 two=7 -/
def f6 : Mn.Fn := ⟨4, 8, (.asg (.tp [.nm 4, .nm 5]) (.call 3 [.var 0, .var 1, .var 2, .var 3])) :: f6_r1⟩
/-- is_below_krein(k, r, s); k=0 r=1 s=2 -/
def f7 : Mn.Fn := ⟨3, 3, [.ifS (.prim .gt [.prim .mul [.prim .add [.var 1, .cst (.int 1)], .prim .add [.prim .add [.var 0, .var 1], .prim .mul [.prim .mul [.cst (.int 2), .var 1], .var 2]]], .prim .mul [.prim .mul [.prim .add [.var 0, .var 1], .prim .add [.var 2, .cst (.int 1)]], .prim .add [.var 2, .cst (.int 1)]]]) [.ret (.cst (.bl false))] [], .ret (.prim .le [.prim .mul [.prim .add [.var 2, .cst (.int 1)], .prim .add [.prim .add [.var 0, .var 2], .prim .mul [.prim .mul [.cst (.int 2), .var 1], .var 2]]], .prim .mul [.prim .mul [.prim .add [.var 0, .var 2], .prim .add [.var 1, .cst (.int 1)]], .prim .add [.var 1, .cst (.int 1)]]])]⟩
def f8_r5 : List Mn.S := [.ifS (.not (.call 7 [.var 1, .var 4, .var 6])) [.ret (.cst (.str S_krein))] [], .ret (.ite (.or (.prim .gt [.prim .mul [.cst (.int 2), .var 0], .prim .mul [.var 5, .prim .add [.var 5, .cst (.int 3)]]]) (.prim .gt [.prim .mul [.cst (.int 2), .var 0], .prim .mul [.var 7, .prim .add [.var 7, .cst (.int 3)]]])) (.cst (.str S_absolute)) (.cst (.non)))]
def f8_r4 : List Mn.S := (.asg (.tp [.nm 4, .nm 5, .nm 6, .nm 7]) (.call 6 [.var 0, .var 1, .var 2, .var 3])) :: f8_r5
def f8_r3 : List Mn.S := (.ifS (.prim .isin [.var 3, .tupE [.cst (.int 0), .var 1]]) [.ret (.cst (.non))] []) :: f8_r4
def f8_r2 : List Mn.S := (.ifS (.prim .isN [.prim .ix [.call 3 [.var 0, .var 1, .var 2, .var 3], .cst (.int 0)], .cst .non]) [.ret (.ite (.call 5 [.var 0]) (.cst (.non)) (.cst (.str S_squares)))] []) :: f8_r3
def f8_r1 : List Mn.S := (.ifS (.not (.call 4 [.var 0, .var 1, .var 2, .var 3])) [.ret (.cst (.str S_whole))] []) :: f8_r2
/-- broken_of(v, k, l, m); v=0 k=1 l=2 m=3 r=4 f=5 s=6 g=7 -/
def f8 : Mn.Fn := ⟨4, 8, (.ifS (.prim .ne [.prim .mul [.var 1, .prim .sub [.prim .sub [.var 1, .var 2], .cst (.int 1)]], .prim .mul [.prim .sub [.prim .sub [.var 0, .var 1], .cst (.int 1)], .var 3]]) [.ret (.cst (.str S_count))] []) :: f8_r1⟩
abbrev I_11_2 (st : Sto) (b_v : D) : Rp ((List (Int × Int × Int))) := fun q rr sx => ∃ w2 w3 w4 : Option D, ∃ k_found : Nat, ∃ sy : Sto, rr = [some (eD b_v), some (.lr k_found), w2, w3, w4] ∧ sy = sx ∧ MS st [(k_found, List.map (eP3 eI eI eI) q)] sx
abbrev I_11_3 (st : Sto) (b_v : D) (b_k : Int) : Rp ((List (Int × Int × Int))) := fun q rr sx => ∃ w3 w4 : Option D, ∃ k_found : Nat, ∃ sy : Sto, rr = [some (eD b_v), some (.lr k_found), some (eI b_k), w3, w4] ∧ sy = sx ∧ MS st [(k_found, List.map (eP3 eI eI eI) q)] sx
def f11_r4 : List Mn.S := [.ifS (.and (.prim .ge [.var 4, .cst (.int 0)]) (.and (.prim .eq [.prim .mod [.var 4, .var 2], .cst (.int 0)]) (.prim .isN [.call 8 [.var 0, .var 2, .prim .fdiv [.var 4, .var 2], .var 3], .cst .non]))) [.ex (.meth .append (.var 1) [.tupE [.var 2, .prim .fdiv [.var 4, .var 2], .var 3]])] []]
def f11_b3 : List Mn.S := (.asg (.nm 4) (.prim .sub [.prim .mul [.var 2, .prim .sub [.var 2, .cst (.int 1)]], .prim .mul [.prim .sub [.prim .sub [.var 0, .var 2], .cst (.int 1)], .var 3]])) :: f11_r4
def f11_b2 : List Mn.S := [.for (.nm 3) (.rng [.cst (.int 1), .var 2]) f11_b3]
def f11_r1 : List Mn.S := [.asg (.nm 1) (.lstE []), .for (.nm 2) (.rng [.cst (.int 2), .prim .add [.prim .fdiv [.prim .sub [.var 0, .cst (.int 1)], .cst (.int 2)], .cst (.int 1)]]) f11_b2, .ret (.prim .tuple [.prim .sorted [.var 1]])]
/-- feasible_numbers(v); v=0 found=1 k=2 m=3 left=4 -/
def f11 : Mn.Fn := ⟨1, 5, (.ifS (.or (.not (.call 0 [.var 0])) (.not (.chain .le .le (.cst (.int 3)) (.var 0) (.cst (.int 100))))) [.rse 1 []] []) :: f11_r1⟩
def f2_r1 : List Mn.S := [.ifS (.or (.not (.chain .le .le (.cst (.int 1)) (.var 1) (.prim .sub [.var 0, .cst (.int 2)]))) (.or (.not (.chain .le .le (.cst (.int 0)) (.var 2) (.prim .sub [.var 1, .cst (.int 1)]))) (.not (.chain .le .le (.cst (.int 0)) (.var 3) (.var 1))))) [.rse 1 []] []]
/-- check_numbers(v, k, l, m); v=0 k=1 l=2 m=3 x=4 -/
def f2 : Mn.Fn := ⟨4, 5, (.ifS (.or (.not (.prim .all [.comp (.call 0 [.var 4]) (.nm 4) (.ex (.tupE [.var 0, .var 1, .var 2, .var 3])) [] [4]])) (.not (.chain .le .le (.cst (.int 3)) (.var 0) (.cst (.int 400))))) [.rse 1 []] []) :: f2_r1⟩
/-- broken_condition(v, k, l, m); v=0 k=1 l=2 m=3 -/
def f9 : Mn.Fn := ⟨4, 4, [.ex (.call 2 [.var 0, .var 1, .var 2, .var 3]), .ret (.call 8 [.var 0, .var 1, .var 2, .var 3])]⟩
def f10_r3 : List Mn.S := [.asg (.tp [.nm 4, .nm 5, .nm 6, .nm 7]) (.call 6 [.var 0, .var 1, .var 2, .var 3]), .ret (.tupE [.tupE [.var 4, .var 5], .tupE [.var 6, .var 7]])]
def f10_r2 : List Mn.S := (.ifS (.prim .isN [.prim .ix [.call 3 [.var 0, .var 1, .var 2, .var 3], .cst (.int 0)], .cst .non]) [.rse 2 [.cst (.str S_half)]] []) :: f10_r3
def f10_r1 : List Mn.S := (.ifS (.prim .isin [.call 8 [.var 0, .var 1, .var 2, .var 3], .tupE [.cst (.str S_count), .cst (.str S_whole)]]) [.rse 2 [.cst (.str S_broken)]] []) :: f10_r2
/-- web_eigenvalues(v, k, l, m); v=0 k=1 l=2 m=3 r=4 f=5 s=6 g=7 -/
def f10 : Mn.Fn := ⟨4, 8, (.ex (.call 2 [.var 0, .var 1, .var 2, .var 3])) :: f10_r1⟩
def f15_r4 : List Mn.S := [.ifS (.prim .eq [.prim .len [.var 1], .cst (.int 4)]) [.ret (.tupE [.cst (.str S_told), .callv 0 [.prim .ix [.var 1, .cst (.int 0)], .prim .ix [.var 1, .cst (.int 1)], .prim .ix [.var 1, .cst (.int 2)], .prim .ix [.var 1, .cst (.int 3)]]])] [], .ret (.tupE [.cst (.str S_told), .callv 0 [.prim .ix [.var 1, .cst (.int 0)], .prim .ix [.var 1, .cst (.int 1)], .prim .ix [.var 1, .cst (.int 2)], .prim .ix [.var 1, .cst (.int 3)], .prim .ix [.var 1, .cst (.int 4)]]])]
def f15_r3 : List Mn.S := (.ifS (.prim .eq [.prim .len [.var 1], .cst (.int 3)]) [.ret (.tupE [.cst (.str S_told), .callv 0 [.prim .ix [.var 1, .cst (.int 0)], .prim .ix [.var 1, .cst (.int 1)], .prim .ix [.var 1, .cst (.int 2)]]])] []) :: f15_r4
def f15_r2 : List Mn.S := (.ifS (.prim .eq [.prim .len [.var 1], .cst (.int 2)]) [.ret (.tupE [.cst (.str S_told), .callv 0 [.prim .ix [.var 1, .cst (.int 0)], .prim .ix [.var 1, .cst (.int 1)]]])] []) :: f15_r3
def f15_t1 : List Mn.S := (.ifS (.prim .eq [.prim .len [.var 1], .cst (.int 1)]) [.ret (.tupE [.cst (.str S_told), .callv 0 [.prim .ix [.var 1, .cst (.int 0)]]])] []) :: f15_r2
/-- _law_told(f, given); f=0 given=1 error=2 -/
def f15 : Mn.Fn := ⟨2, 3, [.tryS f15_t1 [(1, .tup [some (.str S_malformed), some (.non)]), (2, .tup [some (.str S_raised), none])]]⟩
/-- _law_tells(f, given, due); f=0 given=1 due=2 -/
def f18 : Mn.Fn := ⟨3, 3, [.ret (.call 16 [.call 15 [.var 0, .var 1], .var 2])]⟩
/-- _law_is_raised(pair, reason); pair=0 reason=1 -/
def f17 : Mn.Fn := ⟨2, 2, [.ifS (.prim .eq [.var 1, .cst (.str S_malformed)]) [.ret (.prim .eq [.prim .ix [.var 0, .cst (.int 0)], .cst (.str S_malformed)])] [], .ret (.and (.prim .eq [.prim .ix [.var 0, .cst (.int 0)], .cst (.str S_raised)]) (.call 14 [.prim .ix [.var 0, .cst (.int 1)], .var 1]))]⟩
/-- _law_raises(f, given, reason); f=0 given=1 reason=2 -/
def f19 : Mn.Fn := ⟨3, 3, [.ret (.call 17 [.call 15 [.var 0, .var 1], .var 2])]⟩
def f25_r6 : List Mn.S := [.ifS (.or (.prim .ne [.prim .add [.var 11, .var 12], .prim .sub [.var 4, .var 5]]) (.or (.prim .ne [.prim .mul [.var 11, .var 12], .prim .sub [.var 5, .var 3]]) (.or (.prim .ne [.prim .add [.prim .ix [.var 9, .cst (.int 0)], .prim .ix [.var 10, .cst (.int 0)]], .prim .sub [.var 2, .cst (.int 1)]]) (.prim .ne [.prim .add [.prim .add [.var 3, .prim .mul [.prim .ix [.var 9, .cst (.int 0)], .var 11]], .prim .mul [.prim .ix [.var 10, .cst (.int 0)], .var 12]], .cst (.int 0)])))) [.ret (.cst (.bl false))] [], .ret (.call 18 [.cst (.fn 10), .var 0, .tupE [.tupE [.var 11, .prim .ix [.var 9, .cst (.int 0)]], .tupE [.var 12, .prim .ix [.var 10, .cst (.int 0)]]]])]
def f25_r5 : List Mn.S := (.asg (.tp [.nm 11, .nm 12]) (.tupE [.prim .fdiv [.prim .add [.prim .sub [.var 4, .var 5], .var 8], .cst (.int 2)], .prim .fdiv [.prim .sub [.prim .sub [.var 4, .var 5], .var 8], .cst (.int 2)]])) :: f25_r6
def f25_r4 : List Mn.S := (.ifS (.prim .isN [.var 8, .cst .non]) [.ret (.call 19 [.cst (.fn 10), .var 0, .cst (.str S_half)])] []) :: f25_r5
def f25_r3 : List Mn.S := (.ifS (.prim .isin [.var 1, .tupE [.cst (.str S_count), .cst (.str S_whole)]]) [.ret (.call 19 [.cst (.fn 10), .var 0, .cst (.str S_broken)])] []) :: f25_r4
def f25_r2 : List Mn.S := (.asg (.tp [.nm 6, .nm 7, .nm 8, .nm 9, .nm 10]) (.call 23 [.var 2, .var 3, .var 4, .var 5])) :: f25_r3
def f25_r1 : List Mn.S := (.ifS (.not (.call 18 [.cst (.fn 9), .var 0, .var 1])) [.ret (.cst (.bl false))] []) :: f25_r2
/-- _law_holds(given); given=0 due=1 v=2 k=3 l=4 m=5 w=6 u=7 q=8 f=9 g=10 r=11 s=12 -/
def f25 : Mn.Fn := ⟨1, 13, (.asg (.tp [.nm 2, .nm 3, .nm 4, .nm 5]) (.var 0)) :: (.asg (.nm 1) (.call 24 [.var 2, .var 3, .var 4, .var 5])) :: f25_r1⟩
abbrev I_26_1 (st : Sto) (b_v : Int) : Rp ((List (Int × Int × Int))) := fun q rr sx => ∃ w2 w3 w4 : Option D, ∃ k_found : Nat, ∃ sy : Sto, rr = [some (eI b_v), some (.lr k_found), w2, w3, w4] ∧ sy = sx ∧ MS st [(k_found, List.map (eP3 eI eI eI) q)] sx
abbrev I_26_2 (st : Sto) (b_v : Int) (b_k : Int) : Rp ((List (Int × Int × Int))) := fun q rr sx => ∃ w3 w4 : Option D, ∃ k_found : Nat, ∃ sy : Sto, rr = [some (eI b_v), some (.lr k_found), some (eI b_k), w3, w4] ∧ sy = sx ∧ MS st [(k_found, List.map (eP3 eI eI eI) q)] sx
def f26_r3 : List Mn.S := [.ifS (.and (.chain .le .lt (.cst (.int 1)) (.var 4) (.var 2)) (.prim .isN [.call 24 [.var 0, .var 2, .var 3, .var 4], .cst .non])) [.ex (.meth .append (.var 1) [.tupE [.var 2, .var 3, .var 4]])] []]
def f26_b2 : List Mn.S := (.asg (.nm 4) (.prim .fdiv [.prim .mul [.var 2, .prim .sub [.prim .sub [.var 2, .var 3], .cst (.int 1)]], .prim .sub [.prim .sub [.var 0, .var 2], .cst (.int 1)]])) :: f26_r3
def f26_b1 : List Mn.S := [.for (.nm 3) (.rng [.var 2]) f26_b2]
/-- _law_feasible(v); v=0 found=1 k=2 l=3 m=4 -/
def f26 : Mn.Fn := ⟨1, 5, [.asg (.nm 1) (.lstE []), .for (.nm 2) (.rng [.cst (.int 1), .prim .add [.prim .fdiv [.prim .sub [.var 0, .cst (.int 1)], .cst (.int 2)], .cst (.int 1)]]) f26_b1, .ret (.prim .tuple [.var 1])]⟩
abbrev I_28_1 (st : Sto) : Rp (S2) := fun q rr sx => ∃ w0 w2 w3 w4 w5 w6 w7 w8 w9 w10 : Option D, rr = [w0, some (.lr 0), w2, w3, w4, w5, w6, w7, w8, w9, w10] ∧ ss st q = sx
abbrev I_28_3 (st : Sto) (b_row : Int × Int × Int × Int) (b_v : Int) (b_k : Int) (b_l : Int) (b_m : Int) : Rp (S2) := fun q rr sx => ∃ w0 w3 w5 w6 w7 : Option D, rr = [w0, some (.lr 0), some ((eP4 eI eI eI eI) b_row), w3, some (eI b_v), w5, w6, w7, some (eI b_k), some (eI b_l), some (eI b_m)] ∧ ss st q = sx
def f28_b3 : List Mn.S := [.ifS (.and (.chain .le .le (.cst (.int 1)) (.prim .ix [.var 7, .cst (.int 1)]) (.prim .sub [.prim .ix [.var 7, .cst (.int 0)], .cst (.int 2)])) (.and (.chain .le .lt (.cst (.int 0)) (.prim .ix [.var 7, .cst (.int 2)]) (.prim .ix [.var 7, .cst (.int 1)])) (.and (.chain .le .le (.cst (.int 0)) (.prim .ix [.var 7, .cst (.int 3)]) (.prim .ix [.var 7, .cst (.int 1)])) (.not (.call 25 [.var 7]))))) [.ret (.cst (.bl false))] []]
def f28_r2 : List Mn.S := [.asg (.tp [.nm 4, .nm 8, .nm 9, .nm 10]) (.var 2), .for (.nm 7) (.ex (.lstE [.tupE [.prim .add [.var 4, .cst (.int 1)], .var 8, .var 9, .var 10], .tupE [.var 4, .var 8, .var 9, .prim .max2 [.cst (.int 0), .prim .sub [.var 10, .cst (.int 1)]]], .tupE [.var 4, .var 8, .prim .max2 [.cst (.int 0), .prim .sub [.var 9, .cst (.int 1)]], .var 10], .tupE [.var 4, .prim .sub [.prim .sub [.var 4, .var 8], .cst (.int 1)], .prim .sub [.prim .add [.prim .sub [.var 4, .prim .mul [.cst (.int 2), .var 8]], .var 10], .cst (.int 2)], .prim .add [.prim .sub [.var 4, .prim .mul [.cst (.int 2), .var 8]], .var 9]]])) f28_b3]
def f28_b1 : List Mn.S := (.ifS (.not (.call 25 [.var 2])) [.ret (.cst (.bl false))] []) :: f28_r2
abbrev I_28_5 (st : Sto) : Rp (S2) := fun q rr sx => ∃ w0 w2 w3 w4 w5 w6 w7 w8 w9 w10 : Option D, rr = [w0, some (.lr 0), w2, w3, w4, w5, w6, w7, w8, w9, w10] ∧ ss st q = sx
def f28_r8 : List Mn.S := [.ifS (.or (.and (.prim .le [.var 10, .var 8]) (.not (.call 25 [.tupE [.var 4, .var 8, .var 9, .var 10]]))) (.not (.call 25 [.tupE [.var 4, .var 8, .var 9, .call 13 [.var 1, .prim .add [.var 8, .cst (.int 1)]]]]))) [.ret (.cst (.bl false))] []]
def f28_r7 : List Mn.S := (.asg (.nm 9) (.call 13 [.var 1, .var 8])) :: (.asg (.nm 10) (.prim .fdiv [.prim .mul [.var 8, .prim .sub [.prim .sub [.var 8, .var 9], .cst (.int 1)]], .prim .sub [.prim .sub [.var 4, .var 8], .cst (.int 1)]])) :: f28_r8
def f28_r6 : List Mn.S := (.asg (.nm 8) (.prim .add [.cst (.int 1), .call 13 [.var 1, .prim .sub [.var 4, .cst (.int 2)]]])) :: f28_r7
def f28_b5 : List Mn.S := (.asg (.nm 4) (.prim .add [.cst (.int 3), .call 13 [.var 1, .prim .ix [.lstE [.cst (.int 20), .cst (.int 398)], .call 13 [.var 1, .cst (.int 2)]]]])) :: f28_r6
abbrev I_28_10 (st : Sto) : Rp (S2) := fun q rr sx => ∃ w0 w2 w3 w4 w5 w6 w7 w8 w9 w10 : Option D, rr = [w0, some (.lr 0), w2, w3, w4, w5, w6, w7, w8, w9, w10] ∧ ss st q = sx
def f28_b10 : List Mn.S := [.ifS (.not (.call 18 [.cst (.fn 11), .tupE [.var 4], .call 26 [.var 4]])) [.ret (.cst (.bl false))] []]
abbrev I_28_12 (st : Sto) : Rp (S2) := fun q rr sx => ∃ w0 w2 w3 w4 w5 w6 w7 w8 w9 w10 : Option D, rr = [w0, some (.lr 0), w2, w3, w4, w5, w6, w7, w8, w9, w10] ∧ ss st q = sx
abbrev I_28_14 (st : Sto) (b_bad : D) : Rp (S2) := fun q rr sx => ∃ w0 w2 w3 w4 w6 w7 w8 w9 w10 : Option D, rr = [w0, some (.lr 0), w2, w3, w4, some (eD b_bad), w6, w7, w8, w9, w10] ∧ ss st q = sx
def f28_b14 : List Mn.S := [.ifS (.or (.not (.call 19 [.cst (.fn 9), .var 6, .cst (.str S_malformed)])) (.not (.call 19 [.cst (.fn 10), .var 6, .cst (.str S_malformed)]))) [.ret (.cst (.bl false))] []]
def f28_r13 : List Mn.S := [.for (.nm 6) (.ex (.lstE [.tupE [.var 5, .cst (.int 3), .cst (.int 0), .cst (.int 1)], .tupE [.cst (.int 10), .var 5, .cst (.int 0), .cst (.int 1)], .tupE [.cst (.int 10), .cst (.int 3), .var 5, .cst (.int 1)], .tupE [.cst (.int 10), .cst (.int 3), .cst (.int 0), .var 5]])) f28_b14]
def f28_b12 : List Mn.S := (.ifS (.not (.call 19 [.cst (.fn 11), .tupE [.var 5], .cst (.str S_malformed)])) [.ret (.cst (.bl false))] []) :: f28_r13
abbrev I_28_16 (st : Sto) : Rp (S2) := fun q rr sx => ∃ w0 w2 w3 w4 w5 w6 w7 w8 w9 w10 : Option D, rr = [w0, some (.lr 0), w2, w3, w4, w5, w6, w7, w8, w9, w10] ∧ ss st q = sx
def f28_b16 : List Mn.S := [.ifS (.or (.not (.call 19 [.cst (.fn 9), .var 6, .cst (.str S_malformed)])) (.not (.call 19 [.cst (.fn 10), .var 6, .cst (.str S_malformed)]))) [.ret (.cst (.bl false))] []]
def f28_r15 : List Mn.S := [.for (.nm 6) (.ex (.lstE [.tupE [.cst (.int 2), .cst (.int 1), .cst (.int 0), .cst (.int 0)], .tupE [.cst (.int 401), .cst (.int 3), .cst (.int 0), .cst (.int 1)], .tupE [.cst (.int 10), .cst (.int 0), .cst (.int 0), .cst (.int 0)], .tupE [.cst (.int 10), .cst (.int 9), .cst (.int 8), .cst (.int 0)], .tupE [.cst (.int 10), .cst (.int 3), .cst (.int 3), .cst (.int 1)], .tupE [.cst (.int 10), .cst (.int 3), .cst (.int 0), .cst (.int 4)]])) f28_b16, .ret (.and (.call 19 [.cst (.fn 11), .tupE [.cst (.int 2)], .cst (.str S_malformed)]) (.call 19 [.cst (.fn 11), .tupE [.cst (.int 101)], .cst (.str S_malformed)]))]
def f28_r11 : List Mn.S := (.for (.nm 5) (.ex (.lstE [.cst (.non), .cst (.bl true), .cst (.str S_5), .prim .neg [.cst (.int 1)], .tupE [.cst (.int 5)]])) f28_b12) :: f28_r15
def f28_r9 : List Mn.S := (.for (.nm 4) (.ex (.lstE [.prim .add [.cst (.int 3), .call 13 [.var 1, .cst (.int 25)]], .prim .add [.cst (.int 3), .call 13 [.var 1, .cst (.int 43)]], .cst (.int 16)])) f28_b10) :: f28_r11
def f28_r4 : List Mn.S := (.for (.nm 3) (.rng [.cst (.int 8)]) f28_b5) :: f28_r9
def f28_law : List Mn.S := (.for (.nm 2) (.ex (.call 27 [.var 1])) f28_b1) :: f28_r4
def f28 : Mn.Fn := ⟨1, 11, .asg (.nm 1) (.call 12 [.var 0]) :: f28_law⟩
/-- _law_state(script) -/
def f12 : Mn.Fn := ⟨1, 4, [.asg (.nm 1) (.cst (.int 0)), .asg (.nm 2) (.cst (.int 1)), .for (.nm 3) (.ex (.prim (.sl false true) [.var 0, .cst (.int 63)])) [.asg (.nm 1) (.prim .add [.prim .mul [.var 1, .cst (.int 1000003)], .prim .abs [.var 3]]), .asg (.nm 2) (.prim .mod [.prim .toInt [.prim .add [.prim .mul [.var 2, .cst (.int 48271)], .var 3]], .cst (.int 2147483647)])], .ret (.lstE [.var 1, .var 2])]⟩
def N0 : List PySem.Str := ((["value"] : List PySem.Str))
def N1 : List PySem.Str := ((["n", "low", "high", "middle"] : List PySem.Str))
def N2 : List PySem.Str := ((["v", "k", "l", "m", "x"] : List PySem.Str))
def N3 : List PySem.Str := ((["v", "k", "l", "m"] : List PySem.Str))
def N4 : List PySem.Str := ((["v", "k", "l", "m", "q", "u", "one", "two"] : List PySem.Str))
def N5 : List PySem.Str := ((["v", "a"] : List PySem.Str))
def N6 : List PySem.Str := ((["v", "k", "l", "m", "q", "u", "one", "two"] : List PySem.Str))
def N7 : List PySem.Str := ((["k", "r", "s"] : List PySem.Str))
def N8 : List PySem.Str := ((["v", "k", "l", "m", "r", "f", "s", "g"] : List PySem.Str))
def N9 : List PySem.Str := ((["v", "k", "l", "m"] : List PySem.Str))
def N10 : List PySem.Str := ((["v", "k", "l", "m", "r", "f", "s", "g"] : List PySem.Str))
def N11 : List PySem.Str := ((["v", "found", "k", "m", "left"] : List PySem.Str))
def N12 : List PySem.Str := ((["script", "seed", "total", "cell"] : List PySem.Str))
def N13 : List PySem.Str := ((["state", "m", "value"] : List PySem.Str))
def N14 : List PySem.Str := ((["value", "due", "k"] : List PySem.Str))
def N15 : List PySem.Str := ((["f", "given", "error"] : List PySem.Str))
def N16 : List PySem.Str := ((["pair", "due"] : List PySem.Str))
def N17 : List PySem.Str := ((["pair", "reason"] : List PySem.Str))
def N18 : List PySem.Str := ((["f", "given", "due"] : List PySem.Str))
def N19 : List PySem.Str := ((["f", "given", "reason"] : List PySem.Str))
def N20 : List PySem.Str := ((["n", "d", "a", "b"] : List PySem.Str))
def N21 : List PySem.Str := ((["w", "q"] : List PySem.Str))
def N22 : List PySem.Str := ((["w"] : List PySem.Str))
def N23 : List PySem.Str := ((["v", "k", "l", "m", "q", "w", "u", "f", "g"] : List PySem.Str))
def N24 : List PySem.Str := ((["v", "k", "l", "m", "w", "u", "q", "f", "g", "x", "r", "s"] : List PySem.Str))
def N25 : List PySem.Str := ((["given", "due", "v", "k", "l", "m", "w", "u", "q", "f", "g", "r", "s"] : List PySem.Str))
def N26 : List PySem.Str := ((["v", "found", "k", "l", "m"] : List PySem.Str))
def N27 : List PySem.Str := ((["state", "n", "p", "found", "row"] : List PySem.Str))
def N28 : List PySem.Str := ((["script", "state", "row", "t", "v", "bad", "given", "other", "k", "l", "m"] : List PySem.Str))
def T : List Mn.Fn := ([f0, f1, f2, f3, f4, f5, f6, f7, f8, f9, f10, f11, f12, f13, f14, f15, f16, f17, f18, f19, f20, f21, f22, f23, f24] ++ [f25, f26, f27, f28])
abbrev NN : List (List PySem.Str) := ([N0, N1, N2, N3, N4, N5, N6, N7, N8, N9, N10, N11, N12, N13, N14, N15, N16, N17, N18, N19, N20, N21, N22, N23, N24] ++ [N25, N26, N27, N28])
abbrev md : Mn.Md := ⟨((["is_integer", "root_of", "check_numbers", "spread_of", "is_whole", "is_two_squares", "values_of", "is_below_krein", "broken_of", "broken_condition", "web_eigenvalues", "feasible_numbers", "_law_state", "_law_take", "_law_same", "_law_told", "_law_is_told", "_law_is_raised", "_law_tells", "_law_raises", "_law_frac", "_law_root", "_law_is_square", "_law_parts", "_law_broken"] : List PySem.Str) ++ (["_law_holds", "_law_feasible", "_law_near", "law"] : List PySem.Str)), [("MOST_NUMBERS", .int 400), ("MOST_LISTED", .int 100)], [("Malformed", 1, none), ("Refused", 2, some "reason")], ((["abs", "all", "any", "bool", "int", "isinstance", "len", "max", "range", "sorted", "str", "tuple"] : List PySem.Str)), ["Refused"], "/claim/cut.py"⟩
variable {wf k : Nat} {st : Sto} (hwf : Big wf)
include hwf
theorem w_27_r3 {b_found : List (Int × Int × Int × Int)} {sv : S2} {w1 w2 w4 : Option D} (h0 : 0 < st.length) (h : (O.l_near_k24_r3 b_found sv) = true) : HS ⟨callF T wf (k + 1), wf, T.length⟩ f27_r3 [some (.lr 0), w1, w2, some ((eL (eP4 eI eI eI eI)) b_found), w4] (ss st sv) (QF st.length (outS (eTl (eP4 eI eI eI eI)) st (V.l_near_k24_r3 b_found sv))) (EF st.length (outS (eTl (eP4 eI eI eI eI)) st (V.l_near_k24_r3 b_found sv))) := by
  exact HS_ret (E_compF (e := (eP4 eI eI eI eI)) (e2 := (eP4 eI eI eI eI)) (f := (fun (y1 : Int × Int × Int × Int) => y1)) (P := (fun (y1 : Int × Int × Int × Int) => ((decide (y1.2.1 ≤ (y1.1 - (2 : Int)))) && ((decide (y1.2.2.1 < y1.2.1)) && (decide (y1.2.2.2 ≤ y1.2.1)))))) h (S_seq v_L (E_var rfl)) (trivial) (fun y1 hm2 => ⟨_, T_nm (Nl.nl (e := (eP4 eI eI eI eI)) y1), E_and (E_le (E_c1 (E_var rfl)) (E_sub (E_c0 (E_var rfl)) (E_cst))) (fun hc5 => E_and (E_lt (E_c2 (E_var rfl)) (E_c1 (E_var rfl))) (fun hc4 => E_le (E_c3 (E_var rfl)) (E_c1 (E_var rfl)))), fun hc3 => E_var rfl⟩) (fun _ _ => Nl.nl (e := (eP4 eI eI eI eI)) _)) (q_ret (by rw [ss_len]))
theorem w_27_r2 {b_n : Int} {b_p : Int} {sv : S2} {w3 w4 : Option D} (h0 : 0 < st.length) (h : (O.l_near_k24_r2 b_n b_p sv) = true) : HS ⟨callF T wf (k + 1), wf, T.length⟩ f27_r2 [some (.lr 0), some (eI b_n), some (eI b_p), w3, w4] (ss st sv) (QF st.length (outS (eTl (eP4 eI eI eI eI)) st (V.l_near_k24_r2 b_n b_p sv))) (EF st.length (outS (eTl (eP4 eI eI eI eI)) st (V.l_near_k24_r2 b_n b_p sv))) := by
  refine HS_asg (E_frzL (e := (eP4 eI eI eI eI)) (xs := [((Int.fdiv (b_n * (b_n - (1 : Int))) (2 : Int)), ((2 : Int) * (b_n - (2 : Int))), (b_n - (2 : Int)), (4 : Int)), ((b_n * b_n), ((2 : Int) * (b_n - (1 : Int))), (b_n - (2 : Int)), (2 : Int)), ((b_n * b_n), ((3 : Int) * (b_n - (1 : Int))), b_n, (6 : Int)), (b_p, (Int.fdiv (b_p - (1 : Int)) (2 : Int)), (Int.fdiv (b_p - (5 : Int)) (4 : Int)), (Int.fdiv (b_p - (1 : Int)) (4 : Int))), ((10 : Int), (3 : Int), (0 : Int), (1 : Int)), ((16 : Int), (5 : Int), (0 : Int), (2 : Int)), ((28 : Int), (9 : Int), (0 : Int), (4 : Int)), ((50 : Int), (21 : Int), (4 : Int), (12 : Int)), ((21 : Int), (10 : Int), (4 : Int), (5 : Int)), ((7 : Int), (3 : Int), (1 : Int), (1 : Int)), ((10 : Int), (3 : Int), (1 : Int), (1 : Int)), ((27 : Int), (16 : Int), (10 : Int), (8 : Int)), ((50 : Int), (7 : Int), (0 : Int), (1 : Int)), ((6 : Int), (3 : Int), (0 : Int), (3 : Int)), ((6 : Int), (1 : Int), (0 : Int), (0 : Int)), ((33 : Int), (16 : Int), (7 : Int), (8 : Int)), ((57 : Int), (28 : Int), (13 : Int), (14 : Int))]) (E_lst (Es_cons (E_tup (Es_cons (E_fdiv (by decide) (E_mul (a1 h) (E_var rfl) (E_sub (E_var rfl) (E_cst))) (E_cst)) (Es_cons (E_mul (a1 (a2 h)) (E_cst) (E_sub (E_var rfl) (E_cst))) (Es_cons (E_sub (E_var rfl) (E_cst)) (Es_cons (E_cst) (Es_nil))))) (mlc (Nl.nl (e := eI) (Int.fdiv (b_n * (b_n - (1 : Int))) (2 : Int))) (mlc (Nl.nl (e := eI) ((2 : Int) * (b_n - (2 : Int)))) (mlc (Nl.nl (e := eI) (b_n - (2 : Int))) (mlc (Nl.nl (e := eI) (4 : Int)) (ml0)))))) (Es_cons (E_tup (Es_cons (E_mul (a1 (a2 (a2 h))) (E_var rfl) (E_var rfl)) (Es_cons (E_mul (a1 (a2 (a2 (a2 h)))) (E_cst) (E_sub (E_var rfl) (E_cst))) (Es_cons (E_sub (E_var rfl) (E_cst)) (Es_cons (E_cst) (Es_nil))))) (mlc (Nl.nl (e := eI) (b_n * b_n)) (mlc (Nl.nl (e := eI) ((2 : Int) * (b_n - (1 : Int)))) (mlc (Nl.nl (e := eI) (b_n - (2 : Int))) (mlc (Nl.nl (e := eI) (2 : Int)) (ml0)))))) (Es_cons (E_tup (Es_cons (E_mul (a1 (a2 (a2 (a2 (a2 h))))) (E_var rfl) (E_var rfl)) (Es_cons (E_mul (a1 (a2 (a2 (a2 (a2 (a2 h)))))) (E_cst) (E_sub (E_var rfl) (E_cst))) (Es_cons (E_var rfl) (Es_cons (E_cst) (Es_nil))))) (mlc (Nl.nl (e := eI) (b_n * b_n)) (mlc (Nl.nl (e := eI) ((3 : Int) * (b_n - (1 : Int)))) (mlc (Nl.nl (e := eI) b_n) (mlc (Nl.nl (e := eI) (6 : Int)) (ml0)))))) (Es_cons (E_tup (Es_cons (E_var rfl) (Es_cons (E_fdiv (by decide) (E_sub (E_var rfl) (E_cst)) (E_cst)) (Es_cons (E_fdiv (by decide) (E_sub (E_var rfl) (E_cst)) (E_cst)) (Es_cons (E_fdiv (by decide) (E_sub (E_var rfl) (E_cst)) (E_cst)) (Es_nil))))) (mlc (Nl.nl (e := eI) b_p) (mlc (Nl.nl (e := eI) (Int.fdiv (b_p - (1 : Int)) (2 : Int))) (mlc (Nl.nl (e := eI) (Int.fdiv (b_p - (5 : Int)) (4 : Int))) (mlc (Nl.nl (e := eI) (Int.fdiv (b_p - (1 : Int)) (4 : Int))) (ml0)))))) (Es_cons (E_tup (Es_cons (E_cst) (Es_cons (E_cst) (Es_cons (E_cst) (Es_cons (E_cst) (Es_nil))))) (mlc (Nl.nl (e := eI) (10 : Int)) (mlc (Nl.nl (e := eI) (3 : Int)) (mlc (Nl.nl (e := eI) (0 : Int)) (mlc (Nl.nl (e := eI) (1 : Int)) (ml0)))))) (Es_cons (E_tup (Es_cons (E_cst) (Es_cons (E_cst) (Es_cons (E_cst) (Es_cons (E_cst) (Es_nil))))) (mlc (Nl.nl (e := eI) (16 : Int)) (mlc (Nl.nl (e := eI) (5 : Int)) (mlc (Nl.nl (e := eI) (0 : Int)) (mlc (Nl.nl (e := eI) (2 : Int)) (ml0)))))) (Es_cons (E_tup (Es_cons (E_cst) (Es_cons (E_cst) (Es_cons (E_cst) (Es_cons (E_cst) (Es_nil))))) (mlc (Nl.nl (e := eI) (28 : Int)) (mlc (Nl.nl (e := eI) (9 : Int)) (mlc (Nl.nl (e := eI) (0 : Int)) (mlc (Nl.nl (e := eI) (4 : Int)) (ml0)))))) (Es_cons (E_tup (Es_cons (E_cst) (Es_cons (E_cst) (Es_cons (E_cst) (Es_cons (E_cst) (Es_nil))))) (mlc (Nl.nl (e := eI) (50 : Int)) (mlc (Nl.nl (e := eI) (21 : Int)) (mlc (Nl.nl (e := eI) (4 : Int)) (mlc (Nl.nl (e := eI) (12 : Int)) (ml0)))))) (Es_cons (E_tup (Es_cons (E_cst) (Es_cons (E_cst) (Es_cons (E_cst) (Es_cons (E_cst) (Es_nil))))) (mlc (Nl.nl (e := eI) (21 : Int)) (mlc (Nl.nl (e := eI) (10 : Int)) (mlc (Nl.nl (e := eI) (4 : Int)) (mlc (Nl.nl (e := eI) (5 : Int)) (ml0)))))) (Es_cons (E_tup (Es_cons (E_cst) (Es_cons (E_cst) (Es_cons (E_cst) (Es_cons (E_cst) (Es_nil))))) (mlc (Nl.nl (e := eI) (7 : Int)) (mlc (Nl.nl (e := eI) (3 : Int)) (mlc (Nl.nl (e := eI) (1 : Int)) (mlc (Nl.nl (e := eI) (1 : Int)) (ml0)))))) (Es_cons (E_tup (Es_cons (E_cst) (Es_cons (E_cst) (Es_cons (E_cst) (Es_cons (E_cst) (Es_nil))))) (mlc (Nl.nl (e := eI) (10 : Int)) (mlc (Nl.nl (e := eI) (3 : Int)) (mlc (Nl.nl (e := eI) (1 : Int)) (mlc (Nl.nl (e := eI) (1 : Int)) (ml0)))))) (Es_cons (E_tup (Es_cons (E_cst) (Es_cons (E_cst) (Es_cons (E_cst) (Es_cons (E_cst) (Es_nil))))) (mlc (Nl.nl (e := eI) (27 : Int)) (mlc (Nl.nl (e := eI) (16 : Int)) (mlc (Nl.nl (e := eI) (10 : Int)) (mlc (Nl.nl (e := eI) (8 : Int)) (ml0)))))) (Es_cons (E_tup (Es_cons (E_cst) (Es_cons (E_cst) (Es_cons (E_cst) (Es_cons (E_cst) (Es_nil))))) (mlc (Nl.nl (e := eI) (50 : Int)) (mlc (Nl.nl (e := eI) (7 : Int)) (mlc (Nl.nl (e := eI) (0 : Int)) (mlc (Nl.nl (e := eI) (1 : Int)) (ml0)))))) (Es_cons (E_tup (Es_cons (E_cst) (Es_cons (E_cst) (Es_cons (E_cst) (Es_cons (E_cst) (Es_nil))))) (mlc (Nl.nl (e := eI) (6 : Int)) (mlc (Nl.nl (e := eI) (3 : Int)) (mlc (Nl.nl (e := eI) (0 : Int)) (mlc (Nl.nl (e := eI) (3 : Int)) (ml0)))))) (Es_cons (E_tup (Es_cons (E_cst) (Es_cons (E_cst) (Es_cons (E_cst) (Es_cons (E_cst) (Es_nil))))) (mlc (Nl.nl (e := eI) (6 : Int)) (mlc (Nl.nl (e := eI) (1 : Int)) (mlc (Nl.nl (e := eI) (0 : Int)) (mlc (Nl.nl (e := eI) (0 : Int)) (ml0)))))) (Es_cons (E_tup (Es_cons (E_cst) (Es_cons (E_cst) (Es_cons (E_cst) (Es_cons (E_cst) (Es_nil))))) (mlc (Nl.nl (e := eI) (33 : Int)) (mlc (Nl.nl (e := eI) (16 : Int)) (mlc (Nl.nl (e := eI) (7 : Int)) (mlc (Nl.nl (e := eI) (8 : Int)) (ml0)))))) (Es_cons (E_tup (Es_cons (E_cst) (Es_cons (E_cst) (Es_cons (E_cst) (Es_cons (E_cst) (Es_nil))))) (mlc (Nl.nl (e := eI) (57 : Int)) (mlc (Nl.nl (e := eI) (28 : Int)) (mlc (Nl.nl (e := eI) (13 : Int)) (mlc (Nl.nl (e := eI) (14 : Int)) (ml0)))))) (Es_nil)))))))))))))))))) (mlc (Nl.nl (e := (eP4 eI eI eI eI)) ((Int.fdiv (b_n * (b_n - (1 : Int))) (2 : Int)), ((2 : Int) * (b_n - (2 : Int))), (b_n - (2 : Int)), (4 : Int))) (mlc (Nl.nl (e := (eP4 eI eI eI eI)) ((b_n * b_n), ((2 : Int) * (b_n - (1 : Int))), (b_n - (2 : Int)), (2 : Int))) (mlc (Nl.nl (e := (eP4 eI eI eI eI)) ((b_n * b_n), ((3 : Int) * (b_n - (1 : Int))), b_n, (6 : Int))) (mlc (Nl.nl (e := (eP4 eI eI eI eI)) (b_p, (Int.fdiv (b_p - (1 : Int)) (2 : Int)), (Int.fdiv (b_p - (5 : Int)) (4 : Int)), (Int.fdiv (b_p - (1 : Int)) (4 : Int)))) (mlc (Nl.nl (e := (eP4 eI eI eI eI)) ((10 : Int), (3 : Int), (0 : Int), (1 : Int))) (mlc (Nl.nl (e := (eP4 eI eI eI eI)) ((16 : Int), (5 : Int), (0 : Int), (2 : Int))) (mlc (Nl.nl (e := (eP4 eI eI eI eI)) ((28 : Int), (9 : Int), (0 : Int), (4 : Int))) (mlc (Nl.nl (e := (eP4 eI eI eI eI)) ((50 : Int), (21 : Int), (4 : Int), (12 : Int))) (mlc (Nl.nl (e := (eP4 eI eI eI eI)) ((21 : Int), (10 : Int), (4 : Int), (5 : Int))) (mlc (Nl.nl (e := (eP4 eI eI eI eI)) ((7 : Int), (3 : Int), (1 : Int), (1 : Int))) (mlc (Nl.nl (e := (eP4 eI eI eI eI)) ((10 : Int), (3 : Int), (1 : Int), (1 : Int))) (mlc (Nl.nl (e := (eP4 eI eI eI eI)) ((27 : Int), (16 : Int), (10 : Int), (8 : Int))) (mlc (Nl.nl (e := (eP4 eI eI eI eI)) ((50 : Int), (7 : Int), (0 : Int), (1 : Int))) (mlc (Nl.nl (e := (eP4 eI eI eI eI)) ((6 : Int), (3 : Int), (0 : Int), (3 : Int))) (mlc (Nl.nl (e := (eP4 eI eI eI eI)) ((6 : Int), (1 : Int), (0 : Int), (0 : Int))) (mlc (Nl.nl (e := (eP4 eI eI eI eI)) ((33 : Int), (16 : Int), (7 : Int), (8 : Int))) (mlc (Nl.nl (e := (eP4 eI eI eI eI)) ((57 : Int), (28 : Int), (13 : Int), (14 : Int))) (ml0)))))))))))))))))))) (T_nm (Nl.nl (e := (eL (eP4 eI eI eI eI))) [((Int.fdiv (b_n * (b_n - (1 : Int))) (2 : Int)), ((2 : Int) * (b_n - (2 : Int))), (b_n - (2 : Int)), (4 : Int)), ((b_n * b_n), ((2 : Int) * (b_n - (1 : Int))), (b_n - (2 : Int)), (2 : Int)), ((b_n * b_n), ((3 : Int) * (b_n - (1 : Int))), b_n, (6 : Int)), (b_p, (Int.fdiv (b_p - (1 : Int)) (2 : Int)), (Int.fdiv (b_p - (5 : Int)) (4 : Int)), (Int.fdiv (b_p - (1 : Int)) (4 : Int))), ((10 : Int), (3 : Int), (0 : Int), (1 : Int)), ((16 : Int), (5 : Int), (0 : Int), (2 : Int)), ((28 : Int), (9 : Int), (0 : Int), (4 : Int)), ((50 : Int), (21 : Int), (4 : Int), (12 : Int)), ((21 : Int), (10 : Int), (4 : Int), (5 : Int)), ((7 : Int), (3 : Int), (1 : Int), (1 : Int)), ((10 : Int), (3 : Int), (1 : Int), (1 : Int)), ((27 : Int), (16 : Int), (10 : Int), (8 : Int)), ((50 : Int), (7 : Int), (0 : Int), (1 : Int)), ((6 : Int), (3 : Int), (0 : Int), (3 : Int)), ((6 : Int), (1 : Int), (0 : Int), (0 : Int)), ((33 : Int), (16 : Int), (7 : Int), (8 : Int)), ((57 : Int), (28 : Int), (13 : Int), (14 : Int))])) ?_
  have h := (a2 (a2 (a2 (a2 (a2 (a2 h))))))
  exact w_27_r3 hwf h0 h
theorem w_27_r1 {b_n : Int} {sv : S2} {w2 w3 w4 : Option D} (h0 : 0 < st.length) (h : (O.l_near_k24_r1 b_n sv) = true) : HS ⟨callF T wf (k + 1), wf, T.length⟩ f27_r1 [some (.lr 0), some (eI b_n), w2, w3, w4] (ss st sv) (QF st.length (outS (eTl (eP4 eI eI eI eI)) st (V.l_near_k24_r1 b_n sv))) (EF st.length (outS (eTl (eP4 eI eI eI eI)) st (V.l_near_k24_r1 b_n sv))) := by
  refine HS_asg (E_ix (e := eI) sF (a1 (a2 h)) (E_lst (Es_cons (E_cst) (Es_cons (E_cst) (Es_cons (E_cst) (Es_cons (E_cst) (Es_cons (E_cst) (Es_cons (E_cst) (Es_cons (E_cst) (Es_cons (E_cst) (Es_nil))))))))) (mlc (Nl.nl (e := eI) (5 : Int)) (mlc (Nl.nl (e := eI) (13 : Int)) (mlc (Nl.nl (e := eI) (17 : Int)) (mlc (Nl.nl (e := eI) (29 : Int)) (mlc (Nl.nl (e := eI) (37 : Int)) (mlc (Nl.nl (e := eI) (41 : Int)) (mlc (Nl.nl (e := eI) (53 : Int)) (mlc (Nl.nl (e := eI) (61 : Int)) (ml0)))))))))) (E_callF (Es_cons (E_var rfl) (Es_cons (E_cst) (Es_nil))) (mlc (rfl) (mlc (Nl.nl (e := eI) (8 : Int)) (ml0))) (take_w (T := T) (wf := wf) (g := 13) rfl h0 (a_m := (8 : Int)) (a1 h)))) (T_nm (Nl.nl (e := eI) (getI [(5 : Int), (13 : Int), (17 : Int), (29 : Int), (37 : Int), (41 : Int), (53 : Int), (61 : Int)] ((V.l_take sv (8 : Int)).1)))) ?_
  have h := (a2 (a2 h))
  exact w_27_r2 hwf h0 h
theorem w_27 {s : S2} (h0 : 0 < st.length) (h : O.l_near_k24 s = true) : callF T wf (k + 2) 27 [.lr 0] (ss st s) = outS (eTl (eP4 eI eI eI eI)) st (V.l_near_k24 s) := by
  refine call_HS (f := f27) rfl rfl ?_
  rw [show (ss st s).length = st.length from ss_len s]
  have h := h
  show HS _ _ [some (.lr 0), none, none, none, none] _ (QF st.length (outS (eTl (eP4 eI eI eI eI)) st (V.l_near_k24 s))) (EF st.length (outS (eTl (eP4 eI eI eI eI)) st (V.l_near_k24 s)))
  refine HS_asg (E_add (E_cst) (E_callF (Es_cons (E_var rfl) (Es_cons (E_cst) (Es_nil))) (mlc (rfl) (mlc (Nl.nl (e := eI) (8 : Int)) (ml0))) (take_w (T := T) (wf := wf) (g := 13) rfl h0 (a_m := (8 : Int)) (a1 h)))) (T_nm (Nl.nl (e := eI) ((4 : Int) + (V.l_take s (8 : Int)).1))) ?_
  have h := (a2 h)
  exact w_27_r1 hwf h0 h
theorem w_21_l1c {b_w : Int} {q : Int} {rr : Rho} {sx : Sto} (h : (O.l_root_c1 b_w q) = true) (hI : (I_21_1 st b_w) q rr sx) : evE ⟨callF T wf (k + 0), wf, T.length⟩ (.prim .lt [.prim .mul [.var 1, .var 1], .var 0]) rr sx = .ok (.bl (V.l_root_c1 b_w q)) sx := by
  obtain ⟨e1, e2⟩ := hI
  subst e1 e2
  exact E_lt (E_mul h (E_var rfl) (E_var rfl)) (E_var rfl)
theorem w_21_l1 {b_w : Int} {q : Int} {rr : Rho} {sx : Sto} (h : (O.l_root_l1 q) = true) (hI : (I_21_1 st b_w) q rr sx) : HS ⟨callF T wf (k + 0), wf, T.length⟩ f21_b1 rr sx (QL (I_21_1 st b_w) (V.l_root_l1 q)) (EN) := by
  obtain ⟨e1, e2⟩ := hI
  subst e1 e2
  refine HS_asg (E_add (E_var rfl) (E_cst)) (T_nm (Nl.nl (e := eI) (q + (1 : Int)))) ?_
  exact HS_nil ⟨.inl rfl, rfl, rfl⟩
theorem w_21 {a_w : Int} (h : O.l_root a_w = true) : callF T wf (k + 1) 21 [eI a_w] st = .ok ((eO eI) (V.l_root a_w)) st := by
  refine call_HS (f := f21) rfl rfl ?_
  have h := h
  show HS _ _ [some (eI a_w), none] _ (QF st.length (.ok ((eO eI) (V.l_root a_w)) st)) (EF st.length (.ok ((eO eI) (V.l_root a_w)) st))
  refine HS_asg (E_cst) (T_nm (Nl.nl (e := eI) (0 : Int))) ?_
  refine HS_while (I := (I_21_1 st a_w)) (cv := V.l_root_c1 a_w) (oc := O.l_root_c1 a_w) (step := (V.l_root_l1)) (ok := (O.l_root_l1)) (n := Int.toNat (a_w - (0 : Int)) + 1) (s0 := (0 : Int)) (hwf _ (a1 h)) ⟨rfl, rfl⟩ (a1 (a2 h)) (fun q rr sx h hI => w_21_l1c hwf h hI) (fun q rr sx h1 h2 h hI => w_21_l1 hwf h hI) ?_
  rintro rr sx ⟨e1, e2⟩
  subst e1 e2
  have h := (a2 (a2 h))
  exact HS_ret (E_ite (e := (eO eI)) (E_and (E_gt (E_var rfl) (E_cst)) (fun hc1 => E_eqI (E_mul (i1 h hc1) (E_var rfl) (E_var rfl)) (E_var rfl))) (fun hc2 => E_var rfl) (fun hc2 => E_cst)) (q_ret rfl)
theorem w_20_l1c {b_n : Int} {b_d : Int} {q : Int × Int} {rr : Rho} {sx : Sto} (h : (O.l_frac_c1 q) = true) (hI : (I_20_1 st b_n b_d) q rr sx) : evE ⟨callF T wf (k + 0), wf, T.length⟩ (.prim .ne [.var 3, .cst (.int 0)]) rr sx = .ok (.bl (V.l_frac_c1 q)) sx := by
  obtain ⟨e1, e2⟩ := hI
  subst e1 e2
  exact E_neI (E_var rfl) (E_cst)
theorem w_20_l1 {b_n : Int} {b_d : Int} {q : Int × Int} {rr : Rho} {sx : Sto} (h : (O.l_frac_l1 q) = true) (hI : (I_20_1 st b_n b_d) q rr sx) : HS ⟨callF T wf (k + 0), wf, T.length⟩ f20_b1 rr sx (QL (I_20_1 st b_n b_d) (V.l_frac_l1 q)) (EN) := by
  obtain ⟨e1, e2⟩ := hI
  subst e1 e2
  refine HS_asg (E_tup (Es_cons (E_var rfl) (Es_cons (E_mod (a1 h) (E_toInt (E_var rfl)) (E_var rfl)) (Es_nil))) (mlc (Nl.nl (e := eI) q.2) (mlc (Nl.nl (e := eI) (Int.fmod q.1 q.2)) (ml0)))) (T_tp rfl rfl (Ts_cons (T_nm (Nl.nl (e := eI) q.2)) (Ts_cons (T_nm (Nl.nl (e := eI) (Int.fmod q.1 q.2))) (Ts_nil)))) ?_
  have h := (a2 h)
  exact HS_nil ⟨.inl rfl, rfl, rfl⟩
theorem w_20_r3 {b_n : Int} {b_d : Int} {b_a : Int} {w3 : Option D} (h : (O.l_frac_r3 b_n b_d b_a) = true) : HS ⟨callF T wf (k + 0), wf, T.length⟩ f20_r3 [some (eI b_n), some (eI b_d), some (eI b_a), w3] st (QF st.length (.ok ((eP2 eI eI) (V.l_frac_r3 b_n b_d b_a)) st)) (EF st.length (.ok ((eP2 eI eI) (V.l_frac_r3 b_n b_d b_a)) st)) := by
  exact HS_ret (E_tup (Es_cons (E_fdiv (a1 h) (E_var rfl) (E_var rfl)) (Es_cons (E_fdiv (a2 h) (E_var rfl) (E_var rfl)) (Es_nil))) (mlc (Nl.nl (e := eI) (Int.fdiv b_n b_a)) (mlc (Nl.nl (e := eI) (Int.fdiv b_d b_a)) (ml0)))) (q_ret rfl)
theorem w_20_r2 {b_n : Int} {b_d : Int} {b_a : Int} {w3 : Option D} (h : (O.l_frac_r2 b_n b_d b_a) = true) : HS ⟨callF T wf (k + 0), wf, T.length⟩ f20_r2 [some (eI b_n), some (eI b_d), some (eI b_a), w3] st (QF st.length (.ok ((eP2 eI eI) (V.l_frac_r2 b_n b_d b_a)) st)) (EF st.length (.ok ((eP2 eI eI) (V.l_frac_r2 b_n b_d b_a)) st)) := by
  refine HS_asg (E_ite (e := eI) (E_gt (E_var rfl) (E_cst)) (fun hc1 => E_var rfl) (fun hc1 => E_neg (E_var rfl))) (T_nm (Nl.nl (e := eI) (bif (decide (b_d > (0 : Int))) then b_a else (-b_a)))) ?_
  exact w_20_r3 hwf h
theorem w_20 {a_n : Int} {a_d : Int} (h : O.l_frac a_n a_d = true) : callF T wf (k + 1) 20 [eI a_n, eI a_d] st = .ok ((eP2 eI eI) (V.l_frac a_n a_d)) st := by
  refine call_HS (f := f20) rfl rfl ?_
  have h := h
  show HS _ _ [some (eI a_n), some (eI a_d), none, none] _ (QF st.length (.ok ((eP2 eI eI) (V.l_frac a_n a_d)) st)) (EF st.length (.ok ((eP2 eI eI) (V.l_frac a_n a_d)) st))
  refine HS_asg (E_tup (Es_cons (E_abs (E_var rfl)) (Es_cons (E_abs (E_var rfl)) (Es_nil))) (mlc (Nl.nl (e := eI) (Int.natAbs a_n : Int)) (mlc (Nl.nl (e := eI) (Int.natAbs a_d : Int)) (ml0)))) (T_tp rfl rfl (Ts_cons (T_nm (Nl.nl (e := eI) (Int.natAbs a_n : Int))) (Ts_cons (T_nm (Nl.nl (e := eI) (Int.natAbs a_d : Int))) (Ts_nil)))) ?_
  refine HS_while (I := (I_20_1 st a_n a_d)) (cv := V.l_frac_c1) (oc := O.l_frac_c1) (step := (V.l_frac_l1)) (ok := (O.l_frac_l1)) (n := Int.natAbs (Int.natAbs a_d : Int) + 1) (s0 := ((Int.natAbs a_n : Int), (Int.natAbs a_d : Int))) (hwf _ (a1 h)) ⟨rfl, rfl⟩ (a1 (a2 h)) (fun q rr sx h hI => w_20_l1c hwf h hI) (fun q rr sx h1 h2 h hI => w_20_l1 hwf h hI) ?_
  rintro rr sx ⟨e1, e2⟩
  subst e1 e2
  have h := (a2 (a2 h))
  exact w_20_r2 hwf h
theorem w_23_r2 {b_v : Int} {b_q : Option Int} {b_w : Int} {b_u : Int} {w1 w2 w3 w7 w8 : Option D} (h : (O.l_parts_r2 b_v b_q b_w b_u) = true) : HS ⟨callF T wf (k + 1), wf, T.length⟩ f23_r2 [some (eI b_v), w1, w2, w3, some ((eO eI) b_q), some (eI b_w), some (eI b_u), w7, w8] st (QF st.length (.ok ((eP5 eI eI (eO eI) (eO (eP2 eI eI)) (eO (eP2 eI eI))) (V.l_parts_r2 b_v b_q b_w b_u)) st)) (EF st.length (.ok ((eP5 eI eI (eO eI) (eO (eP2 eI eI)) (eO (eP2 eI eI))) (V.l_parts_r2 b_v b_q b_w b_u)) st)) := by
  refine HS_asg (E_tup (Es_cons (E_callF (Es_cons (E_sub (E_mul (a1 (a2 h)) (E_sub (E_var rfl) (E_cst)) (E_some (e := eI) (a1 h) (E_var rfl))) (E_var rfl)) (Es_cons (E_mul (a1 (a2 (a2 (a2 h)))) (E_cst) (E_some (e := eI) (a1 (a2 (a2 h))) (E_var rfl))) (Es_nil))) (mlc (Nl.nl (e := eI) (((b_v - (1 : Int)) * (getO b_q)) - b_u)) (mlc (Nl.nl (e := eI) ((2 : Int) * (getO b_q))) (ml0))) (w_20 hwf (a1 (a2 (a2 (a2 (a2 h))))))) (Es_cons (E_callF (Es_cons (E_add (E_mul (a1 (a2 (a2 (a2 (a2 (a2 (a2 h))))))) (E_sub (E_var rfl) (E_cst)) (E_some (e := eI) (a1 (a2 (a2 (a2 (a2 (a2 h)))))) (E_var rfl))) (E_var rfl)) (Es_cons (E_mul (a1 (a2 (a2 (a2 (a2 (a2 (a2 (a2 (a2 h))))))))) (E_cst) (E_some (e := eI) (a1 (a2 (a2 (a2 (a2 (a2 (a2 (a2 h)))))))) (E_var rfl))) (Es_nil))) (mlc (Nl.nl (e := eI) (((b_v - (1 : Int)) * (getO b_q)) + b_u)) (mlc (Nl.nl (e := eI) ((2 : Int) * (getO b_q))) (ml0))) (w_20 hwf (a1 (a2 (a2 (a2 (a2 (a2 (a2 (a2 (a2 (a2 h)))))))))))) (Es_nil))) (mlc (Nl.nl (e := (eP2 eI eI)) (V.l_frac (((b_v - (1 : Int)) * (getO b_q)) - b_u) ((2 : Int) * (getO b_q)))) (mlc (Nl.nl (e := (eP2 eI eI)) (V.l_frac (((b_v - (1 : Int)) * (getO b_q)) + b_u) ((2 : Int) * (getO b_q)))) (ml0)))) (T_tp rfl rfl (Ts_cons (T_nm (Nl.nl (e := (eP2 eI eI)) (V.l_frac (((b_v - (1 : Int)) * (getO b_q)) - b_u) ((2 : Int) * (getO b_q))))) (Ts_cons (T_nm (Nl.nl (e := (eP2 eI eI)) (V.l_frac (((b_v - (1 : Int)) * (getO b_q)) + b_u) ((2 : Int) * (getO b_q))))) (Ts_nil)))) ?_
  have h := (a2 (a2 (a2 (a2 (a2 (a2 (a2 (a2 (a2 (a2 h))))))))))
  exact HS_ret (E_tup (Es_cons (E_var rfl) (Es_cons (E_var rfl) (Es_cons (E_var rfl) (Es_cons (E_var rfl) (Es_cons (E_var rfl) (Es_nil)))))) (mlc (Nl.nl (e := eI) b_w) (mlc (Nl.nl (e := eI) b_u) (mlc (Nl.nl (e := (eO eI)) b_q) (mlc (Nl.nl (e := (eO (eP2 eI eI))) (some (V.l_frac (((b_v - (1 : Int)) * (getO b_q)) - b_u) ((2 : Int) * (getO b_q))))) (mlc (Nl.nl (e := (eO (eP2 eI eI))) (some (V.l_frac (((b_v - (1 : Int)) * (getO b_q)) + b_u) ((2 : Int) * (getO b_q))))) (ml0))))))) (q_ret rfl)
theorem w_23_r1 {b_v : Int} {b_w : Int} {b_u : Int} {w1 w2 w3 w4 w7 w8 : Option D} (h : (O.l_parts_r1 b_v b_w b_u) = true) : HS ⟨callF T wf (k + 1), wf, T.length⟩ f23_r1 [some (eI b_v), w1, w2, w3, w4, some (eI b_w), some (eI b_u), w7, w8] st (QF st.length (.ok ((eP5 eI eI (eO eI) (eO (eP2 eI eI)) (eO (eP2 eI eI))) (V.l_parts_r1 b_v b_w b_u)) st)) (EF st.length (.ok ((eP5 eI eI (eO eI) (eO (eP2 eI eI)) (eO (eP2 eI eI))) (V.l_parts_r1 b_v b_w b_u)) st)) := by
  refine HS_asg (E_callF (Es_cons (E_var rfl) (Es_nil)) (mlc (Nl.nl (e := eI) b_w) (ml0)) (w_21 hwf (a1 h))) (T_nm (Nl.nl (e := (eO eI)) (V.l_root b_w))) ?_
  have h := (a2 h)
  refine HS_ifV (Q := fun b => QF st.length (.ok ((eP5 eI eI (eO eI) (eO (eP2 eI eI)) (eO (eP2 eI eI))) (bif b then (b_w, b_u, none, none, none) else (V.l_parts_r2 b_v (V.l_root b_w) b_w b_u))) st)) (E := fun b => EF st.length (.ok ((eP5 eI eI (eO eI) (eO (eP2 eI eI)) (eO (eP2 eI eI))) (bif b then (b_w, b_u, none, none, none) else (V.l_parts_r2 b_v (V.l_root b_w) b_w b_u))) st)) (E_isN (e := eI) (E_var rfl)) (fun hc => ?_) (fun hc => ?_)
  · show HS _ _ _ _ (QF st.length (.ok ((eP5 eI eI (eO eI) (eO (eP2 eI eI)) (eO (eP2 eI eI))) (b_w, b_u, none, none, none)) st)) (EF st.length (.ok ((eP5 eI eI (eO eI) (eO (eP2 eI eI)) (eO (eP2 eI eI))) (b_w, b_u, none, none, none)) st))
    have h := c1 h hc
    exact HS_ret (E_tup (Es_cons (E_var rfl) (Es_cons (E_var rfl) (Es_cons (E_cst) (Es_cons (E_cst) (Es_cons (E_cst) (Es_nil)))))) (mlc (Nl.nl (e := eI) b_w) (mlc (Nl.nl (e := eI) b_u) (mlc (Nl.nl (e := (eO eI)) none) (mlc (Nl.nl (e := (eO (eP2 eI eI))) none) (mlc (Nl.nl (e := (eO (eP2 eI eI))) none) (ml0))))))) (q_ret rfl)
  · show HS _ _ _ _ (QF st.length (.ok ((eP5 eI eI (eO eI) (eO (eP2 eI eI)) (eO (eP2 eI eI))) (V.l_parts_r2 b_v (V.l_root b_w) b_w b_u)) st)) (EF st.length (.ok ((eP5 eI eI (eO eI) (eO (eP2 eI eI)) (eO (eP2 eI eI))) (V.l_parts_r2 b_v (V.l_root b_w) b_w b_u)) st))
    have h := c0 h hc
    exact w_23_r2 hwf h
theorem w_23 {a_v : Int} {a_k : Int} {a_l : Int} {a_m : Int} (h : O.l_parts a_v a_k a_l a_m = true) : callF T wf (k + 2) 23 [eI a_v, eI a_k, eI a_l, eI a_m] st = .ok ((eP5 eI eI (eO eI) (eO (eP2 eI eI)) (eO (eP2 eI eI))) (V.l_parts a_v a_k a_l a_m)) st := by
  refine call_HS (f := f23) rfl rfl ?_
  have h := h
  show HS _ _ [some (eI a_v), some (eI a_k), some (eI a_l), some (eI a_m), none, none, none, none, none] _ (QF st.length (.ok ((eP5 eI eI (eO eI) (eO (eP2 eI eI)) (eO (eP2 eI eI))) (V.l_parts a_v a_k a_l a_m)) st)) (EF st.length (.ok ((eP5 eI eI (eO eI) (eO (eP2 eI eI)) (eO (eP2 eI eI))) (V.l_parts a_v a_k a_l a_m)) st))
  refine HS_asg (E_tup (Es_cons (E_add (E_mul (a1 h) (E_sub (E_var rfl) (E_var rfl)) (E_sub (E_var rfl) (E_var rfl))) (E_mul (a1 (a2 h)) (E_cst) (E_sub (E_var rfl) (E_var rfl)))) (Es_cons (E_add (E_mul (a1 (a2 (a2 h))) (E_cst) (E_var rfl)) (E_mul (a1 (a2 (a2 (a2 h)))) (E_sub (E_var rfl) (E_cst)) (E_sub (E_var rfl) (E_var rfl)))) (Es_nil))) (mlc (Nl.nl (e := eI) (((a_l - a_m) * (a_l - a_m)) + ((4 : Int) * (a_k - a_m)))) (mlc (Nl.nl (e := eI) (((2 : Int) * a_k) + ((a_v - (1 : Int)) * (a_l - a_m)))) (ml0)))) (T_tp rfl rfl (Ts_cons (T_nm (Nl.nl (e := eI) (((a_l - a_m) * (a_l - a_m)) + ((4 : Int) * (a_k - a_m))))) (Ts_cons (T_nm (Nl.nl (e := eI) (((2 : Int) * a_k) + ((a_v - (1 : Int)) * (a_l - a_m))))) (Ts_nil)))) ?_
  have h := (a2 (a2 (a2 (a2 h))))
  exact w_23_r1 hwf h
theorem w_22 {a_w : Int} (h : O.l_is_square a_w = true) : callF T wf (k + 2) 22 [eI a_w] st = .ok (eB (V.l_is_square a_w)) st := by
  refine call_HS (f := f22) rfl rfl ?_
  have h := h
  show HS _ _ [some (eI a_w)] _ (QF st.length (.ok (eB (V.l_is_square a_w)) st)) (EF st.length (.ok (eB (V.l_is_square a_w)) st))
  exact HS_ret (E_or (E_eqI (E_var rfl) (E_cst)) (fun hc1 => E_notN (e := eI) (E_callF (Es_cons (E_var rfl) (Es_nil)) (mlc (Nl.nl (e := eI) a_w) (ml0)) (w_21 hwf (i0 h hc1))))) (q_ret rfl)
theorem w_24_l4 {b_v : Int} {q : Unit} {x : Int} {rr : Rho} {sx : Sto} (h : (O.l_broken_l4 b_v q x) = true) (hI : (I_24_4 st b_v) q rr sx) : Holds (kBody ⟨callF T wf (k + 2), wf, T.length⟩ f24_b4 (evTg ⟨callF T wf (k + 2), wf, T.length⟩ (.nm 9) (eI x) rr sx)) (QR (I_24_4 st b_v) (fun r => QF st.length (.ok ((eO eS) r) st)) (V.l_broken_l4 b_v q x)) (ER (fun r => EF st.length (.ok ((eO eS) r) st)) (V.l_broken_l4 b_v q x)) := by
  obtain ⟨w1, w2, w3, w4, w5, w6, w7, w8, w9, w10, w11, e1, e2⟩ := hI
  subst e1 e2
  refine HB (T_nm (Nl.nl (e := eI) x)) ?_
  refine HS_ifV (Q := fun b => QR (I_24_4 st b_v) (fun r => QF st.length (.ok ((eO eS) r) st)) (bif b then (.rt none) else (.nx ()))) (E := fun b => ER (fun r => EF st.length (.ok ((eO eS) r) st)) (bif b then (.rt none) else (.nx ()))) (E_and (E_le (E_mul (a1 h) (E_var rfl) (E_var rfl)) (E_var rfl)) (fun hc2 => E_callF (Es_cons (E_sub (E_var rfl) (E_mul (a1 (i1 (a1 (a2 h)) hc2)) (E_var rfl) (E_var rfl))) (Es_nil)) (mlc (Nl.nl (e := eI) (b_v - (x * x))) (ml0)) (w_22 hwf (a2 (i1 (a1 (a2 h)) hc2))))) (fun hc => ?_) (fun hc => ?_)
  · show HS _ _ _ _ (QR (I_24_4 st b_v) (fun r => QF st.length (.ok ((eO eS) r) st)) (.rt none)) (ER (fun r => EF st.length (.ok ((eO eS) r) st)) (.rt none))
    have h := c1 (a2 (a2 h)) hc
    exact HS_ret (E_cst) (⟨⟨_, rfl⟩, q_ret rfl⟩)
  · show HS _ _ _ _ (QR (I_24_4 st b_v) (fun r => QF st.length (.ok ((eO eS) r) st)) (.nx ())) (ER (fun r => EF st.length (.ok ((eO eS) r) st)) (.nx ()))
    have h := c0 (a2 (a2 h)) hc
    exact HS_nil ⟨.inl rfl, _, _, _, _, _, _, _, _, _, _, _, rfl, rfl⟩
theorem w_24_r3 {b_v : Int} {w1 w2 w3 w4 w5 w6 w7 w8 w9 w10 w11 : Option D} (h : (O.l_broken_r3 b_v) = true) : HS ⟨callF T wf (k + 2), wf, T.length⟩ f24_r3 [some (eI b_v), w1, w2, w3, w4, w5, w6, w7, w8, w9, w10, w11] st (QF st.length (.ok ((eO eS) (V.l_broken_r3 b_v)) st)) (EF st.length (.ok ((eO eS) (V.l_broken_r3 b_v)) st)) := by
  refine HS_forR (I := (I_24_4 st b_v)) (step := (V.l_broken_l4 b_v)) (ok := (O.l_broken_l4 b_v)) (xs := (rI (0 : Int) b_v)) (s0 := ()) (e := eI) (f := fun q => (some S_squares)) (g := fun q => true) (Q := fun r => QF st.length (.ok ((eO eS) r) st)) (E := fun r => EF st.length (.ok ((eO eS) r) st)) (S_rng1 (a1 h) (E_var rfl)) (fun _ _ _ _ => trivial) ⟨_, _, _, _, _, _, _, _, _, _, _, rfl, rfl⟩ (a1 (a2 h)) (a2 (a2 h)) (fun q x rr sx h hI => w_24_l4 hwf h hI) ?_
  intro q
  intro rr sx h hI
  obtain ⟨w1, w2, w3, w4, w5, w6, w7, w8, w9, w10, w11, e1, e2⟩ := hI
  subst e1 e2
  exact HS_ret (E_cst) (q_ret rfl)
theorem w_24_r9  {w0 w1 w2 w3 w4 w5 w6 w7 w8 w9 w10 w11 : Option D} (h : (O.l_broken_r9) = true) : HS ⟨callF T wf (k + 2), wf, T.length⟩ f24_r9 [w0, w1, w2, w3, w4, w5, w6, w7, w8, w9, w10, w11] st (QF st.length (.ok ((eO eS) (V.l_broken_r9)) st)) (EF st.length (.ok ((eO eS) (V.l_broken_r9)) st)) := by
  exact HS_ret (E_cst) (q_ret rfl)
theorem w_24_r8 {b_v : Int} {b_f : Option (Int × Int)} {b_g : Option (Int × Int)} {w1 w2 w3 w4 w5 w6 w9 w10 w11 : Option D} (h : (O.l_broken_r8 b_v b_f b_g) = true) : HS ⟨callF T wf (k + 2), wf, T.length⟩ (f24_r8 ++ f24_r9) [some (eI b_v), w1, w2, w3, w4, w5, w6, some ((eO (eP2 eI eI)) b_f), some ((eO (eP2 eI eI)) b_g), w9, w10, w11] st (QF st.length (.ok ((eO eS) (V.l_broken_r8 b_v b_f b_g)) st)) (EF st.length (.ok ((eO eS) (V.l_broken_r8 b_v b_f b_g)) st)) := by
  refine HS_ifV (Q := fun b => QF st.length (.ok ((eO eS) (bif b then (some S_absolute) else (V.l_broken_r9))) st)) (E := fun b => EF st.length (.ok ((eO eS) (bif b then (some S_absolute) else (V.l_broken_r9))) st)) (E_or (E_gt (E_mul (a1 h) (E_cst) (E_var rfl)) (E_mul (a1 (a2 (a2 (a2 h)))) (E_c0 (E_some (e := (eP2 eI eI)) (a1 (a2 h)) (E_var rfl))) (E_add (E_c0 (E_some (e := (eP2 eI eI)) (a1 (a2 (a2 h))) (E_var rfl))) (E_cst)))) (fun hc7 => E_gt (E_mul (a1 (i0 (a1 (a2 (a2 (a2 (a2 h))))) hc7)) (E_cst) (E_var rfl)) (E_mul (a2 (a2 (a2 (i0 (a1 (a2 (a2 (a2 (a2 h))))) hc7)))) (E_c0 (E_some (e := (eP2 eI eI)) (a1 (a2 (i0 (a1 (a2 (a2 (a2 (a2 h))))) hc7))) (E_var rfl))) (E_add (E_c0 (E_some (e := (eP2 eI eI)) (a1 (a2 (a2 (i0 (a1 (a2 (a2 (a2 (a2 h))))) hc7)))) (E_var rfl))) (E_cst))))) (fun hc => ?_) (fun hc => ?_)
  · show HS _ _ _ _ (QF st.length (.ok ((eO eS) (some S_absolute)) st)) (EF st.length (.ok ((eO eS) (some S_absolute)) st))
    have h := c1 (a2 (a2 (a2 (a2 (a2 h))))) hc
    exact HS_ret (E_cst) (q_ret rfl)
  · show HS _ _ _ _ (QF st.length (.ok ((eO eS) (V.l_broken_r9)) st)) (EF st.length (.ok ((eO eS) (V.l_broken_r9)) st))
    have h := c0 (a2 (a2 (a2 (a2 (a2 h))))) hc
    exact w_24_r9 hwf h
theorem w_24_r7 {b_v : Int} {b_k : Int} {b_m : Int} {b_f : Option (Int × Int)} {b_g : Option (Int × Int)} {b_r : Int} {b_s : Int} {w2 w4 w5 w6 w9 : Option D} (h : (O.l_broken_r7 b_v b_k b_m b_f b_g b_r b_s) = true) : HS ⟨callF T wf (k + 2), wf, T.length⟩ f24_r7 [some (eI b_v), some (eI b_k), w2, some (eI b_m), w4, w5, w6, some ((eO (eP2 eI eI)) b_f), some ((eO (eP2 eI eI)) b_g), w9, some (eI b_r), some (eI b_s)] st (QF st.length (.ok ((eO eS) (V.l_broken_r7 b_v b_k b_m b_f b_g b_r b_s)) st)) (EF st.length (.ok ((eO eS) (V.l_broken_r7 b_v b_k b_m b_f b_g b_r b_s)) st)) := by
  refine HS_ifV (Q := fun b => QF st.length (.ok ((eO eS) (bif b then (bif ((decide (((b_r + (1 : Int)) * ((b_k + b_r) + (((2 : Int) * b_r) * b_s))) > (((b_k + b_r) * (b_s + (1 : Int))) * (b_s + (1 : Int))))) || (decide (((b_s + (1 : Int)) * ((b_k + b_s) + (((2 : Int) * b_r) * b_s))) > (((b_k + b_s) * (b_r + (1 : Int))) * (b_r + (1 : Int)))))) then (some S_krein) else (V.l_broken_r8 b_v b_f b_g)) else (V.l_broken_r9))) st)) (E := fun b => EF st.length (.ok ((eO eS) (bif b then (bif ((decide (((b_r + (1 : Int)) * ((b_k + b_r) + (((2 : Int) * b_r) * b_s))) > (((b_k + b_r) * (b_s + (1 : Int))) * (b_s + (1 : Int))))) || (decide (((b_s + (1 : Int)) * ((b_k + b_s) + (((2 : Int) * b_r) * b_s))) > (((b_k + b_s) * (b_r + (1 : Int))) * (b_r + (1 : Int)))))) then (some S_krein) else (V.l_broken_r8 b_v b_f b_g)) else (V.l_broken_r9))) st)) (E_notinI (zs := [(0 : Int), b_k]) sT (E_var rfl) (E_tup (Es_cons (E_cst) (Es_cons (E_var rfl) (Es_nil))) (mlc (Nl.nl (e := eI) (0 : Int)) (mlc (Nl.nl (e := eI) b_k) (ml0))))) (fun hc => ?_) (fun hc => ?_)
  · show HS _ _ _ _ (QF st.length (.ok ((eO eS) (bif ((decide (((b_r + (1 : Int)) * ((b_k + b_r) + (((2 : Int) * b_r) * b_s))) > (((b_k + b_r) * (b_s + (1 : Int))) * (b_s + (1 : Int))))) || (decide (((b_s + (1 : Int)) * ((b_k + b_s) + (((2 : Int) * b_r) * b_s))) > (((b_k + b_s) * (b_r + (1 : Int))) * (b_r + (1 : Int)))))) then (some S_krein) else (V.l_broken_r8 b_v b_f b_g))) st)) (EF st.length (.ok ((eO eS) (bif ((decide (((b_r + (1 : Int)) * ((b_k + b_r) + (((2 : Int) * b_r) * b_s))) > (((b_k + b_r) * (b_s + (1 : Int))) * (b_s + (1 : Int))))) || (decide (((b_s + (1 : Int)) * ((b_k + b_s) + (((2 : Int) * b_r) * b_s))) > (((b_k + b_s) * (b_r + (1 : Int))) * (b_r + (1 : Int)))))) then (some S_krein) else (V.l_broken_r8 b_v b_f b_g))) st))
    have h := c1 h hc
    refine HS_ifV (Q := fun b => QF st.length (.ok ((eO eS) (bif b then (some S_krein) else (V.l_broken_r8 b_v b_f b_g))) st)) (E := fun b => EF st.length (.ok ((eO eS) (bif b then (some S_krein) else (V.l_broken_r8 b_v b_f b_g))) st)) (E_or (E_gt (E_mul (a1 (a2 (a2 h))) (E_add (E_var rfl) (E_cst)) (E_add (E_add (E_var rfl) (E_var rfl)) (E_mul (a1 (a2 h)) (E_mul (a1 h) (E_cst) (E_var rfl)) (E_var rfl)))) (E_mul (a1 (a2 (a2 (a2 (a2 h))))) (E_mul (a1 (a2 (a2 (a2 h)))) (E_add (E_var rfl) (E_var rfl)) (E_add (E_var rfl) (E_cst))) (E_add (E_var rfl) (E_cst)))) (fun hc6 => E_gt (E_mul (a1 (a2 (a2 (i0 (a1 (a2 (a2 (a2 (a2 (a2 h)))))) hc6)))) (E_add (E_var rfl) (E_cst)) (E_add (E_add (E_var rfl) (E_var rfl)) (E_mul (a1 (a2 (i0 (a1 (a2 (a2 (a2 (a2 (a2 h)))))) hc6))) (E_mul (a1 (i0 (a1 (a2 (a2 (a2 (a2 (a2 h)))))) hc6)) (E_cst) (E_var rfl)) (E_var rfl)))) (E_mul (a2 (a2 (a2 (a2 (i0 (a1 (a2 (a2 (a2 (a2 (a2 h)))))) hc6))))) (E_mul (a1 (a2 (a2 (a2 (i0 (a1 (a2 (a2 (a2 (a2 (a2 h)))))) hc6))))) (E_add (E_var rfl) (E_var rfl)) (E_add (E_var rfl) (E_cst))) (E_add (E_var rfl) (E_cst))))) (fun hc => ?_) (fun hc => ?_)
    · show HS _ _ _ _ (QF st.length (.ok ((eO eS) (some S_krein)) st)) (EF st.length (.ok ((eO eS) (some S_krein)) st))
      have h := c1 (a2 (a2 (a2 (a2 (a2 (a2 h)))))) hc
      exact HS_ret (E_cst) (q_ret rfl)
    · show HS _ _ _ _ (QF st.length (.ok ((eO eS) (V.l_broken_r8 b_v b_f b_g)) st)) (EF st.length (.ok ((eO eS) (V.l_broken_r8 b_v b_f b_g)) st))
      have h := c0 (a2 (a2 (a2 (a2 (a2 (a2 h)))))) hc
      exact w_24_r8 hwf h
  · show HS _ _ _ _ (QF st.length (.ok ((eO eS) (V.l_broken_r9)) st)) (EF st.length (.ok ((eO eS) (V.l_broken_r9)) st))
    have h := c0 h hc
    exact w_24_r9 hwf h
theorem w_24_r6 {b_v : Int} {b_k : Int} {b_l : Int} {b_m : Int} {b_q : Option Int} {b_f : Option (Int × Int)} {b_g : Option (Int × Int)} {w4 w5 w9 w10 w11 : Option D} (h : (O.l_broken_r6 b_v b_k b_l b_m b_q b_f b_g) = true) : HS ⟨callF T wf (k + 2), wf, T.length⟩ f24_r6 [some (eI b_v), some (eI b_k), some (eI b_l), some (eI b_m), w4, w5, some ((eO eI) b_q), some ((eO (eP2 eI eI)) b_f), some ((eO (eP2 eI eI)) b_g), w9, w10, w11] st (QF st.length (.ok ((eO eS) (V.l_broken_r6 b_v b_k b_l b_m b_q b_f b_g)) st)) (EF st.length (.ok ((eO eS) (V.l_broken_r6 b_v b_k b_l b_m b_q b_f b_g)) st)) := by
  refine HS_asg (E_tup (Es_cons (E_fdiv (by decide) (E_add (E_sub (E_var rfl) (E_var rfl)) (E_some (e := eI) (a1 h) (E_var rfl))) (E_cst)) (Es_cons (E_fdiv (by decide) (E_sub (E_sub (E_var rfl) (E_var rfl)) (E_some (e := eI) (a1 (a2 h)) (E_var rfl))) (E_cst)) (Es_nil))) (mlc (Nl.nl (e := eI) (Int.fdiv ((b_l - b_m) + (getO b_q)) (2 : Int))) (mlc (Nl.nl (e := eI) (Int.fdiv ((b_l - b_m) - (getO b_q)) (2 : Int))) (ml0)))) (T_tp rfl rfl (Ts_cons (T_nm (Nl.nl (e := eI) (Int.fdiv ((b_l - b_m) + (getO b_q)) (2 : Int)))) (Ts_cons (T_nm (Nl.nl (e := eI) (Int.fdiv ((b_l - b_m) - (getO b_q)) (2 : Int)))) (Ts_nil)))) ?_
  have h := (a2 (a2 h))
  exact w_24_r7 hwf h
theorem w_24_r5 {b_v : Int} {b_k : Int} {b_l : Int} {b_m : Int} {b_q : Option Int} {b_f : Option (Int × Int)} {b_g : Option (Int × Int)} {w4 w5 w9 w10 w11 : Option D} (h : (O.l_broken_r5 b_v b_k b_l b_m b_q b_f b_g) = true) : HS ⟨callF T wf (k + 2), wf, T.length⟩ f24_r5 [some (eI b_v), some (eI b_k), some (eI b_l), some (eI b_m), w4, w5, some ((eO eI) b_q), some ((eO (eP2 eI eI)) b_f), some ((eO (eP2 eI eI)) b_g), w9, w10, w11] st (QF st.length (.ok ((eO eS) (V.l_broken_r5 b_v b_k b_l b_m b_q b_f b_g)) st)) (EF st.length (.ok ((eO eS) (V.l_broken_r5 b_v b_k b_l b_m b_q b_f b_g)) st)) := by
  refine HS_ifV (Q := fun b => QF st.length (.ok ((eO eS) (bif b then (some S_whole) else (V.l_broken_r6 b_v b_k b_l b_m b_q b_f b_g))) st)) (E := fun b => EF st.length (.ok ((eO eS) (bif b then (some S_whole) else (V.l_broken_r6 b_v b_k b_l b_m b_q b_f b_g))) st)) (E_or (E_neI (E_c1 (E_some (e := (eP2 eI eI)) (a1 h) (E_var rfl))) (E_cst)) (fun hc5 => E_or (E_neI (E_c1 (E_some (e := (eP2 eI eI)) (a1 (i0 (a1 (a2 h)) hc5)) (E_var rfl))) (E_cst)) (fun hc4 => E_or (E_lt (E_c0 (E_some (e := (eP2 eI eI)) (a1 (i0 (a2 (i0 (a1 (a2 h)) hc5)) hc4)) (E_var rfl))) (E_cst)) (fun hc3 => E_lt (E_c0 (E_some (e := (eP2 eI eI)) (i0 (a2 (i0 (a2 (i0 (a1 (a2 h)) hc5)) hc4)) hc3) (E_var rfl))) (E_cst))))) (fun hc => ?_) (fun hc => ?_)
  · show HS _ _ _ _ (QF st.length (.ok ((eO eS) (some S_whole)) st)) (EF st.length (.ok ((eO eS) (some S_whole)) st))
    have h := c1 (a2 (a2 h)) hc
    exact HS_ret (E_cst) (q_ret rfl)
  · show HS _ _ _ _ (QF st.length (.ok ((eO eS) (V.l_broken_r6 b_v b_k b_l b_m b_q b_f b_g)) st)) (EF st.length (.ok ((eO eS) (V.l_broken_r6 b_v b_k b_l b_m b_q b_f b_g)) st))
    have h := c0 (a2 (a2 h)) hc
    exact w_24_r6 hwf h
theorem w_24_r2 {b_v : Int} {b_k : Int} {b_l : Int} {b_m : Int} {b_w : Int} {b_u : Int} {b_q : Option Int} {b_f : Option (Int × Int)} {b_g : Option (Int × Int)} {w9 w10 w11 : Option D} (h : (O.l_broken_r2 b_v b_k b_l b_m b_w b_u b_q b_f b_g) = true) : HS ⟨callF T wf (k + 2), wf, T.length⟩ f24_r2 [some (eI b_v), some (eI b_k), some (eI b_l), some (eI b_m), some (eI b_w), some (eI b_u), some ((eO eI) b_q), some ((eO (eP2 eI eI)) b_f), some ((eO (eP2 eI eI)) b_g), w9, w10, w11] st (QF st.length (.ok ((eO eS) (V.l_broken_r2 b_v b_k b_l b_m b_w b_u b_q b_f b_g)) st)) (EF st.length (.ok ((eO eS) (V.l_broken_r2 b_v b_k b_l b_m b_w b_u b_q b_f b_g)) st)) := by
  refine HS_ifV (Q := fun b => QF st.length (.ok ((eO eS) (bif b then (bif ((V.l_is_square b_w) || (!decide (b_u = (0 : Int)))) then (some S_whole) else (V.l_broken_r3 b_v)) else (V.l_broken_r5 b_v b_k b_l b_m b_q b_f b_g))) st)) (E := fun b => EF st.length (.ok ((eO eS) (bif b then (bif ((V.l_is_square b_w) || (!decide (b_u = (0 : Int)))) then (some S_whole) else (V.l_broken_r3 b_v)) else (V.l_broken_r5 b_v b_k b_l b_m b_q b_f b_g))) st)) (E_isN (e := eI) (E_var rfl)) (fun hc => ?_) (fun hc => ?_)
  · show HS _ _ _ _ (QF st.length (.ok ((eO eS) (bif ((V.l_is_square b_w) || (!decide (b_u = (0 : Int)))) then (some S_whole) else (V.l_broken_r3 b_v))) st)) (EF st.length (.ok ((eO eS) (bif ((V.l_is_square b_w) || (!decide (b_u = (0 : Int)))) then (some S_whole) else (V.l_broken_r3 b_v))) st))
    have h := c1 h hc
    refine HS_ifV (Q := fun b => QF st.length (.ok ((eO eS) (bif b then (some S_whole) else (V.l_broken_r3 b_v))) st)) (E := fun b => EF st.length (.ok ((eO eS) (bif b then (some S_whole) else (V.l_broken_r3 b_v))) st)) (E_or (E_callF (Es_cons (E_var rfl) (Es_nil)) (mlc (Nl.nl (e := eI) b_w) (ml0)) (w_22 hwf (a1 h))) (fun hc1 => E_neI (E_var rfl) (E_cst))) (fun hc => ?_) (fun hc => ?_)
    · show HS _ _ _ _ (QF st.length (.ok ((eO eS) (some S_whole)) st)) (EF st.length (.ok ((eO eS) (some S_whole)) st))
      have h := c1 (a2 h) hc
      exact HS_ret (E_cst) (q_ret rfl)
    · show HS _ _ _ _ (QF st.length (.ok ((eO eS) (V.l_broken_r3 b_v)) st)) (EF st.length (.ok ((eO eS) (V.l_broken_r3 b_v)) st))
      have h := c0 (a2 h) hc
      exact w_24_r3 hwf h
  · show HS _ _ _ _ (QF st.length (.ok ((eO eS) (V.l_broken_r5 b_v b_k b_l b_m b_q b_f b_g)) st)) (EF st.length (.ok ((eO eS) (V.l_broken_r5 b_v b_k b_l b_m b_q b_f b_g)) st))
    have h := c0 h hc
    exact w_24_r5 hwf h
theorem w_24_r1 {b_v : Int} {b_k : Int} {b_l : Int} {b_m : Int} {w4 w5 w6 w7 w8 w9 w10 w11 : Option D} (h : (O.l_broken_r1 b_v b_k b_l b_m) = true) : HS ⟨callF T wf (k + 2), wf, T.length⟩ f24_r1 [some (eI b_v), some (eI b_k), some (eI b_l), some (eI b_m), w4, w5, w6, w7, w8, w9, w10, w11] st (QF st.length (.ok ((eO eS) (V.l_broken_r1 b_v b_k b_l b_m)) st)) (EF st.length (.ok ((eO eS) (V.l_broken_r1 b_v b_k b_l b_m)) st)) := by
  refine HS_asg (E_callF (Es_cons (E_var rfl) (Es_cons (E_var rfl) (Es_cons (E_var rfl) (Es_cons (E_var rfl) (Es_nil))))) (mlc (Nl.nl (e := eI) b_v) (mlc (Nl.nl (e := eI) b_k) (mlc (Nl.nl (e := eI) b_l) (mlc (Nl.nl (e := eI) b_m) (ml0))))) (w_23 hwf (a1 h))) (T_tp rfl rfl (Ts_cons (T_nm (Nl.nl (e := eI) ((V.l_parts b_v b_k b_l b_m).1))) (Ts_cons (T_nm (Nl.nl (e := eI) ((V.l_parts b_v b_k b_l b_m).2.1))) (Ts_cons (T_nm (Nl.nl (e := (eO eI)) ((V.l_parts b_v b_k b_l b_m).2.2.1))) (Ts_cons (T_nm (Nl.nl (e := (eO (eP2 eI eI))) ((V.l_parts b_v b_k b_l b_m).2.2.2.1))) (Ts_cons (T_nm (Nl.nl (e := (eO (eP2 eI eI))) ((V.l_parts b_v b_k b_l b_m).2.2.2.2))) (Ts_nil))))))) ?_
  have h := (a2 h)
  exact w_24_r2 hwf h
theorem w_24 {a_v : Int} {a_k : Int} {a_l : Int} {a_m : Int} (h : O.l_broken a_v a_k a_l a_m = true) : callF T wf (k + 3) 24 [eI a_v, eI a_k, eI a_l, eI a_m] st = .ok ((eO eS) (V.l_broken a_v a_k a_l a_m)) st := by
  refine call_HS (f := f24) rfl rfl ?_
  have h := h
  show HS _ _ [some (eI a_v), some (eI a_k), some (eI a_l), some (eI a_m), none, none, none, none, none, none, none, none] _ (QF st.length (.ok ((eO eS) (V.l_broken a_v a_k a_l a_m)) st)) (EF st.length (.ok ((eO eS) (V.l_broken a_v a_k a_l a_m)) st))
  refine HS_ifV (Q := fun b => QF st.length (.ok ((eO eS) (bif b then (some S_count) else (V.l_broken_r1 a_v a_k a_l a_m))) st)) (E := fun b => EF st.length (.ok ((eO eS) (bif b then (some S_count) else (V.l_broken_r1 a_v a_k a_l a_m))) st)) (E_neI (E_mul (a1 h) (E_var rfl) (E_sub (E_sub (E_var rfl) (E_var rfl)) (E_cst))) (E_mul (a1 (a2 h)) (E_sub (E_sub (E_var rfl) (E_var rfl)) (E_cst)) (E_var rfl))) (fun hc => ?_) (fun hc => ?_)
  · show HS _ _ _ _ (QF st.length (.ok ((eO eS) (some S_count)) st)) (EF st.length (.ok ((eO eS) (some S_count)) st))
    have h := c1 (a2 (a2 h)) hc
    exact HS_ret (E_cst) (q_ret rfl)
  · show HS _ _ _ _ (QF st.length (.ok ((eO eS) (V.l_broken_r1 a_v a_k a_l a_m)) st)) (EF st.length (.ok ((eO eS) (V.l_broken_r1 a_v a_k a_l a_m)) st))
    have h := c0 (a2 (a2 h)) hc
    exact w_24_r1 hwf h
theorem w_16 {a_pair : (List Nat) × D} {a_due : D} (h : O.l_is_told a_pair a_due = true) : callF T wf (k + 19) 16 [(eP2 eS eD) a_pair, eD a_due] st = .ok (eB (V.l_is_told a_pair a_due)) st := by
  refine call_HS (f := f16) rfl rfl ?_
  have hh := h
  have h := (a2 h)
  show HS _ _ [some ((eP2 eS eD) a_pair), some (eD a_due)] _ (QF st.length (.ok (eB (V.l_is_told a_pair a_due)) st)) (EF st.length (.ok (eB (V.l_is_told a_pair a_due)) st))
  exact HS_ret (E_and (E_eqV (e := eS) (a1 h) (a1 (a2 h)) (E_c0 (E_var rfl)) (E_cst)) (fun hc1 => E_callFE [a_pair.2, a_due] (Es_cons (E_c1 (E_var rfl)) (Es_cons (E_var rfl) (Es_nil))) rfl (mlc (a1 (i1 (a2 (a2 h)) hc1)) (mlc (a1 (a2 (i1 (a2 (a2 h)) hc1))) (ml0))) (same_w (T := T) (wf := wf) (g := 14) (v := 2) (g1 := 0) rfl rfl (a := a_pair.2) (b := a_due) (a2 (a2 (i1 (a2 (a2 h)) hc1)))))) (q_ret rfl)
theorem w_0 {a_value : D} (h : O.is_integer a_value = true) : callF T wf (k + 1) 0 [eD a_value] st = .ok (eB (V.is_integer a_value)) st := by
  refine call_HS (f := f0) rfl rfl ?_
  have hh := h
  have h := (a2 h)
  show HS _ _ [some (eD a_value)] _ (QF st.length (.ok (eB (V.is_integer a_value)) st)) (EF st.length (.ok (eB (V.is_integer a_value)) st))
  exact HS_ret (E_and (E_instD (a1 h) (E_var rfl)) (fun hc1 => E_not (E_instD (i1 (a2 h) hc1) (E_var rfl)))) (q_ret rfl)
theorem w_1_r2 {b_n : Int} {b_low : Int} {b_high : Int} {b_middle : Int} (h : (O.root_of_r2 b_n b_low b_high b_middle) = true) : HS ⟨callF T wf (k + 0), wf, T.length⟩ f1_r2 [some (eI b_n), some (eI b_low), some (eI b_high), some (eI b_middle)] st (QL (I_1_1 st b_n) (V.root_of_r2 b_n b_low b_high b_middle)) (EN) := by
  refine HS_ifV (Q := fun b => QL (I_1_1 st b_n) (bif b then (b_middle, b_high) else (b_low, b_middle))) (E := fun b => EN) (E_le (E_mul (a1 h) (E_var rfl) (E_var rfl)) (E_var rfl)) (fun hc => ?_) (fun hc => ?_)
  · show HS _ _ _ _ (QL (I_1_1 st b_n) (b_middle, b_high)) (EN)
    have h := c1 (a2 h) hc
    refine HS_asg (E_var rfl) (T_nm (Nl.nl (e := eI) b_middle)) ?_
    exact HS_nil ⟨.inl rfl, _, rfl, rfl⟩
  · show HS _ _ _ _ (QL (I_1_1 st b_n) (b_low, b_middle)) (EN)
    have h := c0 (a2 h) hc
    refine HS_asg (E_var rfl) (T_nm (Nl.nl (e := eI) b_middle)) ?_
    exact HS_nil ⟨.inl rfl, _, rfl, rfl⟩
theorem w_1_l1c {b_n : Int} {q : Int × Int} {rr : Rho} {sx : Sto} (h : (O.root_of_c1 q) = true) (hI : (I_1_1 st b_n) q rr sx) : evE ⟨callF T wf (k + 0), wf, T.length⟩ (.prim .gt [.prim .sub [.var 2, .var 1], .cst (.int 1)]) rr sx = .ok (.bl (V.root_of_c1 q)) sx := by
  obtain ⟨w3, e1, e2⟩ := hI
  subst e1 e2
  exact E_gt (E_sub (E_var rfl) (E_var rfl)) (E_cst)
theorem w_1_l1 {b_n : Int} {q : Int × Int} {rr : Rho} {sx : Sto} (h : (O.root_of_l1 b_n q) = true) (hI : (I_1_1 st b_n) q rr sx) : HS ⟨callF T wf (k + 0), wf, T.length⟩ f1_b1 rr sx (QL (I_1_1 st b_n) (V.root_of_l1 b_n q)) (EN) := by
  obtain ⟨w3, e1, e2⟩ := hI
  subst e1 e2
  refine HS_asg (E_fdiv (by decide) (E_add (E_var rfl) (E_var rfl)) (E_cst)) (T_nm (Nl.nl (e := eI) (Int.fdiv (q.1 + q.2) (2 : Int)))) ?_
  exact w_1_r2 hwf h
theorem w_1_r3 {b_n : Int} {b_low : Int} {w2 w3 : Option D} (h : (O.root_of_r3 b_n b_low) = true) : HS ⟨callF T wf (k + 0), wf, T.length⟩ f1_r3 [some (eI b_n), some (eI b_low), w2, w3] st (QF st.length (.ok ((eO eI) (V.root_of_r3 b_n b_low)) st)) (EF st.length (.ok ((eO eI) (V.root_of_r3 b_n b_low)) st)) := by
  exact HS_ret (E_ite (e := (eO eI)) (E_eqI (E_mul h (E_var rfl) (E_var rfl)) (E_var rfl)) (fun hc1 => E_var rfl) (fun hc1 => E_cst)) (q_ret rfl)
theorem w_1 {a_n : Int} (h : O.root_of a_n = true) : callF T wf (k + 1) 1 [eI a_n] st = .ok ((eO eI) (V.root_of a_n)) st := by
  refine call_HS (f := f1) rfl rfl ?_
  have h := h
  show HS _ _ [some (eI a_n), none, none, none] _ (QF st.length (.ok ((eO eI) (V.root_of a_n)) st)) (EF st.length (.ok ((eO eI) (V.root_of a_n)) st))
  refine HS_asg (E_tup (Es_cons (E_cst) (Es_cons (E_add (E_var rfl) (E_cst)) (Es_nil))) (mlc (Nl.nl (e := eI) (0 : Int)) (mlc (Nl.nl (e := eI) (a_n + (1 : Int))) (ml0)))) (T_tp rfl rfl (Ts_cons (T_nm (Nl.nl (e := eI) (0 : Int))) (Ts_cons (T_nm (Nl.nl (e := eI) (a_n + (1 : Int)))) (Ts_nil)))) ?_
  refine HS_while (I := (I_1_1 st a_n)) (cv := V.root_of_c1) (oc := O.root_of_c1) (step := (V.root_of_l1 a_n)) (ok := (O.root_of_l1 a_n)) (n := Int.toNat ((a_n + (1 : Int)) - (0 : Int)) + 1) (s0 := ((0 : Int), (a_n + (1 : Int)))) (hwf _ (a1 h)) ⟨_, rfl, rfl⟩ (a1 (a2 h)) (fun q rr sx h hI => w_1_l1c hwf h hI) (fun q rr sx h1 h2 h hI => w_1_l1 hwf h hI) ?_
  rintro rr sx ⟨w3, e1, e2⟩
  subst e1 e2
  have h := (a2 (a2 h))
  exact w_1_r3 hwf h
theorem w_3 {a_v : Int} {a_k : Int} {a_l : Int} {a_m : Int} (h : O.spread_of a_v a_k a_l a_m = true) : callF T wf (k + 2) 3 [eI a_v, eI a_k, eI a_l, eI a_m] st = .ok ((eP2 (eO eI) eI) (V.spread_of a_v a_k a_l a_m)) st := by
  refine call_HS (f := f3) rfl rfl ?_
  have h := h
  show HS _ _ [some (eI a_v), some (eI a_k), some (eI a_l), some (eI a_m)] _ (QF st.length (.ok ((eP2 (eO eI) eI) (V.spread_of a_v a_k a_l a_m)) st)) (EF st.length (.ok ((eP2 (eO eI) eI) (V.spread_of a_v a_k a_l a_m)) st))
  exact HS_ret (E_tup (Es_cons (E_callF (Es_cons (E_add (E_mul (a1 h) (E_sub (E_var rfl) (E_var rfl)) (E_sub (E_var rfl) (E_var rfl))) (E_mul (a1 (a2 h)) (E_cst) (E_sub (E_var rfl) (E_var rfl)))) (Es_nil)) (mlc (Nl.nl (e := eI) (((a_l - a_m) * (a_l - a_m)) + ((4 : Int) * (a_k - a_m)))) (ml0)) (w_1 hwf (a1 (a2 (a2 h))))) (Es_cons (E_add (E_mul (a1 (a2 (a2 (a2 h)))) (E_cst) (E_var rfl)) (E_mul (a2 (a2 (a2 (a2 h)))) (E_sub (E_var rfl) (E_cst)) (E_sub (E_var rfl) (E_var rfl)))) (Es_nil))) (mlc (Nl.nl (e := (eO eI)) (V.root_of (((a_l - a_m) * (a_l - a_m)) + ((4 : Int) * (a_k - a_m))))) (mlc (Nl.nl (e := eI) (((2 : Int) * a_k) + ((a_v - (1 : Int)) * (a_l - a_m)))) (ml0)))) (q_ret rfl)
theorem w_4_r4 {b_q : Option Int} {b_one : Int} {b_two : Int} {w0 w1 w2 w3 w5 : Option D} (h : (O.is_whole_r4 b_q b_one b_two) = true) : HS ⟨callF T wf (k + 2), wf, T.length⟩ f4_r4 [w0, w1, w2, w3, some ((eO eI) b_q), w5, some (eI b_one), some (eI b_two)] st (QF st.length (.ok (eB (V.is_whole_r4 b_q b_one b_two)) st)) (EF st.length (.ok (eB (V.is_whole_r4 b_q b_one b_two)) st)) := by
  exact HS_ret (E_and (E_ge (E_var rfl) (E_cst)) (fun hc3 => E_and (E_ge (E_var rfl) (E_cst)) (fun hc2 => E_and (E_eqI (E_mod (a1 (a2 (a2 (i1 (i1 h hc3) hc2)))) (E_var rfl) (E_mul (a1 (a2 (i1 (i1 h hc3) hc2))) (E_cst) (E_some (e := eI) (a1 (i1 (i1 h hc3) hc2)) (E_var rfl)))) (E_cst)) (fun hc1 => E_eqI (E_mod (a2 (a2 (i1 (a2 (a2 (a2 (i1 (i1 h hc3) hc2)))) hc1))) (E_var rfl) (E_mul (a1 (a2 (i1 (a2 (a2 (a2 (i1 (i1 h hc3) hc2)))) hc1))) (E_cst) (E_some (e := eI) (a1 (i1 (a2 (a2 (a2 (i1 (i1 h hc3) hc2)))) hc1)) (E_var rfl)))) (E_cst))))) (q_ret rfl)
theorem w_4_r3 {b_v : Int} {b_q : Option Int} {b_u : Int} {w1 w2 w3 w6 w7 : Option D} (h : (O.is_whole_r3 b_v b_q b_u) = true) : HS ⟨callF T wf (k + 2), wf, T.length⟩ f4_r3 [some (eI b_v), w1, w2, w3, some ((eO eI) b_q), some (eI b_u), w6, w7] st (QF st.length (.ok (eB (V.is_whole_r3 b_v b_q b_u)) st)) (EF st.length (.ok (eB (V.is_whole_r3 b_v b_q b_u)) st)) := by
  refine HS_asg (E_tup (Es_cons (E_sub (E_mul (a1 (a2 h)) (E_sub (E_var rfl) (E_cst)) (E_some (e := eI) (a1 h) (E_var rfl))) (E_var rfl)) (Es_cons (E_add (E_mul (a1 (a2 (a2 (a2 h)))) (E_sub (E_var rfl) (E_cst)) (E_some (e := eI) (a1 (a2 (a2 h))) (E_var rfl))) (E_var rfl)) (Es_nil))) (mlc (Nl.nl (e := eI) (((b_v - (1 : Int)) * (getO b_q)) - b_u)) (mlc (Nl.nl (e := eI) (((b_v - (1 : Int)) * (getO b_q)) + b_u)) (ml0)))) (T_tp rfl rfl (Ts_cons (T_nm (Nl.nl (e := eI) (((b_v - (1 : Int)) * (getO b_q)) - b_u))) (Ts_cons (T_nm (Nl.nl (e := eI) (((b_v - (1 : Int)) * (getO b_q)) + b_u))) (Ts_nil)))) ?_
  have h := (a2 (a2 (a2 (a2 h))))
  exact w_4_r4 hwf h
theorem w_4_r2 {b_v : Int} {b_q : Option Int} {b_u : Int} {w1 w2 w3 w6 w7 : Option D} (h : (O.is_whole_r2 b_v b_q b_u) = true) : HS ⟨callF T wf (k + 2), wf, T.length⟩ f4_r2 [some (eI b_v), w1, w2, w3, some ((eO eI) b_q), some (eI b_u), w6, w7] st (QF st.length (.ok (eB (V.is_whole_r2 b_v b_q b_u)) st)) (EF st.length (.ok (eB (V.is_whole_r2 b_v b_q b_u)) st)) := by
  refine HS_ifV (Q := fun b => QF st.length (.ok (eB (bif b then false else (V.is_whole_r3 b_v b_q b_u))) st)) (E := fun b => EF st.length (.ok (eB (bif b then false else (V.is_whole_r3 b_v b_q b_u))) st)) (E_eqDD (a1 h) (a1 (a2 h)) (E_var rfl) (E_cst)) (fun hc => ?_) (fun hc => ?_)
  · show HS _ _ _ _ (QF st.length (.ok (eB false) st)) (EF st.length (.ok (eB false) st))
    have h := c1 (a2 (a2 h)) hc
    exact HS_ret (E_cst) (q_ret rfl)
  · show HS _ _ _ _ (QF st.length (.ok (eB (V.is_whole_r3 b_v b_q b_u)) st)) (EF st.length (.ok (eB (V.is_whole_r3 b_v b_q b_u)) st))
    have h := c0 (a2 (a2 h)) hc
    exact w_4_r3 hwf h
theorem w_4_r1 {b_v : Int} {b_q : Option Int} {b_u : Int} {w1 w2 w3 w6 w7 : Option D} (h : (O.is_whole_r1 b_v b_q b_u) = true) : HS ⟨callF T wf (k + 2), wf, T.length⟩ f4_r1 [some (eI b_v), w1, w2, w3, some ((eO eI) b_q), some (eI b_u), w6, w7] st (QF st.length (.ok (eB (V.is_whole_r1 b_v b_q b_u)) st)) (EF st.length (.ok (eB (V.is_whole_r1 b_v b_q b_u)) st)) := by
  refine HS_ifV (Q := fun b => QF st.length (.ok (eB (bif b then (decide (b_u = (0 : Int))) else (V.is_whole_r2 b_v b_q b_u))) st)) (E := fun b => EF st.length (.ok (eB (bif b then (decide (b_u = (0 : Int))) else (V.is_whole_r2 b_v b_q b_u))) st)) (E_isN (e := eI) (E_var rfl)) (fun hc => ?_) (fun hc => ?_)
  · show HS _ _ _ _ (QF st.length (.ok (eB (decide (b_u = (0 : Int)))) st)) (EF st.length (.ok (eB (decide (b_u = (0 : Int)))) st))
    have h := c1 h hc
    exact HS_ret (E_eqI (E_var rfl) (E_cst)) (q_ret rfl)
  · show HS _ _ _ _ (QF st.length (.ok (eB (V.is_whole_r2 b_v b_q b_u)) st)) (EF st.length (.ok (eB (V.is_whole_r2 b_v b_q b_u)) st))
    have h := c0 h hc
    exact w_4_r2 hwf h
theorem w_4 {a_v : Int} {a_k : Int} {a_l : Int} {a_m : Int} (h : O.is_whole a_v a_k a_l a_m = true) : callF T wf (k + 3) 4 [eI a_v, eI a_k, eI a_l, eI a_m] st = .ok (eB (V.is_whole a_v a_k a_l a_m)) st := by
  refine call_HS (f := f4) rfl rfl ?_
  have h := h
  show HS _ _ [some (eI a_v), some (eI a_k), some (eI a_l), some (eI a_m), none, none, none, none] _ (QF st.length (.ok (eB (V.is_whole a_v a_k a_l a_m)) st)) (EF st.length (.ok (eB (V.is_whole a_v a_k a_l a_m)) st))
  refine HS_asg (E_callF (Es_cons (E_var rfl) (Es_cons (E_var rfl) (Es_cons (E_var rfl) (Es_cons (E_var rfl) (Es_nil))))) (mlc (Nl.nl (e := eI) a_v) (mlc (Nl.nl (e := eI) a_k) (mlc (Nl.nl (e := eI) a_l) (mlc (Nl.nl (e := eI) a_m) (ml0))))) (w_3 hwf (a1 h))) (T_tp rfl rfl (Ts_cons (T_nm (Nl.nl (e := (eO eI)) ((V.spread_of a_v a_k a_l a_m).1))) (Ts_cons (T_nm (Nl.nl (e := eI) ((V.spread_of a_v a_k a_l a_m).2))) (Ts_nil)))) ?_
  have h := (a2 h)
  exact w_4_r1 hwf h
theorem w_5 {a_v : Int} (h : O.is_two_squares a_v = true) : callF T wf (k + 2) 5 [eI a_v] st = .ok (eB (V.is_two_squares a_v)) st := by
  refine call_HS (f := f5) rfl rfl ?_
  have h := h
  show HS _ _ [some (eI a_v), none] _ (QF st.length (.ok (eB (V.is_two_squares a_v)) st)) (EF st.length (.ok (eB (V.is_two_squares a_v)) st))
  exact HS_ret (E_any (f := (fun (y1 : Int) => (Option.isSome (V.root_of (a_v - (y1 * y1)))))) (zs := (List.filter (fun (y1 : Int) => (decide ((y1 * y1) ≤ a_v))) (rI (0 : Int) (a_v + (1 : Int))))) lF (E_compF (e := eI) (e2 := eB) (f := (fun (y1 : Int) => (Option.isSome (V.root_of (a_v - (y1 * y1)))))) (P := (fun (y1 : Int) => (decide ((y1 * y1) ≤ a_v)))) (a1 (a2 h)) (S_rng1 (a1 h) (E_add (E_var rfl) (E_cst))) (trivial) (fun y1 hm2 => ⟨_, T_nm (Nl.nl (e := eI) y1), E_le (E_mul (a1 (List.all_eq_true.mp (a2 (a2 h)) y1 hm2)) (E_var rfl) (E_var rfl)) (E_var rfl), fun hc3 => E_notN (e := eI) (E_callF (Es_cons (E_sub (E_var rfl) (E_mul (a1 (i1 (a2 (List.all_eq_true.mp (a2 (a2 h)) y1 hm2)) hc3)) (E_var rfl) (E_var rfl))) (Es_nil)) (mlc (Nl.nl (e := eI) (a_v - (y1 * y1))) (ml0)) (w_1 hwf (a2 (i1 (a2 (List.all_eq_true.mp (a2 (a2 h)) y1 hm2)) hc3))))⟩) (fun _ _ => Nl.nl (e := eB) _))) (q_ret rfl)
theorem w_6_r1 {b_v : Int} {b_l : Int} {b_m : Int} {b_q : Option Int} {b_u : Int} {w1 w6 w7 : Option D} (h : (O.values_of_r1 b_v b_l b_m b_q b_u) = true) : HS ⟨callF T wf (k + 2), wf, T.length⟩ f6_r1 [some (eI b_v), w1, some (eI b_l), some (eI b_m), some ((eO eI) b_q), some (eI b_u), w6, w7] st (QF st.length (.ok ((eP4 eI eI eI eI) (V.values_of_r1 b_v b_l b_m b_q b_u)) st)) (EF st.length (.ok ((eP4 eI eI eI eI) (V.values_of_r1 b_v b_l b_m b_q b_u)) st)) := by
  refine HS_asg (E_tup (Es_cons (E_sub (E_mul (a1 (a2 h)) (E_sub (E_var rfl) (E_cst)) (E_some (e := eI) (a1 h) (E_var rfl))) (E_var rfl)) (Es_cons (E_add (E_mul (a1 (a2 (a2 (a2 h)))) (E_sub (E_var rfl) (E_cst)) (E_some (e := eI) (a1 (a2 (a2 h))) (E_var rfl))) (E_var rfl)) (Es_nil))) (mlc (Nl.nl (e := eI) (((b_v - (1 : Int)) * (getO b_q)) - b_u)) (mlc (Nl.nl (e := eI) (((b_v - (1 : Int)) * (getO b_q)) + b_u)) (ml0)))) (T_tp rfl rfl (Ts_cons (T_nm (Nl.nl (e := eI) (((b_v - (1 : Int)) * (getO b_q)) - b_u))) (Ts_cons (T_nm (Nl.nl (e := eI) (((b_v - (1 : Int)) * (getO b_q)) + b_u))) (Ts_nil)))) ?_
  have h := (a2 (a2 (a2 (a2 h))))
  exact HS_ret (E_tup (Es_cons (E_fdiv (by decide) (E_add (E_sub (E_var rfl) (E_var rfl)) (E_some (e := eI) (a1 h) (E_var rfl))) (E_cst)) (Es_cons (E_fdiv (a1 (a2 (a2 (a2 h)))) (E_var rfl) (E_mul (a1 (a2 (a2 h))) (E_cst) (E_some (e := eI) (a1 (a2 h)) (E_var rfl)))) (Es_cons (E_fdiv (by decide) (E_sub (E_sub (E_var rfl) (E_var rfl)) (E_some (e := eI) (a1 (a2 (a2 (a2 (a2 h))))) (E_var rfl))) (E_cst)) (Es_cons (E_fdiv (a2 (a2 (a2 (a2 (a2 (a2 (a2 h))))))) (E_var rfl) (E_mul (a1 (a2 (a2 (a2 (a2 (a2 (a2 h))))))) (E_cst) (E_some (e := eI) (a1 (a2 (a2 (a2 (a2 (a2 h)))))) (E_var rfl)))) (Es_nil))))) (mlc (Nl.nl (e := eI) (Int.fdiv ((b_l - b_m) + (getO b_q)) (2 : Int))) (mlc (Nl.nl (e := eI) (Int.fdiv (((b_v - (1 : Int)) * (getO b_q)) - b_u) ((2 : Int) * (getO b_q)))) (mlc (Nl.nl (e := eI) (Int.fdiv ((b_l - b_m) - (getO b_q)) (2 : Int))) (mlc (Nl.nl (e := eI) (Int.fdiv (((b_v - (1 : Int)) * (getO b_q)) + b_u) ((2 : Int) * (getO b_q)))) (ml0)))))) (q_ret rfl)
theorem w_6 {a_v : Int} {a_k : Int} {a_l : Int} {a_m : Int} (h : O.values_of a_v a_k a_l a_m = true) : callF T wf (k + 3) 6 [eI a_v, eI a_k, eI a_l, eI a_m] st = .ok ((eP4 eI eI eI eI) (V.values_of a_v a_k a_l a_m)) st := by
  refine call_HS (f := f6) rfl rfl ?_
  have h := h
  show HS _ _ [some (eI a_v), some (eI a_k), some (eI a_l), some (eI a_m), none, none, none, none] _ (QF st.length (.ok ((eP4 eI eI eI eI) (V.values_of a_v a_k a_l a_m)) st)) (EF st.length (.ok ((eP4 eI eI eI eI) (V.values_of a_v a_k a_l a_m)) st))
  refine HS_asg (E_callF (Es_cons (E_var rfl) (Es_cons (E_var rfl) (Es_cons (E_var rfl) (Es_cons (E_var rfl) (Es_nil))))) (mlc (Nl.nl (e := eI) a_v) (mlc (Nl.nl (e := eI) a_k) (mlc (Nl.nl (e := eI) a_l) (mlc (Nl.nl (e := eI) a_m) (ml0))))) (w_3 hwf (a1 h))) (T_tp rfl rfl (Ts_cons (T_nm (Nl.nl (e := (eO eI)) ((V.spread_of a_v a_k a_l a_m).1))) (Ts_cons (T_nm (Nl.nl (e := eI) ((V.spread_of a_v a_k a_l a_m).2))) (Ts_nil)))) ?_
  have h := (a2 h)
  exact w_6_r1 hwf h
theorem w_7 {a_k : Int} {a_r : Int} {a_s : Int} (h : O.is_below_krein a_k a_r a_s = true) : callF T wf (k + 1) 7 [eI a_k, eI a_r, eI a_s] st = .ok (eB (V.is_below_krein a_k a_r a_s)) st := by
  refine call_HS (f := f7) rfl rfl ?_
  have h := h
  show HS _ _ [some (eI a_k), some (eI a_r), some (eI a_s)] _ (QF st.length (.ok (eB (V.is_below_krein a_k a_r a_s)) st)) (EF st.length (.ok (eB (V.is_below_krein a_k a_r a_s)) st))
  refine HS_ifV (Q := fun b => QF st.length (.ok (eB (bif b then false else (decide (((a_s + (1 : Int)) * ((a_k + a_s) + (((2 : Int) * a_r) * a_s))) ≤ (((a_k + a_s) * (a_r + (1 : Int))) * (a_r + (1 : Int))))))) st)) (E := fun b => EF st.length (.ok (eB (bif b then false else (decide (((a_s + (1 : Int)) * ((a_k + a_s) + (((2 : Int) * a_r) * a_s))) ≤ (((a_k + a_s) * (a_r + (1 : Int))) * (a_r + (1 : Int))))))) st)) (E_gt (E_mul (a1 (a2 (a2 h))) (E_add (E_var rfl) (E_cst)) (E_add (E_add (E_var rfl) (E_var rfl)) (E_mul (a1 (a2 h)) (E_mul (a1 h) (E_cst) (E_var rfl)) (E_var rfl)))) (E_mul (a1 (a2 (a2 (a2 (a2 h))))) (E_mul (a1 (a2 (a2 (a2 h)))) (E_add (E_var rfl) (E_var rfl)) (E_add (E_var rfl) (E_cst))) (E_add (E_var rfl) (E_cst)))) (fun hc => ?_) (fun hc => ?_)
  · show HS _ _ _ _ (QF st.length (.ok (eB false) st)) (EF st.length (.ok (eB false) st))
    have h := c1 (a2 (a2 (a2 (a2 (a2 h))))) hc
    exact HS_ret (E_cst) (q_ret rfl)
  · show HS _ _ _ _ (QF st.length (.ok (eB (decide (((a_s + (1 : Int)) * ((a_k + a_s) + (((2 : Int) * a_r) * a_s))) ≤ (((a_k + a_s) * (a_r + (1 : Int))) * (a_r + (1 : Int)))))) st)) (EF st.length (.ok (eB (decide (((a_s + (1 : Int)) * ((a_k + a_s) + (((2 : Int) * a_r) * a_s))) ≤ (((a_k + a_s) * (a_r + (1 : Int))) * (a_r + (1 : Int)))))) st))
    have h := c0 (a2 (a2 (a2 (a2 (a2 h))))) hc
    exact HS_ret (E_le (E_mul (a1 (a2 (a2 h))) (E_add (E_var rfl) (E_cst)) (E_add (E_add (E_var rfl) (E_var rfl)) (E_mul (a1 (a2 h)) (E_mul (a1 h) (E_cst) (E_var rfl)) (E_var rfl)))) (E_mul (a2 (a2 (a2 (a2 h)))) (E_mul (a1 (a2 (a2 (a2 h)))) (E_add (E_var rfl) (E_var rfl)) (E_add (E_var rfl) (E_cst))) (E_add (E_var rfl) (E_cst)))) (q_ret rfl)
theorem w_8_r5 {b_v : Int} {b_k : Int} {b_r : Int} {b_f : Int} {b_s : Int} {b_g : Int} {w2 w3 : Option D} (h : (O.broken_of_r5 b_v b_k b_r b_f b_s b_g) = true) : HS ⟨callF T wf (k + 3), wf, T.length⟩ f8_r5 [some (eI b_v), some (eI b_k), w2, w3, some (eI b_r), some (eI b_f), some (eI b_s), some (eI b_g)] st (QF st.length (.ok ((eO eS) (V.broken_of_r5 b_v b_k b_r b_f b_s b_g)) st)) (EF st.length (.ok ((eO eS) (V.broken_of_r5 b_v b_k b_r b_f b_s b_g)) st)) := by
  refine HS_ifV (Q := fun b => QF st.length (.ok ((eO eS) (bif b then (some S_krein) else (bif ((decide (((2 : Int) * b_v) > (b_f * (b_f + (3 : Int))))) || (decide (((2 : Int) * b_v) > (b_g * (b_g + (3 : Int)))))) then (some S_absolute) else none))) st)) (E := fun b => EF st.length (.ok ((eO eS) (bif b then (some S_krein) else (bif ((decide (((2 : Int) * b_v) > (b_f * (b_f + (3 : Int))))) || (decide (((2 : Int) * b_v) > (b_g * (b_g + (3 : Int)))))) then (some S_absolute) else none))) st)) (E_not (E_callF (Es_cons (E_var rfl) (Es_cons (E_var rfl) (Es_cons (E_var rfl) (Es_nil)))) (mlc (Nl.nl (e := eI) b_k) (mlc (Nl.nl (e := eI) b_r) (mlc (Nl.nl (e := eI) b_s) (ml0)))) (w_7 hwf (a1 h)))) (fun hc => ?_) (fun hc => ?_)
  · show HS _ _ _ _ (QF st.length (.ok ((eO eS) (some S_krein)) st)) (EF st.length (.ok ((eO eS) (some S_krein)) st))
    have h := c1 (a2 h) hc
    exact HS_ret (E_cst) (q_ret rfl)
  · show HS _ _ _ _ (QF st.length (.ok ((eO eS) (bif ((decide (((2 : Int) * b_v) > (b_f * (b_f + (3 : Int))))) || (decide (((2 : Int) * b_v) > (b_g * (b_g + (3 : Int)))))) then (some S_absolute) else none)) st)) (EF st.length (.ok ((eO eS) (bif ((decide (((2 : Int) * b_v) > (b_f * (b_f + (3 : Int))))) || (decide (((2 : Int) * b_v) > (b_g * (b_g + (3 : Int)))))) then (some S_absolute) else none)) st))
    have h := c0 (a2 h) hc
    exact HS_ret (E_ite (e := (eO eS)) (E_or (E_gt (E_mul (a1 h) (E_cst) (E_var rfl)) (E_mul (a1 (a2 h)) (E_var rfl) (E_add (E_var rfl) (E_cst)))) (fun hc2 => E_gt (E_mul (a1 (i0 (a2 (a2 h)) hc2)) (E_cst) (E_var rfl)) (E_mul (a2 (i0 (a2 (a2 h)) hc2)) (E_var rfl) (E_add (E_var rfl) (E_cst))))) (fun hc3 => E_cst) (fun hc3 => E_cst)) (q_ret rfl)
theorem w_8_r4 {b_v : Int} {b_k : Int} {b_l : Int} {b_m : Int} {w4 w5 w6 w7 : Option D} (h : (O.broken_of_r4 b_v b_k b_l b_m) = true) : HS ⟨callF T wf (k + 3), wf, T.length⟩ f8_r4 [some (eI b_v), some (eI b_k), some (eI b_l), some (eI b_m), w4, w5, w6, w7] st (QF st.length (.ok ((eO eS) (V.broken_of_r4 b_v b_k b_l b_m)) st)) (EF st.length (.ok ((eO eS) (V.broken_of_r4 b_v b_k b_l b_m)) st)) := by
  refine HS_asg (E_callF (Es_cons (E_var rfl) (Es_cons (E_var rfl) (Es_cons (E_var rfl) (Es_cons (E_var rfl) (Es_nil))))) (mlc (Nl.nl (e := eI) b_v) (mlc (Nl.nl (e := eI) b_k) (mlc (Nl.nl (e := eI) b_l) (mlc (Nl.nl (e := eI) b_m) (ml0))))) (w_6 hwf (a1 h))) (T_tp rfl rfl (Ts_cons (T_nm (Nl.nl (e := eI) ((V.values_of b_v b_k b_l b_m).1))) (Ts_cons (T_nm (Nl.nl (e := eI) ((V.values_of b_v b_k b_l b_m).2.1))) (Ts_cons (T_nm (Nl.nl (e := eI) ((V.values_of b_v b_k b_l b_m).2.2.1))) (Ts_cons (T_nm (Nl.nl (e := eI) ((V.values_of b_v b_k b_l b_m).2.2.2))) (Ts_nil)))))) ?_
  have h := (a2 h)
  exact w_8_r5 hwf h
theorem w_8_r3 {b_v : Int} {b_k : Int} {b_l : Int} {b_m : Int} {w4 w5 w6 w7 : Option D} (h : (O.broken_of_r3 b_v b_k b_l b_m) = true) : HS ⟨callF T wf (k + 3), wf, T.length⟩ f8_r3 [some (eI b_v), some (eI b_k), some (eI b_l), some (eI b_m), w4, w5, w6, w7] st (QF st.length (.ok ((eO eS) (V.broken_of_r3 b_v b_k b_l b_m)) st)) (EF st.length (.ok ((eO eS) (V.broken_of_r3 b_v b_k b_l b_m)) st)) := by
  refine HS_ifV (Q := fun b => QF st.length (.ok ((eO eS) (bif b then none else (V.broken_of_r4 b_v b_k b_l b_m))) st)) (E := fun b => EF st.length (.ok ((eO eS) (bif b then none else (V.broken_of_r4 b_v b_k b_l b_m))) st)) (E_inI (zs := [(0 : Int), b_k]) sT (E_var rfl) (E_tup (Es_cons (E_cst) (Es_cons (E_var rfl) (Es_nil))) (mlc (Nl.nl (e := eI) (0 : Int)) (mlc (Nl.nl (e := eI) b_k) (ml0))))) (fun hc => ?_) (fun hc => ?_)
  · show HS _ _ _ _ (QF st.length (.ok ((eO eS) none) st)) (EF st.length (.ok ((eO eS) none) st))
    have h := c1 h hc
    exact HS_ret (E_cst) (q_ret rfl)
  · show HS _ _ _ _ (QF st.length (.ok ((eO eS) (V.broken_of_r4 b_v b_k b_l b_m)) st)) (EF st.length (.ok ((eO eS) (V.broken_of_r4 b_v b_k b_l b_m)) st))
    have h := c0 h hc
    exact w_8_r4 hwf h
theorem w_8_r2 {b_v : Int} {b_k : Int} {b_l : Int} {b_m : Int} {w4 w5 w6 w7 : Option D} (h : (O.broken_of_r2 b_v b_k b_l b_m) = true) : HS ⟨callF T wf (k + 3), wf, T.length⟩ f8_r2 [some (eI b_v), some (eI b_k), some (eI b_l), some (eI b_m), w4, w5, w6, w7] st (QF st.length (.ok ((eO eS) (V.broken_of_r2 b_v b_k b_l b_m)) st)) (EF st.length (.ok ((eO eS) (V.broken_of_r2 b_v b_k b_l b_m)) st)) := by
  refine HS_ifV (Q := fun b => QF st.length (.ok ((eO eS) (bif b then (bif (V.is_two_squares b_v) then none else (some S_squares)) else (V.broken_of_r3 b_v b_k b_l b_m))) st)) (E := fun b => EF st.length (.ok ((eO eS) (bif b then (bif (V.is_two_squares b_v) then none else (some S_squares)) else (V.broken_of_r3 b_v b_k b_l b_m))) st)) (E_isN (e := eI) (E_c0 (E_callF (Es_cons (E_var rfl) (Es_cons (E_var rfl) (Es_cons (E_var rfl) (Es_cons (E_var rfl) (Es_nil))))) (mlc (Nl.nl (e := eI) b_v) (mlc (Nl.nl (e := eI) b_k) (mlc (Nl.nl (e := eI) b_l) (mlc (Nl.nl (e := eI) b_m) (ml0))))) (w_3 hwf (a1 h))))) (fun hc => ?_) (fun hc => ?_)
  · show HS _ _ _ _ (QF st.length (.ok ((eO eS) (bif (V.is_two_squares b_v) then none else (some S_squares))) st)) (EF st.length (.ok ((eO eS) (bif (V.is_two_squares b_v) then none else (some S_squares))) st))
    have h := c1 (a2 h) hc
    exact HS_ret (E_ite (e := (eO eS)) (E_callF (Es_cons (E_var rfl) (Es_nil)) (mlc (Nl.nl (e := eI) b_v) (ml0)) (w_5 hwf h)) (fun hc1 => E_cst) (fun hc1 => E_cst)) (q_ret rfl)
  · show HS _ _ _ _ (QF st.length (.ok ((eO eS) (V.broken_of_r3 b_v b_k b_l b_m)) st)) (EF st.length (.ok ((eO eS) (V.broken_of_r3 b_v b_k b_l b_m)) st))
    have h := c0 (a2 h) hc
    exact w_8_r3 hwf h
theorem w_8_r1 {b_v : Int} {b_k : Int} {b_l : Int} {b_m : Int} {w4 w5 w6 w7 : Option D} (h : (O.broken_of_r1 b_v b_k b_l b_m) = true) : HS ⟨callF T wf (k + 3), wf, T.length⟩ f8_r1 [some (eI b_v), some (eI b_k), some (eI b_l), some (eI b_m), w4, w5, w6, w7] st (QF st.length (.ok ((eO eS) (V.broken_of_r1 b_v b_k b_l b_m)) st)) (EF st.length (.ok ((eO eS) (V.broken_of_r1 b_v b_k b_l b_m)) st)) := by
  refine HS_ifV (Q := fun b => QF st.length (.ok ((eO eS) (bif b then (some S_whole) else (V.broken_of_r2 b_v b_k b_l b_m))) st)) (E := fun b => EF st.length (.ok ((eO eS) (bif b then (some S_whole) else (V.broken_of_r2 b_v b_k b_l b_m))) st)) (E_not (E_callF (Es_cons (E_var rfl) (Es_cons (E_var rfl) (Es_cons (E_var rfl) (Es_cons (E_var rfl) (Es_nil))))) (mlc (Nl.nl (e := eI) b_v) (mlc (Nl.nl (e := eI) b_k) (mlc (Nl.nl (e := eI) b_l) (mlc (Nl.nl (e := eI) b_m) (ml0))))) (w_4 hwf (a1 h)))) (fun hc => ?_) (fun hc => ?_)
  · show HS _ _ _ _ (QF st.length (.ok ((eO eS) (some S_whole)) st)) (EF st.length (.ok ((eO eS) (some S_whole)) st))
    have h := c1 (a2 h) hc
    exact HS_ret (E_cst) (q_ret rfl)
  · show HS _ _ _ _ (QF st.length (.ok ((eO eS) (V.broken_of_r2 b_v b_k b_l b_m)) st)) (EF st.length (.ok ((eO eS) (V.broken_of_r2 b_v b_k b_l b_m)) st))
    have h := c0 (a2 h) hc
    exact w_8_r2 hwf h
theorem w_8 {a_v : Int} {a_k : Int} {a_l : Int} {a_m : Int} (h : O.broken_of a_v a_k a_l a_m = true) : callF T wf (k + 4) 8 [eI a_v, eI a_k, eI a_l, eI a_m] st = .ok ((eO eS) (V.broken_of a_v a_k a_l a_m)) st := by
  refine call_HS (f := f8) rfl rfl ?_
  have h := h
  show HS _ _ [some (eI a_v), some (eI a_k), some (eI a_l), some (eI a_m), none, none, none, none] _ (QF st.length (.ok ((eO eS) (V.broken_of a_v a_k a_l a_m)) st)) (EF st.length (.ok ((eO eS) (V.broken_of a_v a_k a_l a_m)) st))
  refine HS_ifV (Q := fun b => QF st.length (.ok ((eO eS) (bif b then (some S_count) else (V.broken_of_r1 a_v a_k a_l a_m))) st)) (E := fun b => EF st.length (.ok ((eO eS) (bif b then (some S_count) else (V.broken_of_r1 a_v a_k a_l a_m))) st)) (E_neI (E_mul (a1 h) (E_var rfl) (E_sub (E_sub (E_var rfl) (E_var rfl)) (E_cst))) (E_mul (a1 (a2 h)) (E_sub (E_sub (E_var rfl) (E_var rfl)) (E_cst)) (E_var rfl))) (fun hc => ?_) (fun hc => ?_)
  · show HS _ _ _ _ (QF st.length (.ok ((eO eS) (some S_count)) st)) (EF st.length (.ok ((eO eS) (some S_count)) st))
    have h := c1 (a2 (a2 h)) hc
    exact HS_ret (E_cst) (q_ret rfl)
  · show HS _ _ _ _ (QF st.length (.ok ((eO eS) (V.broken_of_r1 a_v a_k a_l a_m)) st)) (EF st.length (.ok ((eO eS) (V.broken_of_r1 a_v a_k a_l a_m)) st))
    have h := c0 (a2 (a2 h)) hc
    exact w_8_r1 hwf h
theorem w_11_r4 {b_v : D} {b_k : Int} {b_found : List (Int × Int × Int)} {b_m : Int} {b_left : Int} {k_found : Nat} {sx : Sto} (m : MS st [(k_found, List.map (eP3 eI eI eI) b_found)] sx) (h : (O.feasible_numbers_r4 b_v b_k b_found b_m b_left) = true) : HS ⟨callF T wf (k + 4), wf, T.length⟩ f11_r4 [some (eD b_v), some (.lr k_found), some (eI b_k), some (eI b_m), some (eI b_left)] sx (QL (I_11_3 st b_v b_k) (V.feasible_numbers_r4 b_v b_k b_found b_m b_left)) (EN) := by
  refine HS_ifV (Q := fun b => QL (I_11_3 st b_v b_k) (bif b then b_found ++ [(b_k, (Int.fdiv b_left b_k), b_m)] else b_found)) (E := fun b => EN) (E_and (E_ge (E_var rfl) (E_cst)) (fun hc4 => E_and (E_eqI (E_mod (a1 (i1 (a1 h) hc4)) (E_var rfl) (E_var rfl)) (E_cst)) (fun hc3 => E_isN (e := eS) (E_callF (Es_cons (E_un (e := eI) (a1 (i1 (a2 (i1 (a1 h) hc4)) hc3)) (E_var rfl)) (Es_cons (E_var rfl) (Es_cons (E_fdiv (a1 (a2 (i1 (a2 (i1 (a1 h) hc4)) hc3))) (E_var rfl) (E_var rfl)) (Es_cons (E_var rfl) (Es_nil))))) (mlc (Nl.nl (e := eI) (Un.un eI b_v)) (mlc (Nl.nl (e := eI) b_k) (mlc (Nl.nl (e := eI) (Int.fdiv b_left b_k)) (mlc (Nl.nl (e := eI) b_m) (ml0))))) (w_8 hwf (a2 (a2 (i1 (a2 (i1 (a1 h) hc4)) hc3)))))))) (fun hc => ?_) (fun hc => ?_)
  · show HS _ _ _ _ (QL (I_11_3 st b_v b_k) (b_found ++ [(b_k, (Int.fdiv b_left b_k), b_m)])) (EN)
    have h := c1 (a2 h) hc
    refine HM_appE (l := []) m (e := (eP3 eI eI eI)) rfl (E_tup (Es_cons (E_var rfl) (Es_cons (E_fdiv (a1 h) (E_var rfl) (E_var rfl)) (Es_cons (E_var rfl) (Es_nil)))) (mlc (Nl.nl (e := eI) b_k) (mlc (Nl.nl (e := eI) (Int.fdiv b_left b_k)) (mlc (Nl.nl (e := eI) b_m) (ml0))))) (Nl.nl (e := (eP3 eI eI eI)) (b_k, (Int.fdiv b_left b_k), b_m)) (a1 (a2 h)) (fun sx m => ?_)
    have h := (a2 (a2 h))
    exact HS_nil ⟨.inl rfl, _, _, _, _, rfl, rfl, m⟩
  · show HS _ _ _ _ (QL (I_11_3 st b_v b_k) b_found) (EN)
    have h := c0 (a2 h) hc
    exact HS_nil ⟨.inl rfl, _, _, _, _, rfl, rfl, m⟩
theorem w_11_l3 {b_v : D} {b_k : Int} {q : (List (Int × Int × Int))} {x : Int} {rr : Rho} {sx : Sto} (h : (O.feasible_numbers_l3 b_v b_k q x) = true) (hI : (I_11_3 st b_v b_k) q rr sx) : Holds (kBody ⟨callF T wf (k + 4), wf, T.length⟩ f11_b3 (evTg ⟨callF T wf (k + 4), wf, T.length⟩ (.nm 3) (eI x) rr sx)) (QL (I_11_3 st b_v b_k) (V.feasible_numbers_l3 b_v b_k q x)) (EN) := by
  obtain ⟨w3, w4, k_found, sy, e1, e2, m⟩ := hI
  subst e1 e2
  refine HB (T_nm (Nl.nl (e := eI) x)) ?_
  refine HS_asg (E_sub (E_mul (a1 h) (E_var rfl) (E_sub (E_var rfl) (E_cst))) (E_mul (a1 (a2 (a2 h))) (E_sub (E_sub (E_un (e := eI) (a1 (a2 h)) (E_var rfl)) (E_var rfl)) (E_cst)) (E_var rfl))) (T_nm (Nl.nl (e := eI) ((b_k * (b_k - (1 : Int))) - ((((Un.un eI b_v) - b_k) - (1 : Int)) * x)))) ?_
  have h := (a2 (a2 (a2 h)))
  exact w_11_r4 hwf m h
theorem w_11_l2 {b_v : D} {q : (List (Int × Int × Int))} {x : Int} {rr : Rho} {sx : Sto} (h : (O.feasible_numbers_l2 b_v q x) = true) (hI : (I_11_2 st b_v) q rr sx) : Holds (kBody ⟨callF T wf (k + 4), wf, T.length⟩ f11_b2 (evTg ⟨callF T wf (k + 4), wf, T.length⟩ (.nm 2) (eI x) rr sx)) (QL (I_11_2 st b_v) (V.feasible_numbers_l2 b_v q x)) (EN) := by
  obtain ⟨w2, w3, w4, k_found, sy, e1, e2, m⟩ := hI
  subst e1 e2
  refine HB (T_nm (Nl.nl (e := eI) x)) ?_
  refine HS_for (I := (I_11_3 st b_v x)) (step := (V.feasible_numbers_l3 b_v x)) (ok := (O.feasible_numbers_l3 b_v x)) (xs := (rI (1 : Int) x)) (s0 := q) (e := eI) (S_rng2 (a1 h) (E_cst) (E_var rfl)) (fun _ _ _ _ => trivial) ⟨_, _, _, _, rfl, rfl, m⟩ (a1 (a2 h)) (fun q x rr sx h hI => w_11_l3 hwf h hI) ?_
  rintro rr sx ⟨w3, w4, k_found, sy, e1, e2, m⟩
  subst e1 e2
  have h := (a2 (a2 h))
  exact HS_nil ⟨.inl rfl, _, _, _, _, _, rfl, rfl, m⟩
theorem w_11_r1 {b_v : D} {w1 w2 w3 w4 : Option D} {sx : Sto} (m : MS st [] sx) (h : (O.feasible_numbers_r1 b_v) = true) : HS ⟨callF T wf (k + 4), wf, T.length⟩ f11_r1 [some (eD b_v), w1, w2, w3, w4] sx (QF st.length (outX (eT (eP3 eI eI eI)) st (V.feasible_numbers_r1 b_v))) (EF st.length (outX (eT (eP3 eI eI eI)) st (V.feasible_numbers_r1 b_v))) := by
  refine HM_newE (e := (eP3 eI eI eI)) (xs := []) m (E_lst (Es_nil) (ml0)) (fun k_found sx m => ?_)
  have h := h
  refine HS_for (I := (I_11_2 st b_v)) (step := (V.feasible_numbers_l2 b_v)) (ok := (O.feasible_numbers_l2 b_v)) (xs := (rI (2 : Int) ((Int.fdiv ((Un.un eI b_v) - (1 : Int)) (2 : Int)) + (1 : Int)))) (s0 := []) (e := eI) (S_rng2 (a1 (a2 h)) (E_cst) (E_add (E_fdiv (by decide) (E_sub (E_un (e := eI) (a1 h) (E_var rfl)) (E_cst)) (E_cst)) (E_cst))) (fun _ _ _ _ => trivial) ⟨_, _, _, _, _, rfl, rfl, m⟩ (a1 (a2 (a2 h))) (fun q x rr sx h hI => w_11_l2 hwf h hI) ?_
  rintro rr sx ⟨w2, w3, w4, k_found, sy, e1, e2, m⟩
  subst e1 e2
  have h := (a2 (a2 (a2 h)))
  exact HS_ret (E_tuple (e := (eP3 eI eI eI)) sF (E_sort (e := (eP3 eI eI eI)) (by decide) (all_okA _) (sR (MS.get (l := []) m)) (E_var rfl))) (m.ret (Bl.bl (e := (eT (eP3 eI eI eI))) _ _))
theorem w_11 {a_v : D} (hB : Wf st) (h : O.feasible_numbers a_v = true) : callF T wf (k + 5) 11 [eD a_v] st = outX (eT (eP3 eI eI eI)) st (V.feasible_numbers a_v) := by
  refine call_HS (f := f11) rfl rfl ?_
  have m := MS.nil hB
  have hh := h
  have h := (a2 h)
  show HS _ _ [some (eD a_v), none, none, none, none] _ (QF st.length (outX (eT (eP3 eI eI eI)) st (V.feasible_numbers a_v))) (EF st.length (outX (eT (eP3 eI eI eI)) st (V.feasible_numbers a_v)))
  refine HS_ifV (Q := fun b => QF st.length (outX (eT (eP3 eI eI eI)) st (bif b then (.ex 1 []) else (V.feasible_numbers_r1 a_v)))) (E := fun b => EF st.length (outX (eT (eP3 eI eI eI)) st (bif b then (.ex 1 []) else (V.feasible_numbers_r1 a_v)))) (E_or (E_not (E_callF (Es_cons (E_var rfl) (Es_nil)) (mlc (a1 h) (ml0)) (w_0 hwf (a_value := a_v) (a1 (a2 h))))) (fun hc2 => E_not (E_chain (p := .le) (q := .le) sI_le sp_le (E_cst) (E_un (e := eI) (i0 (a1 (a2 (a2 h))) hc2) (E_var rfl)) (fun hc1 => E_cst)))) (fun hc => ?_) (fun hc => ?_)
  · show HS _ _ _ _ (QF st.length (outX (eT (eP3 eI eI eI)) st (.ex 1 []))) (EF st.length (outX (eT (eP3 eI eI eI)) st (.ex 1 [])))
    have h := c1 (a2 (a2 (a2 h))) hc
    exact HS_rse (Es_nil) rfl (m.exX)
  · show HS _ _ _ _ (QF st.length (outX (eT (eP3 eI eI eI)) st (V.feasible_numbers_r1 a_v))) (EF st.length (outX (eT (eP3 eI eI eI)) st (V.feasible_numbers_r1 a_v)))
    have h := c0 (a2 (a2 (a2 h))) hc
    exact w_11_r1 hwf m h
theorem d_0 {f : Nat} {x0 : D} (hB : Wf st) (h : O.disp0 f x0 = true) : Nat.blt f T.length = true ∧ callF T wf (k + 5) f [eD x0] st = outX (eT (eP3 eI eI eI)) st (V.disp0 f x0) := by
  unfold O.disp0 at h
  unfold V.disp0
  cases hb : Nat.beq f 11
  case true =>
    have e := Nat.eq_of_beq_eq_true hb
    have h := c1 h hb
    subst e
    refine ⟨rfl, ?_⟩
    exact (w_11 hwf hB (a_v := x0) h)
  case false =>
    have h := c0 h hb
    cases h
theorem d_1 {f : Nat} {x0 : D} {x1 : D} (h : O.disp1 f x0 x1 = true) : Nat.blt f T.length = true ∧ callF T wf (k + 0) f [eD x0, eD x1] st = outX eD st (V.disp1 f x0 x1) := by
  unfold O.disp1 at h
  unfold V.disp1
  cases h
theorem d_2 {f : Nat} {x0 : D} {x1 : D} {x2 : D} (h : O.disp2 f x0 x1 x2 = true) : Nat.blt f T.length = true ∧ callF T wf (k + 0) f [eD x0, eD x1, eD x2] st = outX eD st (V.disp2 f x0 x1 x2) := by
  unfold O.disp2 at h
  unfold V.disp2
  cases h
theorem w_2_r1 {b_v : D} {b_k : D} {b_l : D} {b_m : D} {w4 : Option D} (h : (O.check_numbers_r1 b_v b_k b_l b_m) = true) : HS ⟨callF T wf (k + 1), wf, T.length⟩ f2_r1 [some (eD b_v), some (eD b_k), some (eD b_l), some (eD b_m), w4] st (QF st.length (outX eU st (V.check_numbers_r1 b_v b_k b_l b_m))) (EF st.length (outX eU st (V.check_numbers_r1 b_v b_k b_l b_m))) := by
  refine HS_ifV (Q := fun b => QF st.length (outX eU st (bif b then (.ex 1 []) else (.ok ())))) (E := fun b => EF st.length (outX eU st (bif b then (.ex 1 []) else (.ok ())))) (E_or (E_not (E_chain (p := .le) (q := .le) sI_le sp_le (E_cst) (E_un (e := eI) (a1 h) (E_var rfl)) (fun hc6 => E_sub (E_un (e := eI) (i1 (a1 (a2 h)) hc6) (E_var rfl)) (E_cst)))) (fun hc10 => E_or (E_not (E_chain (p := .le) (q := .le) sI_le sp_le (E_cst) (E_un (e := eI) (a1 (i0 (a1 (a2 (a2 h))) hc10)) (E_var rfl)) (fun hc7 => E_sub (E_un (e := eI) (i1 (a1 (a2 (i0 (a1 (a2 (a2 h))) hc10))) hc7) (E_var rfl)) (E_cst)))) (fun hc9 => E_not (E_chain (p := .le) (q := .le) sI_le sp_le (E_cst) (E_un (e := eI) (a1 (i0 (a2 (a2 (i0 (a1 (a2 (a2 h))) hc10))) hc9)) (E_var rfl)) (fun hc8 => E_un (e := eI) (i1 (a2 (i0 (a2 (a2 (i0 (a1 (a2 (a2 h))) hc10))) hc9)) hc8) (E_var rfl)))))) (fun hc => ?_) (fun hc => ?_)
  · show HS _ _ _ _ (QF st.length (outX eU st (.ex 1 []))) (EF st.length (outX eU st (.ex 1 [])))
    have h := c1 (a2 (a2 (a2 h))) hc
    exact HS_rse (Es_nil) rfl (q_exX rfl)
  · show HS _ _ _ _ (QF st.length (outX eU st (.ok ()))) (EF st.length (outX eU st (.ok ())))
    have h := c0 (a2 (a2 (a2 h))) hc
    exact HS_nil (q_nxX rfl)
theorem w_2 {a_v : D} {a_k : D} {a_l : D} {a_m : D} (h : O.check_numbers a_v a_k a_l a_m = true) : callF T wf (k + 2) 2 [eD a_v, eD a_k, eD a_l, eD a_m] st = outX eU st (V.check_numbers a_v a_k a_l a_m) := by
  refine call_HS (f := f2) rfl rfl ?_
  have hh := h
  have h := (a2 (a2 (a2 (a2 h))))
  show HS _ _ [some (eD a_v), some (eD a_k), some (eD a_l), some (eD a_m), none] _ (QF st.length (outX eU st (V.check_numbers a_v a_k a_l a_m))) (EF st.length (outX eU st (V.check_numbers a_v a_k a_l a_m)))
  refine HS_ifV (Q := fun b => QF st.length (outX eU st (bif b then (.ex 1 []) else (V.check_numbers_r1 a_v a_k a_l a_m)))) (E := fun b => EF st.length (outX eU st (bif b then (.ex 1 []) else (V.check_numbers_r1 a_v a_k a_l a_m)))) (E_or (E_not (E_all (f := (fun (y1 : D) => (V.is_integer y1))) (zs := [a_v, a_k, a_l, a_m]) lF (E_comp (e := eD) (e2 := eB) (f := (fun (y1 : D) => (V.is_integer y1))) (a1 (a2 (a2 (a2 (a2 h))))) (S_seq v_T (E_tup (Es_cons (E_var rfl) (Es_cons (E_var rfl) (Es_cons (E_var rfl) (Es_cons (E_var rfl) (Es_nil))))) (mlc (a1 h) (mlc (a1 (a2 h)) (mlc (a1 (a2 (a2 h))) (mlc (a1 (a2 (a2 (a2 h)))) (ml0))))))) (trivial) (fun y1 hm2 => ⟨_, T_nm ((a1 (List.all_eq_true.mp (a1 (a2 (a2 (a2 (a2 (a2 h)))))) y1 hm2))), E_callF (Es_cons (E_var rfl) (Es_nil)) (mlc (a1 (a2 (List.all_eq_true.mp (a1 (a2 (a2 (a2 (a2 (a2 h)))))) y1 hm2))) (ml0)) (w_0 hwf (a_value := y1) (a2 (a2 (List.all_eq_true.mp (a1 (a2 (a2 (a2 (a2 (a2 h)))))) y1 hm2))))⟩) (fun _ _ => Nl.nl (e := eB) _)))) (fun hc5 => E_not (E_chain (p := .le) (q := .le) sI_le sp_le (E_cst) (E_un (e := eI) (i0 (a1 (a2 (a2 (a2 (a2 (a2 (a2 h))))))) hc5) (E_var rfl)) (fun hc4 => E_cst)))) (fun hc => ?_) (fun hc => ?_)
  · show HS _ _ _ _ (QF st.length (outX eU st (.ex 1 []))) (EF st.length (outX eU st (.ex 1 [])))
    have h := c1 (a2 (a2 (a2 (a2 (a2 (a2 (a2 h))))))) hc
    exact HS_rse (Es_nil) rfl (q_exX rfl)
  · show HS _ _ _ _ (QF st.length (outX eU st (V.check_numbers_r1 a_v a_k a_l a_m))) (EF st.length (outX eU st (V.check_numbers_r1 a_v a_k a_l a_m)))
    have h := c0 (a2 (a2 (a2 (a2 (a2 (a2 (a2 h))))))) hc
    exact w_2_r1 hwf h
theorem w_9 {a_v : D} {a_k : D} {a_l : D} {a_m : D} (h : O.broken_condition a_v a_k a_l a_m = true) : callF T wf (k + 5) 9 [eD a_v, eD a_k, eD a_l, eD a_m] st = outX (eO eS) st (V.broken_condition a_v a_k a_l a_m) := by
  refine call_HS (f := f9) rfl rfl ?_
  have hh := h
  have h := (a2 (a2 (a2 (a2 h))))
  show HS _ _ [some (eD a_v), some (eD a_k), some (eD a_l), some (eD a_m)] _ (QF st.length (outX (eO eS) st (V.broken_condition a_v a_k a_l a_m))) (EF st.length (outX (eO eS) st (V.broken_condition a_v a_k a_l a_m)))
  refine HS_exM (f := fun _ => (.ok (V.broken_of (Un.un eI a_v) (Un.un eI a_k) (Un.un eI a_l) (Un.un eI a_m)))) (Q := fun r => QF st.length (outX (eO eS) st r)) (E := fun r => EF st.length (outX (eO eS) st r)) (E_callFX (Es_cons (E_var rfl) (Es_cons (E_var rfl) (Es_cons (E_var rfl) (Es_cons (E_var rfl) (Es_nil))))) (mlc (a1 h) (mlc (a1 (a2 h)) (mlc (a1 (a2 (a2 h))) (mlc (a1 (a2 (a2 (a2 h)))) (ml0))))) (w_2 hwf (a_v := a_v) (a_k := a_k) (a_l := a_l) (a_m := a_m) (a1 (a2 (a2 (a2 (a2 h))))))) (fun v hv => ?_) (fun c p => q_exX rfl)
  have h := Ex.all_ok (a2 (a2 (a2 (a2 (a2 h))))) hv
  exact HS_ret (E_callF (Es_cons (E_un (e := eI) (a1 h) (E_var rfl)) (Es_cons (E_un (e := eI) (a1 (a2 h)) (E_var rfl)) (Es_cons (E_un (e := eI) (a1 (a2 (a2 h))) (E_var rfl)) (Es_cons (E_un (e := eI) (a1 (a2 (a2 (a2 h)))) (E_var rfl)) (Es_nil))))) (mlc (Nl.nl (e := eI) (Un.un eI a_v)) (mlc (Nl.nl (e := eI) (Un.un eI a_k)) (mlc (Nl.nl (e := eI) (Un.un eI a_l)) (mlc (Nl.nl (e := eI) (Un.un eI a_m)) (ml0))))) (w_8 hwf (a2 (a2 (a2 (a2 h)))))) (q_ok rfl)
theorem w_10_r3 {b_v : D} {b_k : D} {b_l : D} {b_m : D} {w4 w5 w6 w7 : Option D} (h : (O.web_eigenvalues_r3 b_v b_k b_l b_m) = true) : HS ⟨callF T wf (k + 4), wf, T.length⟩ f10_r3 [some (eD b_v), some (eD b_k), some (eD b_l), some (eD b_m), w4, w5, w6, w7] st (QF st.length (outX (eP2 (eP2 eI eI) (eP2 eI eI)) st (V.web_eigenvalues_r3 b_v b_k b_l b_m))) (EF st.length (outX (eP2 (eP2 eI eI) (eP2 eI eI)) st (V.web_eigenvalues_r3 b_v b_k b_l b_m))) := by
  refine HS_asg (E_callF (Es_cons (E_un (e := eI) (a1 h) (E_var rfl)) (Es_cons (E_un (e := eI) (a1 (a2 h)) (E_var rfl)) (Es_cons (E_un (e := eI) (a1 (a2 (a2 h))) (E_var rfl)) (Es_cons (E_un (e := eI) (a1 (a2 (a2 (a2 h)))) (E_var rfl)) (Es_nil))))) (mlc (Nl.nl (e := eI) (Un.un eI b_v)) (mlc (Nl.nl (e := eI) (Un.un eI b_k)) (mlc (Nl.nl (e := eI) (Un.un eI b_l)) (mlc (Nl.nl (e := eI) (Un.un eI b_m)) (ml0))))) (w_6 hwf (a1 (a2 (a2 (a2 (a2 h))))))) (T_tp rfl rfl (Ts_cons (T_nm (Nl.nl (e := eI) ((V.values_of (Un.un eI b_v) (Un.un eI b_k) (Un.un eI b_l) (Un.un eI b_m)).1))) (Ts_cons (T_nm (Nl.nl (e := eI) ((V.values_of (Un.un eI b_v) (Un.un eI b_k) (Un.un eI b_l) (Un.un eI b_m)).2.1))) (Ts_cons (T_nm (Nl.nl (e := eI) ((V.values_of (Un.un eI b_v) (Un.un eI b_k) (Un.un eI b_l) (Un.un eI b_m)).2.2.1))) (Ts_cons (T_nm (Nl.nl (e := eI) ((V.values_of (Un.un eI b_v) (Un.un eI b_k) (Un.un eI b_l) (Un.un eI b_m)).2.2.2))) (Ts_nil)))))) ?_
  have h := (a2 (a2 (a2 (a2 (a2 h)))))
  exact HS_ret (E_tup (Es_cons (E_tup (Es_cons (E_var rfl) (Es_cons (E_var rfl) (Es_nil))) (mlc (Nl.nl (e := eI) ((V.values_of (Un.un eI b_v) (Un.un eI b_k) (Un.un eI b_l) (Un.un eI b_m)).1)) (mlc (Nl.nl (e := eI) ((V.values_of (Un.un eI b_v) (Un.un eI b_k) (Un.un eI b_l) (Un.un eI b_m)).2.1)) (ml0)))) (Es_cons (E_tup (Es_cons (E_var rfl) (Es_cons (E_var rfl) (Es_nil))) (mlc (Nl.nl (e := eI) ((V.values_of (Un.un eI b_v) (Un.un eI b_k) (Un.un eI b_l) (Un.un eI b_m)).2.2.1)) (mlc (Nl.nl (e := eI) ((V.values_of (Un.un eI b_v) (Un.un eI b_k) (Un.un eI b_l) (Un.un eI b_m)).2.2.2)) (ml0)))) (Es_nil))) (mlc (Nl.nl (e := (eP2 eI eI)) ((V.values_of (Un.un eI b_v) (Un.un eI b_k) (Un.un eI b_l) (Un.un eI b_m)).1, (V.values_of (Un.un eI b_v) (Un.un eI b_k) (Un.un eI b_l) (Un.un eI b_m)).2.1)) (mlc (Nl.nl (e := (eP2 eI eI)) ((V.values_of (Un.un eI b_v) (Un.un eI b_k) (Un.un eI b_l) (Un.un eI b_m)).2.2.1, (V.values_of (Un.un eI b_v) (Un.un eI b_k) (Un.un eI b_l) (Un.un eI b_m)).2.2.2)) (ml0)))) (q_ok rfl)
theorem w_10_r2 {b_v : D} {b_k : D} {b_l : D} {b_m : D} {w4 w5 w6 w7 : Option D} (h : (O.web_eigenvalues_r2 b_v b_k b_l b_m) = true) : HS ⟨callF T wf (k + 4), wf, T.length⟩ f10_r2 [some (eD b_v), some (eD b_k), some (eD b_l), some (eD b_m), w4, w5, w6, w7] st (QF st.length (outX (eP2 (eP2 eI eI) (eP2 eI eI)) st (V.web_eigenvalues_r2 b_v b_k b_l b_m))) (EF st.length (outX (eP2 (eP2 eI eI) (eP2 eI eI)) st (V.web_eigenvalues_r2 b_v b_k b_l b_m))) := by
  refine HS_ifV (Q := fun b => QF st.length (outX (eP2 (eP2 eI eI) (eP2 eI eI)) st (bif b then (.ex 2 [eS S_half]) else (V.web_eigenvalues_r3 b_v b_k b_l b_m)))) (E := fun b => EF st.length (outX (eP2 (eP2 eI eI) (eP2 eI eI)) st (bif b then (.ex 2 [eS S_half]) else (V.web_eigenvalues_r3 b_v b_k b_l b_m)))) (E_isN (e := eI) (E_c0 (E_callF (Es_cons (E_un (e := eI) (a1 h) (E_var rfl)) (Es_cons (E_un (e := eI) (a1 (a2 h)) (E_var rfl)) (Es_cons (E_un (e := eI) (a1 (a2 (a2 h))) (E_var rfl)) (Es_cons (E_un (e := eI) (a1 (a2 (a2 (a2 h)))) (E_var rfl)) (Es_nil))))) (mlc (Nl.nl (e := eI) (Un.un eI b_v)) (mlc (Nl.nl (e := eI) (Un.un eI b_k)) (mlc (Nl.nl (e := eI) (Un.un eI b_l)) (mlc (Nl.nl (e := eI) (Un.un eI b_m)) (ml0))))) (w_3 hwf (a1 (a2 (a2 (a2 (a2 h))))))))) (fun hc => ?_) (fun hc => ?_)
  · show HS _ _ _ _ (QF st.length (outX (eP2 (eP2 eI eI) (eP2 eI eI)) st (.ex 2 [eS S_half]))) (EF st.length (outX (eP2 (eP2 eI eI) (eP2 eI eI)) st (.ex 2 [eS S_half])))
    have h := c1 (a2 (a2 (a2 (a2 (a2 h))))) hc
    exact HS_rse (Es1 (E_cst)) rfl (q_exX rfl)
  · show HS _ _ _ _ (QF st.length (outX (eP2 (eP2 eI eI) (eP2 eI eI)) st (V.web_eigenvalues_r3 b_v b_k b_l b_m))) (EF st.length (outX (eP2 (eP2 eI eI) (eP2 eI eI)) st (V.web_eigenvalues_r3 b_v b_k b_l b_m)))
    have h := c0 (a2 (a2 (a2 (a2 (a2 h))))) hc
    exact w_10_r3 hwf h
theorem w_10_r1 {b_v : D} {b_k : D} {b_l : D} {b_m : D} {w4 w5 w6 w7 : Option D} (h : (O.web_eigenvalues_r1 b_v b_k b_l b_m) = true) : HS ⟨callF T wf (k + 4), wf, T.length⟩ f10_r1 [some (eD b_v), some (eD b_k), some (eD b_l), some (eD b_m), w4, w5, w6, w7] st (QF st.length (outX (eP2 (eP2 eI eI) (eP2 eI eI)) st (V.web_eigenvalues_r1 b_v b_k b_l b_m))) (EF st.length (outX (eP2 (eP2 eI eI) (eP2 eI eI)) st (V.web_eigenvalues_r1 b_v b_k b_l b_m))) := by
  refine HS_ifV (Q := fun b => QF st.length (outX (eP2 (eP2 eI eI) (eP2 eI eI)) st (bif b then (.ex 2 [eS S_broken]) else (V.web_eigenvalues_r2 b_v b_k b_l b_m)))) (E := fun b => EF st.length (outX (eP2 (eP2 eI eI) (eP2 eI eI)) st (bif b then (.ex 2 [eS S_broken]) else (V.web_eigenvalues_r2 b_v b_k b_l b_m)))) (E_inO (xs := [S_count, S_whole]) sT (E_callF (Es_cons (E_un (e := eI) (a1 h) (E_var rfl)) (Es_cons (E_un (e := eI) (a1 (a2 h)) (E_var rfl)) (Es_cons (E_un (e := eI) (a1 (a2 (a2 h))) (E_var rfl)) (Es_cons (E_un (e := eI) (a1 (a2 (a2 (a2 h)))) (E_var rfl)) (Es_nil))))) (mlc (Nl.nl (e := eI) (Un.un eI b_v)) (mlc (Nl.nl (e := eI) (Un.un eI b_k)) (mlc (Nl.nl (e := eI) (Un.un eI b_l)) (mlc (Nl.nl (e := eI) (Un.un eI b_m)) (ml0))))) (w_8 hwf (a1 (a2 (a2 (a2 (a2 h))))))) (E_tup (Es_cons (E_cst) (Es_cons (E_cst) (Es_nil))) (mlc (Nl.nl (e := eS) S_count) (mlc (Nl.nl (e := eS) S_whole) (ml0))))) (fun hc => ?_) (fun hc => ?_)
  · show HS _ _ _ _ (QF st.length (outX (eP2 (eP2 eI eI) (eP2 eI eI)) st (.ex 2 [eS S_broken]))) (EF st.length (outX (eP2 (eP2 eI eI) (eP2 eI eI)) st (.ex 2 [eS S_broken])))
    have h := c1 (a2 (a2 (a2 (a2 (a2 h))))) hc
    exact HS_rse (Es1 (E_cst)) rfl (q_exX rfl)
  · show HS _ _ _ _ (QF st.length (outX (eP2 (eP2 eI eI) (eP2 eI eI)) st (V.web_eigenvalues_r2 b_v b_k b_l b_m))) (EF st.length (outX (eP2 (eP2 eI eI) (eP2 eI eI)) st (V.web_eigenvalues_r2 b_v b_k b_l b_m)))
    have h := c0 (a2 (a2 (a2 (a2 (a2 h))))) hc
    exact w_10_r2 hwf h
theorem w_10 {a_v : D} {a_k : D} {a_l : D} {a_m : D} (h : O.web_eigenvalues a_v a_k a_l a_m = true) : callF T wf (k + 5) 10 [eD a_v, eD a_k, eD a_l, eD a_m] st = outX (eP2 (eP2 eI eI) (eP2 eI eI)) st (V.web_eigenvalues a_v a_k a_l a_m) := by
  refine call_HS (f := f10) rfl rfl ?_
  have hh := h
  have h := (a2 (a2 (a2 (a2 h))))
  show HS _ _ [some (eD a_v), some (eD a_k), some (eD a_l), some (eD a_m), none, none, none, none] _ (QF st.length (outX (eP2 (eP2 eI eI) (eP2 eI eI)) st (V.web_eigenvalues a_v a_k a_l a_m))) (EF st.length (outX (eP2 (eP2 eI eI) (eP2 eI eI)) st (V.web_eigenvalues a_v a_k a_l a_m)))
  refine HS_exM (f := fun _ => (V.web_eigenvalues_r1 a_v a_k a_l a_m)) (Q := fun r => QF st.length (outX (eP2 (eP2 eI eI) (eP2 eI eI)) st r)) (E := fun r => EF st.length (outX (eP2 (eP2 eI eI) (eP2 eI eI)) st r)) (E_callFX (Es_cons (E_var rfl) (Es_cons (E_var rfl) (Es_cons (E_var rfl) (Es_cons (E_var rfl) (Es_nil))))) (mlc (a1 h) (mlc (a1 (a2 h)) (mlc (a1 (a2 (a2 h))) (mlc (a1 (a2 (a2 (a2 h)))) (ml0))))) (w_2 hwf (a_v := a_v) (a_k := a_k) (a_l := a_l) (a_m := a_m) (a1 (a2 (a2 (a2 (a2 h))))))) (fun v hv => ?_) (fun c p => q_exX rfl)
  have h := Ex.all_ok (a2 (a2 (a2 (a2 (a2 h))))) hv
  exact w_10_r1 hwf h
theorem d_3 {f : Nat} {x0 : D} {x1 : D} {x2 : D} {x3 : D} (h : O.disp3 f x0 x1 x2 x3 = true) : Nat.blt f T.length = true ∧ callF T wf (k + 5) f [eD x0, eD x1, eD x2, eD x3] st = outX eD st (V.disp3 f x0 x1 x2 x3) := by
  unfold O.disp3 at h
  unfold V.disp3
  cases hb : Nat.beq f 9
  case true =>
    have e := Nat.eq_of_beq_eq_true hb
    have h := c1 h hb
    subst e
    refine ⟨rfl, ?_⟩
    exact (outX_D (e := (eO eS)) (w_9 hwf (a_v := x0) (a_k := x1) (a_l := x2) (a_m := x3) h))
  case false =>
    have h := c0 h hb
    cases hb : Nat.beq f 10
    case true =>
      have e := Nat.eq_of_beq_eq_true hb
      have h := c1 h hb
      subst e
      refine ⟨rfl, ?_⟩
      exact (outX_D (e := (eP2 (eP2 eI eI) (eP2 eI eI))) (w_10 hwf (a_v := x0) (a_k := x1) (a_l := x2) (a_m := x3) h))
    case false =>
      have h := c0 h hb
      cases h
theorem d_4 {f : Nat} {x0 : D} {x1 : D} {x2 : D} {x3 : D} {x4 : D} (h : O.disp4 f x0 x1 x2 x3 x4 = true) : Nat.blt f T.length = true ∧ callF T wf (k + 0) f [eD x0, eD x1, eD x2, eD x3, eD x4] st = outX eD st (V.disp4 f x0 x1 x2 x3 x4) := by
  unfold O.disp4 at h
  unfold V.disp4
  cases h
theorem w_15_r4 {b_f : Nat} {b_given : List D} {w2 : Option D} (hB : Wf st) (h : (O.l_told_r4 b_f b_given) = true) : HS ⟨callF T wf (k + 5), wf, T.length⟩ f15_r4 [some (eF b_f), some ((eT eD) b_given), w2] st (QT (fun r => QF st.length (.ok ((eP2 eS eD) r) st)) (V.l_told_r4 b_f b_given)) (ET st (V.l_told_r4 b_f b_given)) := by
  refine HS_ifV (Q := fun b => QT (fun r => QF st.length (.ok ((eP2 eS eD) r) st)) (bif b then (Ex.bind (V.disp3 b_f (getI b_given (0 : Int)) (getI b_given (1 : Int)) (getI b_given (2 : Int)) (getI b_given (3 : Int))) (fun z10 => (.ok (S_told, z10)))) else (Ex.bind (V.disp4 b_f (getI b_given (0 : Int)) (getI b_given (1 : Int)) (getI b_given (2 : Int)) (getI b_given (3 : Int)) (getI b_given (4 : Int))) (fun z13 => (.ok (S_told, z13)))))) (E := fun b => ET st (bif b then (Ex.bind (V.disp3 b_f (getI b_given (0 : Int)) (getI b_given (1 : Int)) (getI b_given (2 : Int)) (getI b_given (3 : Int))) (fun z10 => (.ok (S_told, z10)))) else (Ex.bind (V.disp4 b_f (getI b_given (0 : Int)) (getI b_given (1 : Int)) (getI b_given (2 : Int)) (getI b_given (3 : Int)) (getI b_given (4 : Int))) (fun z13 => (.ok (S_told, z13)))))) (E_eqI (E_len (e := eD) sT (E_var rfl)) (E_cst)) (fun hc => ?_) (fun hc => ?_)
  · show HS _ _ _ _ (QT (fun r => QF st.length (.ok ((eP2 eS eD) r) st)) (Ex.bind (V.disp3 b_f (getI b_given (0 : Int)) (getI b_given (1 : Int)) (getI b_given (2 : Int)) (getI b_given (3 : Int))) (fun z10 => (.ok (S_told, z10))))) (ET st (Ex.bind (V.disp3 b_f (getI b_given (0 : Int)) (getI b_given (1 : Int)) (getI b_given (2 : Int)) (getI b_given (3 : Int))) (fun z10 => (.ok (S_told, z10)))))
    have h := c1 h hc
    exact HS_retM (X_bind (e := eD) (E_callvF rfl (Es_cons (E_ix (e := eD) sT (a1 h) (E_var rfl) (E_cst)) (Es_cons (E_ix (e := eD) sT (a1 (a2 h)) (E_var rfl) (E_cst)) (Es_cons (E_ix (e := eD) sT (a1 (a2 (a2 h))) (E_var rfl) (E_cst)) (Es_cons (E_ix (e := eD) sT (a1 (a2 (a2 (a2 h)))) (E_var rfl) (E_cst)) (Es_nil))))) (mlc (a1 (a2 (a2 (a2 (a2 h))))) (mlc (a1 (a2 (a2 (a2 (a2 (a2 h)))))) (mlc (a1 (a2 (a2 (a2 (a2 (a2 (a2 h))))))) (mlc (a1 (a2 (a2 (a2 (a2 (a2 (a2 (a2 h)))))))) (ml0))))) (d_3 hwf (x0 := (getI b_given (0 : Int))) (x1 := (getI b_given (1 : Int))) (x2 := (getI b_given (2 : Int))) (x3 := (getI b_given (3 : Int))) (a1 (a2 (a2 (a2 (a2 (a2 (a2 (a2 (a2 h))))))))))) (fun z10 hv12 he11 => E_tup (Es_cons (E_cst) (Es_cons (he11) (Es_nil))) (mlc (Nl.nl (e := eS) S_told) (mlc (Ex.all_ok (v := z10) (a2 (a2 (a2 (a2 (a2 (a2 (a2 (a2 (a2 h))))))))) hv12) (ml0)))) (fun c p he11 => X_tup (X_next (E_cst) (X_here he11)))) (fun v hv => by rw [hv]; exact ⟨⟨_, rfl⟩, q_ret rfl⟩) (fun c p hv => by rw [hv]; exact ⟨rfl, rfl⟩)
  · show HS _ _ _ _ (QT (fun r => QF st.length (.ok ((eP2 eS eD) r) st)) (Ex.bind (V.disp4 b_f (getI b_given (0 : Int)) (getI b_given (1 : Int)) (getI b_given (2 : Int)) (getI b_given (3 : Int)) (getI b_given (4 : Int))) (fun z13 => (.ok (S_told, z13))))) (ET st (Ex.bind (V.disp4 b_f (getI b_given (0 : Int)) (getI b_given (1 : Int)) (getI b_given (2 : Int)) (getI b_given (3 : Int)) (getI b_given (4 : Int))) (fun z13 => (.ok (S_told, z13)))))
    have h := c0 h hc
    exact HS_retM (X_bind (e := eD) (E_callvF rfl (Es_cons (E_ix (e := eD) sT (a1 h) (E_var rfl) (E_cst)) (Es_cons (E_ix (e := eD) sT (a1 (a2 h)) (E_var rfl) (E_cst)) (Es_cons (E_ix (e := eD) sT (a1 (a2 (a2 h))) (E_var rfl) (E_cst)) (Es_cons (E_ix (e := eD) sT (a1 (a2 (a2 (a2 h)))) (E_var rfl) (E_cst)) (Es_cons (E_ix (e := eD) sT (a1 (a2 (a2 (a2 (a2 h))))) (E_var rfl) (E_cst)) (Es_nil)))))) (mlc (a1 (a2 (a2 (a2 (a2 (a2 h)))))) (mlc (a1 (a2 (a2 (a2 (a2 (a2 (a2 h))))))) (mlc (a1 (a2 (a2 (a2 (a2 (a2 (a2 (a2 h)))))))) (mlc (a1 (a2 (a2 (a2 (a2 (a2 (a2 (a2 (a2 h))))))))) (mlc (a1 (a2 (a2 (a2 (a2 (a2 (a2 (a2 (a2 (a2 h)))))))))) (ml0)))))) (d_4 hwf (x0 := (getI b_given (0 : Int))) (x1 := (getI b_given (1 : Int))) (x2 := (getI b_given (2 : Int))) (x3 := (getI b_given (3 : Int))) (x4 := (getI b_given (4 : Int))) (a1 (a2 (a2 (a2 (a2 (a2 (a2 (a2 (a2 (a2 (a2 h))))))))))))) (fun z13 hv15 he14 => E_tup (Es_cons (E_cst) (Es_cons (he14) (Es_nil))) (mlc (Nl.nl (e := eS) S_told) (mlc (Ex.all_ok (v := z13) (a2 (a2 (a2 (a2 (a2 (a2 (a2 (a2 (a2 (a2 (a2 h))))))))))) hv15) (ml0)))) (fun c p he14 => X_tup (X_next (E_cst) (X_here he14)))) (fun v hv => by rw [hv]; exact ⟨⟨_, rfl⟩, q_ret rfl⟩) (fun c p hv => by rw [hv]; exact ⟨rfl, rfl⟩)
theorem w_15_r3 {b_f : Nat} {b_given : List D} {w2 : Option D} (hB : Wf st) (h : (O.l_told_r3 b_f b_given) = true) : HS ⟨callF T wf (k + 5), wf, T.length⟩ f15_r3 [some (eF b_f), some ((eT eD) b_given), w2] st (QT (fun r => QF st.length (.ok ((eP2 eS eD) r) st)) (V.l_told_r3 b_f b_given)) (ET st (V.l_told_r3 b_f b_given)) := by
  refine HS_ifV (Q := fun b => QT (fun r => QF st.length (.ok ((eP2 eS eD) r) st)) (bif b then (Ex.bind (V.disp2 b_f (getI b_given (0 : Int)) (getI b_given (1 : Int)) (getI b_given (2 : Int))) (fun z7 => (.ok (S_told, z7)))) else (V.l_told_r4 b_f b_given))) (E := fun b => ET st (bif b then (Ex.bind (V.disp2 b_f (getI b_given (0 : Int)) (getI b_given (1 : Int)) (getI b_given (2 : Int))) (fun z7 => (.ok (S_told, z7)))) else (V.l_told_r4 b_f b_given))) (E_eqI (E_len (e := eD) sT (E_var rfl)) (E_cst)) (fun hc => ?_) (fun hc => ?_)
  · show HS _ _ _ _ (QT (fun r => QF st.length (.ok ((eP2 eS eD) r) st)) (Ex.bind (V.disp2 b_f (getI b_given (0 : Int)) (getI b_given (1 : Int)) (getI b_given (2 : Int))) (fun z7 => (.ok (S_told, z7))))) (ET st (Ex.bind (V.disp2 b_f (getI b_given (0 : Int)) (getI b_given (1 : Int)) (getI b_given (2 : Int))) (fun z7 => (.ok (S_told, z7)))))
    have h := c1 h hc
    exact HS_retM (X_bind (e := eD) (E_callvF rfl (Es_cons (E_ix (e := eD) sT (a1 h) (E_var rfl) (E_cst)) (Es_cons (E_ix (e := eD) sT (a1 (a2 h)) (E_var rfl) (E_cst)) (Es_cons (E_ix (e := eD) sT (a1 (a2 (a2 h))) (E_var rfl) (E_cst)) (Es_nil)))) (mlc (a1 (a2 (a2 (a2 h)))) (mlc (a1 (a2 (a2 (a2 (a2 h))))) (mlc (a1 (a2 (a2 (a2 (a2 (a2 h)))))) (ml0)))) (d_2 hwf (x0 := (getI b_given (0 : Int))) (x1 := (getI b_given (1 : Int))) (x2 := (getI b_given (2 : Int))) (a1 (a2 (a2 (a2 (a2 (a2 (a2 h))))))))) (fun z7 hv9 he8 => E_tup (Es_cons (E_cst) (Es_cons (he8) (Es_nil))) (mlc (Nl.nl (e := eS) S_told) (mlc (Ex.all_ok (v := z7) (a2 (a2 (a2 (a2 (a2 (a2 (a2 h))))))) hv9) (ml0)))) (fun c p he8 => X_tup (X_next (E_cst) (X_here he8)))) (fun v hv => by rw [hv]; exact ⟨⟨_, rfl⟩, q_ret rfl⟩) (fun c p hv => by rw [hv]; exact ⟨rfl, rfl⟩)
  · show HS _ _ _ _ (QT (fun r => QF st.length (.ok ((eP2 eS eD) r) st)) (V.l_told_r4 b_f b_given)) (ET st (V.l_told_r4 b_f b_given))
    have h := c0 h hc
    exact w_15_r4 hwf hB h
theorem w_15_r2 {b_f : Nat} {b_given : List D} {w2 : Option D} (hB : Wf st) (h : (O.l_told_r2 b_f b_given) = true) : HS ⟨callF T wf (k + 5), wf, T.length⟩ f15_r2 [some (eF b_f), some ((eT eD) b_given), w2] st (QT (fun r => QF st.length (.ok ((eP2 eS eD) r) st)) (V.l_told_r2 b_f b_given)) (ET st (V.l_told_r2 b_f b_given)) := by
  refine HS_ifV (Q := fun b => QT (fun r => QF st.length (.ok ((eP2 eS eD) r) st)) (bif b then (Ex.bind (V.disp1 b_f (getI b_given (0 : Int)) (getI b_given (1 : Int))) (fun z4 => (.ok (S_told, z4)))) else (V.l_told_r3 b_f b_given))) (E := fun b => ET st (bif b then (Ex.bind (V.disp1 b_f (getI b_given (0 : Int)) (getI b_given (1 : Int))) (fun z4 => (.ok (S_told, z4)))) else (V.l_told_r3 b_f b_given))) (E_eqI (E_len (e := eD) sT (E_var rfl)) (E_cst)) (fun hc => ?_) (fun hc => ?_)
  · show HS _ _ _ _ (QT (fun r => QF st.length (.ok ((eP2 eS eD) r) st)) (Ex.bind (V.disp1 b_f (getI b_given (0 : Int)) (getI b_given (1 : Int))) (fun z4 => (.ok (S_told, z4))))) (ET st (Ex.bind (V.disp1 b_f (getI b_given (0 : Int)) (getI b_given (1 : Int))) (fun z4 => (.ok (S_told, z4)))))
    have h := c1 h hc
    exact HS_retM (X_bind (e := eD) (E_callvF rfl (Es_cons (E_ix (e := eD) sT (a1 h) (E_var rfl) (E_cst)) (Es_cons (E_ix (e := eD) sT (a1 (a2 h)) (E_var rfl) (E_cst)) (Es_nil))) (mlc (a1 (a2 (a2 h))) (mlc (a1 (a2 (a2 (a2 h)))) (ml0))) (d_1 hwf (x0 := (getI b_given (0 : Int))) (x1 := (getI b_given (1 : Int))) (a1 (a2 (a2 (a2 (a2 h))))))) (fun z4 hv6 he5 => E_tup (Es_cons (E_cst) (Es_cons (he5) (Es_nil))) (mlc (Nl.nl (e := eS) S_told) (mlc (Ex.all_ok (v := z4) (a2 (a2 (a2 (a2 (a2 h))))) hv6) (ml0)))) (fun c p he5 => X_tup (X_next (E_cst) (X_here he5)))) (fun v hv => by rw [hv]; exact ⟨⟨_, rfl⟩, q_ret rfl⟩) (fun c p hv => by rw [hv]; exact ⟨rfl, rfl⟩)
  · show HS _ _ _ _ (QT (fun r => QF st.length (.ok ((eP2 eS eD) r) st)) (V.l_told_r3 b_f b_given)) (ET st (V.l_told_r3 b_f b_given))
    have h := c0 h hc
    exact w_15_r3 hwf hB h
theorem w_15_t1 {b_f : Nat} {b_given : List D} {w2 : Option D} (hB : Wf st) (h : (O.l_told_t1 b_f b_given) = true) : HS ⟨callF T wf (k + 5), wf, T.length⟩ f15_t1 [some (eF b_f), some ((eT eD) b_given), w2] st (QT (fun r => QF st.length (.ok ((eP2 eS eD) r) st)) (V.l_told_t1 b_f b_given)) (ET st (V.l_told_t1 b_f b_given)) := by
  refine HS_ifV (Q := fun b => QT (fun r => QF st.length (.ok ((eP2 eS eD) r) st)) (bif b then (Ex.bind (V.disp0 b_f (getI b_given (0 : Int))) (fun z1 => (.ok (S_told, ((eT (eP3 eI eI eI)) z1))))) else (V.l_told_r2 b_f b_given))) (E := fun b => ET st (bif b then (Ex.bind (V.disp0 b_f (getI b_given (0 : Int))) (fun z1 => (.ok (S_told, ((eT (eP3 eI eI eI)) z1))))) else (V.l_told_r2 b_f b_given))) (E_eqI (E_len (e := eD) sT (E_var rfl)) (E_cst)) (fun hc => ?_) (fun hc => ?_)
  · show HS _ _ _ _ (QT (fun r => QF st.length (.ok ((eP2 eS eD) r) st)) (Ex.bind (V.disp0 b_f (getI b_given (0 : Int))) (fun z1 => (.ok (S_told, ((eT (eP3 eI eI eI)) z1)))))) (ET st (Ex.bind (V.disp0 b_f (getI b_given (0 : Int))) (fun z1 => (.ok (S_told, ((eT (eP3 eI eI eI)) z1))))))
    have h := c1 h hc
    exact HS_retM (X_bind (e := (eT (eP3 eI eI eI))) (E_callvF rfl (Es_cons (E_ix (e := eD) sT (a1 h) (E_var rfl) (E_cst)) (Es_nil)) (mlc (a1 (a2 h)) (ml0)) (d_0 hwf hB (x0 := (getI b_given (0 : Int))) (a2 (a2 h)))) (fun z1 hv3 he2 => E_tup (Es_cons (E_cst) (Es_cons (he2) (Es_nil))) (mlc (Nl.nl (e := eS) S_told) (mlc (Nl.nl (e := (eT (eP3 eI eI eI))) z1) (ml0)))) (fun c p he2 => X_tup (X_next (E_cst) (X_here he2)))) (fun v hv => by rw [hv]; exact ⟨⟨_, rfl⟩, q_ret rfl⟩) (fun c p hv => by rw [hv]; exact ⟨rfl, rfl⟩)
  · show HS _ _ _ _ (QT (fun r => QF st.length (.ok ((eP2 eS eD) r) st)) (V.l_told_r2 b_f b_given)) (ET st (V.l_told_r2 b_f b_given))
    have h := c0 h hc
    exact w_15_r2 hwf hB h
theorem w_15 {a_f : Nat} {a_given : List D} (hB : Wf st) (h : O.l_told a_f a_given = true) : callF T wf (k + 6) 15 [eF a_f, (eT eD) a_given] st = .ok ((eP2 eS eD) (V.l_told a_f a_given)) st := by
  refine call_HS (f := f15) rfl rfl ?_
  have h := h
  show HS _ _ [some (eF a_f), some ((eT eD) a_given), none] _ (QF st.length (.ok ((eP2 eS eD) (V.l_told a_f a_given)) st)) (EF st.length (.ok ((eP2 eS eD) (V.l_told a_f a_given)) st))
  have hx := a2 h
  have h := a1 h
  refine HS_tryM (f := fun c p => (bif Nat.beq c 1 then (S_malformed, (.non : D)) else (bif Nat.beq c 2 then (S_raised, (Un.un eD (p.getD 0 .non))) else default))) (Q := fun r => QF st.length (.ok ((eP2 eS eD) r) st)) (E := fun r => EF st.length (.ok ((eP2 eS eD) r) st)) true (by exact w_15_t1 hwf hB h) (fun c p hm => ?_)
  have hx := Ex.exs_ok hx hm
  cases hb : Nat.beq c 1
  case true =>
    have hx := c1 hx hb
    have e := Nat.eq_of_beq_eq_true hb
    subst e
    exact ⟨_, rfl, q_ret rfl⟩
  have hx := c0 hx hb
  cases hb : Nat.beq c 2
  case true =>
    have hx := c1 hx hb
    have e := Nat.eq_of_beq_eq_true hb
    subst e
    obtain ⟨d, rfl, hd⟩ := tryB_ok hx
    exact ⟨_, rfl, q_ret rfl⟩
  have hx := c0 hx hb
  cases hx
theorem w_18 {a_f : Nat} {a_given : List D} {a_due : D} (hB : Wf st) (h : O.l_tells a_f a_given a_due = true) : callF T wf (k + 20) 18 [eF a_f, (eT eD) a_given, eD a_due] st = .ok (eB (V.l_tells a_f a_given a_due)) st := by
  refine call_HS (f := f18) rfl rfl ?_
  have hh := h
  have h := (a2 h)
  show HS _ _ [some (eF a_f), some ((eT eD) a_given), some (eD a_due)] _ (QF st.length (.ok (eB (V.l_tells a_f a_given a_due)) st)) (EF st.length (.ok (eB (V.l_tells a_f a_given a_due)) st))
  exact HS_ret (E_callF (Es_cons (E_callF (Es_cons (E_var rfl) (Es_cons (E_var rfl) (Es_nil))) (mlc (Nl.nl (e := eF) a_f) (mlc (Nl.nl (e := (eT eD)) a_given) (ml0))) (w_15 hwf hB (a_given := a_given) (a1 h))) (Es_cons (E_var rfl) (Es_nil))) (mlc (Nl.nl (e := (eP2 eS eD)) (V.l_told a_f a_given)) (mlc (a1 (a2 h)) (ml0))) (w_16 hwf (a_pair := (V.l_told a_f a_given)) (a_due := a_due) (a2 (a2 h)))) (q_ret rfl)
theorem w_17 {a_pair : (List Nat) × D} {a_reason : List Nat} (h : O.l_is_raised a_pair a_reason = true) : callF T wf (k + 19) 17 [(eP2 eS eD) a_pair, eS a_reason] st = .ok (eB (V.l_is_raised a_pair a_reason)) st := by
  refine call_HS (f := f17) rfl rfl ?_
  have h := h
  show HS _ _ [some ((eP2 eS eD) a_pair), some (eS a_reason)] _ (QF st.length (.ok (eB (V.l_is_raised a_pair a_reason)) st)) (EF st.length (.ok (eB (V.l_is_raised a_pair a_reason)) st))
  refine HS_ifV (Q := fun b => QF st.length (.ok (eB (bif b then ((a_pair.1 == S_malformed)) else (((a_pair.1 == S_raised)) && (V.l_same a_pair.2 (eS a_reason))))) st)) (E := fun b => EF st.length (.ok (eB (bif b then ((a_pair.1 == S_malformed)) else (((a_pair.1 == S_raised)) && (V.l_same a_pair.2 (eS a_reason))))) st)) (E_eqV (e := eS) (a1 h) (a1 (a2 h)) (E_var rfl) (E_cst)) (fun hc => ?_) (fun hc => ?_)
  · show HS _ _ _ _ (QF st.length (.ok (eB ((a_pair.1 == S_malformed))) st)) (EF st.length (.ok (eB ((a_pair.1 == S_malformed))) st))
    have h := c1 (a2 (a2 h)) hc
    exact HS_ret (E_eqV (e := eS) (a1 h) (a2 h) (E_c0 (E_var rfl)) (E_cst)) (q_ret rfl)
  · show HS _ _ _ _ (QF st.length (.ok (eB (((a_pair.1 == S_raised)) && (V.l_same a_pair.2 (eS a_reason)))) st)) (EF st.length (.ok (eB (((a_pair.1 == S_raised)) && (V.l_same a_pair.2 (eS a_reason)))) st))
    have h := c0 (a2 (a2 h)) hc
    exact HS_ret (E_and (E_eqV (e := eS) (a1 h) (a1 (a2 h)) (E_c0 (E_var rfl)) (E_cst)) (fun hc1 => E_callFE [a_pair.2, (eS a_reason)] (Es_cons (E_c1 (E_var rfl)) (Es_cons (E_var rfl) (Es_nil))) rfl (mlc (a1 (i1 (a2 (a2 h)) hc1)) (mlc (Nl.nl (e := eS) a_reason) (ml0))) (same_w (T := T) (wf := wf) (g := 14) (v := 2) (g1 := 0) rfl rfl (a := a_pair.2) (b := (eS a_reason)) (a2 (i1 (a2 (a2 h)) hc1))))) (q_ret rfl)
theorem w_19 {a_f : Nat} {a_given : List D} {a_reason : List Nat} (hB : Wf st) (h : O.l_raises a_f a_given a_reason = true) : callF T wf (k + 20) 19 [eF a_f, (eT eD) a_given, eS a_reason] st = .ok (eB (V.l_raises a_f a_given a_reason)) st := by
  refine call_HS (f := f19) rfl rfl ?_
  have h := h
  show HS _ _ [some (eF a_f), some ((eT eD) a_given), some (eS a_reason)] _ (QF st.length (.ok (eB (V.l_raises a_f a_given a_reason)) st)) (EF st.length (.ok (eB (V.l_raises a_f a_given a_reason)) st))
  exact HS_ret (E_callF (Es_cons (E_callF (Es_cons (E_var rfl) (Es_cons (E_var rfl) (Es_nil))) (mlc (Nl.nl (e := eF) a_f) (mlc (Nl.nl (e := (eT eD)) a_given) (ml0))) (w_15 hwf hB (a_given := a_given) (a1 h))) (Es_cons (E_var rfl) (Es_nil))) (mlc (Nl.nl (e := (eP2 eS eD)) (V.l_told a_f a_given)) (mlc (Nl.nl (e := eS) a_reason) (ml0))) (w_17 hwf (a_pair := (V.l_told a_f a_given)) (a2 h))) (q_ret rfl)
theorem w_25_r6 {b_given : Int × Int × Int × Int} {b_v : Int} {b_k : Int} {b_l : Int} {b_m : Int} {b_f : Option (Int × Int)} {b_g : Option (Int × Int)} {b_r : Int} {b_s : Int} {w1 w6 w7 w8 : Option D} (hB : Wf st) (h : (O.l_holds_k24_r6 b_given b_v b_k b_l b_m b_f b_g b_r b_s) = true) : HS ⟨callF T wf (k + 20), wf, T.length⟩ f25_r6 [some ((eP4 eI eI eI eI) b_given), w1, some (eI b_v), some (eI b_k), some (eI b_l), some (eI b_m), w6, w7, w8, some ((eO (eP2 eI eI)) b_f), some ((eO (eP2 eI eI)) b_g), some (eI b_r), some (eI b_s)] st (QF st.length (.ok (eB (V.l_holds_k24_r6 b_given b_v b_k b_l b_m b_f b_g b_r b_s)) st)) (EF st.length (.ok (eB (V.l_holds_k24_r6 b_given b_v b_k b_l b_m b_f b_g b_r b_s)) st)) := by
  refine HS_ifV (Q := fun b => QF st.length (.ok (eB (bif b then false else (V.l_tells (10 : Nat) [(eI b_given.1), (eI b_given.2.1), (eI b_given.2.2.1), (eI b_given.2.2.2)] ((eP2 (eP2 eI eI) (eP2 eI eI)) ((b_r, (getO b_f).1), (b_s, (getO b_g).1)))))) st)) (E := fun b => EF st.length (.ok (eB (bif b then false else (V.l_tells (10 : Nat) [(eI b_given.1), (eI b_given.2.1), (eI b_given.2.2.1), (eI b_given.2.2.2)] ((eP2 (eP2 eI eI) (eP2 eI eI)) ((b_r, (getO b_f).1), (b_s, (getO b_g).1)))))) st)) (E_or (E_neI (E_add (E_var rfl) (E_var rfl)) (E_sub (E_var rfl) (E_var rfl))) (fun hc3 => E_or (E_neI (E_mul (a1 (i0 (a1 h) hc3)) (E_var rfl) (E_var rfl)) (E_sub (E_var rfl) (E_var rfl))) (fun hc2 => E_or (E_neI (E_add (E_c0 (E_some (e := (eP2 eI eI)) (a1 (i0 (a2 (i0 (a1 h) hc3)) hc2)) (E_var rfl))) (E_c0 (E_some (e := (eP2 eI eI)) (a1 (a2 (i0 (a2 (i0 (a1 h) hc3)) hc2))) (E_var rfl)))) (E_sub (E_var rfl) (E_cst))) (fun hc1 => E_neI (E_add (E_add (E_var rfl) (E_mul (a1 (a2 (i0 (a2 (a2 (i0 (a2 (i0 (a1 h) hc3)) hc2))) hc1))) (E_c0 (E_some (e := (eP2 eI eI)) (a1 (i0 (a2 (a2 (i0 (a2 (i0 (a1 h) hc3)) hc2))) hc1)) (E_var rfl))) (E_var rfl))) (E_mul (a2 (a2 (a2 (i0 (a2 (a2 (i0 (a2 (i0 (a1 h) hc3)) hc2))) hc1)))) (E_c0 (E_some (e := (eP2 eI eI)) (a1 (a2 (a2 (i0 (a2 (a2 (i0 (a2 (i0 (a1 h) hc3)) hc2))) hc1)))) (E_var rfl))) (E_var rfl))) (E_cst))))) (fun hc => ?_) (fun hc => ?_)
  · show HS _ _ _ _ (QF st.length (.ok (eB false) st)) (EF st.length (.ok (eB false) st))
    have h := c1 (a2 h) hc
    exact HS_ret (E_cst) (q_ret rfl)
  · show HS _ _ _ _ (QF st.length (.ok (eB (V.l_tells (10 : Nat) [(eI b_given.1), (eI b_given.2.1), (eI b_given.2.2.1), (eI b_given.2.2.2)] ((eP2 (eP2 eI eI) (eP2 eI eI)) ((b_r, (getO b_f).1), (b_s, (getO b_g).1))))) st)) (EF st.length (.ok (eB (V.l_tells (10 : Nat) [(eI b_given.1), (eI b_given.2.1), (eI b_given.2.2.1), (eI b_given.2.2.2)] ((eP2 (eP2 eI eI) (eP2 eI eI)) ((b_r, (getO b_f).1), (b_s, (getO b_g).1))))) st))
    have h := c0 (a2 h) hc
    exact HS_ret (E_callF (Es_cons (E_cst) (Es_cons (E_var rfl) (Es_cons (E_tup (Es_cons (E_tup (Es_cons (E_var rfl) (Es_cons (E_c0 (E_some (e := (eP2 eI eI)) (a1 h) (E_var rfl))) (Es_nil))) (mlc (Nl.nl (e := eI) b_r) (mlc (Nl.nl (e := eI) ((getO b_f).1)) (ml0)))) (Es_cons (E_tup (Es_cons (E_var rfl) (Es_cons (E_c0 (E_some (e := (eP2 eI eI)) (a1 (a2 h)) (E_var rfl))) (Es_nil))) (mlc (Nl.nl (e := eI) b_s) (mlc (Nl.nl (e := eI) ((getO b_g).1)) (ml0)))) (Es_nil))) (mlc (Nl.nl (e := (eP2 eI eI)) (b_r, (getO b_f).1)) (mlc (Nl.nl (e := (eP2 eI eI)) (b_s, (getO b_g).1)) (ml0)))) (Es_nil)))) (mlc (Nl.nl (e := eF) (10 : Nat)) (mlc (Nl.nl (e := (eT eD)) [(eI b_given.1), (eI b_given.2.1), (eI b_given.2.2.1), (eI b_given.2.2.2)]) (mlc (Nl.nl (e := (eP2 (eP2 eI eI) (eP2 eI eI))) ((b_r, (getO b_f).1), (b_s, (getO b_g).1))) (ml0)))) (w_18 hwf hB (a_given := [(eI b_given.1), (eI b_given.2.1), (eI b_given.2.2.1), (eI b_given.2.2.2)]) (a_due := ((eP2 (eP2 eI eI) (eP2 eI eI)) ((b_r, (getO b_f).1), (b_s, (getO b_g).1)))) (a2 (a2 h)))) (q_ret rfl)
theorem w_25_r5 {b_given : Int × Int × Int × Int} {b_v : Int} {b_k : Int} {b_l : Int} {b_m : Int} {b_q : Option Int} {b_f : Option (Int × Int)} {b_g : Option (Int × Int)} {w1 w6 w7 w11 w12 : Option D} (hB : Wf st) (h : (O.l_holds_k24_r5 b_given b_v b_k b_l b_m b_q b_f b_g) = true) : HS ⟨callF T wf (k + 20), wf, T.length⟩ f25_r5 [some ((eP4 eI eI eI eI) b_given), w1, some (eI b_v), some (eI b_k), some (eI b_l), some (eI b_m), w6, w7, some ((eO eI) b_q), some ((eO (eP2 eI eI)) b_f), some ((eO (eP2 eI eI)) b_g), w11, w12] st (QF st.length (.ok (eB (V.l_holds_k24_r5 b_given b_v b_k b_l b_m b_q b_f b_g)) st)) (EF st.length (.ok (eB (V.l_holds_k24_r5 b_given b_v b_k b_l b_m b_q b_f b_g)) st)) := by
  refine HS_asg (E_tup (Es_cons (E_fdiv (by decide) (E_add (E_sub (E_var rfl) (E_var rfl)) (E_some (e := eI) (a1 h) (E_var rfl))) (E_cst)) (Es_cons (E_fdiv (by decide) (E_sub (E_sub (E_var rfl) (E_var rfl)) (E_some (e := eI) (a1 (a2 h)) (E_var rfl))) (E_cst)) (Es_nil))) (mlc (Nl.nl (e := eI) (Int.fdiv ((b_l - b_m) + (getO b_q)) (2 : Int))) (mlc (Nl.nl (e := eI) (Int.fdiv ((b_l - b_m) - (getO b_q)) (2 : Int))) (ml0)))) (T_tp rfl rfl (Ts_cons (T_nm (Nl.nl (e := eI) (Int.fdiv ((b_l - b_m) + (getO b_q)) (2 : Int)))) (Ts_cons (T_nm (Nl.nl (e := eI) (Int.fdiv ((b_l - b_m) - (getO b_q)) (2 : Int)))) (Ts_nil)))) ?_
  have h := (a2 (a2 h))
  exact w_25_r6 hwf hB h
theorem w_25_r4 {b_given : Int × Int × Int × Int} {b_v : Int} {b_k : Int} {b_l : Int} {b_m : Int} {b_q : Option Int} {b_f : Option (Int × Int)} {b_g : Option (Int × Int)} {w1 w6 w7 w11 w12 : Option D} (hB : Wf st) (h : (O.l_holds_k24_r4 b_given b_v b_k b_l b_m b_q b_f b_g) = true) : HS ⟨callF T wf (k + 20), wf, T.length⟩ f25_r4 [some ((eP4 eI eI eI eI) b_given), w1, some (eI b_v), some (eI b_k), some (eI b_l), some (eI b_m), w6, w7, some ((eO eI) b_q), some ((eO (eP2 eI eI)) b_f), some ((eO (eP2 eI eI)) b_g), w11, w12] st (QF st.length (.ok (eB (V.l_holds_k24_r4 b_given b_v b_k b_l b_m b_q b_f b_g)) st)) (EF st.length (.ok (eB (V.l_holds_k24_r4 b_given b_v b_k b_l b_m b_q b_f b_g)) st)) := by
  refine HS_ifV (Q := fun b => QF st.length (.ok (eB (bif b then (V.l_raises (10 : Nat) [(eI b_given.1), (eI b_given.2.1), (eI b_given.2.2.1), (eI b_given.2.2.2)] S_half) else (V.l_holds_k24_r5 b_given b_v b_k b_l b_m b_q b_f b_g))) st)) (E := fun b => EF st.length (.ok (eB (bif b then (V.l_raises (10 : Nat) [(eI b_given.1), (eI b_given.2.1), (eI b_given.2.2.1), (eI b_given.2.2.2)] S_half) else (V.l_holds_k24_r5 b_given b_v b_k b_l b_m b_q b_f b_g))) st)) (E_isN (e := eI) (E_var rfl)) (fun hc => ?_) (fun hc => ?_)
  · show HS _ _ _ _ (QF st.length (.ok (eB (V.l_raises (10 : Nat) [(eI b_given.1), (eI b_given.2.1), (eI b_given.2.2.1), (eI b_given.2.2.2)] S_half)) st)) (EF st.length (.ok (eB (V.l_raises (10 : Nat) [(eI b_given.1), (eI b_given.2.1), (eI b_given.2.2.1), (eI b_given.2.2.2)] S_half)) st))
    have h := c1 h hc
    exact HS_ret (E_callF (Es_cons (E_cst) (Es_cons (E_var rfl) (Es_cons (E_cst) (Es_nil)))) (mlc (Nl.nl (e := eF) (10 : Nat)) (mlc (Nl.nl (e := (eT eD)) [(eI b_given.1), (eI b_given.2.1), (eI b_given.2.2.1), (eI b_given.2.2.2)]) (mlc (Nl.nl (e := eS) S_half) (ml0)))) (w_19 hwf hB (a_given := [(eI b_given.1), (eI b_given.2.1), (eI b_given.2.2.1), (eI b_given.2.2.2)]) h)) (q_ret rfl)
  · show HS _ _ _ _ (QF st.length (.ok (eB (V.l_holds_k24_r5 b_given b_v b_k b_l b_m b_q b_f b_g)) st)) (EF st.length (.ok (eB (V.l_holds_k24_r5 b_given b_v b_k b_l b_m b_q b_f b_g)) st))
    have h := c0 h hc
    exact w_25_r5 hwf hB h
theorem w_25_r3 {b_given : Int × Int × Int × Int} {b_due : Option (List Nat)} {b_v : Int} {b_k : Int} {b_l : Int} {b_m : Int} {b_q : Option Int} {b_f : Option (Int × Int)} {b_g : Option (Int × Int)} {w6 w7 w11 w12 : Option D} (hB : Wf st) (h : (O.l_holds_k24_r3 b_given b_due b_v b_k b_l b_m b_q b_f b_g) = true) : HS ⟨callF T wf (k + 20), wf, T.length⟩ f25_r3 [some ((eP4 eI eI eI eI) b_given), some ((eO eS) b_due), some (eI b_v), some (eI b_k), some (eI b_l), some (eI b_m), w6, w7, some ((eO eI) b_q), some ((eO (eP2 eI eI)) b_f), some ((eO (eP2 eI eI)) b_g), w11, w12] st (QF st.length (.ok (eB (V.l_holds_k24_r3 b_given b_due b_v b_k b_l b_m b_q b_f b_g)) st)) (EF st.length (.ok (eB (V.l_holds_k24_r3 b_given b_due b_v b_k b_l b_m b_q b_f b_g)) st)) := by
  refine HS_ifV (Q := fun b => QF st.length (.ok (eB (bif b then (V.l_raises (10 : Nat) [(eI b_given.1), (eI b_given.2.1), (eI b_given.2.2.1), (eI b_given.2.2.2)] S_broken) else (V.l_holds_k24_r4 b_given b_v b_k b_l b_m b_q b_f b_g))) st)) (E := fun b => EF st.length (.ok (eB (bif b then (V.l_raises (10 : Nat) [(eI b_given.1), (eI b_given.2.1), (eI b_given.2.2.1), (eI b_given.2.2.2)] S_broken) else (V.l_holds_k24_r4 b_given b_v b_k b_l b_m b_q b_f b_g))) st)) (E_inO (xs := [S_count, S_whole]) sT (E_var rfl) (E_tup (Es_cons (E_cst) (Es_cons (E_cst) (Es_nil))) (mlc (Nl.nl (e := eS) S_count) (mlc (Nl.nl (e := eS) S_whole) (ml0))))) (fun hc => ?_) (fun hc => ?_)
  · show HS _ _ _ _ (QF st.length (.ok (eB (V.l_raises (10 : Nat) [(eI b_given.1), (eI b_given.2.1), (eI b_given.2.2.1), (eI b_given.2.2.2)] S_broken)) st)) (EF st.length (.ok (eB (V.l_raises (10 : Nat) [(eI b_given.1), (eI b_given.2.1), (eI b_given.2.2.1), (eI b_given.2.2.2)] S_broken)) st))
    have h := c1 h hc
    exact HS_ret (E_callF (Es_cons (E_cst) (Es_cons (E_var rfl) (Es_cons (E_cst) (Es_nil)))) (mlc (Nl.nl (e := eF) (10 : Nat)) (mlc (Nl.nl (e := (eT eD)) [(eI b_given.1), (eI b_given.2.1), (eI b_given.2.2.1), (eI b_given.2.2.2)]) (mlc (Nl.nl (e := eS) S_broken) (ml0)))) (w_19 hwf hB (a_given := [(eI b_given.1), (eI b_given.2.1), (eI b_given.2.2.1), (eI b_given.2.2.2)]) h)) (q_ret rfl)
  · show HS _ _ _ _ (QF st.length (.ok (eB (V.l_holds_k24_r4 b_given b_v b_k b_l b_m b_q b_f b_g)) st)) (EF st.length (.ok (eB (V.l_holds_k24_r4 b_given b_v b_k b_l b_m b_q b_f b_g)) st))
    have h := c0 h hc
    exact w_25_r4 hwf hB h
theorem w_25_r2 {b_given : Int × Int × Int × Int} {b_due : Option (List Nat)} {b_v : Int} {b_k : Int} {b_l : Int} {b_m : Int} {w6 w7 w8 w9 w10 w11 w12 : Option D} (hB : Wf st) (h : (O.l_holds_k24_r2 b_given b_due b_v b_k b_l b_m) = true) : HS ⟨callF T wf (k + 20), wf, T.length⟩ f25_r2 [some ((eP4 eI eI eI eI) b_given), some ((eO eS) b_due), some (eI b_v), some (eI b_k), some (eI b_l), some (eI b_m), w6, w7, w8, w9, w10, w11, w12] st (QF st.length (.ok (eB (V.l_holds_k24_r2 b_given b_due b_v b_k b_l b_m)) st)) (EF st.length (.ok (eB (V.l_holds_k24_r2 b_given b_due b_v b_k b_l b_m)) st)) := by
  refine HS_asg (E_callF (Es_cons (E_var rfl) (Es_cons (E_var rfl) (Es_cons (E_var rfl) (Es_cons (E_var rfl) (Es_nil))))) (mlc (Nl.nl (e := eI) b_v) (mlc (Nl.nl (e := eI) b_k) (mlc (Nl.nl (e := eI) b_l) (mlc (Nl.nl (e := eI) b_m) (ml0))))) (w_23 hwf (a1 h))) (T_tp rfl rfl (Ts_cons (T_nm (Nl.nl (e := eI) ((V.l_parts b_v b_k b_l b_m).1))) (Ts_cons (T_nm (Nl.nl (e := eI) ((V.l_parts b_v b_k b_l b_m).2.1))) (Ts_cons (T_nm (Nl.nl (e := (eO eI)) ((V.l_parts b_v b_k b_l b_m).2.2.1))) (Ts_cons (T_nm (Nl.nl (e := (eO (eP2 eI eI))) ((V.l_parts b_v b_k b_l b_m).2.2.2.1))) (Ts_cons (T_nm (Nl.nl (e := (eO (eP2 eI eI))) ((V.l_parts b_v b_k b_l b_m).2.2.2.2))) (Ts_nil))))))) ?_
  have h := (a2 h)
  exact w_25_r3 hwf hB h
theorem w_25_r1 {b_given : Int × Int × Int × Int} {b_due : Option (List Nat)} {b_v : Int} {b_k : Int} {b_l : Int} {b_m : Int} {w6 w7 w8 w9 w10 w11 w12 : Option D} (hB : Wf st) (h : (O.l_holds_k24_r1 b_given b_due b_v b_k b_l b_m) = true) : HS ⟨callF T wf (k + 20), wf, T.length⟩ f25_r1 [some ((eP4 eI eI eI eI) b_given), some ((eO eS) b_due), some (eI b_v), some (eI b_k), some (eI b_l), some (eI b_m), w6, w7, w8, w9, w10, w11, w12] st (QF st.length (.ok (eB (V.l_holds_k24_r1 b_given b_due b_v b_k b_l b_m)) st)) (EF st.length (.ok (eB (V.l_holds_k24_r1 b_given b_due b_v b_k b_l b_m)) st)) := by
  refine HS_ifV (Q := fun b => QF st.length (.ok (eB (bif b then false else (V.l_holds_k24_r2 b_given b_due b_v b_k b_l b_m))) st)) (E := fun b => EF st.length (.ok (eB (bif b then false else (V.l_holds_k24_r2 b_given b_due b_v b_k b_l b_m))) st)) (E_not (E_callF (Es_cons (E_cst) (Es_cons (E_var rfl) (Es_cons (E_var rfl) (Es_nil)))) (mlc (Nl.nl (e := eF) (9 : Nat)) (mlc (Nl.nl (e := (eT eD)) [(eI b_given.1), (eI b_given.2.1), (eI b_given.2.2.1), (eI b_given.2.2.2)]) (mlc (Nl.nl (e := (eO eS)) b_due) (ml0)))) (w_18 hwf hB (a_given := [(eI b_given.1), (eI b_given.2.1), (eI b_given.2.2.1), (eI b_given.2.2.2)]) (a_due := ((eO eS) b_due)) (a1 h)))) (fun hc => ?_) (fun hc => ?_)
  · show HS _ _ _ _ (QF st.length (.ok (eB false) st)) (EF st.length (.ok (eB false) st))
    have h := c1 (a2 h) hc
    exact HS_ret (E_cst) (q_ret rfl)
  · show HS _ _ _ _ (QF st.length (.ok (eB (V.l_holds_k24_r2 b_given b_due b_v b_k b_l b_m)) st)) (EF st.length (.ok (eB (V.l_holds_k24_r2 b_given b_due b_v b_k b_l b_m)) st))
    have h := c0 (a2 h) hc
    exact w_25_r2 hwf hB h
theorem w_25 {a_given : Int × Int × Int × Int} (hB : Wf st) (h : O.l_holds_k24 a_given = true) : callF T wf (k + 21) 25 [(eP4 eI eI eI eI) a_given] st = .ok (eB (V.l_holds_k24 a_given)) st := by
  refine call_HS (f := f25) rfl rfl ?_
  have h := h
  show HS _ _ [some ((eP4 eI eI eI eI) a_given), none, none, none, none, none, none, none, none, none, none, none, none] _ (QF st.length (.ok (eB (V.l_holds_k24 a_given)) st)) (EF st.length (.ok (eB (V.l_holds_k24 a_given)) st))
  refine HS_asg (E_var rfl) (T_tp rfl rfl (Ts_cons (T_nm (Nl.nl (e := eI) a_given.1)) (Ts_cons (T_nm (Nl.nl (e := eI) a_given.2.1)) (Ts_cons (T_nm (Nl.nl (e := eI) a_given.2.2.1)) (Ts_cons (T_nm (Nl.nl (e := eI) a_given.2.2.2)) (Ts_nil)))))) ?_
  refine HS_asg (E_callF (Es_cons (E_var rfl) (Es_cons (E_var rfl) (Es_cons (E_var rfl) (Es_cons (E_var rfl) (Es_nil))))) (mlc (Nl.nl (e := eI) a_given.1) (mlc (Nl.nl (e := eI) a_given.2.1) (mlc (Nl.nl (e := eI) a_given.2.2.1) (mlc (Nl.nl (e := eI) a_given.2.2.2) (ml0))))) (w_24 hwf (a1 h))) (T_nm (Nl.nl (e := (eO eS)) (V.l_broken a_given.1 a_given.2.1 a_given.2.2.1 a_given.2.2.2))) ?_
  have h := (a2 h)
  exact w_25_r1 hwf hB h
theorem w_26_r3 {b_v : Int} {b_k : Int} {b_found : List (Int × Int × Int)} {b_l : Int} {b_m : Int} {k_found : Nat} {sx : Sto} (m : MS st [(k_found, List.map (eP3 eI eI eI) b_found)] sx) (h : (O.l_feasible_r3 b_v b_k b_found b_l b_m) = true) : HS ⟨callF T wf (k + 3), wf, T.length⟩ f26_r3 [some (eI b_v), some (.lr k_found), some (eI b_k), some (eI b_l), some (eI b_m)] sx (QL (I_26_2 st b_v b_k) (V.l_feasible_r3 b_v b_k b_found b_l b_m)) (EN) := by
  refine HS_ifV (Q := fun b => QL (I_26_2 st b_v b_k) (bif b then b_found ++ [(b_k, b_l, b_m)] else b_found)) (E := fun b => EN) (E_and (E_chain (p := .le) (q := .lt) sI_le sp_lt (E_cst) (E_var rfl) (fun hc1 => E_var rfl)) (fun hc2 => E_isN (e := eS) (E_callF (Es_cons (E_var rfl) (Es_cons (E_var rfl) (Es_cons (E_var rfl) (Es_cons (E_var rfl) (Es_nil))))) (mlc (Nl.nl (e := eI) b_v) (mlc (Nl.nl (e := eI) b_k) (mlc (Nl.nl (e := eI) b_l) (mlc (Nl.nl (e := eI) b_m) (ml0))))) (w_24 hwf (i1 (a1 h) hc2))))) (fun hc => ?_) (fun hc => ?_)
  · show HS _ _ _ _ (QL (I_26_2 st b_v b_k) (b_found ++ [(b_k, b_l, b_m)])) (EN)
    have h := c1 (a2 h) hc
    refine HM_appE (l := []) m (e := (eP3 eI eI eI)) rfl (E_tup (Es_cons (E_var rfl) (Es_cons (E_var rfl) (Es_cons (E_var rfl) (Es_nil)))) (mlc (Nl.nl (e := eI) b_k) (mlc (Nl.nl (e := eI) b_l) (mlc (Nl.nl (e := eI) b_m) (ml0))))) (Nl.nl (e := (eP3 eI eI eI)) (b_k, b_l, b_m)) (a1 h) (fun sx m => ?_)
    have h := (a2 h)
    exact HS_nil ⟨.inl rfl, _, _, _, _, rfl, rfl, m⟩
  · show HS _ _ _ _ (QL (I_26_2 st b_v b_k) b_found) (EN)
    have h := c0 (a2 h) hc
    exact HS_nil ⟨.inl rfl, _, _, _, _, rfl, rfl, m⟩
theorem w_26_l2 {b_v : Int} {b_k : Int} {q : (List (Int × Int × Int))} {x : Int} {rr : Rho} {sx : Sto} (h : (O.l_feasible_l2 b_v b_k q x) = true) (hI : (I_26_2 st b_v b_k) q rr sx) : Holds (kBody ⟨callF T wf (k + 3), wf, T.length⟩ f26_b2 (evTg ⟨callF T wf (k + 3), wf, T.length⟩ (.nm 3) (eI x) rr sx)) (QL (I_26_2 st b_v b_k) (V.l_feasible_l2 b_v b_k q x)) (EN) := by
  obtain ⟨w3, w4, k_found, sy, e1, e2, m⟩ := hI
  subst e1 e2
  refine HB (T_nm (Nl.nl (e := eI) x)) ?_
  refine HS_asg (E_fdiv (a1 (a2 h)) (E_mul (a1 h) (E_var rfl) (E_sub (E_sub (E_var rfl) (E_var rfl)) (E_cst))) (E_sub (E_sub (E_var rfl) (E_var rfl)) (E_cst))) (T_nm (Nl.nl (e := eI) (Int.fdiv (b_k * ((b_k - x) - (1 : Int))) ((b_v - b_k) - (1 : Int))))) ?_
  have h := (a2 (a2 h))
  exact w_26_r3 hwf m h
theorem w_26_l1 {b_v : Int} {q : (List (Int × Int × Int))} {x : Int} {rr : Rho} {sx : Sto} (h : (O.l_feasible_l1 b_v q x) = true) (hI : (I_26_1 st b_v) q rr sx) : Holds (kBody ⟨callF T wf (k + 3), wf, T.length⟩ f26_b1 (evTg ⟨callF T wf (k + 3), wf, T.length⟩ (.nm 2) (eI x) rr sx)) (QL (I_26_1 st b_v) (V.l_feasible_l1 b_v q x)) (EN) := by
  obtain ⟨w2, w3, w4, k_found, sy, e1, e2, m⟩ := hI
  subst e1 e2
  refine HB (T_nm (Nl.nl (e := eI) x)) ?_
  refine HS_for (I := (I_26_2 st b_v x)) (step := (V.l_feasible_l2 b_v x)) (ok := (O.l_feasible_l2 b_v x)) (xs := (rI (0 : Int) x)) (s0 := q) (e := eI) (S_rng1 (a1 h) (E_var rfl)) (fun _ _ _ _ => trivial) ⟨_, _, _, _, rfl, rfl, m⟩ (a1 (a2 h)) (fun q x rr sx h hI => w_26_l2 hwf h hI) ?_
  rintro rr sx ⟨w3, w4, k_found, sy, e1, e2, m⟩
  subst e1 e2
  have h := (a2 (a2 h))
  exact HS_nil ⟨.inl rfl, _, _, _, _, _, rfl, rfl, m⟩
theorem w_26 {a_v : Int} (hB : Wf st) (h : O.l_feasible a_v = true) : callF T wf (k + 4) 26 [eI a_v] st = .ok ((eT (eP3 eI eI eI)) (V.l_feasible a_v)) st := by
  refine call_HS (f := f26) rfl rfl ?_
  have m := MS.nil hB
  have h := h
  show HS _ _ [some (eI a_v), none, none, none, none] _ (QF st.length (.ok ((eT (eP3 eI eI eI)) (V.l_feasible a_v)) st)) (EF st.length (.ok ((eT (eP3 eI eI eI)) (V.l_feasible a_v)) st))
  refine HM_newE (e := (eP3 eI eI eI)) (xs := []) m (E_lst (Es_nil) (ml0)) (fun k_found sx m => ?_)
  have h := h
  refine HS_for (I := (I_26_1 st a_v)) (step := (V.l_feasible_l1 a_v)) (ok := (O.l_feasible_l1 a_v)) (xs := (rI (1 : Int) ((Int.fdiv (a_v - (1 : Int)) (2 : Int)) + (1 : Int)))) (s0 := []) (e := eI) (S_rng2 (a1 h) (E_cst) (E_add (E_fdiv (by decide) (E_sub (E_var rfl) (E_cst)) (E_cst)) (E_cst))) (fun _ _ _ _ => trivial) ⟨_, _, _, _, _, rfl, rfl, m⟩ (a1 (a2 h)) (fun q x rr sx h hI => w_26_l1 hwf h hI) ?_
  rintro rr sx ⟨w2, w3, w4, k_found, sy, e1, e2, m⟩
  subst e1 e2
  have h := (a2 (a2 h))
  exact HS_ret (E_tuple (e := (eP3 eI eI eI)) (sR (MS.get (l := []) m)) (E_var rfl)) (m.ret (Bl.bl (e := (eT (eP3 eI eI eI))) _ _))
theorem w_28_l3 {b_row : Int × Int × Int × Int} {b_v : Int} {b_k : Int} {b_l : Int} {b_m : Int} {q : S2} {x : Int × Int × Int × Int} {rr : Rho} {sx : Sto} (hB : ∀ s, Wf (ss st s)) (h0 : 0 < st.length) (h : (O.law_k24_l3 q x) = true) (hI : (I_28_3 st b_row b_v b_k b_l b_m) q rr sx) : Holds (kBody ⟨callF T wf (k + 21), wf, T.length⟩ f28_b3 (evTg ⟨callF T wf (k + 21), wf, T.length⟩ (.nm 7) ((eP4 eI eI eI eI) x) rr sx)) (QR (I_28_3 st b_row b_v b_k b_l b_m) (fun r => QR (I_28_1 st) (fun r => QF 0 (.ok (eB r) [])) r) (V.law_k24_l3 q x)) (ER (fun r => ER (fun r => EF 0 (.ok (eB r) [])) r) (V.law_k24_l3 q x)) := by
  obtain ⟨w0, w3, w5, w6, w7, e1, e2⟩ := hI
  subst e1 e2
  refine HB (T_nm (Nl.nl (e := (eP4 eI eI eI eI)) x)) ?_
  refine HS_ifV (Q := fun b => QR (I_28_3 st b_row b_v b_k b_l b_m) (fun r => QR (I_28_1 st) (fun r => QF 0 (.ok (eB r) [])) r) (bif b then (.rt (.rt false)) else (.nx q))) (E := fun b => ER (fun r => ER (fun r => EF 0 (.ok (eB r) [])) r) (bif b then (.rt (.rt false)) else (.nx q))) (E_and (E_chain (p := .le) (q := .le) sI_le sp_le (E_cst) (E_c1 (E_var rfl)) (fun hc1 => E_sub (E_c0 (E_var rfl)) (E_cst))) (fun hc6 => E_and (E_chain (p := .le) (q := .lt) sI_le sp_lt (E_cst) (E_c2 (E_var rfl)) (fun hc2 => E_c1 (E_var rfl))) (fun hc5 => E_and (E_chain (p := .le) (q := .le) sI_le sp_le (E_cst) (E_c3 (E_var rfl)) (fun hc3 => E_c1 (E_var rfl))) (fun hc4 => E_not (E_callF (Es_cons (E_var rfl) (Es_nil)) (mlc (Nl.nl (e := (eP4 eI eI eI eI)) x) (ml0)) (w_25 hwf (hB _) (a_given := x) (i1 (i1 (i1 (a1 h) hc6) hc5) hc4))))))) (fun hc => ?_) (fun hc => ?_)
  · show HS _ _ _ _ (QR (I_28_3 st b_row b_v b_k b_l b_m) (fun r => QR (I_28_1 st) (fun r => QF 0 (.ok (eB r) [])) r) (.rt (.rt false))) (ER (fun r => ER (fun r => EF 0 (.ok (eB r) [])) r) (.rt (.rt false)))
    have h := c1 (a2 h) hc
    exact HS_ret (E_cst) (⟨⟨_, rfl⟩, ⟨⟨_, rfl⟩, q_law⟩⟩)
  · show HS _ _ _ _ (QR (I_28_3 st b_row b_v b_k b_l b_m) (fun r => QR (I_28_1 st) (fun r => QF 0 (.ok (eB r) [])) r) (.nx q)) (ER (fun r => ER (fun r => EF 0 (.ok (eB r) [])) r) (.nx q))
    have h := c0 (a2 h) hc
    exact HS_nil ⟨.inl rfl, _, _, _, _, _, rfl, rfl⟩
theorem w_28_r2 {b_row : Int × Int × Int × Int} {sv : S2} {w0 w3 w4 w5 w6 w7 w8 w9 w10 : Option D} (hB : ∀ s, Wf (ss st s)) (h0 : 0 < st.length) (h : (O.law_k24_r2 b_row sv) = true) : HS ⟨callF T wf (k + 21), wf, T.length⟩ f28_r2 [w0, some (.lr 0), some ((eP4 eI eI eI eI) b_row), w3, w4, w5, w6, w7, w8, w9, w10] (ss st sv) (QR (I_28_1 st) (fun r => QF 0 (.ok (eB r) [])) (V.law_k24_r2 b_row sv)) (ER (fun r => EF 0 (.ok (eB r) [])) (V.law_k24_r2 b_row sv)) := by
  refine HS_asg (E_var rfl) (T_tp rfl rfl (Ts_cons (T_nm (Nl.nl (e := eI) b_row.1)) (Ts_cons (T_nm (Nl.nl (e := eI) b_row.2.1)) (Ts_cons (T_nm (Nl.nl (e := eI) b_row.2.2.1)) (Ts_cons (T_nm (Nl.nl (e := eI) b_row.2.2.2)) (Ts_nil)))))) ?_
  refine HS_forR (I := (I_28_3 st b_row b_row.1 b_row.2.1 b_row.2.2.1 b_row.2.2.2)) (step := (V.law_k24_l3)) (ok := (O.law_k24_l3)) (xs := [((b_row.1 + (1 : Int)), b_row.2.1, b_row.2.2.1, b_row.2.2.2), (b_row.1, b_row.2.1, b_row.2.2.1, (max (0 : Int) (b_row.2.2.2 - (1 : Int)))), (b_row.1, b_row.2.1, (max (0 : Int) (b_row.2.2.1 - (1 : Int))), b_row.2.2.2), (b_row.1, ((b_row.1 - b_row.2.1) - (1 : Int)), (((b_row.1 - ((2 : Int) * b_row.2.1)) + b_row.2.2.2) - (2 : Int)), ((b_row.1 - ((2 : Int) * b_row.2.1)) + b_row.2.2.1))]) (s0 := sv) (e := (eP4 eI eI eI eI)) (f := fun q => (.nx q)) (g := fun q => true) (Q := fun r => QR (I_28_1 st) (fun r => QF 0 (.ok (eB r) [])) r) (E := fun r => ER (fun r => EF 0 (.ok (eB r) [])) r) (S_seq v_F (E_lst (Es_cons (E_tup (Es_cons (E_add (E_var rfl) (E_cst)) (Es_cons (E_var rfl) (Es_cons (E_var rfl) (Es_cons (E_var rfl) (Es_nil))))) (mlc (Nl.nl (e := eI) (b_row.1 + (1 : Int))) (mlc (Nl.nl (e := eI) b_row.2.1) (mlc (Nl.nl (e := eI) b_row.2.2.1) (mlc (Nl.nl (e := eI) b_row.2.2.2) (ml0)))))) (Es_cons (E_tup (Es_cons (E_var rfl) (Es_cons (E_var rfl) (Es_cons (E_var rfl) (Es_cons (E_max2 (E_cst) (E_sub (E_var rfl) (E_cst))) (Es_nil))))) (mlc (Nl.nl (e := eI) b_row.1) (mlc (Nl.nl (e := eI) b_row.2.1) (mlc (Nl.nl (e := eI) b_row.2.2.1) (mlc (Nl.nl (e := eI) (max (0 : Int) (b_row.2.2.2 - (1 : Int)))) (ml0)))))) (Es_cons (E_tup (Es_cons (E_var rfl) (Es_cons (E_var rfl) (Es_cons (E_max2 (E_cst) (E_sub (E_var rfl) (E_cst))) (Es_cons (E_var rfl) (Es_nil))))) (mlc (Nl.nl (e := eI) b_row.1) (mlc (Nl.nl (e := eI) b_row.2.1) (mlc (Nl.nl (e := eI) (max (0 : Int) (b_row.2.2.1 - (1 : Int)))) (mlc (Nl.nl (e := eI) b_row.2.2.2) (ml0)))))) (Es_cons (E_tup (Es_cons (E_var rfl) (Es_cons (E_sub (E_sub (E_var rfl) (E_var rfl)) (E_cst)) (Es_cons (E_sub (E_add (E_sub (E_var rfl) (E_mul (a1 h) (E_cst) (E_var rfl))) (E_var rfl)) (E_cst)) (Es_cons (E_add (E_sub (E_var rfl) (E_mul (a1 (a2 h)) (E_cst) (E_var rfl))) (E_var rfl)) (Es_nil))))) (mlc (Nl.nl (e := eI) b_row.1) (mlc (Nl.nl (e := eI) ((b_row.1 - b_row.2.1) - (1 : Int))) (mlc (Nl.nl (e := eI) (((b_row.1 - ((2 : Int) * b_row.2.1)) + b_row.2.2.2) - (2 : Int))) (mlc (Nl.nl (e := eI) ((b_row.1 - ((2 : Int) * b_row.2.1)) + b_row.2.2.1)) (ml0)))))) (Es_nil))))) (mlc (Nl.nl (e := (eP4 eI eI eI eI)) ((b_row.1 + (1 : Int)), b_row.2.1, b_row.2.2.1, b_row.2.2.2)) (mlc (Nl.nl (e := (eP4 eI eI eI eI)) (b_row.1, b_row.2.1, b_row.2.2.1, (max (0 : Int) (b_row.2.2.2 - (1 : Int))))) (mlc (Nl.nl (e := (eP4 eI eI eI eI)) (b_row.1, b_row.2.1, (max (0 : Int) (b_row.2.2.1 - (1 : Int))), b_row.2.2.2)) (mlc (Nl.nl (e := (eP4 eI eI eI eI)) (b_row.1, ((b_row.1 - b_row.2.1) - (1 : Int)), (((b_row.1 - ((2 : Int) * b_row.2.1)) + b_row.2.2.2) - (2 : Int)), ((b_row.1 - ((2 : Int) * b_row.2.1)) + b_row.2.2.1))) (ml0))))))) (fun _ _ _ _ => trivial) ⟨_, _, _, _, _, rfl, rfl⟩ (a1 (a2 (a2 h))) (a2 (a2 (a2 h))) (fun q x rr sx h hI => w_28_l3 hwf hB h0 h hI) ?_
  intro q
  intro rr sx h hI
  obtain ⟨w0, w3, w5, w6, w7, e1, e2⟩ := hI
  subst e1 e2
  exact HS_nil ⟨.inl rfl, _, _, _, _, _, _, _, _, _, _, rfl, rfl⟩
theorem w_28_l1  {q : S2} {x : Int × Int × Int × Int} {rr : Rho} {sx : Sto} (hB : ∀ s, Wf (ss st s)) (h0 : 0 < st.length) (h : (O.law_k24_l1 q x) = true) (hI : (I_28_1 st) q rr sx) : Holds (kBody ⟨callF T wf (k + 21), wf, T.length⟩ f28_b1 (evTg ⟨callF T wf (k + 21), wf, T.length⟩ (.nm 2) ((eP4 eI eI eI eI) x) rr sx)) (QR (I_28_1 st) (fun r => QF 0 (.ok (eB r) [])) (V.law_k24_l1 q x)) (ER (fun r => EF 0 (.ok (eB r) [])) (V.law_k24_l1 q x)) := by
  obtain ⟨w0, w2, w3, w4, w5, w6, w7, w8, w9, w10, e1, e2⟩ := hI
  subst e1 e2
  refine HB (T_nm (Nl.nl (e := (eP4 eI eI eI eI)) x)) ?_
  refine HS_ifV (Q := fun b => QR (I_28_1 st) (fun r => QF 0 (.ok (eB r) [])) (bif b then (.rt false) else (V.law_k24_r2 x q))) (E := fun b => ER (fun r => EF 0 (.ok (eB r) [])) (bif b then (.rt false) else (V.law_k24_r2 x q))) (E_not (E_callF (Es_cons (E_var rfl) (Es_nil)) (mlc (Nl.nl (e := (eP4 eI eI eI eI)) x) (ml0)) (w_25 hwf (hB _) (a_given := x) (a1 h)))) (fun hc => ?_) (fun hc => ?_)
  · show HS _ _ _ _ (QR (I_28_1 st) (fun r => QF 0 (.ok (eB r) [])) (.rt false)) (ER (fun r => EF 0 (.ok (eB r) [])) (.rt false))
    have h := c1 (a2 h) hc
    exact HS_ret (E_cst) (⟨⟨_, rfl⟩, q_law⟩)
  · show HS _ _ _ _ (QR (I_28_1 st) (fun r => QF 0 (.ok (eB r) [])) (V.law_k24_r2 x q)) (ER (fun r => EF 0 (.ok (eB r) [])) (V.law_k24_r2 x q))
    have h := c0 (a2 h) hc
    exact w_28_r2 hwf hB h0 h
theorem w_28_r8 {b_v : Int} {b_k : Int} {b_l : Int} {b_m : Int} {sv : S2} {w0 w2 w3 w5 w6 w7 : Option D} (hB : ∀ s, Wf (ss st s)) (h0 : 0 < st.length) (h : (O.law_k24_r8 b_v b_k b_l b_m sv) = true) : HS ⟨callF T wf (k + 21), wf, T.length⟩ f28_r8 [w0, some (.lr 0), w2, w3, some (eI b_v), w5, w6, w7, some (eI b_k), some (eI b_l), some (eI b_m)] (ss st sv) (QR (I_28_5 st) (fun r => QF 0 (.ok (eB r) [])) (V.law_k24_r8 b_v b_k b_l b_m sv)) (ER (fun r => EF 0 (.ok (eB r) [])) (V.law_k24_r8 b_v b_k b_l b_m sv)) := by
  refine HS_ifV (Q := fun b => QR (I_28_5 st) (fun r => QF 0 (.ok (eB r) [])) (bif b then (.rt false) else (.nx (bif ((decide (b_m ≤ b_k)) && (!(V.l_holds_k24 (b_v, b_k, b_l, b_m)))) then sv else (V.l_take sv (b_k + (1 : Int))).2)))) (E := fun b => ER (fun r => EF 0 (.ok (eB r) [])) (bif b then (.rt false) else (.nx (bif ((decide (b_m ≤ b_k)) && (!(V.l_holds_k24 (b_v, b_k, b_l, b_m)))) then sv else (V.l_take sv (b_k + (1 : Int))).2)))) (E_orS (E_and (E_le (E_var rfl) (E_var rfl)) (fun hc7 => E_not (E_callF (Es_cons (E_tup (Es_cons (E_var rfl) (Es_cons (E_var rfl) (Es_cons (E_var rfl) (Es_cons (E_var rfl) (Es_nil))))) (mlc (Nl.nl (e := eI) b_v) (mlc (Nl.nl (e := eI) b_k) (mlc (Nl.nl (e := eI) b_l) (mlc (Nl.nl (e := eI) b_m) (ml0)))))) (Es_nil)) (mlc (Nl.nl (e := (eP4 eI eI eI eI)) (b_v, b_k, b_l, b_m)) (ml0)) (w_25 hwf (hB _) (a_given := (b_v, b_k, b_l, b_m)) (i1 (a1 h) hc7))))) (fun hc8 => E_not (E_callF (Es_cons (E_tup (Es_cons (E_var rfl) (Es_cons (E_var rfl) (Es_cons (E_var rfl) (Es_cons (E_callF (Es_cons (E_var rfl) (Es_cons (E_add (E_var rfl) (E_cst)) (Es_nil))) (mlc (rfl) (mlc (Nl.nl (e := eI) (b_k + (1 : Int))) (ml0))) (take_w (T := T) (wf := wf) (g := 13) rfl h0 (a_m := (b_k + (1 : Int))) (a1 (i0 (a1 (a2 h)) hc8)))) (Es_nil))))) (mlc (Nl.nl (e := eI) b_v) (mlc (Nl.nl (e := eI) b_k) (mlc (Nl.nl (e := eI) b_l) (mlc (Nl.nl (e := eI) ((V.l_take sv (b_k + (1 : Int))).1)) (ml0)))))) (Es_nil)) (mlc (Nl.nl (e := (eP4 eI eI eI eI)) (b_v, b_k, b_l, (V.l_take sv (b_k + (1 : Int))).1)) (ml0)) (w_25 hwf (hB _) (a_given := (b_v, b_k, b_l, (V.l_take sv (b_k + (1 : Int))).1)) (a2 (i0 (a1 (a2 h)) hc8)))))) (fun hc => ?_) (fun hc => ?_)
  · show HS _ _ _ _ (QR (I_28_5 st) (fun r => QF 0 (.ok (eB r) [])) (.rt false)) (ER (fun r => EF 0 (.ok (eB r) [])) (.rt false))
    have h := c1 (a2 (a2 h)) hc
    exact HS_ret (E_cst) (⟨⟨_, rfl⟩, q_law⟩)
  · show HS _ _ _ _ (QR (I_28_5 st) (fun r => QF 0 (.ok (eB r) [])) (.nx (bif ((decide (b_m ≤ b_k)) && (!(V.l_holds_k24 (b_v, b_k, b_l, b_m)))) then sv else (V.l_take sv (b_k + (1 : Int))).2))) (ER (fun r => EF 0 (.ok (eB r) [])) (.nx (bif ((decide (b_m ≤ b_k)) && (!(V.l_holds_k24 (b_v, b_k, b_l, b_m)))) then sv else (V.l_take sv (b_k + (1 : Int))).2)))
    have h := c0 (a2 (a2 h)) hc
    exact HS_nil ⟨.inl rfl, _, _, _, _, _, _, _, _, _, _, rfl, rfl⟩
theorem w_28_r7 {b_v : Int} {b_k : Int} {sv : S2} {w0 w2 w3 w5 w6 w7 w9 w10 : Option D} (hB : ∀ s, Wf (ss st s)) (h0 : 0 < st.length) (h : (O.law_k24_r7 b_v b_k sv) = true) : HS ⟨callF T wf (k + 21), wf, T.length⟩ f28_r7 [w0, some (.lr 0), w2, w3, some (eI b_v), w5, w6, w7, some (eI b_k), w9, w10] (ss st sv) (QR (I_28_5 st) (fun r => QF 0 (.ok (eB r) [])) (V.law_k24_r7 b_v b_k sv)) (ER (fun r => EF 0 (.ok (eB r) [])) (V.law_k24_r7 b_v b_k sv)) := by
  refine HS_asg (E_callF (Es_cons (E_var rfl) (Es_cons (E_var rfl) (Es_nil))) (mlc (rfl) (mlc (Nl.nl (e := eI) b_k) (ml0))) (take_w (T := T) (wf := wf) (g := 13) rfl h0 (a_m := b_k) (a1 h))) (T_nm (Nl.nl (e := eI) ((V.l_take sv b_k).1))) ?_
  have h := (a2 h)
  refine HS_asg (E_fdiv (a1 (a2 h)) (E_mul (a1 h) (E_var rfl) (E_sub (E_sub (E_var rfl) (E_var rfl)) (E_cst))) (E_sub (E_sub (E_var rfl) (E_var rfl)) (E_cst))) (T_nm (Nl.nl (e := eI) (Int.fdiv (b_k * ((b_k - (V.l_take sv b_k).1) - (1 : Int))) ((b_v - b_k) - (1 : Int))))) ?_
  have h := (a2 (a2 h))
  exact w_28_r8 hwf hB h0 h
theorem w_28_r6 {b_v : Int} {sv : S2} {w0 w2 w3 w5 w6 w7 w8 w9 w10 : Option D} (hB : ∀ s, Wf (ss st s)) (h0 : 0 < st.length) (h : (O.law_k24_r6 b_v sv) = true) : HS ⟨callF T wf (k + 21), wf, T.length⟩ f28_r6 [w0, some (.lr 0), w2, w3, some (eI b_v), w5, w6, w7, w8, w9, w10] (ss st sv) (QR (I_28_5 st) (fun r => QF 0 (.ok (eB r) [])) (V.law_k24_r6 b_v sv)) (ER (fun r => EF 0 (.ok (eB r) [])) (V.law_k24_r6 b_v sv)) := by
  refine HS_asg (E_add (E_cst) (E_callF (Es_cons (E_var rfl) (Es_cons (E_sub (E_var rfl) (E_cst)) (Es_nil))) (mlc (rfl) (mlc (Nl.nl (e := eI) (b_v - (2 : Int))) (ml0))) (take_w (T := T) (wf := wf) (g := 13) rfl h0 (a_m := (b_v - (2 : Int))) (a1 h)))) (T_nm (Nl.nl (e := eI) ((1 : Int) + (V.l_take sv (b_v - (2 : Int))).1))) ?_
  have h := (a2 h)
  exact w_28_r7 hwf hB h0 h
theorem w_28_l5  {q : S2} {x : Int} {rr : Rho} {sx : Sto} (hB : ∀ s, Wf (ss st s)) (h0 : 0 < st.length) (h : (O.law_k24_l5 q x) = true) (hI : (I_28_5 st) q rr sx) : Holds (kBody ⟨callF T wf (k + 21), wf, T.length⟩ f28_b5 (evTg ⟨callF T wf (k + 21), wf, T.length⟩ (.nm 3) (eI x) rr sx)) (QR (I_28_5 st) (fun r => QF 0 (.ok (eB r) [])) (V.law_k24_l5 q x)) (ER (fun r => EF 0 (.ok (eB r) [])) (V.law_k24_l5 q x)) := by
  obtain ⟨w0, w2, w3, w4, w5, w6, w7, w8, w9, w10, e1, e2⟩ := hI
  subst e1 e2
  refine HB (T_nm (Nl.nl (e := eI) x)) ?_
  refine HS_asg (E_add (E_cst) (E_callF (Es_cons (E_var rfl) (Es_cons (E_ix (e := eI) sF (a1 (a2 h)) (E_lst (Es_cons (E_cst) (Es_cons (E_cst) (Es_nil))) (mlc (Nl.nl (e := eI) (20 : Int)) (mlc (Nl.nl (e := eI) (398 : Int)) (ml0)))) (E_callF (Es_cons (E_var rfl) (Es_cons (E_cst) (Es_nil))) (mlc (rfl) (mlc (Nl.nl (e := eI) (2 : Int)) (ml0))) (take_w (T := T) (wf := wf) (g := 13) rfl h0 (a_m := (2 : Int)) (a1 h)))) (Es_nil))) (mlc (rfl) (mlc (Nl.nl (e := eI) (getI [(20 : Int), (398 : Int)] ((V.l_take q (2 : Int)).1))) (ml0))) (take_w (T := T) (wf := wf) (g := 13) rfl h0 (a_m := (getI [(20 : Int), (398 : Int)] ((V.l_take q (2 : Int)).1))) (a1 (a2 (a2 h)))))) (T_nm (Nl.nl (e := eI) ((3 : Int) + (V.l_take ((V.l_take q (2 : Int)).2) (getI [(20 : Int), (398 : Int)] ((V.l_take q (2 : Int)).1))).1))) ?_
  have h := (a2 (a2 (a2 h)))
  exact w_28_r6 hwf hB h0 h
theorem w_28_l10  {q : S2} {x : Int} {rr : Rho} {sx : Sto} (hB : ∀ s, Wf (ss st s)) (h0 : 0 < st.length) (h : (O.law_k24_l10 q x) = true) (hI : (I_28_10 st) q rr sx) : Holds (kBody ⟨callF T wf (k + 21), wf, T.length⟩ f28_b10 (evTg ⟨callF T wf (k + 21), wf, T.length⟩ (.nm 4) (eI x) rr sx)) (QR (I_28_10 st) (fun r => QF 0 (.ok (eB r) [])) (V.law_k24_l10 q x)) (ER (fun r => EF 0 (.ok (eB r) [])) (V.law_k24_l10 q x)) := by
  obtain ⟨w0, w2, w3, w4, w5, w6, w7, w8, w9, w10, e1, e2⟩ := hI
  subst e1 e2
  refine HB (T_nm (Nl.nl (e := eI) x)) ?_
  refine HS_ifV (Q := fun b => QR (I_28_10 st) (fun r => QF 0 (.ok (eB r) [])) (bif b then (.rt false) else (.nx q))) (E := fun b => ER (fun r => EF 0 (.ok (eB r) [])) (bif b then (.rt false) else (.nx q))) (E_not (E_callF (Es_cons (E_cst) (Es_cons (E_tup (Es_cons (E_var rfl) (Es_nil)) (mlc (Nl.nl (e := eI) x) (ml0))) (Es_cons (E_callF (Es_cons (E_var rfl) (Es_nil)) (mlc (Nl.nl (e := eI) x) (ml0)) (w_26 hwf (hB _) (a1 h))) (Es_nil)))) (mlc (Nl.nl (e := eF) (11 : Nat)) (mlc (Nl.nl (e := (eT eD)) [(eI x)]) (mlc (Nl.nl (e := (eT (eP3 eI eI eI))) (V.l_feasible x)) (ml0)))) (w_18 hwf (hB _) (a_given := [(eI x)]) (a_due := ((eT (eP3 eI eI eI)) (V.l_feasible x))) (a1 (a2 h))))) (fun hc => ?_) (fun hc => ?_)
  · show HS _ _ _ _ (QR (I_28_10 st) (fun r => QF 0 (.ok (eB r) [])) (.rt false)) (ER (fun r => EF 0 (.ok (eB r) [])) (.rt false))
    have h := c1 (a2 (a2 h)) hc
    exact HS_ret (E_cst) (⟨⟨_, rfl⟩, q_law⟩)
  · show HS _ _ _ _ (QR (I_28_10 st) (fun r => QF 0 (.ok (eB r) [])) (.nx q)) (ER (fun r => EF 0 (.ok (eB r) [])) (.nx q))
    have h := c0 (a2 (a2 h)) hc
    exact HS_nil ⟨.inl rfl, _, _, _, _, _, _, _, _, _, _, rfl, rfl⟩
theorem w_28_l14 {b_bad : D} {q : S2} {x : D} {rr : Rho} {sx : Sto} (hB : ∀ s, Wf (ss st s)) (h0 : 0 < st.length) (h : (O.law_k24_l14 q x) = true) (hI : (I_28_14 st b_bad) q rr sx) : Holds (kBody ⟨callF T wf (k + 21), wf, T.length⟩ f28_b14 (evTg ⟨callF T wf (k + 21), wf, T.length⟩ (.nm 6) (eD x) rr sx)) (QR (I_28_14 st b_bad) (fun r => QR (I_28_12 st) (fun r => QF 0 (.ok (eB r) [])) r) (V.law_k24_l14 q x)) (ER (fun r => ER (fun r => EF 0 (.ok (eB r) [])) r) (V.law_k24_l14 q x)) := by
  obtain ⟨w0, w2, w3, w4, w6, w7, w8, w9, w10, e1, e2⟩ := hI
  subst e1 e2
  have hx := a1 h
  have h := a2 h
  refine HB (T_nm (hx)) ?_
  refine HS_ifV (Q := fun b => QR (I_28_14 st b_bad) (fun r => QR (I_28_12 st) (fun r => QF 0 (.ok (eB r) [])) r) (bif b then (.rt (.rt false)) else (.nx q))) (E := fun b => ER (fun r => ER (fun r => EF 0 (.ok (eB r) [])) r) (bif b then (.rt (.rt false)) else (.nx q))) (E_or (E_not (E_callF (Es_cons (E_cst) (Es_cons (E_un (e := (eT eD)) (a1 h) (E_var rfl)) (Es_cons (E_cst) (Es_nil)))) (mlc (Nl.nl (e := eF) (9 : Nat)) (mlc (Nl.nl (e := (eT eD)) (Un.un (eT eD) x)) (mlc (Nl.nl (e := eS) S_malformed) (ml0)))) (w_19 hwf (hB _) (a_given := (Un.un (eT eD) x)) (a1 (a2 h))))) (fun hc9 => E_not (E_callF (Es_cons (E_cst) (Es_cons (E_un (e := (eT eD)) (a1 (i0 (a1 (a2 (a2 h))) hc9)) (E_var rfl)) (Es_cons (E_cst) (Es_nil)))) (mlc (Nl.nl (e := eF) (10 : Nat)) (mlc (Nl.nl (e := (eT eD)) (Un.un (eT eD) x)) (mlc (Nl.nl (e := eS) S_malformed) (ml0)))) (w_19 hwf (hB _) (a_given := (Un.un (eT eD) x)) (a2 (i0 (a1 (a2 (a2 h))) hc9)))))) (fun hc => ?_) (fun hc => ?_)
  · show HS _ _ _ _ (QR (I_28_14 st b_bad) (fun r => QR (I_28_12 st) (fun r => QF 0 (.ok (eB r) [])) r) (.rt (.rt false))) (ER (fun r => ER (fun r => EF 0 (.ok (eB r) [])) r) (.rt (.rt false)))
    have h := c1 (a2 (a2 (a2 h))) hc
    exact HS_ret (E_cst) (⟨⟨_, rfl⟩, ⟨⟨_, rfl⟩, q_law⟩⟩)
  · show HS _ _ _ _ (QR (I_28_14 st b_bad) (fun r => QR (I_28_12 st) (fun r => QF 0 (.ok (eB r) [])) r) (.nx q)) (ER (fun r => ER (fun r => EF 0 (.ok (eB r) [])) r) (.nx q))
    have h := c0 (a2 (a2 (a2 h))) hc
    exact HS_nil ⟨.inl rfl, _, _, _, _, _, _, _, _, _, rfl, rfl⟩
theorem w_28_r13 {b_bad : D} {sv : S2} {w0 w2 w3 w4 w6 w7 w8 w9 w10 : Option D} (hB : ∀ s, Wf (ss st s)) (h0 : 0 < st.length) (h : (O.law_k24_r13 b_bad sv) = true) : HS ⟨callF T wf (k + 21), wf, T.length⟩ f28_r13 [w0, some (.lr 0), w2, w3, w4, some (eD b_bad), w6, w7, w8, w9, w10] (ss st sv) (QR (I_28_12 st) (fun r => QF 0 (.ok (eB r) [])) (V.law_k24_r13 b_bad sv)) (ER (fun r => EF 0 (.ok (eB r) [])) (V.law_k24_r13 b_bad sv)) := by
  refine HS_forR (I := (I_28_14 st b_bad)) (step := (V.law_k24_l14)) (ok := (O.law_k24_l14)) (xs := [((eP4 eD eI eI eI) (b_bad, (3 : Int), (0 : Int), (1 : Int))), ((eP4 eI eD eI eI) ((10 : Int), b_bad, (0 : Int), (1 : Int))), ((eP4 eI eI eD eI) ((10 : Int), (3 : Int), b_bad, (1 : Int))), ((eP4 eI eI eI eD) ((10 : Int), (3 : Int), (0 : Int), b_bad))]) (s0 := sv) (e := eD) (f := fun q => (.nx q)) (g := fun q => true) (Q := fun r => QR (I_28_12 st) (fun r => QF 0 (.ok (eB r) [])) r) (E := fun r => ER (fun r => EF 0 (.ok (eB r) [])) r) (S_seq v_F (E_lst (Es_cons (E_tup (Es_cons (E_var rfl) (Es_cons (E_cst) (Es_cons (E_cst) (Es_cons (E_cst) (Es_nil))))) (mlc (a1 h) (mlc (Nl.nl (e := eI) (3 : Int)) (mlc (Nl.nl (e := eI) (0 : Int)) (mlc (Nl.nl (e := eI) (1 : Int)) (ml0)))))) (Es_cons (E_tup (Es_cons (E_cst) (Es_cons (E_var rfl) (Es_cons (E_cst) (Es_cons (E_cst) (Es_nil))))) (mlc (Nl.nl (e := eI) (10 : Int)) (mlc (a1 (a2 h)) (mlc (Nl.nl (e := eI) (0 : Int)) (mlc (Nl.nl (e := eI) (1 : Int)) (ml0)))))) (Es_cons (E_tup (Es_cons (E_cst) (Es_cons (E_cst) (Es_cons (E_var rfl) (Es_cons (E_cst) (Es_nil))))) (mlc (Nl.nl (e := eI) (10 : Int)) (mlc (Nl.nl (e := eI) (3 : Int)) (mlc (a1 (a2 (a2 h))) (mlc (Nl.nl (e := eI) (1 : Int)) (ml0)))))) (Es_cons (E_tup (Es_cons (E_cst) (Es_cons (E_cst) (Es_cons (E_cst) (Es_cons (E_var rfl) (Es_nil))))) (mlc (Nl.nl (e := eI) (10 : Int)) (mlc (Nl.nl (e := eI) (3 : Int)) (mlc (Nl.nl (e := eI) (0 : Int)) (mlc (a1 (a2 (a2 (a2 h)))) (ml0)))))) (Es_nil))))) (mlc (Nl.nl (e := (eP4 eD eI eI eI)) (b_bad, (3 : Int), (0 : Int), (1 : Int))) (mlc (Nl.nl (e := (eP4 eI eD eI eI)) ((10 : Int), b_bad, (0 : Int), (1 : Int))) (mlc (Nl.nl (e := (eP4 eI eI eD eI)) ((10 : Int), (3 : Int), b_bad, (1 : Int))) (mlc (Nl.nl (e := (eP4 eI eI eI eD)) ((10 : Int), (3 : Int), (0 : Int), b_bad)) (ml0))))))) (fun _ _ _ _ => trivial) ⟨_, _, _, _, _, _, _, _, _, rfl, rfl⟩ (a1 (a2 (a2 (a2 (a2 h))))) (a2 (a2 (a2 (a2 (a2 h))))) (fun q x rr sx h hI => w_28_l14 hwf hB h0 h hI) ?_
  intro q
  intro rr sx h hI
  obtain ⟨w0, w2, w3, w4, w6, w7, w8, w9, w10, e1, e2⟩ := hI
  subst e1 e2
  exact HS_nil ⟨.inl rfl, _, _, _, _, _, _, _, _, _, _, rfl, rfl⟩
theorem w_28_l12  {q : S2} {x : D} {rr : Rho} {sx : Sto} (hB : ∀ s, Wf (ss st s)) (h0 : 0 < st.length) (h : (O.law_k24_l12 q x) = true) (hI : (I_28_12 st) q rr sx) : Holds (kBody ⟨callF T wf (k + 21), wf, T.length⟩ f28_b12 (evTg ⟨callF T wf (k + 21), wf, T.length⟩ (.nm 5) (eD x) rr sx)) (QR (I_28_12 st) (fun r => QF 0 (.ok (eB r) [])) (V.law_k24_l12 q x)) (ER (fun r => EF 0 (.ok (eB r) [])) (V.law_k24_l12 q x)) := by
  obtain ⟨w0, w2, w3, w4, w5, w6, w7, w8, w9, w10, e1, e2⟩ := hI
  subst e1 e2
  have hx := a1 h
  have h := a2 h
  refine HB (T_nm (hx)) ?_
  refine HS_ifV (Q := fun b => QR (I_28_12 st) (fun r => QF 0 (.ok (eB r) [])) (bif b then (.rt false) else (V.law_k24_r13 x q))) (E := fun b => ER (fun r => EF 0 (.ok (eB r) [])) (bif b then (.rt false) else (V.law_k24_r13 x q))) (E_not (E_callF (Es_cons (E_cst) (Es_cons (E_tup (Es_cons (E_var rfl) (Es_nil)) (mlc (a1 h) (ml0))) (Es_cons (E_cst) (Es_nil)))) (mlc (Nl.nl (e := eF) (11 : Nat)) (mlc (Nl.nl (e := (eT eD)) [x]) (mlc (Nl.nl (e := eS) S_malformed) (ml0)))) (w_19 hwf (hB _) (a_given := [x]) (a1 (a2 h))))) (fun hc => ?_) (fun hc => ?_)
  · show HS _ _ _ _ (QR (I_28_12 st) (fun r => QF 0 (.ok (eB r) [])) (.rt false)) (ER (fun r => EF 0 (.ok (eB r) [])) (.rt false))
    have h := c1 (a2 (a2 h)) hc
    exact HS_ret (E_cst) (⟨⟨_, rfl⟩, q_law⟩)
  · show HS _ _ _ _ (QR (I_28_12 st) (fun r => QF 0 (.ok (eB r) [])) (V.law_k24_r13 x q)) (ER (fun r => EF 0 (.ok (eB r) [])) (V.law_k24_r13 x q))
    have h := c0 (a2 (a2 h)) hc
    exact w_28_r13 hwf hB h0 h
theorem w_28_l16  {q : S2} {x : Int × Int × Int × Int} {rr : Rho} {sx : Sto} (hB : ∀ s, Wf (ss st s)) (h0 : 0 < st.length) (h : (O.law_k24_l16 q x) = true) (hI : (I_28_16 st) q rr sx) : Holds (kBody ⟨callF T wf (k + 21), wf, T.length⟩ f28_b16 (evTg ⟨callF T wf (k + 21), wf, T.length⟩ (.nm 6) ((eP4 eI eI eI eI) x) rr sx)) (QR (I_28_16 st) (fun r => QF 0 (.ok (eB r) [])) (V.law_k24_l16 q x)) (ER (fun r => EF 0 (.ok (eB r) [])) (V.law_k24_l16 q x)) := by
  obtain ⟨w0, w2, w3, w4, w5, w6, w7, w8, w9, w10, e1, e2⟩ := hI
  subst e1 e2
  refine HB (T_nm (Nl.nl (e := (eP4 eI eI eI eI)) x)) ?_
  refine HS_ifV (Q := fun b => QR (I_28_16 st) (fun r => QF 0 (.ok (eB r) [])) (bif b then (.rt false) else (.nx q))) (E := fun b => ER (fun r => EF 0 (.ok (eB r) [])) (bif b then (.rt false) else (.nx q))) (E_or (E_not (E_callF (Es_cons (E_cst) (Es_cons (E_var rfl) (Es_cons (E_cst) (Es_nil)))) (mlc (Nl.nl (e := eF) (9 : Nat)) (mlc (Nl.nl (e := (eT eD)) [(eI x.1), (eI x.2.1), (eI x.2.2.1), (eI x.2.2.2)]) (mlc (Nl.nl (e := eS) S_malformed) (ml0)))) (w_19 hwf (hB _) (a_given := [(eI x.1), (eI x.2.1), (eI x.2.2.1), (eI x.2.2.2)]) (a1 h)))) (fun hc10 => E_not (E_callF (Es_cons (E_cst) (Es_cons (E_var rfl) (Es_cons (E_cst) (Es_nil)))) (mlc (Nl.nl (e := eF) (10 : Nat)) (mlc (Nl.nl (e := (eT eD)) [(eI x.1), (eI x.2.1), (eI x.2.2.1), (eI x.2.2.2)]) (mlc (Nl.nl (e := eS) S_malformed) (ml0)))) (w_19 hwf (hB _) (a_given := [(eI x.1), (eI x.2.1), (eI x.2.2.1), (eI x.2.2.2)]) (i0 (a1 (a2 h)) hc10))))) (fun hc => ?_) (fun hc => ?_)
  · show HS _ _ _ _ (QR (I_28_16 st) (fun r => QF 0 (.ok (eB r) [])) (.rt false)) (ER (fun r => EF 0 (.ok (eB r) [])) (.rt false))
    have h := c1 (a2 (a2 h)) hc
    exact HS_ret (E_cst) (⟨⟨_, rfl⟩, q_law⟩)
  · show HS _ _ _ _ (QR (I_28_16 st) (fun r => QF 0 (.ok (eB r) [])) (.nx q)) (ER (fun r => EF 0 (.ok (eB r) [])) (.nx q))
    have h := c0 (a2 (a2 h)) hc
    exact HS_nil ⟨.inl rfl, _, _, _, _, _, _, _, _, _, _, rfl, rfl⟩
theorem w_28_r15 {sv : S2} {w0 w2 w3 w4 w5 w6 w7 w8 w9 w10 : Option D} (hB : ∀ s, Wf (ss st s)) (h0 : 0 < st.length) (h : (O.law_k24_r15 sv) = true) : HS ⟨callF T wf (k + 21), wf, T.length⟩ f28_r15 [w0, some (.lr 0), w2, w3, w4, w5, w6, w7, w8, w9, w10] (ss st sv) (QF 0 (.ok (eB (V.law_k24_r15 sv)) [])) (EF 0 (.ok (eB (V.law_k24_r15 sv)) [])) := by
  refine HS_forR (I := (I_28_16 st)) (step := (V.law_k24_l16)) (ok := (O.law_k24_l16)) (xs := [((2 : Int), (1 : Int), (0 : Int), (0 : Int)), ((401 : Int), (3 : Int), (0 : Int), (1 : Int)), ((10 : Int), (0 : Int), (0 : Int), (0 : Int)), ((10 : Int), (9 : Int), (8 : Int), (0 : Int)), ((10 : Int), (3 : Int), (3 : Int), (1 : Int)), ((10 : Int), (3 : Int), (0 : Int), (4 : Int))]) (s0 := sv) (e := (eP4 eI eI eI eI)) (f := fun q => ((V.l_raises (11 : Nat) [(.int 2 : D)] S_malformed) && (V.l_raises (11 : Nat) [(.int 101 : D)] S_malformed))) (g := fun q => ((O.l_raises (11 : Nat) [(.int 2 : D)] S_malformed) && (imp (V.l_raises (11 : Nat) [(.int 2 : D)] S_malformed) (O.l_raises (11 : Nat) [(.int 101 : D)] S_malformed)))) (Q := fun r => QF 0 (.ok (eB r) [])) (E := fun r => EF 0 (.ok (eB r) [])) (S_seq v_F (E_lst (Es_cons (E_tup (Es_cons (E_cst) (Es_cons (E_cst) (Es_cons (E_cst) (Es_cons (E_cst) (Es_nil))))) (mlc (Nl.nl (e := eI) (2 : Int)) (mlc (Nl.nl (e := eI) (1 : Int)) (mlc (Nl.nl (e := eI) (0 : Int)) (mlc (Nl.nl (e := eI) (0 : Int)) (ml0)))))) (Es_cons (E_tup (Es_cons (E_cst) (Es_cons (E_cst) (Es_cons (E_cst) (Es_cons (E_cst) (Es_nil))))) (mlc (Nl.nl (e := eI) (401 : Int)) (mlc (Nl.nl (e := eI) (3 : Int)) (mlc (Nl.nl (e := eI) (0 : Int)) (mlc (Nl.nl (e := eI) (1 : Int)) (ml0)))))) (Es_cons (E_tup (Es_cons (E_cst) (Es_cons (E_cst) (Es_cons (E_cst) (Es_cons (E_cst) (Es_nil))))) (mlc (Nl.nl (e := eI) (10 : Int)) (mlc (Nl.nl (e := eI) (0 : Int)) (mlc (Nl.nl (e := eI) (0 : Int)) (mlc (Nl.nl (e := eI) (0 : Int)) (ml0)))))) (Es_cons (E_tup (Es_cons (E_cst) (Es_cons (E_cst) (Es_cons (E_cst) (Es_cons (E_cst) (Es_nil))))) (mlc (Nl.nl (e := eI) (10 : Int)) (mlc (Nl.nl (e := eI) (9 : Int)) (mlc (Nl.nl (e := eI) (8 : Int)) (mlc (Nl.nl (e := eI) (0 : Int)) (ml0)))))) (Es_cons (E_tup (Es_cons (E_cst) (Es_cons (E_cst) (Es_cons (E_cst) (Es_cons (E_cst) (Es_nil))))) (mlc (Nl.nl (e := eI) (10 : Int)) (mlc (Nl.nl (e := eI) (3 : Int)) (mlc (Nl.nl (e := eI) (3 : Int)) (mlc (Nl.nl (e := eI) (1 : Int)) (ml0)))))) (Es_cons (E_tup (Es_cons (E_cst) (Es_cons (E_cst) (Es_cons (E_cst) (Es_cons (E_cst) (Es_nil))))) (mlc (Nl.nl (e := eI) (10 : Int)) (mlc (Nl.nl (e := eI) (3 : Int)) (mlc (Nl.nl (e := eI) (0 : Int)) (mlc (Nl.nl (e := eI) (4 : Int)) (ml0)))))) (Es_nil))))))) (mlc (Nl.nl (e := (eP4 eI eI eI eI)) ((2 : Int), (1 : Int), (0 : Int), (0 : Int))) (mlc (Nl.nl (e := (eP4 eI eI eI eI)) ((401 : Int), (3 : Int), (0 : Int), (1 : Int))) (mlc (Nl.nl (e := (eP4 eI eI eI eI)) ((10 : Int), (0 : Int), (0 : Int), (0 : Int))) (mlc (Nl.nl (e := (eP4 eI eI eI eI)) ((10 : Int), (9 : Int), (8 : Int), (0 : Int))) (mlc (Nl.nl (e := (eP4 eI eI eI eI)) ((10 : Int), (3 : Int), (3 : Int), (1 : Int))) (mlc (Nl.nl (e := (eP4 eI eI eI eI)) ((10 : Int), (3 : Int), (0 : Int), (4 : Int))) (ml0))))))))) (fun _ _ _ _ => trivial) ⟨_, _, _, _, _, _, _, _, _, _, rfl, rfl⟩ (a1 h) (a2 h) (fun q x rr sx h hI => w_28_l16 hwf hB h0 h hI) ?_
  intro q
  intro rr sx h hI
  obtain ⟨w0, w2, w3, w4, w5, w6, w7, w8, w9, w10, e1, e2⟩ := hI
  subst e1 e2
  exact HS_ret (E_and (E_callF (Es_cons (E_cst) (Es_cons (E_tup (Es_cons (E_cst) (Es_nil)) (mlc (rfl) (ml0))) (Es_cons (E_cst) (Es_nil)))) (mlc (Nl.nl (e := eF) (11 : Nat)) (mlc (Nl.nl (e := (eT eD)) [(.int 2 : D)]) (mlc (Nl.nl (e := eS) S_malformed) (ml0)))) (w_19 hwf (hB _) (a_given := [(.int 2 : D)]) (a1 h))) (fun hc11 => E_callF (Es_cons (E_cst) (Es_cons (E_tup (Es_cons (E_cst) (Es_nil)) (mlc (rfl) (ml0))) (Es_cons (E_cst) (Es_nil)))) (mlc (Nl.nl (e := eF) (11 : Nat)) (mlc (Nl.nl (e := (eT eD)) [(.int 101 : D)]) (mlc (Nl.nl (e := eS) S_malformed) (ml0)))) (w_19 hwf (hB _) (a_given := [(.int 101 : D)]) (i1 (a2 h) hc11)))) (q_law)
theorem w_28_r11 {sv : S2} {w0 w2 w3 w4 w5 w6 w7 w8 w9 w10 : Option D} (hB : ∀ s, Wf (ss st s)) (h0 : 0 < st.length) (h : (O.law_k24_r11 sv) = true) : HS ⟨callF T wf (k + 21), wf, T.length⟩ f28_r11 [w0, some (.lr 0), w2, w3, w4, w5, w6, w7, w8, w9, w10] (ss st sv) (QF 0 (.ok (eB (V.law_k24_r11 sv)) [])) (EF 0 (.ok (eB (V.law_k24_r11 sv)) [])) := by
  refine HS_forR (I := (I_28_12 st)) (step := (V.law_k24_l12)) (ok := (O.law_k24_l12)) (xs := [(.non : D), (.bl true : D), (.str S_5 : D), (eI (-1 : Int)), ((eP1 eI) (5 : Int))]) (s0 := sv) (e := eD) (f := fun q => (V.law_k24_r15 q)) (g := fun q => (O.law_k24_r15 q)) (Q := fun r => QF 0 (.ok (eB r) [])) (E := fun r => EF 0 (.ok (eB r) [])) (S_seq v_F (E_lst (Es_cons (E_cst) (Es_cons (E_cst) (Es_cons (E_cst) (Es_cons (E_neg (E_cst)) (Es_cons (E_tup (Es_cons (E_cst) (Es_nil)) (mlc (Nl.nl (e := eI) (5 : Int)) (ml0))) (Es_nil)))))) (mlc (rfl) (mlc (rfl) (mlc (rfl) (mlc (Nl.nl (e := eI) (-1 : Int)) (mlc (Nl.nl (e := (eP1 eI)) (5 : Int)) (ml0)))))))) (fun _ _ _ _ => trivial) ⟨_, _, _, _, _, _, _, _, _, _, rfl, rfl⟩ (a1 h) (a2 h) (fun q x rr sx h hI => w_28_l12 hwf hB h0 h hI) ?_
  intro q
  intro rr sx h hI
  obtain ⟨w0, w2, w3, w4, w5, w6, w7, w8, w9, w10, e1, e2⟩ := hI
  subst e1 e2
  exact w_28_r15 hwf hB h0 h
theorem w_28_r9 {sv : S2} {w0 w2 w3 w4 w5 w6 w7 w8 w9 w10 : Option D} (hB : ∀ s, Wf (ss st s)) (h0 : 0 < st.length) (h : (O.law_k24_r9 sv) = true) : HS ⟨callF T wf (k + 21), wf, T.length⟩ f28_r9 [w0, some (.lr 0), w2, w3, w4, w5, w6, w7, w8, w9, w10] (ss st sv) (QF 0 (.ok (eB (V.law_k24_r9 sv)) [])) (EF 0 (.ok (eB (V.law_k24_r9 sv)) [])) := by
  refine HS_forR (I := (I_28_10 st)) (step := (V.law_k24_l10)) (ok := (O.law_k24_l10)) (xs := [((3 : Int) + (V.l_take sv (25 : Int)).1), ((3 : Int) + (V.l_take ((V.l_take sv (25 : Int)).2) (43 : Int)).1), (16 : Int)]) (s0 := (V.l_take ((V.l_take sv (25 : Int)).2) (43 : Int)).2) (e := eI) (f := fun q => (V.law_k24_r11 q)) (g := fun q => (O.law_k24_r11 q)) (Q := fun r => QF 0 (.ok (eB r) [])) (E := fun r => EF 0 (.ok (eB r) [])) (S_seq v_F (E_lst (Es_cons (E_add (E_cst) (E_callF (Es_cons (E_var rfl) (Es_cons (E_cst) (Es_nil))) (mlc (rfl) (mlc (Nl.nl (e := eI) (25 : Int)) (ml0))) (take_w (T := T) (wf := wf) (g := 13) rfl h0 (a_m := (25 : Int)) (a1 h)))) (Es_cons (E_add (E_cst) (E_callF (Es_cons (E_var rfl) (Es_cons (E_cst) (Es_nil))) (mlc (rfl) (mlc (Nl.nl (e := eI) (43 : Int)) (ml0))) (take_w (T := T) (wf := wf) (g := 13) rfl h0 (a_m := (43 : Int)) (a1 (a2 h))))) (Es_cons (E_cst) (Es_nil)))) (mlc (Nl.nl (e := eI) ((3 : Int) + (V.l_take sv (25 : Int)).1)) (mlc (Nl.nl (e := eI) ((3 : Int) + (V.l_take ((V.l_take sv (25 : Int)).2) (43 : Int)).1)) (mlc (Nl.nl (e := eI) (16 : Int)) (ml0)))))) (fun _ _ _ _ => trivial) ⟨_, _, _, _, _, _, _, _, _, _, rfl, rfl⟩ (a1 (a2 (a2 h))) (a2 (a2 (a2 h))) (fun q x rr sx h hI => w_28_l10 hwf hB h0 h hI) ?_
  intro q
  intro rr sx h hI
  obtain ⟨w0, w2, w3, w4, w5, w6, w7, w8, w9, w10, e1, e2⟩ := hI
  subst e1 e2
  exact w_28_r11 hwf hB h0 h
theorem w_28_r4 {sv : S2} {w0 w2 w3 w4 w5 w6 w7 w8 w9 w10 : Option D} (hB : ∀ s, Wf (ss st s)) (h0 : 0 < st.length) (h : (O.law_k24_r4 sv) = true) : HS ⟨callF T wf (k + 21), wf, T.length⟩ f28_r4 [w0, some (.lr 0), w2, w3, w4, w5, w6, w7, w8, w9, w10] (ss st sv) (QF 0 (.ok (eB (V.law_k24_r4 sv)) [])) (EF 0 (.ok (eB (V.law_k24_r4 sv)) [])) := by
  refine HS_forR (I := (I_28_5 st)) (step := (V.law_k24_l5)) (ok := (O.law_k24_l5)) (xs := (rI (0 : Int) (8 : Int))) (s0 := sv) (e := eI) (f := fun q => (V.law_k24_r9 q)) (g := fun q => (O.law_k24_r9 q)) (Q := fun r => QF 0 (.ok (eB r) [])) (E := fun r => EF 0 (.ok (eB r) [])) (S_rng1 (a1 h) (E_cst)) (fun _ _ _ _ => trivial) ⟨_, _, _, _, _, _, _, _, _, _, rfl, rfl⟩ (a1 (a2 h)) (a2 (a2 h)) (fun q x rr sx h hI => w_28_l5 hwf hB h0 h hI) ?_
  intro q
  intro rr sx h hI
  obtain ⟨w0, w2, w3, w4, w5, w6, w7, w8, w9, w10, e1, e2⟩ := hI
  subst e1 e2
  exact w_28_r9 hwf hB h0 h
theorem w_law {s : S2} {w0 : Option D} (hB : ∀ s, Wf (ss st s)) (h0 : 0 < st.length) (h : O.law_k24 s = true) : HS ⟨callF T wf (k + 21), wf, T.length⟩ f28_law [w0, some (.lr 0), none, none, none, none, none, none, none, none, none] (ss st s) (QF 0 (.ok (eB (V.law_k24 s)) [])) (EF 0 (.ok (eB (V.law_k24 s)) [])) := by
  refine HS_forR (I := (I_28_1 st)) (step := (V.law_k24_l1)) (ok := (O.law_k24_l1)) (xs := (V.l_near_k24 s).1) (s0 := (V.l_near_k24 s).2) (e := (eP4 eI eI eI eI)) (f := fun q => (V.law_k24_r4 q)) (g := fun q => (O.law_k24_r4 q)) (Q := fun r => QF 0 (.ok (eB r) [])) (E := fun r => EF 0 (.ok (eB r) [])) (S_seq v_F (E_callF (Es_cons (E_var rfl) (Es_nil)) (mlc (rfl) (ml0)) (w_27 hwf h0 (a1 h)))) (fun _ _ _ _ => trivial) ⟨_, _, _, _, _, _, _, _, _, _, rfl, rfl⟩ (a1 (a2 h)) (a2 (a2 h)) (fun q x rr sx h hI => w_28_l1 hwf hB h0 h hI) ?_
  intro q
  intro rr sx h hI
  obtain ⟨w0, w2, w3, w4, w5, w6, w7, w8, w9, w10, e1, e2⟩ := hI
  subst e1 e2
  exact w_28_r4 hwf hB h0 h
end Gk24
/-! Zb: bounds of numbers found by instances; loops; draws. -/
open Wk Mn
namespace Zb
/-- |x| < 2^n -/
class Bd (x : Int) (n : outParam Nat) : Prop where
  h : x.natAbs < 2 ^ n
theorem pw {a b : Nat} (h : a ≤ b) : 2 ^ a ≤ 2 ^ b := Nat.pow_le_pow_right (by decide) h
theorem Bd.up {x : Int} {n m : Nat} (h : x.natAbs < 2 ^ n) (k : n ≤ m) : x.natAbs < 2 ^ m := Nat.lt_of_lt_of_le h (pw k)
instance bd_add {x y : Int} {n m : Nat} [a : Bd x n] [b : Bd y m] : Bd (x + y) (max n m + 1) := ⟨by
  have h1 := Bd.up a.h (Nat.le_max_left n m)
  have h2 := Bd.up b.h (Nat.le_max_right n m)
  rw [Nat.pow_succ]
  omega⟩
instance bd_sub {x y : Int} {n m : Nat} [a : Bd x n] [b : Bd y m] : Bd (x - y) (max n m + 1) := ⟨by
  have h1 := Bd.up a.h (Nat.le_max_left n m)
  have h2 := Bd.up b.h (Nat.le_max_right n m)
  rw [Nat.pow_succ]
  omega⟩
instance bd_neg {x : Int} {n : Nat} [a : Bd x n] : Bd (-x) n := ⟨by rw [Int.natAbs_neg]; exact a.h⟩
instance bd_mul {x y : Int} {n m : Nat} [a : Bd x n] [b : Bd y m] : Bd (x * y) (n + m) := ⟨by
  rw [Int.natAbs_mul, Nat.pow_add]
  exact Nat.mul_lt_mul'' a.h b.h⟩
instance bd_lit {n : Nat} : Bd (no_index (OfNat.ofNat n : Int)) (n.log2 + 1) := ⟨by
  show ((n : Int)).natAbs < _
  rw [Int.natAbs_natCast]
  exact Nat.lt_log2_self⟩
instance bd_fdiv {x y : Int} {n : Nat} [a : Bd x n] : Bd (x.fdiv y) n := ⟨Nat.lt_of_le_of_lt (Int.natAbs_fdiv_le_natAbs x y) a.h⟩
instance bd_fmod {x y : Int} {n m : Nat} [a : Bd x n] [b : Bd y m] : Bd (x.fmod y) (max n m) := ⟨by
  by_cases h : y = 0
  · subst h
    rw [Int.fmod_zero]
    exact Bd.up a.h (Nat.le_max_left n m)
  · refine Bd.up (Nat.lt_of_le_of_lt ?_ b.h) (Nat.le_max_right n m)
    rw [Int.fmod_eq_emod]
    have h1 := Int.emod_nonneg x h
    have h2 := Int.emod_lt x h
    split <;> omega⟩
instance bd_abs {x : Int} {n : Nat} [a : Bd x n] : Bd ((x.natAbs : Int)) n := ⟨by rw [Int.natAbs_natCast]; exact a.h⟩
instance bd_max {x y : Int} {n m : Nat} [a : Bd x n] [b : Bd y m] : Bd (max x y) (max n m) := ⟨by
  rcases Int.le_total x y with h | h
  · rw [Int.max_eq_right h]; exact Bd.up b.h (Nat.le_max_right n m)
  · rw [Int.max_eq_left h]; exact Bd.up a.h (Nat.le_max_left n m)⟩
instance bd_min {x y : Int} {n m : Nat} [a : Bd x n] [b : Bd y m] : Bd (min x y) (max n m) := ⟨by
  rcases Int.le_total x y with h | h
  · rw [Int.min_eq_left h]; exact Bd.up a.h (Nat.le_max_left n m)
  · rw [Int.min_eq_right h]; exact Bd.up b.h (Nat.le_max_right n m)⟩
theorem bd_lt {x : Int} {n M : Nat} [a : Bd x n] (h : n ≤ M) : x.natAbs < 2 ^ M := Bd.up a.h h
theorem bits_le {x : Int} {a : Nat} (h : x.natAbs < 2 ^ a) : PySem.Builtin.Int.intBits x ≤ a := by
  unfold PySem.Builtin.Int.intBits
  split
  · omega
  · have h0 : x.natAbs ≠ 0 := by simp_all
    have := Nat.log2_lt h0 |>.mpr h
    omega
theorem fit_bd {x y : Int} {n m : Nat} [a : Bd x n] [b : Bd y m] (h : n + m ≤ 134217728) : fitB x y = true := by
  have h1 := bits_le a.h
  have h2 := bits_le b.h
  exact Nat.ble_eq_true_of_le (by omega)
theorem fd_bd {y : Int} {m : Nat} [b : Bd y m] (h0 : y ≠ 0) (h : m ≤ 9000) : fdB y = true := by
  unfold fdB
  rw [Bool.and_eq_true]
  refine ⟨by simpa using h0, ?_⟩
  have h2 : y.natAbs < 2 ^ 9000 := Bd.up b.h h
  exact Nat.blt_eq.mpr ((Nat.log2_lt (by omega)).mpr h2)
theorem md_of {y : Int} (h0 : y ≠ 0) : mdB y = true := by simpa [mdB] using h0
theorem sz_of {n : Nat} (h : n ≤ 16777216) : szB n = true := Nat.ble_eq_true_of_le h
theorem rg_bd {x y : Int} {n m : Nat} [a : Bd x n] [b : Bd y m] (h : n ≤ 61) (k : m ≤ 61) : rgB x y = true := by
  have h1 := Bd.up a.h h
  have h2 := Bd.up b.h k
  have e : (2 : Nat) ^ 61 = 2305843009213693952 := by decide
  rw [e] at h1 h2
  unfold rgB inR
  simp only [Bool.and_eq_true, decide_eq_true_eq]
  omega
/-! ### loops -/
section
variable {σ α τ : Type} {f : σ → α → Stp σ τ} {ok : σ → α → Bool}
/-- every turn goes on -/
theorem forR_inv (I : σ → Prop) : ∀ (xs : List α) (s : σ), I s → (∀ x ∈ xs, ∀ s, I s → ∃ t, f s x = .nx t ∧ I t ∧ ok s x = true) → ∃ t, forR f xs s = .nx t ∧ I t ∧ okR f ok xs s = true
  | [], s, h, _ => ⟨s, rfl, h, rfl⟩
  | x :: xs, s, h, k => by
    obtain ⟨t, e, i, o⟩ := k x (by simp) s h
    obtain ⟨u, e2, i2, o2⟩ := forR_inv I xs t i fun y hy s hs => k y (List.mem_cons_of_mem _ hy) s hs
    refine ⟨u, ?_, i2, ?_⟩
    · rw [forR, e]; exact e2
    · rw [okR, o, e]; exact o2
theorem forR_same : ∀ (xs : List α) (s : σ), (∀ x ∈ xs, f s x = .nx s ∧ ok s x = true) → forR f xs s = .nx s ∧ okR f ok xs s = true
  | [], s, _ => ⟨rfl, rfl⟩
  | x :: xs, s, k => by
    obtain ⟨e, o⟩ := k x (by simp)
    obtain ⟨e2, o2⟩ := forR_same xs s fun y hy => k y (List.mem_cons_of_mem _ hy)
    exact ⟨by rw [forR, e]; exact e2, by rw [okR, o, e]; exact o2⟩
/-- the first turn that leaves, or none -/
theorem forR_find (P : α → Bool) (r : τ) : ∀ (xs : List α) (s : σ), (∀ x ∈ xs, f s x = (bif P x then .rt r else .nx s) ∧ ok s x = true) → forR f xs s = (bif xs.any P then .rt r else .nx s) ∧ okR f ok xs s = true
  | [], s, _ => ⟨rfl, rfl⟩
  | x :: xs, s, k => by
    obtain ⟨e, o⟩ := k x (by simp)
    obtain ⟨e2, o2⟩ := forR_find P r xs s fun y hy => k y (List.mem_cons_of_mem _ hy)
    rw [forR, okR, e, o, List.any_cons]
    cases P x with
    | true => exact ⟨rfl, rfl⟩
    | false => exact ⟨e2, o2⟩
variable {g : σ → α → σ} {okf : σ → α → Bool}
theorem fold_inv (I : σ → Prop) : ∀ (xs : List α) (s : σ), I s → (∀ x ∈ xs, ∀ s, I s → I (g s x) ∧ okf s x = true) → I (xs.foldl g s) ∧ okF g okf xs s = true
  | [], s, h, _ => ⟨h, rfl⟩
  | x :: xs, s, h, k => by
    obtain ⟨i, o⟩ := k x (by simp) s h
    obtain ⟨i2, o2⟩ := fold_inv I xs (g s x) i fun y hy s hs => k y (List.mem_cons_of_mem _ hy) s hs
    exact ⟨i2, by rw [okF, o, o2]; rfl⟩
/-- a list that grows: a piece a turn -/
theorem fold_app {β : Type} {g : List β → α → List β} {okf : List β → α → Bool} (F : α → List β) : ∀ (xs : List α) (s : List β) (M : Nat), s.length + (xs.flatMap F).length ≤ M → (∀ x ∈ xs, ∀ s : List β, s.length + (F x).length ≤ M → g s x = s ++ F x ∧ okf s x = true) → xs.foldl g s = s ++ xs.flatMap F ∧ okF g okf xs s = true
  | [], s, M, _, _ => ⟨by simp, rfl⟩
  | x :: xs, s, M, h, k => by
    simp only [List.flatMap_cons, List.length_append] at h
    obtain ⟨e, o⟩ := k x (by simp) s (by omega)
    obtain ⟨e2, o2⟩ := fold_app F xs (s ++ F x) M (by rw [List.length_append]; omega) fun y hy s hs => k y (List.mem_cons_of_mem _ hy) s hs
    refine ⟨?_, ?_⟩
    · rw [List.foldl_cons, e, e2, List.flatMap_cons, List.append_assoc]
    · rw [okF, o, e, o2]; rfl
theorem flat_len {α β : Type} {F : α → List β} {c : Nat} : ∀ (xs : List α), (∀ x ∈ xs, (F x).length ≤ c) → (xs.flatMap F).length ≤ xs.length * c
  | [], _ => by simp
  | x :: xs, h => by
    rw [List.flatMap_cons, List.length_append, List.length_cons, Nat.succ_mul]
    have h1 := h x (by simp)
    have h2 := flat_len xs fun y hy => h y (List.mem_cons_of_mem _ hy)
    omega
/-- a while loop ends -/
theorem wh_inv {c oc : σ → Bool} {step : σ → σ} {ok : σ → Bool} (I : σ → Prop) (m : σ → Nat) (h1 : ∀ s, I s → oc s = true) (h2 : ∀ s, I s → c s = true → I (step s) ∧ ok s = true ∧ m (step s) < m s) :
    ∀ (n : Nat) (s : σ), I s → m s < n → I (whV c step n s) ∧ c (whV c step n s) = false ∧ whO c oc step ok n s = true
  | 0, s, _, h => absurd h (Nat.not_lt_zero _)
  | n + 1, s, i, h => by
    rw [whV, whO, h1 s i]
    cases e : c s with
    | false => exact ⟨i, e, rfl⟩
    | true =>
      obtain ⟨i2, o, l⟩ := h2 s i e
      obtain ⟨r1, r2, r3⟩ := wh_inv I m h1 h2 n (step s) i2 (by omega)
      refine ⟨r1, r2, ?_⟩
      rw [o]
      exact r3
end
/-! ### numbers from lo, below hi -/
theorem rI_len (lo hi : Int) : (rI lo hi).length = (hi - lo).toNat := by simp [rI]
theorem mem_rI {lo hi x : Int} : x ∈ rI lo hi ↔ lo ≤ x ∧ x < hi := by
  unfold rI
  simp only [List.mem_map, List.mem_range]
  constructor
  · rintro ⟨i, h, rfl⟩; omega
  · intro h; exact ⟨(x - lo).toNat, by omega, by omega⟩
theorem wf_small {n : Nat} (h : n < 2 ^ 62) : wfB n = true := by
  unfold wfB
  rw [Nat.blt_eq]
  by_cases h0 : n = 0
  · subst h0; decide
  · have := (Nat.log2_lt h0).mpr h
    omega
/-! ### draws -/
def Good (s : S2) : Prop := 0 ≤ s.1 ∧ 0 ≤ s.2 ∧ s.2 < 2147483647
theorem take_ok {s : S2} {m : Int} (h : Good s) (h1 : 0 < m) (h2 : m < 2 ^ 60) : ∃ (v : Nat) (t : S2), V.l_take s m = ((v : Int), t) ∧ (v : Int) < m ∧ Good t ∧ O.l_take s m = true := by
  obtain ⟨a, b, c⟩ := h
  have e60 : (2 : Nat) ^ 60 = 1152921504606846976 := by decide
  have o : O.l_take s m = true := by
    unfold O.l_take
    have f1 : decide (0 < m) = true := by simpa using h1
    haveI : Bd m 60 := ⟨by rw [e60]; omega⟩
    haveI : Bd s.2 60 := ⟨by rw [e60]; omega⟩
    rw [f1, fd_bd (by omega) (by decide), fit_bd (by decide)]
    rfl
  have key : ∀ w : Int, ∃ v : Nat, w.fmod m = (v : Int) ∧ (v : Int) < m := fun w => by
    have p1 := Int.fmod_nonneg_of_pos w h1
    have p2 := Int.fmod_lt_of_pos w h1
    exact ⟨(w.fmod m).toNat, by omega, by omega⟩
  by_cases hs : s.1 > 0
  · obtain ⟨v, e, l⟩ := key s.1
    refine ⟨v, (s.1.fdiv m, s.2), ?_, l, ⟨Int.fdiv_nonneg (by omega) (by omega), b, c⟩, o⟩
    unfold V.l_take
    rw [show decide (s.1 > 0) = true by simpa using hs, cond_true, e]
  · obtain ⟨v, e, l⟩ := key (((s.2 * 48271 + 11).fmod 2147483647).fdiv 7)
    refine ⟨v, (s.1, (s.2 * 48271 + 11).fmod 2147483647), ?_, l, ⟨a, Int.fmod_nonneg_of_pos _ (by decide), Int.fmod_lt_of_pos _ (by decide)⟩, o⟩
    unfold V.l_take
    rw [show decide (s.1 > 0) = false by simpa using hs, cond_false, e]
/-- a row of draws -/
theorem mapS_inv {α β : Type} {f : α → S2 → β × S2} {ok : α → S2 → Bool} (P : α → β → Prop) : ∀ (xs : List α) (s : S2), Good s → (∀ x ∈ xs, ∀ s, Good s → P x (f x s).1 ∧ Good (f x s).2 ∧ ok x s = true) →
    Good (mapS f xs s).2 ∧ okS f ok xs s = true ∧ (mapS f xs s).1.length = xs.length ∧ ∀ (i : Nat) (x : α) (y : β), xs[i]? = some x → (mapS f xs s).1[i]? = some y → P x y
  | [], s, g, _ => ⟨g, rfl, rfl, fun i x y h => by simp at h⟩
  | x :: xs, s, g, k => by
    obtain ⟨p, g1, o⟩ := k x (by simp) s g
    obtain ⟨g2, o2, l, q⟩ := mapS_inv P xs (f x s).2 g1 fun y hy s hs => k y (List.mem_cons_of_mem _ hy) s hs
    refine ⟨g2, by rw [okS, o, o2]; rfl, by rw [mapS]; simp [l], fun i a b ha hb => ?_⟩
    rw [mapS] at hb
    cases i with
    | zero => simp at ha hb; subst ha; subst hb; exact p
    | succ i => simp at ha hb; exact q i a b ha hb
end Zb
/-! Zs: orders, sorted lists. -/
open Wk Mn
namespace Zs
/-- a strict order in which any two can be compared -/
class Lo {α : Type} (lt : α → α → Bool) : Prop where
  irr : ∀ a, lt a a = false
  trans : ∀ a b c, lt a b = true → lt b c = true → lt a c = true
  tri : ∀ a b, lt a b = true ∨ a = b ∨ lt b a = true
instance : Lo ltI := ⟨fun a => by simp [ltI], fun a b c h k => by simp [ltI] at *; omega, fun a b => by simp [ltI]; omega⟩
instance : Lo ltB := ⟨fun a => by cases a <;> rfl, fun a b c h k => by cases a <;> cases b <;> cases c <;> simp_all [ltB], fun a b => by cases a <;> cases b <;> simp [ltB]⟩
section
variable {α β γ : Type}
instance [BEq α] [LawfulBEq α] {l1 : α → α → Bool} {l2 : β → β → Bool} [h1 : Lo l1] [h2 : Lo l2] : Lo (ltP l1 l2) := ⟨fun a => by simp [ltP, h2.irr], fun a b c h k => by
  unfold ltP at *
  by_cases e1 : a.1 = b.1 <;> by_cases e2 : b.1 = c.1
  · have e3 : a.1 = c.1 := e1.trans e2
    simp_all
    exact h2.trans _ _ _ h k
  · have e3 : a.1 ≠ c.1 := fun e => e2 (e1.symm.trans e)
    simp_all
  · have e3 : a.1 ≠ c.1 := fun e => e1 (e.trans e2.symm)
    have f1 : (a.1 == b.1) = false := by simpa using e1
    have f3 : (a.1 == c.1) = false := by simpa using e3
    rw [f1] at h
    rw [f3]
    rw [← e2]
    exact h
  · have f1 : (a.1 == b.1) = false := by simpa using e1
    have f2 : (b.1 == c.1) = false := by simpa using e2
    rw [f1] at h
    rw [f2] at k
    have t := h1.trans _ _ _ h k
    have e3 : a.1 ≠ c.1 := fun e => by rw [e, h1.irr] at t; cases t
    have f3 : (a.1 == c.1) = false := by simpa using e3
    rw [f3]
    exact t, fun a b => by
  unfold ltP
  by_cases e : a.1 = b.1
  · rw [show (a.1 == b.1) = true by simpa using e, show (b.1 == a.1) = true by simpa using e.symm]
    rcases h2.tri a.2 b.2 with z | z | z
    · exact .inl z
    · exact .inr (.inl (Prod.ext e z))
    · exact .inr (.inr z)
  · rw [show (a.1 == b.1) = false by simpa using e, show (b.1 == a.1) = false by simpa using fun z => e z.symm]
    rcases h1.tri a.1 b.1 with z | z | z
    · exact .inl z
    · exact absurd z e
    · exact .inr (.inr z)⟩
theorem ltP3_eq [BEq α] [BEq β] (l1 : α → α → Bool) (l2 : β → β → Bool) (l3 : γ → γ → Bool) : ltP3 l1 l2 l3 = ltP l1 (ltP l2 l3) := rfl
instance [BEq α] [LawfulBEq α] [BEq β] [LawfulBEq β] {l1 : α → α → Bool} {l2 : β → β → Bool} {l3 : γ → γ → Bool} [h1 : Lo l1] [h2 : Lo l2] [h3 : Lo l3] : Lo (ltP3 l1 l2 l3) := by
  rw [ltP3_eq]
  infer_instance
theorem ltL_irr [BEq α] [LawfulBEq α] {l1 : α → α → Bool} : ∀ a : List α, ltL l1 a a = false
  | [] => rfl
  | x :: xs => by simp [ltL, ltL_irr xs]
theorem ltL_trans [BEq α] [LawfulBEq α] {l1 : α → α → Bool} [h1 : Lo l1] : ∀ a b c : List α, ltL l1 a b = true → ltL l1 b c = true → ltL l1 a c = true
  | [], [], _, h, _ => by simp [ltL] at h
  | [], _ :: _, [], _, k => by simp [ltL] at k
  | [], _ :: _, _ :: _, _, _ => rfl
  | _ :: _, [], _, h, _ => by simp [ltL] at h
  | _ :: _, _ :: _, [], _, k => by simp [ltL] at k
  | x :: xs, y :: ys, z :: zs, h, k => by
    simp only [ltL] at *
    by_cases e1 : x = y
    · subst e1
      by_cases e2 : x = z
      · subst e2
        simp only [BEq.rfl, cond_true] at *
        exact ltL_trans xs ys zs h k
      · rw [show (x == z) = false by simpa using e2] at *
        exact k
    · rw [show (x == y) = false by simpa using e1] at h
      by_cases e2 : y = z
      · subst e2
        rw [show (x == y) = false by simpa using e1]
        exact h
      · rw [show (y == z) = false by simpa using e2] at k
        have t := h1.trans _ _ _ h k
        have e3 : x ≠ z := fun e => by rw [e, h1.irr] at t; cases t
        rw [show (x == z) = false by simpa using e3]
        exact t
theorem ltL_tri [BEq α] [LawfulBEq α] {l1 : α → α → Bool} [h1 : Lo l1] : ∀ a b : List α, ltL l1 a b = true ∨ a = b ∨ ltL l1 b a = true
  | [], [] => .inr (.inl rfl)
  | [], _ :: _ => .inl rfl
  | _ :: _, [] => .inr (.inr rfl)
  | x :: xs, y :: ys => by
    simp only [ltL]
    by_cases e : x = y
    · subst e
      simp only [BEq.rfl, cond_true]
      rcases ltL_tri (l1 := l1) xs ys with z | z | z
      · exact .inl z
      · exact .inr (.inl (by rw [z]))
      · exact .inr (.inr z)
    · rw [show (x == y) = false by simpa using e, show (y == x) = false by simpa using fun z => e z.symm]
      rcases h1.tri x y with z | z | z
      · exact .inl z
      · exact absurd z e
      · exact .inr (.inr z)
instance [BEq α] [LawfulBEq α] {l1 : α → α → Bool} [h1 : Lo l1] : Lo (ltL l1) := ⟨ltL_irr, ltL_trans, ltL_tri⟩
variable {lt : α → α → Bool}
theorem Lo.asym [h : Lo lt] {a b : α} (k : lt a b = true) : lt b a = false := by
  cases e : lt b a with
  | false => rfl
  | true => exact absurd (h.trans _ _ _ k e) (by rw [h.irr]; decide)
theorem sort_perm (xs : List α) : (sortE lt xs).Perm xs := List.mergeSort_perm _ _
theorem sort_mem {xs : List α} {a : α} : a ∈ sortE lt xs ↔ a ∈ xs := (sort_perm xs).mem_iff
theorem sort_len (xs : List α) : (sortE lt xs).length = xs.length := (sort_perm xs).length_eq
theorem sort_sorted [h : Lo lt] (xs : List α) : (sortE lt xs).Pairwise fun a b => lt b a = false := by
  have := List.pairwise_mergeSort (le := fun a b => !lt b a) (fun a b c h1 h2 => by
    simp only [Bool.not_eq_true'] at *
    cases e : lt c a with
    | false => rfl
    | true =>
      rcases h.tri b c with z | z | z
      · rw [h.trans _ _ _ z e] at h1; cases h1
      · rw [← z, h1] at e; cases e
      · rw [z] at h2; cases h2) (fun a b => by
    cases e : lt b a with
    | false => rfl
    | true => rw [Lo.asym e]; rfl) xs
  exact this.imp fun {a b} e => by simpa using e
/-- strictly sorted -/
abbrev Srt (lt : α → α → Bool) (xs : List α) : Prop := xs.Pairwise fun a b => lt a b = true
theorem Srt.nodup [h : Lo lt] {xs : List α} (s : Srt lt xs) : xs.Nodup := by
  rw [List.nodup_iff_pairwise_ne]
  exact s.imp fun {a b} e z => by rw [z, h.irr] at e; cases e
theorem perm_of_mem [BEq α] [LawfulBEq α] {xs ys : List α} (hx : xs.Nodup) (hy : ys.Nodup) (m : ∀ a, a ∈ xs ↔ a ∈ ys) : xs.Perm ys := by
  rw [List.perm_iff_count]
  intro a
  rw [hx.count, hy.count]
  simp only [m a]
/-- what sorted gives -/
theorem sort_eq [BEq α] [LawfulBEq α] [h : Lo lt] {xs ys : List α} (hx : xs.Nodup) (s : Srt lt ys) (m : ∀ a, a ∈ xs ↔ a ∈ ys) : sortE lt xs = ys := by
  refine List.Perm.eq_of_pairwise (le := fun a b => lt b a = false) (fun a b _ _ h1 h2 => ?_) (sort_sorted (lt := lt) xs) (s.imp fun e => Lo.asym (lt := lt) e) ((sort_perm xs).trans (perm_of_mem hx s.nodup m))
  rcases h.tri a b with z | z | z
  · rw [z] at h2; cases h2
  · exact z
  · rw [z] at h1; cases h1
theorem sort_self [h : Lo lt] {xs : List α} (s : Srt lt xs) : sortE lt xs = xs :=
  List.mergeSort_of_pairwise (s.imp fun e => by rw [Lo.asym (lt := lt) e]; rfl)
theorem sort_strict [h : Lo lt] {xs : List α} (hx : xs.Nodup) : Srt lt (sortE lt xs) := by
  have n : (sortE lt xs).Nodup := (sort_perm xs).nodup_iff.mpr hx
  have := (sort_sorted (lt := lt) xs).and (List.nodup_iff_pairwise_ne.mp n)
  exact this.imp fun {a b} e => by
    rcases h.tri a b with z | z | z
    · exact z
    · exact absurd z e.2
    · rw [z] at e; cases e.1
/-- two strictly sorted lists of the same things -/
theorem srt_ext [h : Lo lt] {xs ys : List α} [BEq α] [LawfulBEq α] (s : Srt lt xs) (t : Srt lt ys) (m : ∀ a, a ∈ xs ↔ a ∈ ys) : xs = ys := by
  rw [← sort_self s]
  exact sort_eq s.nodup t m
end
/-- the numbers from lo are sorted -/
theorem srt_rI (lo hi : Int) : Srt ltI (rI lo hi) := by
  unfold rI Srt
  rw [List.pairwise_map]
  exact List.pairwise_lt_range.imp fun {a b} h => by simp [ltI]; omega
end Zs
open Wk Mn Zb
namespace Ka
/-- the root of n: a number from 0, if n is its square -/
def IsRt (n : Int) : Option Int → Prop
  | some x => 0 ≤ x ∧ x * x = n
  | none => ∀ x : Int, x * x ≠ n
theorem sq_lt {a b : Int} (h : 0 ≤ a) (k : a < b) : a * a < b * b := by
  have h1 : a * a ≤ a * b := Int.mul_le_mul_of_nonneg_left (by omega) h
  have h2 : a * b < b * b := Int.mul_lt_mul_of_pos_right k (by omega)
  omega
theorem sq_le {a b : Int} (h : 0 ≤ a) (k : a ≤ b) : a * a ≤ b * b := by
  have h1 : a * a ≤ a * b := Int.mul_le_mul_of_nonneg_left (by omega) h
  have h2 : a * b ≤ b * b := Int.mul_le_mul_of_nonneg_right k (by omega)
  omega
theorem sq_abs (x : Int) : (x.natAbs : Int) * x.natAbs = x * x := by
  rcases Int.natAbs_eq x with h | h
  · rw [← h]
  · generalize (x.natAbs : Int) = y at h
    subst h
    rw [Int.neg_mul_neg]
/-- between two squares that follow one another there is none -/
theorem no_sq {lo n : Int} (h0 : 0 ≤ lo) (h1 : lo * lo < n) (h2 : n < (lo + 1) * (lo + 1)) : ∀ x : Int, x * x ≠ n := by
  intro x e
  rw [← sq_abs x] at e
  generalize hy : (x.natAbs : Int) = y at e
  have y0 : 0 ≤ y := by omega
  rcases Int.lt_or_le lo y with h | h
  · have := sq_le (a := lo + 1) (b := y) (by omega) (by omega)
    omega
  · have := sq_le y0 h
    omega
theorem IsRt.uniq {n : Int} {a b : Option Int} (h : IsRt n a) (k : IsRt n b) : a = b := by
  cases a with
  | none => cases b with
    | none => rfl
    | some y => exact absurd k.2 (h y)
  | some x => cases b with
    | none => exact absurd h.2 (k x)
    | some y =>
      have e : x * x = y * y := h.2.trans k.2.symm
      rcases Int.lt_trichotomy x y with z | z | z
      · have := sq_lt h.1 z; omega
      · rw [z]
      · have := sq_lt k.1 z; omega
theorem root_ok {n : Int} (h : 0 ≤ n) (hn : n < 2 ^ 30) : IsRt n (V.root_of n) ∧ O.root_of n = true := by
  have e30 : (2 : Int) ^ 30 = 1073741824 := by decide
  rw [e30] at hn
  have w := wh_inv (c := V.root_of_c1) (oc := O.root_of_c1) (step := V.root_of_l1 n) (ok := O.root_of_l1 n)
    (fun q => 0 ≤ q.1 ∧ q.1 < q.2 ∧ q.2 ≤ n + 1 ∧ q.1 * q.1 ≤ n ∧ n < q.2 * q.2) (fun q => (q.2 - q.1).toNat) (fun _ _ => rfl) (fun q i c => by
    obtain ⟨lo, hi⟩ := q
    obtain ⟨i1, i2, i3, i4, i5⟩ := i
    simp only [V.root_of_c1, decide_eq_true_eq] at c
    dsimp only at i1 i2 i3 i4 i5 c
    have hm : (lo + hi).fdiv 2 = (lo + hi) / 2 := Int.fdiv_eq_ediv_of_nonneg _ (by decide)
    haveI : Bd ((lo + hi) / 2) 31 := ⟨by omega⟩
    unfold V.root_of_l1 O.root_of_l1 V.root_of_r2 O.root_of_r2
    dsimp only
    rw [hm, fit_bd (by decide)]
    by_cases hs : (lo + hi) / 2 * ((lo + hi) / 2) ≤ n
    · rw [show decide ((lo + hi) / 2 * ((lo + hi) / 2) ≤ n) = true by simpa using hs]
      exact ⟨⟨by dsimp only [cond_true]; omega, by dsimp only [cond_true]; omega, by dsimp only [cond_true]; omega, by dsimp only [cond_true]; omega, by dsimp only [cond_true]; omega⟩, rfl, by dsimp only [cond_true]; omega⟩
    · rw [show decide ((lo + hi) / 2 * ((lo + hi) / 2) ≤ n) = false by simpa using hs]
      exact ⟨⟨by dsimp only [cond_false]; omega, by dsimp only [cond_false]; omega, by dsimp only [cond_false]; omega, by dsimp only [cond_false]; omega, by dsimp only [cond_false]; omega⟩, rfl, by dsimp only [cond_false]; omega⟩) (Int.toNat ((n + (1 : Int)) - (0 : Int)) + 1) ((0 : Int), n + 1)
    (by
      refine ⟨by omega, by omega, by omega, by omega, ?_⟩
      have : (n + 1) * (n + 1) = n * n + n + n + 1 := by grind
      have : 0 ≤ n * n := Int.mul_nonneg h h
      dsimp only
      omega) (by dsimp only; omega)
  obtain ⟨⟨i1, i2, i3, i4, i5⟩, c, o⟩ := w
  unfold V.root_of O.root_of
  rw [o, wf_small (by omega)]
  generalize whV V.root_of_c1 (V.root_of_l1 n) (Int.toNat ((n + (1 : Int)) - (0 : Int)) + 1) ((0 : Int), n + 1) = q at *
  obtain ⟨lo, hi⟩ := q
  simp only [V.root_of_c1, decide_eq_false_iff_not] at c
  dsimp only at i1 i2 i3 i4 i5 c ⊢
  haveI : Bd lo 31 := ⟨by omega⟩
  unfold V.root_of_r3 O.root_of_r3
  refine ⟨?_, by rw [fit_bd (by decide)]; rfl⟩
  have eh : hi = lo + 1 := by omega
  subst eh
  by_cases e : lo * lo = n
  · rw [show decide (lo * lo = n) = true by simpa using e]
    exact ⟨i1, e⟩
  · rw [show decide (lo * lo = n) = false by simpa using e]
    exact no_sq i1 (by omega) i5
theorem l_root_ok {w : Int} (h : 0 ≤ w) (hn : w < 2 ^ 30) : (w = 0 → V.l_root w = none) ∧ (w ≠ 0 → IsRt w (V.l_root w)) ∧ O.l_root w = true := by
  have e30 : (2 : Int) ^ 30 = 1073741824 := by decide
  rw [e30] at hn
  have key := wh_inv (c := V.l_root_c1 w) (oc := O.l_root_c1 w) (step := V.l_root_l1) (ok := O.l_root_l1)
    (fun q => 0 ≤ q ∧ q ≤ w ∧ (q ≠ 0 → (q - 1) * (q - 1) < w)) (fun q => (w - q).toNat) (fun q i => by
      haveI : Bd q 31 := ⟨by omega⟩
      exact fit_bd (by decide)) (fun q i c => by
    simp only [V.l_root_c1, decide_eq_true_eq] at c
    have hq : q < w := by
      rcases Int.lt_or_le q w with z | z
      · exact z
      · have : q * q ≥ q * 1 := by
          by_cases hq : q = 0
          · subst hq; simp
          · exact Int.mul_le_mul_of_nonneg_left (by omega) i.1
        omega
    exact ⟨⟨by show 0 ≤ q + 1; omega, by show q + 1 ≤ w; omega, fun _ => by
      show (q + 1 - 1) * (q + 1 - 1) < w
      rw [show q + 1 - 1 = q by omega]; exact c⟩, rfl, by show (w - (q + 1)).toNat < _; omega⟩) (Int.toNat (w - (0 : Int)) + 1) 0 ⟨by omega, by omega, fun z => absurd rfl z⟩ (by omega)
  obtain ⟨⟨i1, i2, i3⟩, c, o⟩ := key
  unfold V.l_root O.l_root
  rw [o, wf_small (by omega)]
  generalize whV (V.l_root_c1 w) V.l_root_l1 (Int.toNat (w - (0 : Int)) + 1) 0 = q at *
  simp only [V.l_root_c1, decide_eq_false_iff_not] at c
  haveI : Bd q 31 := ⟨by omega⟩
  refine ⟨fun z => ?_, fun z => ?_, by rw [fit_bd (by decide)]; unfold imp; simp⟩
  · have : q = 0 := by omega
    subst this
    rfl
  · by_cases e : q * q = w
    · have hq : q > 0 := by
        rcases Int.lt_or_le 0 q with z1 | z1
        · exact z1
        · have : q = 0 := by omega
          subst this; omega
      rw [show decide (q > 0) = true by simpa using hq, show decide (q * q = w) = true by simpa using e]
      exact ⟨i1, e⟩
    · rw [show decide (q * q = w) = false by simpa using e, Bool.and_false]
      show ∀ x : Int, x * x ≠ w
      have hq0 : q ≠ 0 := by
        intro z1; subst z1; omega
      exact no_sq (lo := q - 1) (by omega) (i3 hq0) (by rw [show q - 1 + 1 = q by omega]; omega)
/-- is a square, 0 too -/
theorem is_square_ok {w : Int} (h : 0 ≤ w) (hn : w < 2 ^ 30) : V.l_is_square w = (V.root_of w).isSome ∧ O.l_is_square w = true := by
  obtain ⟨r1, r2⟩ := root_ok h hn
  obtain ⟨l0, l1, l2⟩ := l_root_ok h hn
  unfold V.l_is_square O.l_is_square
  rw [l2]
  refine ⟨?_, by unfold imp; simp⟩
  by_cases z : w = 0
  · subst z
    cases e : V.root_of 0 with
    | none => rw [e] at r1; exact absurd rfl (r1 0)
    | some x => rfl
  · rw [(l1 z).uniq r1, show decide (w = 0) = false by simpa using z]
    rfl
/-- lowest terms, by Euclid -/
theorem frac_ok {n d : Int} (h : 0 < d) (hd : d < 2 ^ 30) (hn : n.natAbs < 2 ^ 30) : O.l_frac n d = true ∧ ((V.l_frac n d).2 = 1 ↔ n.fmod d = 0) ∧ (n.fmod d = 0 → (V.l_frac n d).1 = n.fdiv d) ∧ (V.l_frac n d).1.natAbs < 2 ^ 30 := by
  have e30 : (2 : Int) ^ 30 = 1073741824 := by decide
  have e30' : (2 : Nat) ^ 30 = 1073741824 := by decide
  rw [e30] at hd
  rw [e30'] at hn
  have key := wh_inv (c := V.l_frac_c1) (oc := O.l_frac_c1) (step := V.l_frac_l1) (ok := O.l_frac_l1)
    (fun q => 0 ≤ q.1 ∧ 0 ≤ q.2 ∧ Nat.gcd q.1.natAbs q.2.natAbs = Nat.gcd n.natAbs d.natAbs) (fun q => q.2.natAbs) (fun _ _ => rfl) (fun q i c => by
    obtain ⟨a, b⟩ := q
    obtain ⟨i1, i2, i3⟩ := i
    simp only [V.l_frac_c1, Bool.not_eq_true', decide_eq_false_iff_not] at c
    dsimp only at i1 i2 i3 c
    obtain ⟨a', rfl⟩ := Int.eq_ofNat_of_zero_le i1
    obtain ⟨b', rfl⟩ := Int.eq_ofNat_of_zero_le i2
    have e : (a' : Int).fmod (b' : Int) = ((a' % b' : Nat) : Int) := by
      rw [Int.fmod_eq_emod_of_nonneg _ i2]
      rfl
    have hb : 0 < b' := by omega
    have h2 := Nat.mod_lt a' hb
    refine ⟨⟨i2, ?_, ?_⟩, ?_, ?_⟩
    · show 0 ≤ (a' : Int).fmod (b' : Int); rw [e]; omega
    · show Nat.gcd (b' : Int).natAbs ((a' : Int).fmod (b' : Int)).natAbs = _
      rw [e, ← i3]
      simp only [Int.natAbs_natCast]
      rw [Nat.gcd_comm a' b', Nat.gcd_rec b' a', Nat.gcd_comm]
    · unfold O.l_frac_l1
      rw [md_of c]
      rfl
    · show ((a' : Int).fmod (b' : Int)).natAbs < (b' : Int).natAbs
      rw [e, Int.natAbs_natCast, Int.natAbs_natCast]
      exact h2) (Int.natAbs (Int.natAbs d : Int) + 1) ((Int.natAbs n : Int), (Int.natAbs d : Int)) ⟨by omega, by omega, by simp⟩ (by simp)
  obtain ⟨⟨i1, i2, i3⟩, c, o⟩ := key
  unfold V.l_frac O.l_frac
  rw [o, wf_small (by simp; omega)]
  generalize whV V.l_frac_c1 V.l_frac_l1 (Int.natAbs (Int.natAbs d : Int) + 1) ((Int.natAbs n : Int), (Int.natAbs d : Int)) = q at *
  obtain ⟨a, b⟩ := q
  simp only [V.l_frac_c1, Bool.not_eq_false', decide_eq_true_eq] at c
  dsimp only at i1 i2 i3 c ⊢
  subst c
  simp only [Int.natAbs_zero, Nat.gcd_zero_right] at i3
  generalize hg : Nat.gcd n.natAbs d.natAbs = g at i3
  have ha : a = (g : Int) := by omega
  have gp : 0 < g := by
    rw [← hg]
    exact Nat.gcd_pos_of_pos_right _ (by omega)
  have gd : g ∣ d.natAbs := hg ▸ Nat.gcd_dvd_right _ _
  have gn : g ∣ n.natAbs := hg ▸ Nat.gcd_dvd_left _ _
  have gle : g ≤ d.natAbs := Nat.le_of_dvd (by omega) gd
  unfold V.l_frac_r2 O.l_frac_r2 V.l_frac_r3 O.l_frac_r3
  rw [show decide (d > 0) = true by simpa using h, cond_true, ha]
  haveI : Bd (g : Int) 31 := ⟨by omega⟩
  rw [fd_bd (by omega) (by decide)]
  have gd' : (g : Int) ∣ d := Int.natAbs_dvd_natAbs.mp (by rw [Int.natAbs_natCast]; exact gd)
  have gn' : (g : Int) ∣ n := Int.natAbs_dvd_natAbs.mp (by rw [Int.natAbs_natCast]; exact gn)
  have key : d.fdiv (g : Int) = 1 ↔ n.fmod d = 0 := by
    rw [Int.fdiv_eq_ediv_of_nonneg _ (by omega), Int.fmod_eq_emod_of_nonneg _ (by omega)]
    constructor
    · intro e
      have : d = g := by
        have := Int.ediv_mul_cancel gd'
        rw [e] at this
        omega
      rw [this]
      exact Int.emod_eq_zero_of_dvd gn'
    · intro e
      have dn : d ∣ n := Int.dvd_of_emod_eq_zero e
      have : g = d.natAbs := by
        rw [← hg]
        exact Nat.gcd_eq_right (Int.natAbs_dvd_natAbs.mpr dn)
      have : (g : Int) = d := by omega
      rw [this]
      exact Int.ediv_self (by omega)
  refine ⟨rfl, key, ?_, ?_⟩
  · intro e
    have e1 := key.mpr e
    have : d = g := by
      rw [Int.fdiv_eq_ediv_of_nonneg _ (by omega)] at e1
      have := Int.ediv_mul_cancel gd'
      rw [e1] at this
      omega
    show n.fdiv (g : Int) = n.fdiv d
    rw [← this]
  · show (n.fdiv (g : Int)).natAbs < _
    rw [e30']
    exact Nat.lt_of_le_of_lt (Int.natAbs_fdiv_le_natAbs _ _) hn
end Ka
open Wk Mn Zb
namespace Ka
structure Nm (v k l m : Int) : Prop where
  v1 : 3 ≤ v
  v2 : v ≤ 400
  k1 : 1 ≤ k
  k2 : k ≤ v - 2
  l1 : 0 ≤ l
  l2 : l ≤ k - 1
  m1 : 0 ≤ m
  m2 : m ≤ k
def wOf (k l m : Int) : Int := (l - m) * (l - m) + 4 * (k - m)
def uOf (v k l m : Int) : Int := 2 * k + (v - 1) * (l - m)
def oneOf (v k l m q : Int) : Int := (v - 1) * q - uOf v k l m
def twoOf (v k l m q : Int) : Int := (v - 1) * q + uOf v k l m
section
variable {v k l m q : Int}
theorem Nm.bv (N : Nm v k l m) : Bd v 9 := ⟨by have := N.v1; have := N.v2; omega⟩
theorem Nm.bk (N : Nm v k l m) : Bd k 9 := ⟨by have := N.v2; have := N.k1; have := N.k2; omega⟩
theorem Nm.bl (N : Nm v k l m) : Bd l 9 := ⟨by have := N.v2; have := N.k2; have := N.l1; have := N.l2; omega⟩
theorem Nm.bm (N : Nm v k l m) : Bd m 9 := ⟨by have := N.v2; have := N.k2; have := N.m1; have := N.m2; omega⟩
theorem Nm.w0 (N : Nm v k l m) : 0 ≤ wOf k l m := by
  have h := N.m2
  have : 0 ≤ (l - m) * (l - m) := by
    rw [← sq_abs]
    exact Int.mul_nonneg (by omega) (by omega)
  unfold wOf
  omega
theorem Nm.w30 (N : Nm v k l m) : wOf k l m < 2 ^ 22 := by
  haveI := N.bk; haveI := N.bl; haveI := N.bm
  have h : ((l - m) * (l - m) + 4 * (k - m)).natAbs < 2 ^ 22 := bd_lt (by decide)
  unfold wOf
  omega
theorem q_lt (N : Nm v k l m) (h0 : 0 ≤ q) (h : q * q = wOf k l m) : q < 2 ^ 11 := by
  rcases Int.lt_or_le q (2 ^ 11) with z | z
  · exact z
  · have := sq_le (a := 2 ^ 11) (by decide) z
    have := N.w30
    omega
/-- the three cases of the root -/
inductive Cs (v k l m : Int) : Prop where
  | no (h : V.root_of (wOf k l m) = none) (w0 : wOf k l m ≠ 0) (e : V.l_root (wOf k l m) = none)
  | zero (h : V.root_of (wOf k l m) = some 0) (w0 : wOf k l m = 0) (e : V.l_root (wOf k l m) = none)
  | pos (q : Int) (h : V.root_of (wOf k l m) = some q) (q0 : 0 < q) (q1 : q < 2 ^ 11) (qq : q * q = wOf k l m) (e : V.l_root (wOf k l m) = some q)
theorem cases_of (N : Nm v k l m) : Cs v k l m := by
  have h0 := N.w0
  have h1 := N.w30
  obtain ⟨r1, r2⟩ := root_ok h0 (by omega)
  obtain ⟨a1, a2, a3⟩ := l_root_ok h0 (by omega)
  by_cases z : wOf k l m = 0
  · have : V.root_of (wOf k l m) = some 0 := r1.uniq (b := some 0) ⟨by omega, by rw [z]; rfl⟩
    exact .zero this z (a1 z)
  · have e := (a2 z).uniq r1
    cases hr : V.root_of (wOf k l m) with
    | none => rw [hr] at e; exact .no hr z e
    | some q =>
      rw [hr] at e r1
      have q0 : 0 < q := by
        rcases Int.lt_or_le 0 q with y | y
        · exact y
        · have h1 := r1.1
          have h2 := r1.2
          have : q = 0 := by omega
          subst this
          exact absurd h2.symm z
      exact .pos q hr q0 (q_lt N (by omega) r1.2) r1.2 e
theorem spread_ok (N : Nm v k l m) : V.spread_of v k l m = (V.root_of (wOf k l m), uOf v k l m) ∧ O.spread_of v k l m = true := by
  haveI := N.bv; haveI := N.bk; haveI := N.bl; haveI := N.bm
  refine ⟨rfl, ?_⟩
  unfold O.spread_of
  have h := (root_ok N.w0 (by have := N.w30; omega)).2
  rw [show (l - m) * (l - m) + (4 : Int) * (k - m) = wOf k l m from rfl, h, fit_bd (by decide), fit_bd (by decide), fit_bd (by decide), fit_bd (by decide)]
  rfl
theorem parts_no (N : Nm v k l m) (e : V.l_root (wOf k l m) = none) : V.l_parts v k l m = (wOf k l m, uOf v k l m, none, none, none) ∧ O.l_parts v k l m = true := by
  haveI := N.bv; haveI := N.bk; haveI := N.bl; haveI := N.bm
  have h := (l_root_ok N.w0 (by have := N.w30; omega)).2.2
  unfold V.l_parts O.l_parts V.l_parts_r1 O.l_parts_r1
  rw [show (l - m) * (l - m) + (4 : Int) * (k - m) = wOf k l m from rfl, e, h, fit_bd (by decide), fit_bd (by decide), fit_bd (by decide), fit_bd (by decide)]
  exact ⟨rfl, rfl⟩
/-- the two numbers and what they are divided by are small -/
theorem one_lt (N : Nm v k l m) (q0 : 0 < q) (q1 : q < 2 ^ 11) : (oneOf v k l m q).natAbs < 2 ^ 23 ∧ (twoOf v k l m q).natAbs < 2 ^ 23 := by
  haveI := N.bv; haveI := N.bk; haveI := N.bl; haveI := N.bm
  haveI : Bd q 11 := ⟨by omega⟩
  unfold oneOf twoOf uOf
  exact ⟨bd_lt (by decide), bd_lt (by decide)⟩
theorem parts_pos (N : Nm v k l m) (q0 : 0 < q) (q1 : q < 2 ^ 11) (e : V.l_root (wOf k l m) = some q) :
    V.l_parts v k l m = (wOf k l m, uOf v k l m, some q, some (V.l_frac (oneOf v k l m q) (2 * q)), some (V.l_frac (twoOf v k l m q) (2 * q))) ∧ O.l_parts v k l m = true := by
  haveI := N.bv; haveI := N.bk; haveI := N.bl; haveI := N.bm
  haveI : Bd q 11 := ⟨by omega⟩
  have h := (l_root_ok N.w0 (by have := N.w30; omega)).2.2
  obtain ⟨o1, o2⟩ := one_lt N q0 q1
  have f1 := (frac_ok (n := oneOf v k l m q) (d := 2 * q) (by omega) (by omega) (Bd.up o1 (by decide))).1
  have f2 := (frac_ok (n := twoOf v k l m q) (d := 2 * q) (by omega) (by omega) (Bd.up o2 (by decide))).1
  unfold V.l_parts O.l_parts V.l_parts_r1 O.l_parts_r1
  rw [show (l - m) * (l - m) + (4 : Int) * (k - m) = wOf k l m from rfl, show (2 : Int) * k + (v - 1) * (l - m) = uOf v k l m from rfl, e, h, fit_bd (by decide), fit_bd (by decide), fit_bd (by decide), fit_bd (by decide)]
  refine ⟨rfl, ?_⟩
  unfold O.l_parts_r2
  rw [show ((v - (1 : Int)) * (getO (some q))) - uOf v k l m = oneOf v k l m q from rfl, show ((v - (1 : Int)) * (getO (some q))) + uOf v k l m = twoOf v k l m q from rfl, show (getO (some q)) = q from rfl, f1, f2, fit_bd (by decide), fit_bd (by decide)]
  rfl
end
end Ka
open Wk Mn Zb
namespace Ka
section
variable {v k l m q : Int}
theorem two_sq (h1 : 3 ≤ v) (h2 : v ≤ 400) : V.l_broken_r3 v = (bif V.is_two_squares v then none else some S_squares) ∧ O.l_broken_r3 v = true ∧ O.is_two_squares v = true := by
  haveI : Bd v 9 := ⟨by omega⟩
  have sqn : ∀ x : Int, 0 ≤ x → x < v + 1 → x * x ≤ v → 0 ≤ v - x * x ∧ v - x * x < 2 ^ 30 := fun x a b c => by
    have := Int.mul_nonneg a a
    omega
  have bx : ∀ x : Int, 0 ≤ x → x < v + 1 → Bd x 9 := fun x a b => ⟨by omega⟩
  obtain ⟨f1, f2⟩ := forR_find (f := V.l_broken_l4 v) (ok := O.l_broken_l4 v) (fun x => decide (x * x ≤ v) && V.l_is_square (v - x * x)) none (rI 0 v) () (fun x hx => by
    obtain ⟨a, b⟩ := mem_rI.mp hx
    haveI := bx x a (by omega)
    refine ⟨rfl, ?_⟩
    unfold O.l_broken_l4
    rw [fit_bd (by decide)]
    by_cases hs : x * x ≤ v
    · obtain ⟨c, d⟩ := sqn x a (by omega) hs
      rw [(is_square_ok c d).2]
      unfold imp
      simp
    · rw [show decide (x * x ≤ v) = false by simpa using hs]
      rfl)
  have e : V.is_two_squares v = (rI 0 v).any (fun x => decide (x * x ≤ v) && V.l_is_square (v - x * x)) := by
    unfold V.is_two_squares
    rw [List.any_filter, Bool.eq_iff_iff, List.any_eq_true, List.any_eq_true]
    constructor
    · rintro ⟨x, hx, hp⟩
      obtain ⟨a, b⟩ := mem_rI.mp hx
      rw [Bool.and_eq_true, decide_eq_true_eq] at hp
      obtain ⟨c, d⟩ := sqn x a b hp.1
      have hv : x < v := by
        rcases Int.lt_or_le x v with z | z
        · exact z
        · have := sq_le (a := v) (by omega) z
          have : v * v ≥ 3 * v := Int.mul_le_mul_of_nonneg_right h1 (by omega)
          omega
      refine ⟨x, mem_rI.mpr ⟨a, hv⟩, ?_⟩
      rw [Bool.and_eq_true, decide_eq_true_eq, (is_square_ok c d).1]
      exact hp
    · rintro ⟨x, hx, hp⟩
      obtain ⟨a, b⟩ := mem_rI.mp hx
      rw [Bool.and_eq_true, decide_eq_true_eq] at hp
      obtain ⟨c, d⟩ := sqn x a (by omega) hp.1
      rw [(is_square_ok c d).1] at hp
      refine ⟨x, mem_rI.mpr ⟨a, by omega⟩, ?_⟩
      rw [Bool.and_eq_true, decide_eq_true_eq]
      exact hp
  unfold V.l_broken_r3 O.l_broken_r3 O.is_two_squares
  rw [f1, f2, e, rg_bd (by decide) (by decide), rg_bd (by decide) (by decide), Zb.rI_len, sz_of (by omega)]
  refine ⟨?_, ?_, ?_⟩
  · cases (rI 0 v).any (fun x => decide (x * x ≤ v) && V.l_is_square (v - x * x)) <;> rfl
  · cases (rI 0 v).any (fun x => decide (x * x ≤ v) && V.l_is_square (v - x * x)) <;> rfl
  · simp only [Bool.true_and, List.all_eq_true]
    intro x hx
    obtain ⟨a, b⟩ := mem_rI.mp hx
    haveI := bx x a b
    rw [fit_bd (by decide)]
    by_cases hs : x * x ≤ v
    · obtain ⟨c, d⟩ := sqn x a b hs
      rw [(root_ok c d).2]
      unfold imp
      simp
    · rw [show decide (x * x ≤ v) = false by simpa using hs]
      rfl
/-- the two numbers are multiples of 2 q, and not below 0 -/
def wholeB (v k l m q : Int) : Bool := decide (oneOf v k l m q ≥ 0) && (decide (twoOf v k l m q ≥ 0) && (decide ((oneOf v k l m q).fmod (2 * q) = 0) && decide ((twoOf v k l m q).fmod (2 * q) = 0)))
theorem whole_ok (N : Nm v k l m) (q0 : 0 < q) (q1 : q < 2 ^ 11) (h : V.root_of (wOf k l m) = some q) : V.is_whole v k l m = wholeB v k l m q ∧ O.is_whole v k l m = true := by
  haveI := N.bv; haveI := N.bk; haveI := N.bl; haveI := N.bm
  haveI : Bd q 11 := ⟨by omega⟩
  obtain ⟨s1, s2⟩ := spread_ok N
  have z : eqP (eO eI (some q)) (eO eI (some 0)) = false := by
    show (q == 0) = false
    simp; omega
  unfold V.is_whole O.is_whole V.is_whole_r1 O.is_whole_r1 V.is_whole_r2 O.is_whole_r2 V.is_whole_r3 O.is_whole_r3
  rw [s1, s2]
  dsimp only
  rw [h, z]
  refine ⟨rfl, ?_⟩
  have p1 : pdB (eO eI (some q)) = true := rfl
  have p2 : pdB (eO eI (some (0 : Int))) = true := rfl
  unfold O.is_whole_r4
  rw [show getO (some q) = q from rfl, p1, p2, fit_bd (by decide), fit_bd (by decide), md_of (show (2 : Int) * q ≠ 0 by omega)]
  unfold imp
  simp
theorem wholeL (N : Nm v k l m) (q0 : 0 < q) (q1 : q < 2 ^ 11) :
    ((!decide ((V.l_frac (oneOf v k l m q) (2 * q)).2 = 1)) || ((!decide ((V.l_frac (twoOf v k l m q) (2 * q)).2 = 1)) || ((decide ((V.l_frac (oneOf v k l m q) (2 * q)).1 < 0)) || (decide ((V.l_frac (twoOf v k l m q) (2 * q)).1 < 0))))) = !wholeB v k l m q := by
  obtain ⟨o1, o2⟩ := one_lt N q0 q1
  obtain ⟨a1, a2, a3, a4⟩ := frac_ok (n := oneOf v k l m q) (d := 2 * q) (by omega) (by omega) (Bd.up o1 (by decide))
  obtain ⟨b1, b2, b3, b4⟩ := frac_ok (n := twoOf v k l m q) (d := 2 * q) (by omega) (by omega) (Bd.up o2 (by decide))
  have neg : ∀ n : Int, n.fmod (2 * q) = 0 → (n.fdiv (2 * q) < 0 ↔ n < 0) := fun n hn => by
    have := Int.mul_fdiv_add_fmod n (2 * q)
    rw [hn] at this
    generalize n.fdiv (2 * q) = c at *
    constructor
    · intro hc
      have := Int.mul_lt_mul_of_pos_left hc (show 0 < 2 * q by omega)
      omega
    · intro hc
      rcases Int.lt_or_le c 0 with z | z
      · exact z
      · have := Int.mul_nonneg (show 0 ≤ 2 * q by omega) z
        omega
  rw [Bool.eq_iff_iff]
  unfold wholeB
  simp only [Bool.or_eq_true, Bool.not_eq_true', decide_eq_false_iff_not, decide_eq_true_eq, Bool.and_eq_false_iff, a2, b2]
  by_cases z1 : (oneOf v k l m q).fmod (2 * q) = 0
  · by_cases z2 : (twoOf v k l m q).fmod (2 * q) = 0
    · rw [a3 z1, b3 z2, neg _ z1, neg _ z2]
      simp only [z1, z2, not_true_eq_false, false_or, or_false]
      omega
    · simp [z2]
  · simp [z1]
end
end Ka
open Wk Mn Zb
namespace Ka
section
variable {v k l m q : Int}
def rOf (l m q : Int) : Int := ((l - m) + q).fdiv 2
def sOf (l m q : Int) : Int := ((l - m) - q).fdiv 2
theorem values_ok (N : Nm v k l m) (q0 : 0 < q) (q1 : q < 2 ^ 11) (h : V.root_of (wOf k l m) = some q) :
    V.values_of v k l m = (rOf l m q, (oneOf v k l m q).fdiv (2 * q), sOf l m q, (twoOf v k l m q).fdiv (2 * q)) ∧ O.values_of v k l m = true := by
  haveI := N.bv; haveI := N.bk; haveI := N.bl; haveI := N.bm
  haveI : Bd q 11 := ⟨by omega⟩
  obtain ⟨s1, s2⟩ := spread_ok N
  unfold V.values_of O.values_of V.values_of_r1 O.values_of_r1
  rw [s1, s2]
  dsimp only
  rw [h]
  refine ⟨rfl, ?_⟩
  rw [show getO (some q) = q from rfl, fit_bd (by decide), fit_bd (by decide), fd_bd (show (2 : Int) * q ≠ 0 by omega) (by decide)]
  rfl
theorem mem_in {a : Int} : (List.any [(0 : Int), a] fun y => decide (y = m)) = (decide (m = 0) || decide (m = a)) := by
  simp only [List.any_cons, List.any_nil, Bool.or_false]
  congr 1
  · congr 1; exact propext ⟨fun h => h.symm, fun h => h.symm⟩
  · congr 1; exact propext ⟨fun h => h.symm, fun h => h.symm⟩
theorem krein_ok {r s : Int} (N : Nm v k l m) (hr : r.natAbs < 2 ^ 13) (hs : s.natAbs < 2 ^ 13) : O.is_below_krein k r s = true := by
  haveI := N.bk
  haveI : Bd r 13 := ⟨hr⟩
  haveI : Bd s 13 := ⟨hs⟩
  unfold O.is_below_krein
  rw [fit_bd (by decide), fit_bd (by decide), fit_bd (by decide), fit_bd (by decide), fit_bd (by decide), fit_bd (by decide), fit_bd (by decide), fit_bd (by decide)]
  simp
theorem le_not (a b : Int) : decide (a ≤ b) = !decide (a > b) := by
  by_cases h : a ≤ b
  · rw [show decide (a ≤ b) = true by simpa using h, show decide (a > b) = false by simpa using h]; rfl
  · rw [show decide (a ≤ b) = false by simpa using h, show decide (a > b) = true by simp; omega]; rfl
theorem rs_lt (N : Nm v k l m) (q0 : 0 < q) (q1 : q < 2 ^ 11) : (rOf l m q).natAbs < 2 ^ 13 ∧ (sOf l m q).natAbs < 2 ^ 13 := by
  haveI := N.bl; haveI := N.bm
  haveI : Bd q 11 := ⟨by omega⟩
  unfold rOf sOf
  exact ⟨bd_lt (by decide), bd_lt (by decide)⟩
theorem broken_ok (N : Nm v k l m) : V.broken_of v k l m = V.l_broken v k l m ∧ O.broken_of v k l m = true ∧ O.l_broken v k l m = true := by
  haveI := N.bv; haveI := N.bk; haveI := N.bl; haveI := N.bm
  unfold V.broken_of O.broken_of V.l_broken O.l_broken
  rw [fit_bd (by decide), fit_bd (by decide)]
  cases hc : decide (k * (k - l - 1) = (v - k - 1) * m) with
  | false => exact ⟨rfl, rfl, rfl⟩
  | true =>
    simp only [Bool.not_true, cond_false, Bool.true_and]
    obtain ⟨s1, s2⟩ := spread_ok N
    have sq := is_square_ok N.w0 (by have := N.w30; omega)
    unfold V.broken_of_r1 O.broken_of_r1 V.broken_of_r2 O.broken_of_r2 V.l_broken_r1 O.l_broken_r1
    rw [s1, s2]
    cases cases_of N with
    | no h w0 e =>
      obtain ⟨p1, p2⟩ := parts_no N e
      have iw : V.is_whole v k l m = decide (uOf v k l m = 0) ∧ O.is_whole v k l m = true := by
        unfold V.is_whole O.is_whole V.is_whole_r1 O.is_whole_r1
        rw [s1, s2]
        dsimp only
        rw [h]
        exact ⟨rfl, rfl⟩
      obtain ⟨t1, t2, t3⟩ := two_sq N.v1 N.v2
      rw [p1, p2, iw.1, iw.2]
      unfold V.l_broken_r2 O.l_broken_r2
      dsimp only
      rw [sq.1, sq.2, h, t1, t2, t3]
      cases decide (uOf v k l m = 0) <;> cases V.is_two_squares v <;> exact ⟨rfl, rfl, rfl⟩
    | zero h w0 e =>
      obtain ⟨p1, p2⟩ := parts_no N e
      have iw : V.is_whole v k l m = false ∧ O.is_whole v k l m = true := by
        unfold V.is_whole O.is_whole V.is_whole_r1 O.is_whole_r1
        rw [s1, s2]
        dsimp only
        rw [h]
        exact ⟨rfl, rfl⟩
      rw [p1, p2, iw.1, iw.2]
      unfold V.l_broken_r2 O.l_broken_r2
      dsimp only
      rw [sq.1, sq.2, h]
      exact ⟨rfl, rfl, rfl⟩
    | pos q h q0 q1 qq e =>
      obtain ⟨p1, p2⟩ := parts_pos N q0 q1 e
      obtain ⟨i1, i2⟩ := whole_ok N q0 q1 h
      have wl := wholeL N q0 q1
      obtain ⟨v1, v2⟩ := values_ok N q0 q1 h
      obtain ⟨o1, o2⟩ := one_lt N q0 q1
      obtain ⟨a1, a2, a3, a4⟩ := frac_ok (n := oneOf v k l m q) (d := 2 * q) (by omega) (by omega) (Bd.up o1 (by decide))
      obtain ⟨b1, b2, b3, b4⟩ := frac_ok (n := twoOf v k l m q) (d := 2 * q) (by omega) (by omega) (Bd.up o2 (by decide))
      rw [p1, p2, i1, i2]
      unfold V.l_broken_r2 O.l_broken_r2 V.l_broken_r5 O.l_broken_r5
      dsimp only
      rw [h]
      simp only [Option.isNone_some, cond_false, Option.isSome_some, Bool.true_and, show ∀ x : Int × Int, getO (some x) = x from fun _ => rfl]
      rw [wl]
      have hi : ∀ x y z : Bool, imp x (imp y (imp z true)) = true := fun x y z => by cases x <;> cases y <;> cases z <;> rfl
      rw [hi]
      cases hw : wholeB v k l m q with
      | false => exact ⟨rfl, rfl, rfl⟩
      | true =>
        have hw' := hw
        unfold wholeB at hw'
        simp only [Bool.and_eq_true, decide_eq_true_eq] at hw'
        obtain ⟨w1, w2, w3, w4⟩ := hw'
        have f1 := a3 w3
        have g1 := b3 w4
        obtain ⟨r1, r2⟩ := rs_lt N q0 q1
        have kr := krein_ok N r1 r2
        haveI : Bd ((oneOf v k l m q).fdiv (2 * q)) 30 := ⟨f1 ▸ a4⟩
        haveI : Bd ((twoOf v k l m q).fdiv (2 * q)) 30 := ⟨g1 ▸ b4⟩
        haveI : Bd (rOf l m q) 13 := ⟨r1⟩
        haveI : Bd (sOf l m q) 13 := ⟨r2⟩
        unfold V.l_broken_r6 O.l_broken_r6 V.l_broken_r7 O.l_broken_r7 V.broken_of_r3 O.broken_of_r3 V.broken_of_r4 O.broken_of_r4
        rw [v1, v2]
        rw [show getO (some q) = q from rfl, show ((l - m) + q).fdiv 2 = rOf l m q from rfl, show ((l - m) - q).fdiv 2 = sOf l m q from rfl, mem_in]
        cases (decide (m = 0) || decide (m = k)) with
        | true => exact ⟨rfl, rfl, rfl⟩
        | false =>
          unfold V.broken_of_r5 O.broken_of_r5
          dsimp only
          rw [kr]
          unfold V.l_broken_r8 O.l_broken_r8 V.is_below_krein
          simp only [show ∀ x : Int × Int, getO (some x) = x from fun _ => rfl, f1, g1]
          simp (decide := true) only [fit_bd, Option.isSome_some, Bool.not_true, Bool.not_false, cond_false, cond_true, Bool.true_and]
          rw [le_not ((sOf l m q + 1) * (k + sOf l m q + 2 * rOf l m q * sOf l m q))]
          generalize decide ((rOf l m q + 1) * (k + rOf l m q + 2 * rOf l m q * sOf l m q) > (k + rOf l m q) * (sOf l m q + 1) * (sOf l m q + 1)) = x
          generalize decide ((sOf l m q + 1) * (k + sOf l m q + 2 * rOf l m q * sOf l m q) > (k + sOf l m q) * (rOf l m q + 1) * (rOf l m q + 1)) = y
          generalize decide (2 * v > (oneOf v k l m q).fdiv (2 * q) * ((oneOf v k l m q).fdiv (2 * q) + 3)) = a
          generalize decide (2 * v > (twoOf v k l m q).fdiv (2 * q) * ((twoOf v k l m q).fdiv (2 * q) + 3)) = b
          cases x <;> cases y <;> cases a <;> cases b <;> exact ⟨rfl, rfl, rfl⟩
end
end Ka
open Wk Mn Zb
namespace Ka
section
variable {v k l m q : Int}
theorem check_ok (N : Nm v k l m) : V.check_numbers (eI v) (eI k) (eI l) (eI m) = .ok () ∧ O.check_numbers (eI v) (eI k) (eI l) (eI m) = true := by
  obtain ⟨v1, v2, k1, k2, l1, l2, m1, m2⟩ := N
  have hall : List.all [eI v, eI k, eI l, eI m] (fun y1 => V.is_integer y1) = true := rfl
  have e : ∀ i : Int, Un.un eI (eI i) = i := fun _ => rfl
  have i : ∀ i : Int, Un.is eI (eI i) = true := fun _ => rfl
  have n : ∀ i : Int, notl (eI i) = true := fun _ => rfl
  have hallO : List.all [eI v, eI k, eI l, eI m] (fun (y1 : D) => (notl y1 && (notl y1 && (O.is_integer y1)))) = true := rfl
  unfold V.check_numbers O.check_numbers V.check_numbers_r1 O.check_numbers_r1
  rw [hall, hallO]
  simp only [e, i, n, v1, v2, k1, k2, l1, l2, m1, m2, decide_true, Bool.and_self, Bool.not_true, Bool.or_self, cond_false, Bool.true_and]
  exact ⟨trivial, rfl⟩
/-- what may be told -/
def Due (d : Option (List Nat)) : Prop := d = none ∨ d = some S_count ∨ d = some S_whole ∨ d = some S_squares ∨ d = some S_krein ∨ d = some S_absolute
theorem due_ok (N : Nm v k l m) : Due (V.broken_of v k l m) := by
  unfold Due V.broken_of V.broken_of_r1 V.broken_of_r2 V.broken_of_r3 V.broken_of_r4 V.broken_of_r5
  cases (!decide (k * (k - l - 1) = (v - k - 1) * m)) with
  | true => simp
  | false =>
    cases (!V.is_whole v k l m) with
    | true => simp
    | false =>
      cases Option.isNone (V.spread_of v k l m).1 with
      | true => cases V.is_two_squares v <;> simp
      | false =>
        simp only [cond_false]
        generalize (List.any [(0 : Int), k] fun y => decide (y = m)) = a
        generalize (!V.is_below_krein k (V.values_of v k l m).1 (V.values_of v k l m).2.2.1) = b
        generalize (decide (2 * v > (V.values_of v k l m).2.1 * ((V.values_of v k l m).2.1 + 3)) || decide (2 * v > (V.values_of v k l m).2.2.2 * ((V.values_of v k l m).2.2.2 + 3))) = c
        cases a <;> cases b <;> cases c <;> simp
abbrev gv (v k l m : Int) : List D := [eI v, eI k, eI l, eI m]
theorem told9 (N : Nm v k l m) : V.l_told 9 (gv v k l m) = (S_told, eO eS (V.broken_of v k l m)) ∧ O.l_told 9 (gv v k l m) = true := by
  obtain ⟨c1, c2⟩ := check_ok N
  obtain ⟨b1, b2, b3⟩ := broken_ok N
  have n : ∀ i : Int, notl (eI i) = true := fun _ => rfl
  have e : ∀ i : Int, Un.un eI (eI i) = i := fun _ => rfl
  have i : ∀ i : Int, Un.is eI (eI i) = true := fun _ => rfl
  have bc : V.broken_condition (eI v) (eI k) (eI l) (eI m) = .ok (V.broken_of v k l m) ∧ O.broken_condition (eI v) (eI k) (eI l) (eI m) = true := by
    unfold V.broken_condition O.broken_condition
    rw [c1, c2]
    exact ⟨rfl, by simp only [Ex.all, n, e, i, b2, Bool.and_self]⟩
  have d1 : V.disp3 9 (eI v) (eI k) (eI l) (eI m) = .ok (eO eS (V.broken_of v k l m)) := by
    show Ex.mapE (eO eS) (V.broken_condition (eI v) (eI k) (eI l) (eI m)) = _
    rw [bc.1]
    rfl
  have d2 : O.disp3 9 (eI v) (eI k) (eI l) (eI m) = true := bc.2
  have t1 : V.l_told_t1 9 (gv v k l m) = .ok (S_told, eO eS (V.broken_of v k l m)) := by
    show Ex.bind (V.disp3 9 (eI v) (eI k) (eI l) (eI m)) _ = _
    rw [d1]
    rfl
  have t2 : O.l_told_t1 9 (gv v k l m) = true := by
    show (true && (true && (true && (true && (notl (eI v) && (notl (eI k) && (notl (eI l) && (notl (eI m) && (O.disp3 9 (eI v) (eI k) (eI l) (eI m) && Ex.all (V.disp3 9 (eI v) (eI k) (eI l) (eI m)) (fun z10 => notl z10)))))))))) = true
    rw [d1, d2]
    cases V.broken_of v k l m <;> rfl
  unfold V.l_told O.l_told
  rw [t1, t2]
  exact ⟨rfl, rfl⟩
theorem tells9 (N : Nm v k l m) : V.l_tells 9 (gv v k l m) (eO eS (V.broken_of v k l m)) = true ∧ O.l_tells 9 (gv v k l m) (eO eS (V.broken_of v k l m)) = true := by
  obtain ⟨t1, t2⟩ := told9 N
  unfold V.l_tells O.l_tells
  rw [t1, t2]
  rcases due_ok N with h | h | h | h | h | h <;> rw [h] <;> exact ⟨by decide, by decide⟩
end
end Ka
open Wk Mn Zb
namespace Ka
section
variable {v k l m q : Int}
theorem parity {d q c : Int} (h : q * q = d * d + 4 * c) : (d + q) % 2 = 0 := by
  have h1 : (q * q) % 2 = (d * d) % 2 := by omega
  rcases Int.emod_two_eq q with a | a <;> rcases Int.emod_two_eq d with b | b
  · omega
  · rw [Int.mul_emod, Int.mul_emod d d, a, b] at h1; simp at h1
  · rw [Int.mul_emod, Int.mul_emod d d, a, b] at h1; simp at h1
  · omega
theorem rs_ok (qq : q * q = wOf k l m) : 2 * rOf l m q = (l - m) + q ∧ 2 * sOf l m q = (l - m) - q := by
  have p := parity (d := l - m) (q := q) (c := k - m) qq
  unfold rOf sOf
  rw [Int.fdiv_eq_ediv_of_nonneg _ (by decide), Int.fdiv_eq_ediv_of_nonneg _ (by decide)]
  omega
theorem sums_ok {f g : Int} (q0 : 0 < q) (qq : q * q = wOf k l m) (hf : oneOf v k l m q = 2 * q * f) (hg : twoOf v k l m q = 2 * q * g) :
    rOf l m q + sOf l m q = l - m ∧ rOf l m q * sOf l m q = m - k ∧ f + g = v - 1 ∧ k + f * rOf l m q + g * sOf l m q = 0 := by
  obtain ⟨hr, hs⟩ := rs_ok qq
  generalize rOf l m q = r at *
  generalize sOf l m q = s at *
  unfold oneOf twoOf uOf at *
  unfold wOf at qq
  have e1 : f + g = v - 1 := by
    have h : 2 * q * (f + g) = 2 * q * (v - 1) := by grind
    exact Int.eq_of_mul_eq_mul_left (by omega) h
  refine ⟨by omega, ?_, e1, ?_⟩
  · have h : 4 * (r * s) = 4 * (m - k) := by
      have : (2 * r) * (2 * s) = ((l - m) + q) * ((l - m) - q) := by rw [hr, hs]
      grind
    omega
  · have h1 : (f - g) * q = -(2 * k + (v - 1) * (l - m)) := by
      have : 2 * ((f - g) * q) = 2 * (-(2 * k + (v - 1) * (l - m))) := by grind
      omega
    have h2 : 2 * (k + f * r + g * s) = 0 := by
      have : 2 * (k + f * r + g * s) = 2 * k + f * (2 * r) + g * (2 * s) := by grind
      rw [this, hr, hs]
      have : 2 * k + f * (l - m + q) + g * (l - m - q) = 2 * k + (f + g) * (l - m) + (f - g) * q := by grind
      rw [this, h1, e1]
      omega
    omega
theorem in_whole (h : inO [S_count, S_whole] (V.broken_of v k l m) = false) : V.is_whole v k l m = true := by
  unfold V.broken_of V.broken_of_r1 at h
  cases hc : (!decide (k * (k - l - 1) = (v - k - 1) * m)) with
  | true => rw [hc, cond_true] at h; exact absurd h (by decide)
  | false =>
    rw [hc] at h
    cases hw : V.is_whole v k l m with
    | true => rfl
    | false => rw [hw, cond_false, Bool.not_false, cond_true] at h; exact absurd h (by decide)
theorem web_raises (N : Nm v k l m) {z : List Nat} (h : V.web_eigenvalues (eI v) (eI k) (eI l) (eI m) = .ex 2 [eS z]) (o : O.web_eigenvalues (eI v) (eI k) (eI l) (eI m) = true) : V.l_told 10 (gv v k l m) = (S_raised, eS z) ∧ O.l_told 10 (gv v k l m) = true := by
  have d1 : V.disp3 10 (eI v) (eI k) (eI l) (eI m) = .ex 2 [eS z] := by
    show Ex.mapE (eP2 (eP2 eI eI) (eP2 eI eI)) (V.web_eigenvalues (eI v) (eI k) (eI l) (eI m)) = _
    rw [h]
    rfl
  have t1 : V.l_told_t1 10 (gv v k l m) = .ex 2 [eS z] := by
    show Ex.bind (V.disp3 10 (eI v) (eI k) (eI l) (eI m)) _ = _
    rw [d1]
    rfl
  have t2 : O.l_told_t1 10 (gv v k l m) = true := by
    show (true && (true && (true && (true && (notl (eI v) && (notl (eI k) && (notl (eI l) && (notl (eI m) && (O.web_eigenvalues (eI v) (eI k) (eI l) (eI m) && Ex.all (V.disp3 10 (eI v) (eI k) (eI l) (eI m)) (fun z10 => notl z10)))))))))) = true
    rw [d1, o]
    rfl
  unfold V.l_told O.l_told
  rw [t1, t2]
  exact ⟨rfl, rfl⟩
theorem web_tells (N : Nm v k l m) {z : (Int × Int) × (Int × Int)} (h : V.web_eigenvalues (eI v) (eI k) (eI l) (eI m) = .ok z) (o : O.web_eigenvalues (eI v) (eI k) (eI l) (eI m) = true) : V.l_told 10 (gv v k l m) = (S_told, eP2 (eP2 eI eI) (eP2 eI eI) z) ∧ O.l_told 10 (gv v k l m) = true := by
  have d1 : V.disp3 10 (eI v) (eI k) (eI l) (eI m) = .ok (eP2 (eP2 eI eI) (eP2 eI eI) z) := by
    show Ex.mapE (eP2 (eP2 eI eI) (eP2 eI eI)) (V.web_eigenvalues (eI v) (eI k) (eI l) (eI m)) = _
    rw [h]
    rfl
  have t1 : V.l_told_t1 10 (gv v k l m) = .ok (S_told, eP2 (eP2 eI eI) (eP2 eI eI) z) := by
    show Ex.bind (V.disp3 10 (eI v) (eI k) (eI l) (eI m)) _ = _
    rw [d1]
    rfl
  have t2 : O.l_told_t1 10 (gv v k l m) = true := by
    show (true && (true && (true && (true && (notl (eI v) && (notl (eI k) && (notl (eI l) && (notl (eI m) && (O.web_eigenvalues (eI v) (eI k) (eI l) (eI m) && Ex.all (V.disp3 10 (eI v) (eI k) (eI l) (eI m)) (fun z10 => notl z10)))))))))) = true
    rw [d1, o]
    rfl
  unfold V.l_told O.l_told
  rw [t1, t2]
  exact ⟨rfl, rfl⟩
theorem holds_ok (N : Nm v k l m) : V.l_holds_k24 (v, k, l, m) = true ∧ O.l_holds_k24 (v, k, l, m) = true := by
  obtain ⟨c1, c2⟩ := check_ok N
  obtain ⟨b1, b2, b3⟩ := broken_ok N
  obtain ⟨t1, t2⟩ := tells9 N
  obtain ⟨s1, s2⟩ := spread_ok N
  have n : ∀ i : Int, notl (eI i) = true := fun _ => rfl
  have e : ∀ i : Int, Un.un eI (eI i) = i := fun _ => rfl
  have i : ∀ i : Int, Un.is eI (eI i) = true := fun _ => rfl
  have fin : (V.l_holds_k24_r2 (v, k, l, m) (V.broken_of v k l m) v k l m = true ∧ O.l_holds_k24_r2 (v, k, l, m) (V.broken_of v k l m) v k l m = true) → V.l_holds_k24 (v, k, l, m) = true ∧ O.l_holds_k24 (v, k, l, m) = true := fun h => by
    unfold V.l_holds_k24 O.l_holds_k24 V.l_holds_k24_r1 O.l_holds_k24_r1
    dsimp only
    rw [← b1, b3, t1, t2]
    exact h
  refine fin ?_
  unfold V.l_holds_k24_r2 O.l_holds_k24_r2 V.l_holds_k24_r3 O.l_holds_k24_r3
  have po : O.l_parts v k l m = true := by
    cases cases_of N with
    | no h w0 e => exact (parts_no N e).2
    | zero h w0 e => exact (parts_no N e).2
    | pos q h q0 q1 qq e => exact (parts_pos N q0 q1 e).2
  rw [po]
  have w1 : V.web_eigenvalues (eI v) (eI k) (eI l) (eI m) = V.web_eigenvalues_r1 (eI v) (eI k) (eI l) (eI m) ∧ O.web_eigenvalues (eI v) (eI k) (eI l) (eI m) = O.web_eigenvalues_r1 (eI v) (eI k) (eI l) (eI m) := by
    unfold V.web_eigenvalues O.web_eigenvalues
    rw [c1, c2]
    exact ⟨rfl, by simp only [n, Bool.true_and, Ex.all]⟩
  cases hb : inO [S_count, S_whole] (V.broken_of v k l m) with
  | true =>
    have g1 : V.web_eigenvalues (eI v) (eI k) (eI l) (eI m) = .ex 2 [eS S_broken] := by
      rw [w1.1]
      unfold V.web_eigenvalues_r1
      simp only [e]
      rw [hb]
      rfl
    have g2 : O.web_eigenvalues (eI v) (eI k) (eI l) (eI m) = true := by
      rw [w1.2]
      unfold O.web_eigenvalues_r1
      simp only [e, i, b2]
      rw [hb]
      rfl
    obtain ⟨r1, r2⟩ := web_raises N g1 g2
    simp only [cond_true, Bool.true_and]
    unfold V.l_raises O.l_raises
    rw [show [eI (v, k, l, m).1, eI (v, k, l, m).2.1, eI (v, k, l, m).2.2.1, eI (v, k, l, m).2.2.2] = gv v k l m from rfl, r1, r2]
    exact ⟨by decide, by decide⟩
  | false =>
    simp only [cond_false, Bool.true_and]
    have iw := in_whole hb
    unfold V.l_holds_k24_r4 O.l_holds_k24_r4
    have g1 : V.web_eigenvalues (eI v) (eI k) (eI l) (eI m) = V.web_eigenvalues_r2 (eI v) (eI k) (eI l) (eI m) := by
      rw [w1.1]
      unfold V.web_eigenvalues_r1
      simp only [e]
      rw [hb]
      rfl
    have g2 : O.web_eigenvalues (eI v) (eI k) (eI l) (eI m) = O.web_eigenvalues_r2 (eI v) (eI k) (eI l) (eI m) := by
      rw [w1.2]
      unfold O.web_eigenvalues_r1
      simp only [e, i, b2]
      rw [hb]
      rfl
    cases cases_of N with
    | no h w0 e' =>
      obtain ⟨p1, p2⟩ := parts_no N e'
      have h1 : V.web_eigenvalues (eI v) (eI k) (eI l) (eI m) = .ex 2 [eS S_half] := by
        rw [g1]
        unfold V.web_eigenvalues_r2
        simp only [e]
        rw [s1]
        dsimp only
        rw [h]
        rfl
      have h2 : O.web_eigenvalues (eI v) (eI k) (eI l) (eI m) = true := by
        rw [g2]
        unfold O.web_eigenvalues_r2
        simp only [e, i, s2]
        rw [s1]
        dsimp only
        rw [h]
        rfl
      obtain ⟨r1, r2⟩ := web_raises N h1 h2
      rw [p1]
      simp only [Option.isNone_none, cond_true]
      unfold V.l_raises O.l_raises
      rw [show [eI (v, k, l, m).1, eI (v, k, l, m).2.1, eI (v, k, l, m).2.2.1, eI (v, k, l, m).2.2.2] = gv v k l m from rfl, r1, r2]
      exact ⟨by decide, by decide⟩
    | zero h w0 e' =>
      unfold V.is_whole at iw
      rw [s1] at iw
      dsimp only at iw
      rw [h] at iw
      exact absurd (show false = true from iw) (by decide)
    | pos q h q0 q1 qq e' =>
      obtain ⟨p1, p2⟩ := parts_pos N q0 q1 e'
      obtain ⟨i1, i2⟩ := whole_ok N q0 q1 h
      obtain ⟨v1, v2⟩ := values_ok N q0 q1 h
      rw [i1] at iw
      unfold wholeB at iw
      simp only [Bool.and_eq_true, decide_eq_true_eq] at iw
      obtain ⟨_, _, d1, d2⟩ := iw
      obtain ⟨o1, o2⟩ := one_lt N q0 q1
      obtain ⟨a1, a2, a3, a4⟩ := frac_ok (n := oneOf v k l m q) (d := 2 * q) (by omega) (by omega) (Bd.up o1 (by decide))
      obtain ⟨b1', b2', b3', b4'⟩ := frac_ok (n := twoOf v k l m q) (d := 2 * q) (by omega) (by omega) (Bd.up o2 (by decide))
      have f1 := a3 d1
      have f2 := b3' d2
      have m1 := Int.mul_fdiv_add_fmod (oneOf v k l m q) (2 * q)
      have m2 := Int.mul_fdiv_add_fmod (twoOf v k l m q) (2 * q)
      rw [d1] at m1
      rw [d2] at m2
      obtain ⟨r1, r2⟩ := rs_lt N q0 q1
      have h1 : V.web_eigenvalues (eI v) (eI k) (eI l) (eI m) = .ok ((rOf l m q, (oneOf v k l m q).fdiv (2 * q)), (sOf l m q, (twoOf v k l m q).fdiv (2 * q))) := by
        rw [g1]
        unfold V.web_eigenvalues_r2 V.web_eigenvalues_r3
        simp only [e]
        rw [s1, v1]
        dsimp only
        rw [h]
        rfl
      have h2 : O.web_eigenvalues (eI v) (eI k) (eI l) (eI m) = true := by
        rw [g2]
        unfold O.web_eigenvalues_r2 O.web_eigenvalues_r3
        simp only [e, i, s2]
        rw [s1, v2]
        dsimp only
        rw [h]
        rfl
      obtain ⟨w1', w2'⟩ := web_tells N h1 h2
      obtain ⟨z1, z2, z3, z4⟩ := sums_ok (v := v) (f := (oneOf v k l m q).fdiv (2 * q)) (g := (twoOf v k l m q).fdiv (2 * q)) q0 qq (by omega) (by omega)
      rw [p1]
      simp only [Option.isNone_some, cond_false]
      unfold V.l_holds_k24_r5 O.l_holds_k24_r5 V.l_holds_k24_r6 O.l_holds_k24_r6
      rw [show getO (some q) = q from rfl, show ((l - m) + q).fdiv 2 = rOf l m q from rfl, show ((l - m) - q).fdiv 2 = sOf l m q from rfl]
      simp only [show ∀ x : Int × Int, getO (some x) = x from fun _ => rfl, f1, f2]
      rw [show [eI (v, k, l, m).1, eI (v, k, l, m).2.1, eI (v, k, l, m).2.2.1, eI (v, k, l, m).2.2.2] = gv v k l m from rfl]
      haveI : Bd ((oneOf v k l m q).fdiv (2 * q)) 30 := ⟨f1 ▸ a4⟩
      haveI : Bd ((twoOf v k l m q).fdiv (2 * q)) 30 := ⟨f2 ▸ b4'⟩
      haveI : Bd (rOf l m q) 13 := ⟨r1⟩
      haveI : Bd (sOf l m q) 13 := ⟨r2⟩
      simp (decide := true) only [fit_bd, z1, z2, z3, z4, decide_true, Bool.not_true, Bool.or_self, cond_false, Option.isSome_some, Bool.true_and, imp, Bool.or_true, Bool.not_false]
      unfold V.l_tells O.l_tells
      rw [w1', w2']
      generalize (oneOf v k l m q).fdiv (2 * q) = f
      generalize (twoOf v k l m q).fdiv (2 * q) = g
      generalize rOf l m q = r
      generalize sOf l m q = s
      have sm : sameD (eP2 (eP2 eI eI) (eP2 eI eI) ((r, f), (s, g))) (eP2 (eP2 eI eI) (eP2 eI eI) ((r, f), (s, g))) = true := by
        simp [sameD, sameDs]
      unfold V.l_is_told O.l_is_told V.l_same O.l_same
      rw [sm]
      exact ⟨rfl, rfl⟩
end
end Ka
open Wk Mn Zb Zs
namespace Ka
section
variable {v k l m q : Int}
def leftOf (v k m : Int) : Int := k * (k - 1) - ((v - k) - 1) * m
def P3 (v k m : Int) : List (Int × Int × Int) := bif (decide (leftOf v k m ≥ 0) && (decide ((leftOf v k m).fmod k = 0) && Option.isNone (V.broken_of v k ((leftOf v k m).fdiv k) m))) then [(k, (leftOf v k m).fdiv k, m)] else []
def P2 (v k : Int) : List (Int × Int × Int) := (rI 1 k).flatMap (P3 v k)
def mOf (v k l : Int) : Int := (k * ((k - l) - 1)).fdiv ((v - k) - 1)
def L3 (v k l : Int) : List (Int × Int × Int) := bif ((decide (1 ≤ mOf v k l) && decide (mOf v k l < k)) && Option.isNone (V.l_broken v k l (mOf v k l))) then [(k, l, mOf v k l)] else []
def L2 (v k : Int) : List (Int × Int × Int) := (rI 0 k).flatMap (L3 v k)
def kTop (v : Int) : Int := (v - 1).fdiv 2 + 1
theorem kTop_eq (v : Int) : kTop v = (v - 1) / 2 + 1 := by
  unfold kTop
  rw [Int.fdiv_eq_ediv_of_nonneg _ (by decide)]
theorem P3_len : (P3 v k m).length ≤ 1 := by
  unfold P3
  cases (decide (leftOf v k m ≥ 0) && (decide ((leftOf v k m).fmod k = 0) && Option.isNone (V.broken_of v k ((leftOf v k m).fdiv k) m))) <;> simp
theorem L3_len : (L3 v k l).length ≤ 1 := by
  unfold L3
  cases ((decide (1 ≤ mOf v k l) && decide (mOf v k l < k)) && Option.isNone (V.l_broken v k l (mOf v k l))) <;> simp
theorem P2_len (h : k ≤ 100) : (P2 v k).length ≤ 100 := by
  have := flat_len (F := P3 v k) (c := 1) (rI 1 k) fun m _ => P3_len
  rw [Zb.rI_len] at this
  unfold P2
  omega
theorem L2_len (h : k ≤ 100) : (L2 v k).length ≤ 100 := by
  have := flat_len (F := L3 v k) (c := 1) (rI 0 k) fun m _ => L3_len
  rw [Zb.rI_len] at this
  unfold L2
  omega
/-- what the program looks at are numbers of webs -/
theorem nm_left (h1 : 3 ≤ v) (h2 : v ≤ 100) (k1 : 2 ≤ k) (k2 : k < (v - 1) / 2 + 1) (m1 : 1 ≤ m) (m2 : m < k) (z : 0 ≤ leftOf v k m) : Nm v k ((leftOf v k m).fdiv k) m := by
  have e : (leftOf v k m).fdiv k = leftOf v k m / k := Int.fdiv_eq_ediv_of_nonneg _ (by omega)
  have d := Int.mul_ediv_add_emod (leftOf v k m) k
  have d0 := Int.emod_nonneg (leftOf v k m) (show k ≠ 0 by omega)
  have b0 : 0 ≤ leftOf v k m / k := Int.ediv_nonneg z (by omega)
  have b1 : leftOf v k m / k ≤ k - 1 := by
    rcases Int.lt_or_le (k - 1) (leftOf v k m / k) with y | y
    · have h3 : k * (k - 1) < k * (leftOf v k m / k) := Int.mul_lt_mul_of_pos_left y (by omega)
      have h4 : 0 ≤ ((v - k) - 1) * m := Int.mul_nonneg (by omega) (by omega)
      unfold leftOf at *
      omega
    · exact y
  exact ⟨h1, by omega, by omega, by omega, by rw [e]; exact b0, by rw [e]; exact b1, by omega, by omega⟩
theorem P_fold (h1 : 3 ≤ v) (h2 : v ≤ 100) : (rI 2 (kTop v)).foldl (V.feasible_numbers_l2 (eI v)) [] = (rI 2 (kTop v)).flatMap (P2 v) ∧ okF (V.feasible_numbers_l2 (eI v)) (O.feasible_numbers_l2 (eI v)) (rI 2 (kTop v)) [] = true := by
  haveI : Bd v 9 := ⟨by omega⟩
  have kt := kTop_eq v
  have tot := flat_len (F := P2 v) (c := 100) (rI 2 (kTop v)) fun k hk => P2_len (by have := (mem_rI.mp hk).2; omega)
  rw [Zb.rI_len] at tot
  refine fold_app (P2 v) (rI 2 (kTop v)) [] 100000 (by rw [List.length_nil]; omega) (fun k hk s hs => ?_)
  obtain ⟨k1, k2⟩ := mem_rI.mp hk
  haveI : Bd k 9 := ⟨by omega⟩
  have inner := fold_app (g := V.feasible_numbers_l3 (eI v) k) (okf := O.feasible_numbers_l3 (eI v) k) (P3 v k) (rI 1 k) s 100000 hs (fun m hm s hs => by
    obtain ⟨m1, m2⟩ := mem_rI.mp hm
    haveI : Bd m 9 := ⟨by omega⟩
    have nm := fun z => nm_left h1 h2 k1 (by omega) m1 m2 z
    have hl : k * (k - 1) - (((Un.un eI (eI v)) - k) - 1) * m = leftOf v k m := rfl
    have sz : szB (s.length + 1) = true ∨ P3 v k m = [] := by
      by_cases z : P3 v k m = []
      · exact .inr z
      · left
        have : 0 < (P3 v k m).length := List.length_pos_iff.mpr z
        exact sz_of (by omega)
    unfold V.feasible_numbers_l3 O.feasible_numbers_l3 V.feasible_numbers_r4 O.feasible_numbers_r4
    rw [hl]
    haveI : Bd (leftOf v k m) 22 := ⟨by
      show (k * (k - 1) - ((v - k) - 1) * m).natAbs < _
      exact bd_lt (by decide)⟩
    rw [show Un.un eI (eI v) = v from rfl, show Un.is eI (eI v) = true from rfl, fit_bd (by decide), fit_bd (by decide), fd_bd (show k ≠ 0 by omega) (by decide), md_of (show k ≠ 0 by omega)]
    unfold P3 at sz ⊢
    by_cases z : leftOf v k m ≥ 0
    · have := (broken_ok (nm z)).2.1
      rw [this]
      cases hc : (decide (leftOf v k m ≥ 0) && (decide ((leftOf v k m).fmod k = 0) && Option.isNone (V.broken_of v k ((leftOf v k m).fdiv k) m))) with
      | true =>
        rw [hc] at sz
        rcases sz with sz | sz
        · rw [sz]
          refine ⟨rfl, ?_⟩
          unfold imp
          simp
        · cases sz
      | false =>
        refine ⟨by simp, ?_⟩
        unfold imp
        simp
    · rw [show decide (leftOf v k m ≥ 0) = false by simpa using z]
      exact ⟨by simp, rfl⟩)
  unfold V.feasible_numbers_l2 O.feasible_numbers_l2
  rw [rg_bd (by decide) (by decide), inner.2]
  exact ⟨inner.1, rfl⟩
theorem L_fold (h1 : 3 ≤ v) (h2 : v ≤ 100) : V.l_feasible v = (rI 1 (kTop v)).flatMap (L2 v) ∧ O.l_feasible v = true := by
  haveI : Bd v 9 := ⟨by omega⟩
  have kt := kTop_eq v
  have tot := flat_len (F := L2 v) (c := 100) (rI 1 (kTop v)) fun k hk => L2_len (by have := (mem_rI.mp hk).2; omega)
  rw [Zb.rI_len] at tot
  have r := fold_app (g := V.l_feasible_l1 v) (okf := O.l_feasible_l1 v) (L2 v) (rI 1 (kTop v)) [] 100000 (by rw [List.length_nil]; omega) (fun k hk s hs => by
    obtain ⟨k1, k2⟩ := mem_rI.mp hk
    haveI : Bd k 9 := ⟨by omega⟩
    have inner := fold_app (g := V.l_feasible_l2 v k) (okf := O.l_feasible_l2 v k) (L3 v k) (rI 0 k) s 100000 hs (fun l hl s hs => by
      obtain ⟨l1, l2⟩ := mem_rI.mp hl
      haveI : Bd l 9 := ⟨by omega⟩
      have hm : (k * ((k - l) - 1)).fdiv ((v - k) - 1) = mOf v k l := rfl
      have sz : szB (s.length + 1) = true ∨ L3 v k l = [] := by
        by_cases z : L3 v k l = []
        · exact .inr z
        · left
          have : 0 < (L3 v k l).length := List.length_pos_iff.mpr z
          exact sz_of (by omega)
      unfold V.l_feasible_l2 O.l_feasible_l2 V.l_feasible_r3 O.l_feasible_r3
      rw [hm, fit_bd (by decide), fd_bd (show (v - k) - 1 ≠ 0 by omega) (by decide)]
      unfold L3 at sz ⊢
      by_cases z : 1 ≤ mOf v k l ∧ mOf v k l < k
      · have nm : Nm v k l (mOf v k l) := ⟨h1, by omega, by omega, by omega, by omega, by omega, by omega, by omega⟩
        rw [(broken_ok nm).2.2]
        cases hc : ((decide (1 ≤ mOf v k l) && decide (mOf v k l < k)) && Option.isNone (V.l_broken v k l (mOf v k l))) with
        | true =>
          rw [hc] at sz
          rcases sz with sz | sz
          · rw [sz]
            refine ⟨rfl, ?_⟩
            unfold imp
            simp
          · cases sz
        | false =>
          refine ⟨by simp, ?_⟩
          unfold imp
          simp
      · have : (decide (1 ≤ mOf v k l) && decide (mOf v k l < k)) = false := by
          rw [Bool.and_eq_false_iff, decide_eq_false_iff_not, decide_eq_false_iff_not]
          omega
        rw [this]
        exact ⟨by simp, rfl⟩)
    unfold V.l_feasible_l1 O.l_feasible_l1
    rw [rg_bd (by decide) (by decide), inner.2]
    exact ⟨inner.1, rfl⟩)
  haveI : Bd (kTop v) 9 := ⟨by omega⟩
  unfold V.l_feasible O.l_feasible
  rw [show ((v - (1 : Int)).fdiv 2 + 1) = kTop v from rfl, r.1, r.2, rg_bd (by decide) (by decide)]
  exact ⟨by simp, rfl⟩
end
end Ka
open Wk Mn Zb Zs
namespace Ka
section
variable {v k l m q : Int}
theorem mem_P3 {x : Int × Int × Int} : x ∈ P3 v k m ↔ (leftOf v k m ≥ 0 ∧ (leftOf v k m).fmod k = 0 ∧ V.broken_of v k ((leftOf v k m).fdiv k) m = none) ∧ x = (k, (leftOf v k m).fdiv k, m) := by
  unfold P3
  cases h : (decide (leftOf v k m ≥ 0) && (decide ((leftOf v k m).fmod k = 0) && Option.isNone (V.broken_of v k ((leftOf v k m).fdiv k) m))) with
  | true =>
    simp only [Bool.and_eq_true, decide_eq_true_eq, Option.isNone_iff_eq_none] at h
    simp only [cond_true, List.mem_singleton]
    exact ⟨fun e => ⟨⟨h.1, h.2.1, h.2.2⟩, e⟩, fun e => e.2⟩
  | false =>
    simp only [cond_false, List.not_mem_nil, false_iff]
    rintro ⟨⟨a, b, c⟩, _⟩
    rw [c] at h
    simp [a, b] at h
theorem mem_L3 {x : Int × Int × Int} : x ∈ L3 v k l ↔ (1 ≤ mOf v k l ∧ mOf v k l < k ∧ V.l_broken v k l (mOf v k l) = none) ∧ x = (k, l, mOf v k l) := by
  unfold L3
  cases h : ((decide (1 ≤ mOf v k l) && decide (mOf v k l < k)) && Option.isNone (V.l_broken v k l (mOf v k l))) with
  | true =>
    simp only [Bool.and_eq_true, decide_eq_true_eq, Option.isNone_iff_eq_none] at h
    simp only [cond_true, List.mem_singleton]
    exact ⟨fun e => ⟨⟨h.1.1, h.1.2, h.2⟩, e⟩, fun e => e.2⟩
  | false =>
    simp only [cond_false, List.not_mem_nil, false_iff]
    rintro ⟨⟨a, b, c⟩, _⟩
    rw [c] at h
    simp [a, b] at h
theorem count_of (h : V.broken_of v k l m = none) : k * ((k - l) - 1) = ((v - k) - 1) * m := by
  unfold V.broken_of at h
  cases hc : decide (k * ((k - l) - 1) = ((v - k) - 1) * m) with
  | true => simpa using hc
  | false => rw [hc, Bool.not_false, cond_true] at h; cases h
/-- what stands in the program's list, and in the law's -/
def In (v : Int) (x : Int × Int × Int) : Prop := Nm v x.1 x.2.1 x.2.2 ∧ 2 ≤ x.1 ∧ x.1 < kTop v ∧ 1 ≤ x.2.2 ∧ x.2.2 < x.1 ∧ V.broken_of v x.1 x.2.1 x.2.2 = none
theorem mem_P (h1 : 3 ≤ v) (h2 : v ≤ 100) (x : Int × Int × Int) : x ∈ (rI 2 (kTop v)).flatMap (P2 v) ↔ In v x := by
  have kt := kTop_eq v
  simp only [List.mem_flatMap, P2, mem_rI, mem_P3]
  constructor
  · rintro ⟨k, ⟨k1, k2⟩, m, ⟨m1, m2⟩, ⟨z, d, b⟩, rfl⟩
    exact ⟨nm_left h1 h2 k1 (by omega) m1 m2 z, k1, k2, m1, m2, b⟩
  · rintro ⟨N, k1, k2, m1, m2, b⟩
    obtain ⟨k, l, m⟩ := x
    dsimp only at *
    have c := count_of b
    have e : leftOf v k m = k * l := by
      unfold leftOf
      rw [← c]
      grind
    have l0 := N.l1
    refine ⟨k, ⟨k1, k2⟩, m, ⟨m1, m2⟩, ⟨?_, ?_, ?_⟩, ?_⟩
    · rw [e]; exact Int.mul_nonneg (by omega) l0
    · rw [e, Int.fmod_eq_emod_of_nonneg _ (by omega)]; simp
    · rw [e, Int.fdiv_eq_ediv_of_nonneg _ (by omega), Int.mul_ediv_cancel_left _ (by omega)]; exact b
    · rw [e, Int.fdiv_eq_ediv_of_nonneg _ (by omega), Int.mul_ediv_cancel_left _ (by omega)]
theorem mem_L (h1 : 3 ≤ v) (h2 : v ≤ 100) (x : Int × Int × Int) : x ∈ (rI 1 (kTop v)).flatMap (L2 v) ↔ In v x := by
  have kt := kTop_eq v
  simp only [List.mem_flatMap, L2, mem_rI, mem_L3]
  constructor
  · rintro ⟨k, ⟨k1, k2⟩, l, ⟨l1, l2⟩, ⟨z, d, b⟩, rfl⟩
    have N : Nm v k l (mOf v k l) := ⟨h1, by omega, by omega, by omega, by omega, by omega, by omega, by omega⟩
    rw [← (broken_ok N).1] at b
    exact ⟨N, by dsimp only; omega, k2, z, d, b⟩
  · rintro ⟨N, k1, k2, m1, m2, b⟩
    obtain ⟨k, l, m⟩ := x
    dsimp only at *
    have c := count_of b
    have e : mOf v k l = m := by
      unfold mOf
      rw [c, Int.fdiv_eq_ediv_of_nonneg _ (by omega), Int.mul_ediv_cancel_left _ (by omega)]
    refine ⟨k, ⟨by omega, k2⟩, l, ⟨N.l1, by have := N.l2; omega⟩, ?_, ?_⟩
    · rw [e, ← (broken_ok N).1]; exact ⟨m1, m2, b⟩
    · rw [e]
theorem srt_lt {lo hi : Int} : (rI lo hi).Pairwise fun a b => a < b := (srt_rI lo hi).imp fun h => by simpa [ltI] using h
theorem nodup_P : ((rI 2 (kTop v)).flatMap (P2 v)).Nodup := by
  rw [List.nodup_iff_pairwise_ne, List.pairwise_flatMap]
  refine ⟨fun k hk => ?_, srt_lt.imp fun {a b} h x hx y hy => ?_⟩
  · unfold P2
    rw [List.pairwise_flatMap]
    refine ⟨fun m hm => ?_, srt_lt.imp fun {a b} h x hx y hy => ?_⟩
    · unfold P3
      cases (decide (leftOf v k m ≥ 0) && (decide ((leftOf v k m).fmod k = 0) && Option.isNone (V.broken_of v k ((leftOf v k m).fdiv k) m))) <;> simp
    · rw [(mem_P3.mp hx).2, (mem_P3.mp hy).2]
      intro e
      have := congrArg (fun z => z.2.2) e
      dsimp only at this
      omega
  · unfold P2 at hx hy
    rw [List.mem_flatMap] at hx hy
    obtain ⟨m1, _, hx⟩ := hx
    obtain ⟨m2, _, hy⟩ := hy
    rw [(mem_P3.mp hx).2, (mem_P3.mp hy).2]
    intro e
    have := congrArg (fun z => z.1) e
    dsimp only at this
    omega
theorem srt_L : Srt (ltP3 ltI ltI ltI) ((rI 1 (kTop v)).flatMap (L2 v)) := by
  unfold Srt
  rw [List.pairwise_flatMap]
  refine ⟨fun k hk => ?_, srt_lt.imp fun {a b} h x hx y hy => ?_⟩
  · unfold L2
    rw [List.pairwise_flatMap]
    refine ⟨fun l hl => ?_, srt_lt.imp fun {a b} h x hx y hy => ?_⟩
    · unfold L3
      cases ((decide (1 ≤ mOf v k l) && decide (mOf v k l < k)) && Option.isNone (V.l_broken v k l (mOf v k l))) <;> simp
    · rw [(mem_L3.mp hx).2, (mem_L3.mp hy).2]
      unfold ltP3
      dsimp only
      rw [show (k == k) = true by simp, show (a == b) = false by simp; omega]
      simpa [ltI] using h
  · unfold L2 at hx hy
    rw [List.mem_flatMap] at hx hy
    obtain ⟨m1, _, hx⟩ := hx
    obtain ⟨m2, _, hy⟩ := hy
    rw [(mem_L3.mp hx).2, (mem_L3.mp hy).2]
    unfold ltP3
    dsimp only
    rw [show (a == b) = false by simp; omega]
    simpa [ltI] using h
theorem feas_ok (h1 : 3 ≤ v) (h2 : v ≤ 100) : V.feasible_numbers (eI v) = .ok (V.l_feasible v) ∧ O.feasible_numbers (eI v) = true ∧ O.l_feasible v = true ∧ (V.l_feasible v).length ≤ 10000 := by
  obtain ⟨p1, p2⟩ := P_fold h1 h2
  obtain ⟨l1, l2⟩ := L_fold h1 h2
  have kt := kTop_eq v
  haveI : Bd v 9 := ⟨by omega⟩
  haveI : Bd (kTop v) 9 := ⟨by omega⟩
  have e : V.feasible_numbers (eI v) = .ok (sortE (ltP3 ltI ltI ltI) ((rI 2 (kTop v)).foldl (V.feasible_numbers_l2 (eI v)) [])) := by
    unfold V.feasible_numbers V.feasible_numbers_r1
    rw [show V.is_integer (eI v) = true from rfl, show Un.un eI (eI v) = v from rfl, show decide (3 ≤ v) = true by simpa using h1, show decide (v ≤ 100) = true by simpa using h2]
    rfl
  have o : O.feasible_numbers (eI v) = true := by
    unfold O.feasible_numbers O.feasible_numbers_r1
    rw [show V.is_integer (eI v) = true from rfl, show O.is_integer (eI v) = true from rfl, show Un.un eI (eI v) = v from rfl, show Un.is eI (eI v) = true from rfl, show decide (3 ≤ v) = true by simpa using h1, show decide (v ≤ 100) = true by simpa using h2, show ((v - (1 : Int)).fdiv 2 + 1) = kTop v from rfl, p2, rg_bd (by decide) (by decide)]
    rfl
  have tot := flat_len (F := L2 v) (c := 100) (rI 1 (kTop v)) fun k hk => L2_len (by have := (mem_rI.mp hk).2; omega)
  rw [Zb.rI_len] at tot
  refine ⟨?_, o, l2, by rw [l1]; omega⟩
  rw [e, p1, l1, sort_eq nodup_P srt_L fun x => (mem_P h1 h2 x).trans (mem_L h1 h2 x).symm]
theorem l10_ok {s : S2} (h1 : 3 ≤ v) (h2 : v ≤ 100) : V.law_k24_l10 s v = .nx s ∧ O.law_k24_l10 s v = true := by
  obtain ⟨a, b, c, d⟩ := feas_ok h1 h2
  generalize hT : V.l_feasible v = T at a d
  have t : V.l_told 11 [eI v] = (S_told, eT (eP3 eI eI eI) T) ∧ O.l_told 11 [eI v] = true := by
    have t1 : V.l_told_t1 11 [eI v] = .ok (S_told, eT (eP3 eI eI eI) T) := by
      show Ex.bind (V.feasible_numbers (eI v)) _ = _
      rw [a]
      rfl
    have t2 : O.l_told_t1 11 [eI v] = true := by
      show (true && (notl (eI v) && O.feasible_numbers (eI v))) = true
      rw [b]
      rfl
    unfold V.l_told O.l_told
    rw [t1, t2]
    exact ⟨rfl, rfl⟩
  have sm : ∀ T : List (Int × Int × Int), sameDs (T.map (eP3 eI eI eI)) (T.map (eP3 eI eI eI)) = true := fun T => by
    induction T with
    | nil => rfl
    | cons x xs ih =>
      rw [List.map_cons, sameDs, ih]
      simp [sameD, sameDs]
  have sm' : sameD (eT (eP3 eI eI eI) T) (eT (eP3 eI eI eI) T) = true := by
    rw [sameD]
    exact sm T
  have pds : ∀ T : List (Int × Int × Int), Mn.pds 15 (T.map (eP3 eI eI eI)) = true := fun T => pds_map (fun x => by simp [Mn.pd, Mn.pds]) T
  have p : pdB (eT (eP3 eI eI eI) T) = true := by
    show Mn.pd 16 (.tup (T.map (eP3 eI eI eI))) = true
    rw [Mn.pd]
    exact pds T
  have z : ∀ T : List (Int × Int × Int), szDs (T.map (eP3 eI eI eI)) = true := fun T => by
    induction T with
    | nil => rfl
    | cons x xs ih =>
      rw [List.map_cons, szDs, ih]
      rfl
  have z' : szD (eT (eP3 eI eI eI) T) = true := by
    rw [szD, z T, List.length_map, sz_of (by omega)]
    rfl
  have i1 : V.l_is_told (S_told, eT (eP3 eI eI eI) T) (eT (eP3 eI eI eI) T) = true := by
    unfold V.l_is_told V.l_same
    rw [sm']
    rfl
  have i2 : O.l_is_told (S_told, eT (eP3 eI eI eI) T) (eT (eP3 eI eI eI) T) = true := by
    unfold O.l_is_told O.l_same
    dsimp only
    rw [p, z']
    rfl
  unfold V.law_k24_l10 O.law_k24_l10 V.l_tells O.l_tells
  rw [hT, t.1, t.2, i1, i2, c]
  exact ⟨rfl, rfl⟩
end
end Ka
open Wk Mn Zb Zs
namespace Ka
/-- a row that may be asked about, one point more too -/
def nmB (x : Int × Int × Int × Int) : Bool := decide (3 ≤ x.1) && decide (x.1 ≤ 399) && decide (1 ≤ x.2.1) && decide (x.2.1 ≤ x.1 - 2) && decide (0 ≤ x.2.2.1) && decide (x.2.2.1 ≤ x.2.1 - 1) && decide (0 ≤ x.2.2.2) && decide (x.2.2.2 ≤ x.2.1)
theorem nm_of {x : Int × Int × Int × Int} (h : nmB x = true) : Nm x.1 x.2.1 x.2.2.1 x.2.2.2 ∧ x.1 ≤ 399 := by
  unfold nmB at h
  simp only [Bool.and_eq_true, decide_eq_true_eq] at h
  obtain ⟨⟨⟨⟨⟨⟨⟨a, b⟩, c⟩, d⟩, e⟩, f⟩, g⟩, i⟩ := h
  exact ⟨⟨a, by omega, c, d, e, f, g, i⟩, b⟩
theorem near_all : ∀ i : Fin 8, ∀ j : Fin 8, ((V.l_near_k24_r2 (4 + (i.1 : Int)) (getI [(5 : Int), 13, 17, 29, 37, 41, 53, 61] (j.1 : Int)) (0, 0)).1.all nmB && (O.l_near_k24_r2 (4 + (i.1 : Int)) (getI [(5 : Int), 13, 17, 29, 37, 41, 53, 61] (j.1 : Int)) (0, 0) && ixB [(5 : Int), 13, 17, 29, 37, 41, 53, 61] (j.1 : Int))) = true := by decide +kernel
theorem near_ok {s : S2} (g : Good s) : ∃ t, (V.l_near_k24 s).2 = t ∧ Good t ∧ O.l_near_k24 s = true ∧ ∀ x ∈ (V.l_near_k24 s).1, nmB x = true := by
  obtain ⟨i, s1, e1, l1, g1, o1⟩ := take_ok g (m := 8) (by decide) (by decide)
  obtain ⟨j, s2, e2, l2, g2, o2⟩ := take_ok g1 (m := 8) (by decide) (by decide)
  have h := near_all ⟨i, by omega⟩ ⟨j, by omega⟩
  simp only [Bool.and_eq_true] at h
  obtain ⟨h1, h2, h3⟩ := h
  unfold V.l_near_k24 O.l_near_k24 V.l_near_k24_r1 O.l_near_k24_r1
  simp only [e1, e2, o1, o2, h3, Bool.true_and]
  refine ⟨s2, rfl, g2, h2, ?_⟩
  exact List.all_eq_true.mp h1
theorem l3_ok {s : S2} {x : Int × Int × Int × Int} (h1 : 3 ≤ x.1) (h2 : x.1 ≤ 400) : V.law_k24_l3 s x = .nx s ∧ O.law_k24_l3 s x = true := by
  unfold V.law_k24_l3 O.law_k24_l3
  by_cases c : (1 ≤ x.2.1 ∧ x.2.1 ≤ x.1 - 2) ∧ (0 ≤ x.2.2.1 ∧ x.2.2.1 < x.2.1) ∧ (0 ≤ x.2.2.2 ∧ x.2.2.2 ≤ x.2.1)
  · obtain ⟨⟨c1, c2⟩, ⟨c3, c4⟩, ⟨c5, c6⟩⟩ := c
    obtain ⟨a, b⟩ := holds_ok (v := x.1) (k := x.2.1) (l := x.2.2.1) (m := x.2.2.2) ⟨h1, h2, c1, c2, c3, by omega, c5, c6⟩
    simp only [a, b, c1, c2, c3, c4, c5, c6, decide_true]
    exact ⟨rfl, rfl⟩
  · have : ((decide (1 ≤ x.2.1) && decide (x.2.1 ≤ x.1 - 2)) && ((decide (0 ≤ x.2.2.1) && decide (x.2.2.1 < x.2.1)) && (decide (0 ≤ x.2.2.2) && decide (x.2.2.2 ≤ x.2.1)))) = false := by
      rw [Bool.eq_false_iff]
      intro z
      simp only [Bool.and_eq_true, decide_eq_true_eq] at z
      exact c z
    generalize (decide (1 ≤ x.2.1) && decide (x.2.1 ≤ x.1 - 2)) = a at *
    generalize (decide (0 ≤ x.2.2.1) && decide (x.2.2.1 < x.2.1)) = b at *
    generalize (decide (0 ≤ x.2.2.2) && decide (x.2.2.2 ≤ x.2.1)) = d at *
    cases a <;> cases b <;> cases d <;> first | exact ⟨rfl, rfl⟩ | cases this
theorem l1_ok {s : S2} {x : Int × Int × Int × Int} (h : nmB x = true) : V.law_k24_l1 s x = .nx s ∧ O.law_k24_l1 s x = true := by
  obtain ⟨N, h2⟩ := nm_of h
  have h1 := N.v1
  haveI := N.bk
  obtain ⟨a, b⟩ := holds_ok N
  obtain ⟨c, d⟩ := forR_same (f := V.law_k24_l3) (ok := O.law_k24_l3) [((x.1 + (1 : Int)), x.2.1, x.2.2.1, x.2.2.2), (x.1, x.2.1, x.2.2.1, (max (0 : Int) (x.2.2.2 - (1 : Int)))), (x.1, x.2.1, (max (0 : Int) (x.2.2.1 - (1 : Int))), x.2.2.2), (x.1, ((x.1 - x.2.1) - (1 : Int)), (((x.1 - ((2 : Int) * x.2.1)) + x.2.2.2) - (2 : Int)), ((x.1 - ((2 : Int) * x.2.1)) + x.2.2.1))] s (fun y hy => by
    simp only [List.mem_cons, List.not_mem_nil, or_false] at hy
    rcases hy with rfl | rfl | rfl | rfl <;> exact l3_ok (by dsimp only; omega) (by dsimp only; omega))
  have a' : V.l_holds_k24 x = true := a
  have b' : O.l_holds_k24 x = true := b
  unfold V.law_k24_l1 O.law_k24_l1 V.law_k24_r2 O.law_k24_r2
  rw [a', b', c, d, fit_bd (by decide)]
  exact ⟨rfl, rfl⟩
theorem l5_ok {s : S2} (g : Good s) (y : Int) : ∃ t, V.law_k24_l5 s y = .nx t ∧ Good t ∧ O.law_k24_l5 s y = true := by
  obtain ⟨i, s1, e1, l1, g1, o1⟩ := take_ok g (m := 2) (by decide) (by decide)
  have hi : ∃ m : Nat, getI [(20 : Int), 398] (i : Int) = (m : Int) ∧ 1 ≤ m ∧ m ≤ 398 ∧ ixB [(20 : Int), 398] (i : Int) = true := by
    match i, l1 with
    | 0, _ => exact ⟨20, rfl, by decide, by decide, rfl⟩
    | 1, _ => exact ⟨398, rfl, by decide, by decide, rfl⟩
    | i + 2, h => omega
  obtain ⟨m, em, m1, m2, om⟩ := hi
  obtain ⟨w, s2, e2, l2, g2, o2⟩ := take_ok g1 (m := (m : Int)) (by omega) (by omega)
  obtain ⟨k', s3, e3, l3, g3, o3⟩ := take_ok g2 (m := ((3 : Int) + (w : Int)) - 2) (by omega) (by omega)
  obtain ⟨l', s4, e4, l4, g4, o4⟩ := take_ok g3 (m := (1 : Int) + (k' : Int)) (by omega) (by omega)
  obtain ⟨n', s5, e5, l5, g5, o5⟩ := take_ok g4 (m := ((1 : Int) + (k' : Int)) + 1) (by omega) (by omega)
  unfold V.law_k24_l5 O.law_k24_l5 V.law_k24_r6 O.law_k24_r6 V.law_k24_r7 O.law_k24_r7 V.law_k24_r8 O.law_k24_r8
  simp only [e1, em, e2, e3, e4, e5, o1, om, o2, o3, o4, o5, Bool.true_and]
  generalize hv : (3 : Int) + (w : Int) = v at *
  generalize hk : (1 : Int) + (k' : Int) = k at *
  generalize hm : Int.fdiv (k * ((k - (l' : Int)) - (1 : Int))) ((v - k) - (1 : Int)) = mm
  have mm0 : 0 ≤ mm := by
    rw [← hm]
    exact Int.fdiv_nonneg (Int.mul_nonneg (by omega) (by omega)) (by omega)
  haveI : Bd v 9 := ⟨by omega⟩
  haveI : Bd k 9 := ⟨by omega⟩
  haveI : Bd (l' : Int) 9 := ⟨by omega⟩
  obtain ⟨c, d⟩ := holds_ok (v := v) (k := k) (l := (l' : Int)) (m := (n' : Int)) ⟨by omega, by omega, by omega, by omega, by omega, by omega, by omega, by omega⟩
  have ab : (decide (mm ≤ k) && !V.l_holds_k24 (v, k, (l' : Int), mm)) = false ∧ imp (decide (mm ≤ k)) (O.l_holds_k24 (v, k, (l' : Int), mm)) = true := by
    by_cases z : mm ≤ k
    · obtain ⟨a, b⟩ := holds_ok (v := v) (k := k) (l := (l' : Int)) (m := mm) ⟨by omega, by omega, by omega, by omega, by omega, by omega, mm0, z⟩
      rw [a, b, Bool.not_true, Bool.and_false]
      exact ⟨rfl, by unfold imp; simp⟩
    · rw [show decide (mm ≤ k) = false by simpa using z]
      exact ⟨rfl, rfl⟩
  rw [ab.1, ab.2, c, d, fit_bd (by decide), fd_bd (show v - k - 1 ≠ 0 by omega) (by decide)]
  exact ⟨s5, rfl, g5, rfl⟩
theorem r15_ok (s : S2) : V.law_k24_r15 s = true ∧ O.law_k24_r15 s = true := ⟨rfl, rfl⟩
theorem r13_ok (s : S2) (d : D) (h : d = .non ∨ d = .bl true ∨ d = .str S_5 ∨ d = eI (-1) ∨ d = eP1 eI 5) : V.law_k24_l12 s d = .nx s ∧ O.law_k24_l12 s d = true := by
  rcases h with rfl | rfl | rfl | rfl | rfl <;> exact ⟨rfl, rfl⟩
theorem r11_ok (s : S2) : V.law_k24_r11 s = true ∧ O.law_k24_r11 s = true := by
  obtain ⟨a, b⟩ := r15_ok s
  obtain ⟨c, d⟩ := forR_same (f := V.law_k24_l12) (ok := O.law_k24_l12) [(.non : D), (.bl true : D), (.str S_5 : D), (eI (-1 : Int)), ((eP1 eI) (5 : Int))] s (fun y hy => by
    simp only [List.mem_cons, List.not_mem_nil, or_false] at hy
    exact r13_ok s y hy)
  unfold V.law_k24_r11 O.law_k24_r11
  rw [c, d]
  exact ⟨a, by rw [Bool.true_and]; exact b⟩
theorem r9_ok {s : S2} (g : Good s) : V.law_k24_r9 s = true ∧ O.law_k24_r9 s = true := by
  obtain ⟨i, s1, e1, l1, g1, o1⟩ := take_ok g (m := 25) (by decide) (by decide)
  obtain ⟨j, s2, e2, l2, g2, o2⟩ := take_ok g1 (m := 43) (by decide) (by decide)
  obtain ⟨a, b⟩ := r11_ok s2
  obtain ⟨c, d⟩ := forR_same (f := V.law_k24_l10) (ok := O.law_k24_l10) [(3 : Int) + (i : Int), (3 : Int) + (j : Int), 16] s2 (fun y hy => by
    simp only [List.mem_cons, List.not_mem_nil, or_false] at hy
    rcases hy with rfl | rfl | rfl <;> exact l10_ok (by omega) (by omega))
  unfold V.law_k24_r9 O.law_k24_r9
  simp only [e1, e2, o1, o2, c, d, Bool.true_and]
  exact ⟨a, b⟩
end Ka
namespace Mk24
open Ka
theorem holds : ∀ s : S2, 0 ≤ s.1 → 0 ≤ s.2 → s.2 < 2147483647 → V.law_k24 s = true ∧ O.law_k24 s = true := fun s h1 h2 h3 => by
  obtain ⟨t, e, g, o, k⟩ := near_ok (s := s) ⟨h1, h2, h3⟩
  obtain ⟨a, b⟩ := forR_same (f := V.law_k24_l1) (ok := O.law_k24_l1) (V.l_near_k24 s).1 (V.l_near_k24 s).2 fun x hx => l1_ok (k x hx)
  obtain ⟨u, c, g2, d⟩ := forR_inv (f := V.law_k24_l5) (ok := O.law_k24_l5) Good (rI 0 8) t g fun x _ s g => l5_ok g x
  obtain ⟨p, q⟩ := r9_ok g2
  have hr : rgB 0 8 = true := by decide
  have r4 : V.law_k24_r4 t = true ∧ O.law_k24_r4 t = true := by
    unfold V.law_k24_r4 O.law_k24_r4
    rw [c, d, hr]
    exact ⟨p, q⟩
  unfold V.law_k24 O.law_k24
  rw [a, b, o, e]
  exact ⟨r4.1, r4.2⟩
end Mk24
namespace Ek24
open PySem PySem.Spec PyProof.Rows L2
def top (i : Nat) : Stmt := PySem.Challenge.pw_dualroads_k24_whole_numbers_that_webs_ma.main.body.getD i (.Pass ⟨0, 0, 0, 0⟩)
def sts : List Stmt := [top 5, top 9, top 10, top 11, top 12, top 13, top 14, top 15, top 16, top 17, top 18, top 19, top 21, top 22, top 23, top 24, top 25, top 26, top 27, top 28, top 29, top 30, top 31, top 32, top 33, top 34, top 35, top 36, top 37]
abbrev hk : PySem.W.Hook := Mn.hkR 4 Gk24.md sts
def ob (s : PySem.W.SharedT) : He.AlX := Mn.obR 4 Gk24.md sts (HandSHeadRun.getT s)
theorem ob_eq (s : PySem.W.SharedT) : ob s = hk.obs s.abs := Mn.obR_eq (HandSHeadRun.getT_eq s)
theorem run (w : World) : HandSHeadRun.RunEq (PySem.W.OpenLaw.row PySem.Challenge.rw_dualroads_k24_whole_numbers_that_webs_ma) (PySem.W.view (PySem.W.OpenLaw.row PySem.Challenge.rw_dualroads_k24_whole_numbers_that_webs_ma).prog [37]) hk ob 4000 ((["Fault", "Malformed", "Refused", "is_integer", "MOST_NUMBERS", "MOST_LISTED", "root_of", "check_numbers", "spread_of", "is_whole", "is_two_squares", "values_of", "is_below_krein", "broken_of", "broken_condition", "web_eigenvalues", "feasible_numbers", "_law_state", "_law_take", "_law_same", "_law_told", "_law_is_told", "_law_is_raised", "_law_tells", "_law_raises"] : List PySem.Str) ++ (["_law_frac", "_law_root", "_law_is_square", "_law_parts", "_law_broken", "_law_holds", "_law_feasible", "_law_near"] : List PySem.Str)) w := by
  intro os
  kernel_rfl
theorem plain : Mn.Plain Gk24.T 22 28 := Wk.law_plain (T := Gk24.T) (V := V.law_k24) (O := O.law_k24) rfl rfl (fun wf hwf st s w0 hB h0 h => Gk24.w_law (wf := wf) hwf hB h0 h) Mk24.holds
theorem text : Mn.textB Gk24.md Gk24.T Gk24.NN sts = true := by decide +kernel
end Ek24
open PySem PySem.W PySem.Calls PyProof.Rows
theorem PySem.Challenge.cw_dualroads_k24_whole_numbers_that_webs_ma_holds : PySem.Challenge.rw_dualroads_k24_whole_numbers_that_webs_ma.Holds := by
  w_on; o_law
  refine HandSHeadRun.head_any (r := OpenLaw.row PySem.Challenge.rw_dualroads_k24_whole_numbers_that_webs_ma) (q := view (OpenLaw.row PySem.Challenge.rw_dualroads_k24_whole_numbers_that_webs_ma).prog [37]) (H := Ek24.hk) (ob := Ek24.ob) (M := 4000) (loose := ((["Fault", "Malformed", "Refused", "is_integer", "MOST_NUMBERS", "MOST_LISTED", "root_of", "check_numbers", "spread_of", "is_whole", "is_two_squares", "values_of", "is_below_krein", "broken_of", "broken_condition", "web_eigenvalues", "feasible_numbers", "_law_state", "_law_take", "_law_same", "_law_told", "_law_is_told", "_law_is_raised", "_law_tells", "_law_raises"] : List PySem.Str) ++ (["_law_frac", "_law_root", "_law_is_square", "_law_parts", "_law_broken", "_law_holds", "_law_feasible", "_law_near"] : List PySem.Str))) (d := HandSHeadRun.topDef (OpenLaw.row PySem.Challenge.rw_dualroads_k24_whole_numbers_that_webs_ma).prog 37) (kwd := []) Ek24.ob_eq
    (by kernel_rfl) (fun s => by kernel_rfl) Ek24.run (by kernel_rfl) (by kernel_rfl) (by kernel_rfl) (by rfl) (by first | assumption | decide +kernel) (by decide +kernel) ⟨rfl, rfl, rfl, rfl, rfl, by decide +kernel⟩ ?hw ?hc
  case hw => w_witness2
  case hc =>
    exact Mn.law_walk (l := PySem.Challenge.rw_dualroads_k24_whole_numbers_that_webs_ma) (md := Gk24.md) (T := Gk24.T) (NN := Gk24.NN) (sts := Ek24.sts) (k := 22) (g := 28) (f := Gk24.f28) (x := "script") rfl (by kernel_rfl) ⟨rfl, by decide, by decide⟩ Ek24.text (by kernel_rfl) (by kernel_rfl) rfl (by kernel_rfl) (fun N h => by cases h; rfl) Ek24.plain
