import PyProof.Rows.All
import Wide.All
import OpenK.AllK
import Wide.FinOn
import HandS.Base
import HandS.Call
import HandS.List
import HandS.Comp
import HandS.TupAny
import HandS.TupMul
import HandS.WideBits
import HandS.IsInst
import HandS.Conv
import HandS.ExcOwn
import HandS.Iter
import HandS.Zip
import HandS.Words
import KE.GoesEnum
import HandS.TryOnly
import HandS.CallLocal
import HandS.Style
import HandS.TryMany
import HandS.ExcField
import HandS.WordsExc
import HandS.Defaults
import HandS.Head0
import HandS.Head1
import HandS.Head2
import HandS.HeadEnd
import HandS.HeadHook1
import HandS.HeadHook2
import HandS.HeadHook3
import HandS.HeadHook4
import HandS.EndBits
import PySem.Challenge.RW_dualroads_k04_whole_krawtchouk_numbers
set_option Elab.async false
set_option linter.all false
set_option maxRecDepth 1000000
set_option maxHeartbeats 0
/-! Mn1: values, stores, a small language, its run. -/
namespace Mn
open PySem

/-- a value: scalars, tuples by their items, a list just made (tl), a locked list (kl), a list that no one changes any more (il), a list in the store (lr), a def of the module (fn) -/
inductive D where
  | non | bl (b : Bool) | int (i : Int) | str (s : List Nat) | tup (xs : List D) | tl (xs : List D) | kl (xs : List D) | il (xs : List D) | lr (n : Nat) | fn (g : Nat)

/-- what the store holds: a list -/
inductive Ob where
  | lst (xs : List D)

/-- not a list just made -/
def notl : D → Bool
  | .tl _ => false
  | _ => true

abbrev Sto := List Ob
abbrev Rho := List (Option D)

/-- what a run gives -/
inductive Out (α : Type) where
  | ok (a : α) (st : Sto) | ex (c : Nat) (p : List D) (st : Sto) | no

def Out.bind {α β : Type} (x : Out α) (f : α → Sto → Out β) : Out β := match x with
  | .ok a st => f a st
  | .ex c p st => .ex c p st
  | .no => .no

/-- types that isinstance is asked for -/
inductive Ty where
  | int | bool | str | tuple | list
  deriving DecidableEq

/-- operations on values -/
inductive Pr where
  | add | sub | mul | fdiv | mod | neg
  | eq | ne | lt | le | gt | ge | isN | notN | isin | notin
  | len | abs | toInt | all | any | sum | tuple | list | max | min | max2 | min2
  | ix | sl (lo hi : Bool)
  | append | pop0 | pop1 | rev
  | inst (ts : List Ty)
  deriving DecidableEq

mutual
/-- expressions -/
inductive E where
  | var (i : Nat) | cst (d : D)
  | tupE (es : List E) | lstE (es : List E)
  | prim (p : Pr) (es : List E)
  | meth (p : Pr) (o : E) (es : List E)
  | frz (e : E)
  | and (a b : E) | or (a b : E) | not (a : E) | ite (c a b : E)
  | chain (p q : Pr) (a b c : E) | sl3 (a b c : E)
  | call (g : Nat) (es : List E) | callv (i : Nat) (es : List E) | calle (f : E) (es : List E)
  | rngL (t : Bool) (es : List E)
  | comp (elt : E) (tg : Tg) (src : Src) (cs : List E) (own : List Nat)
  | comp2 (elt : E) (tg : Tg) (src : Src) (cs : List E) (tg1 : Tg) (src1 : Src) (cs1 : List E) (own own1 : List Nat)
/-- targets -/
inductive Tg where
  | nm (i : Nat) | tp (ts : List Tg) | sb (o i : E)
/-- what is walked -/
inductive Src where
  | ex (e : E) | rng (es : List E) | enu (e : E) | zip (a b : E)
end

/-- a suite of an except clause: a return of written values (some) and of what the error bears (none) -/
inductive Su where
  | one (o : Option D) | tup (os : List (Option D))

/-- statements -/
inductive S where
  | ex (e : E) | ret (e : E) | ret0 | pas | brk | cnt
  | asg (t : Tg) (e : E)
  | aug (i : Nat) (p : Pr) (e : E)
  | augS (o i : E) (p : Pr) (e : E)
  | ifS (c : E) (a b : List S)
  | whl (c : E) (b : List S)
  | for (t : Tg) (src : Src) (b : List S)
  | rse (c : Nat) (es : List E)
  | tryS (b : List S) (hs : List (Nat × Su))

/-! ### values -/
def lstOf (st : Sto) : D → Option (List D)
  | .tl xs => some xs
  | .kl xs => some xs
  | .il xs => some xs
  | .lr n => (match st[n]? with
    | some (.lst xs) => some xs
    | none => none)
  | _ => none
/-- .. that is no locked one -/
def mlOf (st : Sto) : D → Option (List D)
  | .tl xs => some xs
  | .lr n => (match st[n]? with
    | some (.lst xs) => some xs
    | none => none)
  | _ => none
/-- .. or one that no one changes -/
def rdOf (st : Sto) : D → Option (List D)
  | .il xs => some xs
  | d => mlOf st d
def seqOf (st : Sto) : D → Option (List D)
  | .tup xs => some xs
  | d => lstOf st d

/-- a list just made, when it is kept: laid into the store -/
def mat (d : D) (st : Sto) : D × Sto := match d with
  | .tl xs => (.lr st.length, st ++ [.lst xs])
  | d => (d, st)
/-- a list just made, when no one changes it any more -/
def frzD : D → D
  | .tl xs => .il xs
  | d => d
def mats : List D → Sto → List D × Sto
  | [], st => ([], st)
  | d :: ds, st => ((mat d st).1 :: (mats ds (mat d st).2).1, (mats ds (mat d st).2).2)

def mapO {α β : Type} (f : α → Option β) : List α → Option (List β)
  | [] => some []
  | x :: xs => match f x, mapO f xs with
    | some y, some ys => some (y :: ys)
    | _, _ => none

/-- the data of a value, for == -/
def toP (st : Sto) : Nat → D → Option PyData
  | 0, _ => none
  | n + 1, d => match d with
    | .non => some .none
    | .bl b => some (.bool b)
    | .int i => some (.int i)
    | .str s => if PySem.PyData.strOk ⟨s.toArray⟩ then some (.str ⟨s.toArray⟩) else none
    | .tup xs => (match mapO (toP st n) xs with
      | some ps => some (.tuple ps)
      | none => none)
    | .fn _ => none
    | d => (match lstOf st d with
      | some xs => (match mapO (toP st n) xs with
        | some ps => some (.list ps)
        | none => none)
      | none => none)

def eqD (st : Sto) (a b : D) : Option Bool := match a, b with
  | .int i, .int j => some (decide (i = j))
  | .bl i, .bl j => some (decide (i = j))
  | .non, .non => some true
  | a, b => (match toP st 16 a, toP st 16 b with
    | some p, some q => some (PyData.eqv p q)
    | _, _ => none)

def isTup : D → Bool
  | .tup _ => true
  | _ => false
def isNon : D → Bool
  | .non => true
  | _ => false
def flat : D → Bool
  | .non => true
  | .bl _ => true
  | .int _ => true
  | .str _ => true
  | _ => false
def eqF : D → D → Bool
  | .non, .non => true
  | .bl a, .bl b => a == b
  | .bl a, .int b => (if a then 1 else 0) == b
  | .int a, .bl b => a == (if b then 1 else 0)
  | .int a, .int b => a == b
  | .str a, .str b => a == b
  | _, _ => false

def allB : List D → Option (List Bool) := mapO fun d => match d with
  | .bl b => some b
  | _ => none
def allI : List D → Option (List Int) := mapO fun d => match d with
  | .int i => some i
  | _ => none

def maxI : Int → List Int → Int
  | m, [] => m
  | m, x :: xs => maxI (if x > m then x else m) xs
def minI : Int → List Int → Int
  | m, [] => m
  | m, x :: xs => minI (if x < m then x else m) xs

/-- the type of a value -/
def tyOf (st : Sto) : D → Option (Option Ty)
  | .non => some none
  | .bl _ => some (some .bool)
  | .int _ => some (some .int)
  | .str _ => some (some .str)
  | .tup _ => some (some .tuple)
  | .tl _ => some (some .list)
  | .kl _ => some (some .list)
  | .il _ => some (some .list)
  | .lr n => (match st[n]? with
    | some _ => some (some .list)
    | none => none)
  | .fn _ => none
def subTy : Ty → Ty → Bool
  | .bool, .int => true
  | a, b => decide (a = b)

def optI : D → Option Int
  | .int i => some i
  | _ => none

/-- the items between two places -/
def cut {α : Type} (xs : List α) (lo hi : Option Int) : List α := (xs.drop (HT.sIx xs.length 0 lo)).take (HT.sIx xs.length xs.length hi - HT.sIx xs.length 0 lo)

def semSl (d : D) (lo hi : Option Int) (st : Sto) : Option (D × Sto) := match d with
  | .tup xs => some (.tup (cut xs lo hi), st)
  | d => (match lstOf st d with
    | some xs => some (.tl (cut xs lo hi), st)
    | none => none)

/-- one operation -/
def sem1 (p : Pr) (a : D) (st : Sto) : Option (D × Sto) := match p with
  | .neg => (match a with
    | .int i => some (.int (-i), st)
    | _ => none)
  | .len => (match seqOf st a with
    | some xs => some (.int xs.length, st)
    | none => none)
  | .abs => (match a with
    | .int i => some (.int (if i < 0 then -i else i), st)
    | _ => none)
  | .toInt => (match a with
    | .int i => some (.int i, st)
    | .bl b => some (.int (if b then 1 else 0), st)
    | _ => none)
  | .all => (match lstOf st a with
    | some xs => (match allB xs with
      | some bs => some (.bl (bs.all id), st)
      | none => none)
    | none => none)
  | .any => (match lstOf st a with
    | some xs => (match allB xs with
      | some bs => some (.bl (bs.any id), st)
      | none => none)
    | none => none)
  | .sum => (match lstOf st a with
    | some xs => (match allI xs with
      | some ns => some (.int ns.sum, st)
      | none => none)
    | none => none)
  | .max => (match lstOf st a with
    | some xs => (match allI xs with
      | some (n :: ns) => some (.int (maxI n ns), st)
      | _ => none)
    | none => none)
  | .min => (match lstOf st a with
    | some xs => (match allI xs with
      | some (n :: ns) => some (.int (minI n ns), st)
      | _ => none)
    | none => none)
  | .tuple => (match seqOf st a with
    | some xs => some (.tup xs, st)
    | none => none)
  | .list => (match seqOf st a with
    | some xs => some (.tl xs, st)
    | none => none)
  | .rev => (match a with
    | .tup xs => some (.tup xs.reverse, st)
    | a => (match lstOf st a with
      | some xs => some (.tl xs.reverse, st)
      | none => none))
  | .pop0 => (match a with
    | .lr n => (match st[n]? with
      | some (.lst xs) => (match xs[xs.length - 1]? with
        | some x => some (x, st.set n (.lst xs.dropLast))
        | none => none)
      | _ => none)
    | _ => none)
  | .inst ts => (match tyOf st a with
    | some (some t) => some (.bl (ts.any (subTy t)), st)
    | some none => some (.bl false, st)
    | none => none)
  | _ => none

def isArith : Pr → Bool
  | .add => true | .sub => true | .mul => true | .fdiv => true | .mod => true | _ => false
/-- int op int -/
def semI (p : Pr) (i j : Int) : Option D := match p with
  | .add => some (.int (i + j))
  | .sub => some (.int (i - j))
  | .mul => if Builtin.Int.intBits i + Builtin.Int.intBits j ≤ 134217728 then some (.int (i * j)) else none
  | .fdiv => if j ≠ 0 ∧ j.natAbs.log2 < 9000 then some (.int (i.fdiv j)) else none
  | .mod => if j ≠ 0 then some (.int (i.fmod j)) else none
  | .lt => some (.bl (decide (i < j)))
  | .le => some (.bl (decide (i ≤ j)))
  | .gt => some (.bl (decide (j < i)))
  | .ge => some (.bl (decide (j ≤ i)))
  | .max2 => some (.int (if j > i then j else i))
  | .min2 => some (.int (if j < i then j else i))
  | _ => none
def sem2 (p : Pr) (a b : D) (st : Sto) : Option (D × Sto) := match p with
  | .eq => (match eqD st a b with
    | some r => some (.bl r, st)
    | none => none)
  | .ne => (match eqD st a b with
    | some r => some (.bl (!r), st)
    | none => none)
  | .isN => (match b with
    | .non => some (.bl (isNon a), st)
    | _ => none)
  | .notN => (match b with
    | .non => some (.bl (!isNon a), st)
    | _ => none)
  | .isin => (match seqOf st b with
    | some xs => if flat a && xs.all flat then some (.bl (xs.any fun y => eqF y a), st) else none
    | none => none)
  | .notin => (match seqOf st b with
    | some xs => if flat a && xs.all flat then some (.bl (!xs.any fun y => eqF y a), st) else none
    | none => none)
  | .ix => (match b with
    | .int i => (match seqOf st a with
      | some xs => (match L2.atI xs i with
        | some d => some (d, st)
        | none => none)
      | none => none)
    | _ => none)
  | .append => (match a with
    | .lr n => (match st[n]? with
      | some (.lst xs) => if xs.length < sizeLine then some (.non, (mat b st).2.set n (.lst (xs ++ [(mat b st).1]))) else none
      | _ => none)
    | _ => none)
  | .pop1 => (match a, b with
    | .lr n, .int i => (match st[n]? with
      | some (.lst xs) => (match L2.ixN xs.length i with
        | some j => (match xs[j]? with
          | some d => some (d, st.set n (.lst (xs.eraseIdx j)))
          | none => none)
        | none => none)
      | _ => none)
    | _, _ => none)
  | p => (match a, b with
    | .int i, .int j => (match semI p i j with
      | some d => some (d, st)
      | none => none)
    | .tup xs, .tup ys => (match p with
      | .add => if xs.length + ys.length ≤ sizeLine then some (.tup (xs ++ ys), st) else none
      | _ => none)
    | .tup xs, .int k => (match p with
      | .mul => if xs.isEmpty = false ∧ 2 ≤ k ∧ k ≤ 1000 ∧ xs.length ≤ 1000 then some (.tup (List.replicate k.toNat xs).flatten, st) else none
      | _ => none)
    | a, .int k => (match p with
      | .mul => (match mlOf st a with
        | some xs => if -(2 ^ 63) ≤ k ∧ k < 2 ^ 63 ∧ xs.length * k.toNat ≤ sizeLine then some (.tl (List.replicate k.toNat xs).flatten, st) else none
        | none => none)
      | _ => none)
    | a, b => (match p with
      | .add => (match rdOf st a, rdOf st b with
        | some xs, some ys => if xs.length + ys.length ≤ sizeLine then some (.tl (xs ++ ys), st) else none
        | _, _ => none)
      | _ => none))
def semP (p : Pr) (ds : List D) (st : Sto) : Option (D × Sto) := match ds with
  | [a] => (match p with
    | .sl false false => semSl a none none st
    | p => sem1 p a st)
  | [a, b] => (match p with
    | .sl true false => (match b with
      | .int i => semSl a (some i) none st
      | _ => none)
    | .sl false true => (match b with
      | .int i => semSl a none (some i) st
      | _ => none)
    | p => sem2 p a b st)
  | _ => none

/-! ### what is walked -/
/-- items by turns: fixed ones, a list of the store as it stands, a range, pairs -/
inductive Sv where
  | fix (xs : List D) | cell (n : Nat) | rng (lo c : Int) | enu (s : Sv) | zip (s t : Sv)
def Sv.item : Sv → Sto → Nat → Option D
  | .fix xs, _, i => xs[i]?
  | .cell n, st, i => (match lstOf st (.lr n) with
    | some xs => xs[i]?
    | none => none)
  | .rng lo c, _, i => some (.int (lo + i * c))
  | .enu s, st, i => (match s.item st i with
    | some d => some (.tup [.int i, d])
    | none => none)
  | .zip s t, st, i => (match s.item st i, t.item st i with
    | some d, some e => some (.tup [d, e])
    | _, _ => none)
/-- behind the last turn there is none more -/
def Sv.ends : Sv → Sto → Nat → Bool
  | .fix xs, _, n => xs.length == n
  | .cell m, st, n => (match lstOf st (.lr m) with
    | some xs => xs.length == n
    | none => false)
  | .rng _ _, _, _ => true
  | .enu s, st, n => s.ends st n
  | .zip s t, st, n => s.ends st n || t.ends st n

def svOf (st : Sto) : D → Option (Sv × Nat)
  | .tup xs => some (.fix xs, xs.length)
  | .tl xs => some (.fix xs, xs.length)
  | .kl xs => some (.fix xs, xs.length)
  | .il xs => some (.fix xs, xs.length)
  | .lr n => (match lstOf st (.lr n) with
    | some xs => some (.cell n, xs.length)
    | none => none)
  | _ => none

def inR (i : Int) : Bool := decide (-(2 ^ 62) ≤ i) && decide (i < 2 ^ 62)
def rngOf : List D → Option (Sv × Nat)
  | [.int j] => if inR j then some (.rng 0 1, j.toNat) else none
  | [.int i, .int j] => if inR i && inR j then some (.rng i 1, (j - i).toNat) else none
  | [.int i, .int j, .int c] => if inR i && inR j && c == -1 then some (.rng i (-1), (i - j).toNat) else none
  | _ => none

/-- list(range(..)), tuple(range(..)) -/
def rgD (a b : Int) : List D := (List.range (b - a).toNat).map fun i => D.int (a + (i : Nat))
def rgOk (a b : Int) : Bool := inR a && inR b && Nat.ble (b - a).toNat 16777216
def rgL (t : Bool) : List D → Option D
  | [.int j] => if rgOk 0 j then some (if t then .tup (rgD 0 j) else .tl (rgD 0 j)) else none
  | [.int i, .int j] => if rgOk i j then some (if t then .tup (rgD i j) else .tl (rgD i j)) else none
  | _ => none

def wipe (ρ : Rho) : List Nat → Rho
  | [] => ρ
  | v :: vs => (wipe ρ vs).set v none

/-! ### turns -/
/-- a comprehension's turns: acc what is made so far -/
def turns (sv : Sv) (body : D → List D → Sto → Out (List D)) : Nat → Nat → List D → Sto → Out (List D)
  | 0, i, acc, st => if sv.ends st i then .ok acc st else .no
  | k + 1, i, acc, st => match sv.item st i with
    | some d => (body d acc st).bind fun acc st => turns sv body k (i + 1) acc st
    | none => .no

/-- where a statement leads -/
inductive Fl where
  | nx | brk | cnt | ret (d : D)

def loopF (sv : Sv) (body : D → Rho → Sto → Out (Fl × Rho)) : Nat → Nat → Rho → Sto → Out (Fl × Rho)
  | 0, i, ρ, st => if sv.ends st i then .ok (.nx, ρ) st else .no
  | k + 1, i, ρ, st => match sv.item st i with
    | some d => (body d ρ st).bind fun fr st => match fr with
      | (.nx, ρ) => loopF sv body k (i + 1) ρ st
      | (.cnt, ρ) => loopF sv body k (i + 1) ρ st
      | (.brk, ρ) => .ok (.nx, ρ) st
      | (.ret d, ρ) => .ok (.ret d, ρ) st
    | none => .no
def loopW (c : Rho → Sto → Out Bool) (body : Rho → Sto → Out (Fl × Rho)) : Nat → Rho → Sto → Out (Fl × Rho)
  | 0, _, _ => .no
  | k + 1, ρ, st => (c ρ st).bind fun t st => if t then (body ρ st).bind fun fr st => (match fr with
      | (.nx, ρ) => loopW c body k ρ st
      | (.cnt, ρ) => loopW c body k ρ st
      | (.brk, ρ) => .ok (.nx, ρ) st
      | (.ret d, ρ) => .ok (.ret d, ρ) st)
    else .ok (.nx, ρ) st

/-- o[i] = v -/
def setD (o i v : D) (st : Sto) : Option Sto := match o, i with
  | .lr n, .int k => (match st[n]? with
    | some (.lst xs) => (match L2.ixN xs.length k with
      | some j => some ((mat v st).2.set n (.lst (xs.set j (mat v st).1)))
      | none => none)
    | _ => none)
  | _, _ => none

/-! ### the run of an expression -/
/-- calls of defs, while loops' bound -/
structure Cf where
  call : Nat → List D → Sto → Out D
  wf : Nat
  nf : Nat

def binds (x : Option (D × Sto)) : Out D := match x with
  | some (d, st) => .ok d st
  | none => .no

def noEx {α : Type} : Out α → Out α
  | .ex _ _ _ => .no
  | x => x

/-- a test -/
def asB (d : D) (st : Sto) : Out Bool := match d with
  | .bl b => .ok b st
  | _ => .no
/-- what a method may be asked of -/
def rcv (p : Pr) (x : D) : Bool := match p, x with
  | .append, .lr _ => true
  | .pop0, .lr _ => true
  | .pop1, .lr _ => true
  | _, _ => false
mutual
def evE (cf : Cf) : E → Rho → Sto → Out D
  | .var i, ρ, st => (match ρ[i]? with
    | some (some d) => .ok d st
    | _ => .no)
  | .cst d, _, st => .ok d st
  | .tupE es, ρ, st => (evEs cf es ρ st).bind fun ds st => .ok (.tup (mats ds st).1) (mats ds st).2
  | .lstE es, ρ, st => (evEs cf es ρ st).bind fun ds st => .ok (.tl (mats ds st).1) (mats ds st).2
  | .prim p es, ρ, st => (evEs cf es ρ st).bind fun ds st => binds (semP p ds st)
  | .meth p o es, ρ, st => (evE cf o ρ st).bind fun x st => if rcv p x then (evEs cf es ρ st).bind fun ds st => binds (semP p (x :: ds) st) else .no
  | .frz e, ρ, st => (evE cf e ρ st).bind fun d st => .ok (frzD d) st
  | .and a b, ρ, st => ((evE cf a ρ st).bind asB).bind fun c st => if c then evE cf b ρ st else .ok (.bl false) st
  | .or a b, ρ, st => ((evE cf a ρ st).bind asB).bind fun c st => if c then .ok (.bl true) st else evE cf b ρ st
  | .not a, ρ, st => ((evE cf a ρ st).bind asB).bind fun c st => .ok (.bl (!c)) st
  | .ite c a b, ρ, st => ((evE cf c ρ st).bind asB).bind fun t st => if t then evE cf a ρ st else evE cf b ρ st
  | .chain p q a b c, ρ, st => (evE cf a ρ st).bind fun x st => (evE cf b ρ st).bind fun y st => (match x, y with
    | .int i, .int j => (match semI p i j with
      | some (.bl true) => (evE cf c ρ st).bind fun z st => binds (semP q [.int j, z] st)
      | some (.bl false) => .ok (.bl false) st
      | _ => .no)
    | _, _ => .no)
  | .sl3 a b c, ρ, st => (evE cf a ρ st).bind fun x st => (evE cf b ρ st).bind fun y st => (match y with
    | .int i => (evE cf c ρ st).bind fun z st => (match z with
      | .int j => binds (semSl x (some i) (some j) st)
      | _ => .no)
    | _ => .no)
  | .call g es, ρ, st => (evEs cf es ρ st).bind fun ds st => cf.call g (mats ds st).1 (mats ds st).2
  | .callv i es, ρ, st => (match ρ[i]? with
    | some (some (.fn g)) => if Nat.blt g cf.nf then (evEs cf es ρ st).bind fun ds st => cf.call g (mats ds st).1 (mats ds st).2 else .no
    | _ => .no)
  | .calle f es, ρ, st => (evE cf f ρ st).bind fun x st => (match x with
    | .fn g => if Nat.blt g cf.nf then (evEs cf es ρ st).bind fun ds st => cf.call g (mats ds st).1 (mats ds st).2 else .no
    | _ => .no)
  | .rngL t es, ρ, st => (evEs cf es ρ st).bind fun ds st => (match rgL t ds with
    | some d => .ok d st
    | none => .no)
  | .comp elt tg src cs own, ρ, st => (evSrc cf src ρ st).bind fun sv st =>
      noEx ((turns sv.1 (fun d acc st => (evTg cf tg d (wipe ρ own) st).bind fun ρ st => (evCs cf cs ρ st).bind fun b st =>
        if b then (if acc.length < sizeLine then (evE cf elt ρ st).bind fun x st => .ok (acc ++ [(mat x st).1]) (mat x st).2 else .no) else .ok acc st) sv.2 0 [] st).bind fun acc st => .ok (.tl acc) st)
  | .comp2 elt tg src cs tg1 src1 cs1 own own1, ρ, st => (evSrc cf src ρ st).bind fun sv st =>
      noEx ((turns sv.1 (fun d acc st => (evTg cf tg d (wipe ρ own) st).bind fun ρ st => (evCs cf cs ρ st).bind fun b st =>
        if b then (evSrc cf src1 ρ st).bind fun sv1 st => turns sv1.1 (fun d acc st => (evTg cf tg1 d (wipe ρ own1) st).bind fun ρ st => (evCs cf cs1 ρ st).bind fun b st =>
          if b then (if acc.length < sizeLine then (evE cf elt ρ st).bind fun x st => .ok (acc ++ [(mat x st).1]) (mat x st).2 else .no) else .ok acc st) sv1.2 0 acc st
        else .ok acc st) sv.2 0 [] st).bind fun acc st => .ok (.tl acc) st)
def evEs (cf : Cf) : List E → Rho → Sto → Out (List D)
  | [], _, st => .ok [] st
  | e :: es, ρ, st => (evE cf e ρ st).bind fun d st => (evEs cf es ρ st).bind fun ds st => .ok (d :: ds) st
def evCs (cf : Cf) : List E → Rho → Sto → Out Bool
  | [], _, st => .ok true st
  | e :: _, ρ, st => (evE cf e ρ st).bind asB
def evTg (cf : Cf) : Tg → D → Rho → Sto → Out Rho
  | .nm i, d, ρ, st => .ok (ρ.set i (some (mat d st).1)) (mat d st).2
  | .tp ts, d, ρ, st => (match seqOf st d with
    | some xs => if xs.length = ts.length then evTgs cf ts xs ρ st else .no
    | none => .no)
  | .sb o i, d, ρ, st => (evE cf o ρ st).bind fun x st => (evE cf i ρ st).bind fun y st => (match setD x y d st with
    | some st => .ok ρ st
    | none => .no)
def evTgs (cf : Cf) : List Tg → List D → Rho → Sto → Out Rho
  | [], _, ρ, st => .ok ρ st
  | t :: ts, ds, ρ, st => (match ds with
    | d :: ds => (evTg cf t d ρ st).bind fun ρ st => evTgs cf ts ds ρ st
    | [] => .no)
def evSrc (cf : Cf) : Src → Rho → Sto → Out (Sv × Nat)
  | .ex e, ρ, st => (evE cf e ρ st).bind fun d st => (match svOf st d with
    | some r => .ok r st
    | none => .no)
  | .rng es, ρ, st => (evEs cf es ρ st).bind fun ds st => (match rngOf ds with
    | some r => .ok r st
    | none => .no)
  | .enu e, ρ, st => (evE cf e ρ st).bind fun d st => (match svOf st d with
    | some (s, n) => .ok (.enu s, n) st
    | none => .no)
  | .zip a b, ρ, st => (evE cf a ρ st).bind fun x st => (evE cf b ρ st).bind fun y st => (match isTup x == isTup y, svOf st x, svOf st y with
    | true, some (s, n), some (t, m) => .ok (.zip s t, min n m) st
    | _, _, _ => .no)
end

/-! ### the run of a statement -/
def suD (p : List D) : Option D → Option D
  | some d => some d
  | none => p.head?
def suRet (p : List D) : Su → Option D
  | .one o => suD p o
  | .tup os => (match mapO (suD p) os with
    | some ds => some (.tup ds)
    | none => none)
/-- the clauses, one after the other -/
def handle (c : Nat) (p : List D) (ρ : Rho) (st : Sto) : List (Nat × Su) → Out (Fl × Rho)
  | [] => .ex c p st
  | (k, su) :: hs => if k = c then (match suRet p su with
      | some d => .ok (.ret d, ρ) st
      | none => .no) else handle c p ρ st hs
def seqS (x : Out (Fl × Rho)) (f : Rho → Sto → Out (Fl × Rho)) : Out (Fl × Rho) := x.bind fun fr st => match fr with
  | (.nx, ρ) => f ρ st
  | r => .ok r st
mutual
def exS (cf : Cf) : S → Rho → Sto → Out (Fl × Rho)
  | .ex e, ρ, st => (evE cf e ρ st).bind fun _ st => .ok (.nx, ρ) st
  | .ret e, ρ, st => (evE cf e ρ st).bind fun d st => .ok (.ret d, ρ) st
  | .ret0, ρ, st => .ok (.ret .non, ρ) st
  | .pas, ρ, st => .ok (.nx, ρ) st
  | .brk, ρ, st => .ok (.brk, ρ) st
  | .cnt, ρ, st => .ok (.cnt, ρ) st
  | .asg t e, ρ, st => (evE cf e ρ st).bind fun d st => (evTg cf t d ρ st).bind fun ρ st => .ok (.nx, ρ) st
  | .aug i p e, ρ, st => (match ρ[i]? with
    | some (some x) => (evE cf e ρ st).bind fun y st => (match x, y with
      | .int a, .int b => (match semI p a b with
        | some d => .ok (.nx, ρ.set i (some d)) st
        | none => .no)
      | _, _ => .no)
    | _ => .no)
  | .augS o i p e, ρ, st => (evE cf o ρ st).bind fun x st => (evE cf i ρ st).bind fun k st => (match mlOf [] x, sem2 .ix x k st with
    | none, some (y, _) => (evE cf e ρ st).bind fun z st => (match y, z with
      | .int a, .int b => (match semI p a b with
        | some d => (match setD x k d st with
          | some st => .ok (.nx, ρ) st
          | none => .no)
        | none => .no)
      | _, _ => .no)
    | _, _ => .no)
  | .ifS c a b, ρ, st => ((evE cf c ρ st).bind asB).bind fun t st => if t then exSs cf a ρ st else exSs cf b ρ st
  | .whl c b, ρ, st => loopW (fun ρ st => (evE cf c ρ st).bind asB) (fun ρ st => exSs cf b ρ st) cf.wf ρ st
  | .for t src b, ρ, st => (evSrc cf src ρ st).bind fun sv st => loopF sv.1 (fun d ρ st => (evTg cf t d ρ st).bind fun ρ st => exSs cf b ρ st) sv.2 0 ρ st
  | .rse c es, ρ, st => (evEs cf es ρ st).bind fun ds st => if ds.all notl then .ex c ds st else .no
  | .tryS b hs, ρ, st => (match exSs cf b ρ st with
    | .ex c p st => handle c p ρ st hs
    | x => x)
def exSs (cf : Cf) : List S → Rho → Sto → Out (Fl × Rho)
  | [], ρ, st => .ok (.nx, ρ) st
  | s :: ss, ρ, st => seqS (exS cf s ρ st) fun ρ st => exSs cf ss ρ st
end

/-! ### defs -/
mutual
/-- it names lists of the store below n alone -/
def below (n : Nat) : D → Bool
  | .tup xs => belows n xs
  | .tl xs => belows n xs
  | .kl xs => belows n xs
  | .il xs => belows n xs
  | .lr k => Nat.blt k n
  | _ => true
def belows (n : Nat) : List D → Bool
  | [] => true
  | d :: ds => below n d && belows n ds
end
def Ob.below (n : Nat) : Ob → Bool
  | .lst xs => belows n xs
/-- the store cut to its first n -/
def clean (n : Nat) (st : Sto) : Bool := (st.take n).all (Ob.below n)
/-- what a call gives back: lists that nobody names any more are let go -/
def retn (n : Nat) (d : D) (st : Sto) : Out D :=
  if clean n st then
    (match d with
    | .lr k => if Nat.blt k n then .ok d (st.take n) else (match st[k]? with
      | some (.lst xs) => if belows n xs then .ok (.tl xs) (st.take n) else .ok d st
      | _ => .ok d st)
    | d => if below n d then .ok d (st.take n) else .ok d st)
  else .ok d st
structure Fn where
  np : Nat
  nl : Nat
  body : List S
def fin (n : Nat) : Out (Fl × Rho) → Out D
  | .ok (.ret d, _) st => retn n d st
  | .ok (.nx, _) st => retn n .non st
  | .ex c p st => if clean n st && belows n p then .ex c p (st.take n) else .ex c p st
  | _ => .no
def callF (T : List Fn) (wf : Nat) : Nat → Nat → List D → Sto → Out D
  | 0, _, _, _ => .no
  | k + 1, g, ds, st => match T[g]? with
    | some f => if ds.length = f.np then fin st.length (exSs ⟨callF T wf k, wf, T.length⟩ f.body (ds.map some ++ List.replicate (f.nl - f.np) none) st) else .no
    | none => .no
end Mn
/-! Mn2: how values and stores stand for the layer's values and heaps. -/
namespace Mn
open PySem PySem.Spec PyProof.Rows L2

/-- the written part, where the defs stand, the exception classes: their address, their field -/
structure Ws where
  K : PySem.W.Frag
  fa : Nat → Addr
  ec : Nat → Option (Addr × Option Str)

section
variable (ws : Ws)
/-- a locked list, or a list of the written part -/
def FzL (H : Hp) (a : Addr) (vs : List V) : Prop := (∃ o, H a = some (.frz o (.lst vs))) ∨
  ∃ (o : Obj) (its : Array Value) (n : Nat), ws.K.lookup a = some o ∧ o.cls = .type "list" ∧ o.dict = none ∧ o.data = .seq its n ∧ its.size ≤ sizeLine ∧ Vals vs its.toList
mutual
inductive DV (m : List Addr) (H : Hp) : D → V → Prop where
  | non : DV m H .non .non
  | bl (b : Bool) : DV m H (.bl b) (.bl b)
  | int (i : Int) : DV m H (.int i) (.int i)
  | str (s : List Nat) : DV m H (.str s) (.str ⟨s.toArray⟩)
  | tup {a : Addr} {vs : List V} {xs : List D} : SqT ws.K H a vs → DVs m H xs vs → DV m H (.tup xs) (.ref a)
  | tl {a : Addr} {vs : List V} {xs : List D} : a ∉ m → H a = some (.lst vs) → DVs m H xs vs → DV m H (.tl xs) (.ref a)
  | kl {a : Addr} {vs : List V} {xs : List D} : FzL ws H a vs → DVs m H xs vs → DV m H (.kl xs) (.ref a)
  | il {a : Addr} {o : Obj} {vs : List V} {xs : List D} : H a = some (.frz o (.lst vs)) → DVs m H xs vs → DV m H (.il xs) (.ref a)
  | lr {n : Nat} {a : Addr} : m[n]? = some a → DV m H (.lr n) (.ref a)
  | fn (g : Nat) : DV m H (.fn g) (.ref (ws.fa g))
inductive DVs (m : List Addr) (H : Hp) : List D → List V → Prop where
  | nil : DVs m H [] []
  | cons {d : D} {v : V} {ds : List D} {vs : List V} : DV m H d v → notl d = true → DVs m H ds vs → DVs m H (d :: ds) (v :: vs)
end
def OV (m : List Addr) (H : Hp) : Ob → Addr → Prop
  | .lst xs, a => ∃ vs, H a = some (.lst vs) ∧ DVs ws m H xs vs
structure Rl (m : List Addr) (st : Sto) (H : Hp) : Prop where
  len : m.length = st.length
  nd : m.Nodup
  obj : ∀ (n : Nat) (o : Ob) (a : Addr), st[n]? = some o → m[n]? = some a → OV ws m H o a
def RlE (m : List Addr) (H : Hp) (ρ : Rho) (σ : L2.St) : Prop := ρ.length = σ.length ∧ ∀ (i : Nat) (d : D), ρ[i]? = some (some d) → ∃ v, σ[i]? = some (some v) ∧ DV ws m H d v ∧ notl d = true
end
/-- from one state to a later one -/
structure Step (m : List Addr) (H : Hp) (m' : List Addr) (H' : Hp) : Prop where
  pre : ∃ l, m' = m ++ l
  new : ∀ a, a ∈ m' → a ∉ m → H a = none
  keep : ∀ a o, a ∉ m → H a = some o → H' a = some o
  tups : ∀ a xs, H a = some (.tup xs) → H' a = some (.tup xs)
  frz : ∀ a o u, H a = some (.frz o u) → H' a = some (.frz o u)
  there : ∀ a, H' a = none → H a = none
theorem Step.refl (m : List Addr) (H : Hp) : Step m H m H := ⟨⟨[], by simp⟩, fun _ h n => absurd h n, fun _ _ _ h => h, fun _ _ h => h, fun _ _ _ h => h, fun _ h => h⟩
theorem Step.sub {m m' : List Addr} {H H' : Hp} (s : Step m H m' H') {a : Addr} (h : a ∈ m) : a ∈ m' := by
  obtain ⟨l, e⟩ := s.pre
  rw [e]
  exact List.mem_append_left _ h
theorem Step.notin {m m' : List Addr} {H H' : Hp} (s : Step m H m' H') {a : Addr} {o : HO} (h : a ∉ m) (e : H a = some o) : a ∉ m' := fun h' => by
  have := s.new a h' h
  rw [e] at this
  cases this
theorem Step.trans {m m1 m2 : List Addr} {H H1 H2 : Hp} (a : Step m H m1 H1) (b : Step m1 H1 m2 H2) : Step m H m2 H2 := by
  refine ⟨?_, fun x h n => ?_, fun x o n e => ?_, fun x xs e => b.tups _ _ (a.tups _ _ e), fun x o u e => b.frz _ _ _ (a.frz _ _ _ e), fun x e => a.there x (b.there x e)⟩
  · obtain ⟨l, e⟩ := a.pre
    obtain ⟨l', e'⟩ := b.pre
    exact ⟨l ++ l', by rw [e', e, List.append_assoc]⟩
  · by_cases h1 : x ∈ m1
    · exact a.new x h1 n
    · exact a.there x (b.new x h h1)
  · exact b.keep x o (a.notin n e) (a.keep x o n e)
theorem Step.get {m m' : List Addr} {H H' : Hp} (s : Step m H m' H') {n : Nat} {a : Addr} (h : m[n]? = some a) : m'[n]? = some a := by
  obtain ⟨l, e⟩ := s.pre
  rw [e, List.getElem?_append_left (List.getElem?_eq_some_iff.mp h).1]
  exact h
theorem Step.sqT {K : PySem.W.Frag} {m m' : List Addr} {H H' : Hp} (s : Step m H m' H') {a : Addr} {vs : List V} (h : SqT K H a vs) : SqT K H' a vs := by
  rcases h with (h | ⟨o, h⟩) | h
  · exact .inl (.inl (s.tups _ _ h))
  · exact .inl (.inr ⟨o, s.frz _ _ _ h⟩)
  · exact .inr h
/-- a new object, not in the store -/
theorem Step.alloc {m : List Addr} {H : Hp} {p : Addr} {o : HO} (h : H p = none) : Step m H m (upd H p o) := by
  refine ⟨⟨[], by simp⟩, fun _ h n => absurd h n, fun a u _ e => ?_, fun a xs e => ?_, fun a o u e => ?_, fun a e => ?_⟩
  · rw [upd_ne (ne_of_none e h)]; exact e
  · rw [upd_ne (ne_of_none e h)]; exact e
  · rw [upd_ne (ne_of_none e h)]; exact e
  · by_cases z : a = p
    · rw [z]; exact h
    · rw [upd_ne z] at e; exact e
/-- a list of the store changed -/
theorem Step.write {m : List Addr} {H : Hp} {p : Addr} {vs ws : List V} (hm : p ∈ m) (h : H p = some (.lst vs)) : Step m H m (upd H p (.lst ws)) := by
  have ne : ∀ {a u}, H a = some u → u ≠ .lst vs → a ≠ p := fun {a u} e d z => by subst z; rw [h] at e; exact d (Option.some.inj e).symm
  refine ⟨⟨[], by simp⟩, fun _ h n => absurd h n, fun a u n e => ?_, fun a xs e => ?_, fun a o u e => ?_, fun a e => ?_⟩
  · rw [upd_ne (fun z => n (by rw [z]; exact hm))]; exact e
  · rw [upd_ne (ne e (by intro z; cases z))]; exact e
  · rw [upd_ne (ne e (by intro z; cases z))]; exact e
  · by_cases z : a = p
    · rw [z, upd_same] at e; cases e
    · rw [upd_ne z] at e; exact e
section
variable {ws : Ws} {m m' : List Addr} {H H' : Hp} {st st' : Sto}
theorem FzL.mono {a : Addr} {vs : List V} (s : Step m H m' H') (h : FzL ws H a vs) : FzL ws H' a vs := by
  rcases h with ⟨o, h⟩ | h
  · exact .inl ⟨o, s.frz _ _ _ h⟩
  · exact .inr h
mutual
theorem DV.mono (s : Step m H m' H') : ∀ {d : D} {v : V}, DV ws m H d v → DV ws m' H' d v
  | _, _, .non => .non
  | _, _, .bl b => .bl b
  | _, _, .int i => .int i
  | _, _, .str x => .str x
  | _, _, .tup h r => .tup (s.sqT h) (DVs.mono s r)
  | _, _, .tl n h r => .tl (s.notin n h) (s.keep _ _ n h) (DVs.mono s r)
  | _, _, .kl h r => .kl (FzL.mono s h) (DVs.mono s r)
  | _, _, .il h r => .il (s.frz _ _ _ h) (DVs.mono s r)
  | _, _, .lr h => .lr (s.get h)
  | _, _, .fn g => .fn g
theorem DVs.mono (s : Step m H m' H') : ∀ {ds : List D} {vs : List V}, DVs ws m H ds vs → DVs ws m' H' ds vs
  | _, _, .nil => .nil
  | _, _, .cons h n r => .cons (DV.mono s h) n (DVs.mono s r)
end
theorem DVs.length : ∀ {ds : List D} {vs : List V}, DVs ws m H ds vs → ds.length = vs.length
  | _, _, .nil => rfl
  | _, _, .cons _ _ r => by rw [List.length_cons, List.length_cons, r.length]
theorem DVs.get : ∀ {ds : List D} {vs : List V} {i : Nat} {d : D}, DVs ws m H ds vs → ds[i]? = some d → ∃ v, vs[i]? = some v ∧ DV ws m H d v ∧ notl d = true
  | _, _, _, _, .nil, e => by simp at e
  | _, _, 0, d, .cons h n _, e => by simp at e; subst e; exact ⟨_, rfl, h, n⟩
  | _, _, i + 1, d, .cons _ _ r, e => by
    obtain ⟨v, h1, h2⟩ := DVs.get (i := i) r (by simpa using e)
    exact ⟨v, by simpa using h1, h2⟩
theorem DVs.append : ∀ {ds es : List D} {vs us : List V}, DVs ws m H ds vs → DVs ws m H es us → DVs ws m H (ds ++ es) (vs ++ us)
  | _, _, _, _, .nil, q => q
  | _, _, _, _, .cons h n r, q => .cons h n (r.append q)
theorem DVs.take : ∀ {ds : List D} {vs : List V} (n : Nat), DVs ws m H ds vs → DVs ws m H (ds.take n) (vs.take n)
  | _, _, 0, _ => .nil
  | _, _, _ + 1, .nil => .nil
  | _, _, n + 1, .cons h k r => .cons h k (r.take n)
theorem DVs.drop : ∀ {ds : List D} {vs : List V} (n : Nat), DVs ws m H ds vs → DVs ws m H (ds.drop n) (vs.drop n)
  | _, _, 0, r => r
  | _, _, _ + 1, .nil => .nil
  | _, _, n + 1, .cons _ _ r => r.drop n
theorem DVs.set {d : D} {v : V} (h : DV ws m H d v) (n : notl d = true) : ∀ {ds : List D} {vs : List V} (i : Nat), DVs ws m H ds vs → DVs ws m H (ds.set i d) (vs.set i v)
  | _, _, _, .nil => .nil
  | _, _, 0, .cons _ _ r => .cons h n r
  | _, _, i + 1, .cons k l r => .cons k l (DVs.set h n i r)
theorem DVs.eraseIdx : ∀ {ds : List D} {vs : List V} (i : Nat), DVs ws m H ds vs → DVs ws m H (ds.eraseIdx i) (vs.eraseIdx i)
  | _, _, _, .nil => .nil
  | _, _, 0, .cons _ _ r => r
  | _, _, i + 1, .cons k l r => .cons k l (DVs.eraseIdx i r)
theorem DVs.flat {ds : List D} {vs : List V} (r : DVs ws m H ds vs) : ∀ n : Nat, DVs ws m H (List.replicate n ds).flatten (List.replicate n vs).flatten
  | 0 => .nil
  | n + 1 => by
    rw [List.replicate_succ, List.replicate_succ, List.flatten_cons, List.flatten_cons]
    exact r.append (DVs.flat r n)
theorem DVs.cut {ds : List D} {vs : List V} (r : DVs ws m H ds vs) (lo hi : Option Int) : DVs ws m H (cut ds lo hi) (cutV vs lo hi) := by
  unfold Mn.cut cutV
  rw [r.length]
  exact (r.drop _).take _
theorem FzL.sq {a : Addr} {vs : List V} (h : FzL ws H a vs) : SqL ws.K H a vs := by
  rcases h with ⟨o, h⟩ | h
  · exact .inl (.inr ⟨o, h⟩)
  · exact .inr h
theorem RlE.mono {ρ : Rho} {σ : L2.St} (s : Step m H m' H') (h : RlE ws m H ρ σ) : RlE ws m' H' ρ σ := ⟨h.1, fun i d e => by
  obtain ⟨v, e1, r, n⟩ := h.2 i d e
  exact ⟨v, e1, r.mono s, n⟩⟩
theorem RlE.set {ρ : Rho} {σ : L2.St} {d : D} {v : V} (h : RlE ws m H ρ σ) (r : DV ws m H d v) (n : notl d = true) (i : Nat) : RlE ws m H (ρ.set i (some d)) (σ.set i (some v)) := by
  refine ⟨by simp [h.1], fun j e q => ?_⟩
  by_cases hj : i = j
  · subst hj
    have hi : i < ρ.length := by
      have := (List.getElem?_eq_some_iff.mp q).1
      simpa using this
    rw [List.getElem?_set_self hi] at q
    cases q
    exact ⟨v, List.getElem?_set_self (by rw [← h.1]; exact hi), r, n⟩
  · rw [List.getElem?_set_ne hj] at q
    rw [List.getElem?_set_ne hj]
    exact h.2 j e q
theorem RlE.none {ρ : Rho} {σ : L2.St} (h : RlE ws m H ρ σ) (i : Nat) : RlE ws m H (ρ.set i Option.none) (σ.set i Option.none) := by
  refine ⟨by simp [h.1], fun j e q => ?_⟩
  by_cases hj : i = j
  · subst hj
    have hi : i < ρ.length := by
      have := (List.getElem?_eq_some_iff.mp q).1
      simpa using this
    rw [List.getElem?_set_self hi] at q
    cases q
  · rw [List.getElem?_set_ne hj] at q
    rw [List.getElem?_set_ne hj]
    exact h.2 j e q
theorem RlE.wipe {ρ : Rho} {σ : L2.St} (h : RlE ws m H ρ σ) : ∀ own : List Nat, RlE ws m H (Mn.wipe ρ own) (L2.wipe σ own)
  | [] => h
  | v :: vs => RlE.none (RlE.wipe h vs) v
/-- all that the store's lists say stays -/
theorem Rl.mono (r : Rl ws m st H) (s : Step m H m H') (k : ∀ (n : Nat) (o : Ob) (a : Addr), st[n]? = some o → m[n]? = some a → ∀ vs, H a = some (.lst vs) → H' a = some (.lst vs)) : Rl ws m st H' := by
  refine ⟨r.len, r.nd, fun n o a e1 e2 => ?_⟩
  have q := r.obj n o a e1 e2
  cases o with
  | lst xs =>
    obtain ⟨vs, h, t⟩ := q
    exact ⟨vs, k n _ a e1 e2 vs h, t.mono s⟩
theorem Rl.alloc {p : Addr} {o : HO} (r : Rl ws m st H) (h : H p = none) : Rl ws m st (upd H p o) := r.mono (Step.alloc h) fun n u a _ _ vs e => by
  rw [upd_ne (ne_of_none e h)]
  exact e
theorem Rl.at (r : Rl ws m st H) {n : Nat} {o : Ob} (e : st[n]? = some o) : ∃ a, m[n]? = some a ∧ OV ws m H o a := by
  have hn : n < m.length := by
    rw [r.len]
    exact (List.getElem?_eq_some_iff.mp e).1
  exact ⟨m[n], List.getElem?_eq_getElem hn, r.obj n o _ e (List.getElem?_eq_getElem hn)⟩
theorem nodup_eq {l : List Addr} (h : l.Nodup) {i j : Nat} {a : Addr} (e1 : l[i]? = some a) (e2 : l[j]? = some a) : i = j := by
  obtain ⟨h1, q1⟩ := List.getElem?_eq_some_iff.mp e1
  obtain ⟨h2, q2⟩ := List.getElem?_eq_some_iff.mp e2
  exact (List.getElem_inj h).mp (q1.trans q2.symm)
theorem Rl.free {p : Addr} (r : Rl ws m st H) (h : H p = none) : p ∉ m := fun hm => by
  obtain ⟨n, hn⟩ := List.mem_iff_getElem?.mp hm
  have h1 : n < st.length := by
    rw [← r.len]
    exact (List.getElem?_eq_some_iff.mp hn).1
  have q := r.obj n _ p (List.getElem?_eq_getElem h1) hn
  cases e : st[n] with
  | lst xs =>
    rw [e] at q
    obtain ⟨vs, z, _⟩ := q
    rw [h] at z
    cases z
/-- a list of the store is changed -/
theorem Rl.write {n : Nat} {a : Addr} {xs ys : List D} {vs us : List V} (r : Rl ws m st H) (e : st[n]? = some (.lst xs)) (ha : m[n]? = some a) (hH : H a = some (.lst vs)) (t : DVs ws m H ys us) : Rl ws m (st.set n (.lst ys)) (upd H a (.lst us)) := by
  have hm : a ∈ m := List.mem_of_getElem? ha
  have s : Step m H m (upd H a (.lst us)) := Step.write hm hH
  have hn : n < st.length := (List.getElem?_eq_some_iff.mp e).1
  refine ⟨by simp [r.len], r.nd, fun k o b e1 e2 => ?_⟩
  by_cases hk : n = k
  · subst hk
    rw [ha] at e2
    cases e2
    rw [List.getElem?_set_self hn] at e1
    cases e1
    exact ⟨us, upd_same, t.mono s⟩
  · rw [List.getElem?_set_ne hk] at e1
    have hb : b ≠ a := fun z => hk (nodup_eq r.nd ha (z ▸ e2))
    have q := r.obj k o b e1 e2
    cases o with
    | lst zs =>
      obtain ⟨ws', h, t'⟩ := q
      exact ⟨ws', by rw [upd_ne hb]; exact h, t'.mono s⟩
/-- lists that are kept: the store's addresses may grow -/
theorem Step.more {l : List Addr} (s : Step m H m' H') (f : ∀ a ∈ l, H a = none) : Step m H (m' ++ l) H' := by
  refine ⟨?_, fun a h n => ?_, s.keep, s.tups, s.frz, s.there⟩
  · obtain ⟨k, e⟩ := s.pre
    exact ⟨k ++ l, by rw [e, List.append_assoc]⟩
  · rcases List.mem_append.mp h with h | h
    · exact s.new a h n
    · exact f a h
mutual
theorem DV.up (l : List Addr) : ∀ {d : D} {v : V}, notl d = true → DV ws m H d v → DV ws (m ++ l) H d v
  | _, _, _, .non => .non
  | _, _, _, .bl b => .bl b
  | _, _, _, .int i => .int i
  | _, _, _, .str x => .str x
  | _, _, _, .tup h r => .tup h (DVs.up l r)
  | _, _, n, .tl _ _ _ => by cases n
  | _, _, _, .kl h r => .kl h (DVs.up l r)
  | _, _, _, .il h r => .il h (DVs.up l r)
  | _, _, _, .lr h => .lr (by rw [List.getElem?_append_left (List.getElem?_eq_some_iff.mp h).1]; exact h)
  | _, _, _, .fn g => .fn g
theorem DVs.up (l : List Addr) : ∀ {ds : List D} {vs : List V}, DVs ws m H ds vs → DVs ws (m ++ l) H ds vs
  | _, _, .nil => .nil
  | _, _, .cons h n r => .cons (DV.up l n h) n (DVs.up l r)
end
theorem RlE.up {ρ : Rho} {σ : L2.St} (l : List Addr) (h : RlE ws m H ρ σ) : RlE ws (m ++ l) H ρ σ := ⟨h.1, fun i d e => by
  obtain ⟨v, e1, r, n⟩ := h.2 i d e
  exact ⟨v, e1, r.up l n, n⟩⟩
/-- a list just made goes into the store -/
theorem Rl.put {a : Addr} {xs : List D} {vs : List V} (r : Rl ws m st H) (n : a ∉ m) (e : H a = some (.lst vs)) (t : DVs ws m H xs vs) : Rl ws (m ++ [a]) (st ++ [.lst xs]) H := by
  refine ⟨by simp [r.len], ?_, fun k o b e1 e2 => ?_⟩
  · refine List.nodup_append.mpr ⟨r.nd, by simp, fun x hx y hy => ?_⟩
    have : y = a := by simpa using hy
    rw [this]
    rintro rfl
    exact n hx
  · by_cases hk : k < st.length
    · rw [List.getElem?_append_left hk] at e1
      rw [List.getElem?_append_left (by rw [r.len]; exact hk)] at e2
      have q := r.obj k o b e1 e2
      cases o with
      | lst zs =>
        obtain ⟨us, h, t'⟩ := q
        exact ⟨us, h, t'.up _⟩
    · have hk' : k = st.length := by
        have := (List.getElem?_eq_some_iff.mp e1).1
        simp at this
        omega
      subst hk'
      rw [← r.len] at e2
      simp at e1 e2
      subst e1 e2
      exact ⟨vs, e, t.up _⟩
end
/-! ### what a run leaves -/
/-- a list just made was not there -/
def Fr (H : Hp) (d : D) (v : V) : Prop := notl d = false → ∀ a, v = .ref a → H a = none
abbrev RD (ws : Ws) (H0 : Hp) (m : List Addr) (H : Hp) (d : D) (v : V) : Prop := DV ws m H d v ∧ Fr H0 d v
/-- the addresses of the lists just made, among arguments -/
def tls : List D → List V → List Addr
  | .tl _ :: ds, .ref a :: vs => a :: tls ds vs
  | _ :: ds, _ :: vs => tls ds vs
  | _, _ => []
inductive DAs (ws : Ws) (m : List Addr) (H : Hp) : List D → List V → Prop where
  | nil : DAs ws m H [] []
  | cons {d : D} {v : V} {ds : List D} {vs : List V} : DV ws m H d v → DAs ws m H ds vs → DAs ws m H (d :: ds) (v :: vs)
structure RA (ws : Ws) (H0 : Hp) (m : List Addr) (H : Hp) (ds : List D) (vs : List V) : Prop where
  as : DAs ws m H ds vs
  nd : (tls ds vs).Nodup
  fr : ∀ a ∈ tls ds vs, H0 a = none
section
variable {ws : Ws} {m m' m1 : List Addr} {H H' H0 H1 : Hp} {st st' : Sto}
theorem DAs.mono (s : Step m H m' H') : ∀ {ds : List D} {vs : List V}, DAs ws m H ds vs → DAs ws m' H' ds vs
  | _, _, .nil => .nil
  | _, _, .cons h r => .cons (h.mono s) (DAs.mono s r)
theorem DAs.length : ∀ {ds : List D} {vs : List V}, DAs ws m H ds vs → ds.length = vs.length
  | _, _, .nil => rfl
  | _, _, .cons _ r => by rw [List.length_cons, List.length_cons, r.length]
theorem tls_there : ∀ {ds : List D} {vs : List V}, DAs ws m H ds vs → ∀ a ∈ tls ds vs, a ∉ m ∧ ∃ us, H a = some (.lst us)
  | _, _, .nil, a, h => by simp [tls] at h
  | _, _, .cons (ds := ds) (vs := vs) h r, a, ha => by
    cases h with
    | tl n e t =>
      rcases List.mem_cons.mp ha with rfl | ha
      · exact ⟨n, _, e⟩
      · exact tls_there r a ha
    | non => exact tls_there r a ha
    | bl b => exact tls_there r a ha
    | int i => exact tls_there r a ha
    | str x => exact tls_there r a ha
    | tup _ _ => exact tls_there r a ha
    | kl _ _ => exact tls_there r a ha
    | il _ _ => exact tls_there r a ha
    | lr _ => exact tls_there r a ha
    | fn _ => exact tls_there r a ha
theorem RA.cons {d : D} {v : V} {ds : List D} {vs : List V} (h : RD ws H0 m H d v) (s : Step m H m' H') (s0 : ∀ a, H a = none → H0 a = none) (r : RA ws H m' H' ds vs) : RA ws H0 m' H' (d :: ds) (v :: vs) := by
  have hd := h.1.mono s
  refine ⟨.cons hd r.as, ?_, ?_⟩
  · cases hq : h.1 with
    | tl n e t =>
      refine List.nodup_cons.mpr ⟨fun z => ?_, r.nd⟩
      have := r.fr _ z
      rw [e] at this
      cases this
    | _ => exact r.nd
  · cases hq : h.1 with
    | tl n e t =>
      intro a ha
      rcases List.mem_cons.mp ha with rfl | ha
      · exact h.2 rfl _ rfl
      · exact s0 a (r.fr a ha)
    | _ => exact fun a ha => s0 a (r.fr a ha)
/-- one value kept -/
theorem mat_ok {d : D} {v : V} (r : Rl ws m st H) (h : DV ws m H d v) : Rl ws (m ++ tls [d] [v]) (mat d st).2 H ∧ DV ws (m ++ tls [d] [v]) H (mat d st).1 v ∧ notl (mat d st).1 = true := by
  cases h with
  | tl n e t =>
    refine ⟨r.put n e t, .lr ?_, rfl⟩
    rw [← r.len]
    simp [tls]
  | non => exact ⟨by simpa [tls, mat] using r, .non, rfl⟩
  | bl b => exact ⟨by simpa [tls, mat] using r, .bl b, rfl⟩
  | int i => exact ⟨by simpa [tls, mat] using r, .int i, rfl⟩
  | str x => exact ⟨by simpa [tls, mat] using r, .str x, rfl⟩
  | tup a b => exact ⟨by simpa [tls, mat] using r, by simpa [tls, mat] using DV.tup a b, rfl⟩
  | kl a b => exact ⟨by simpa [tls, mat] using r, by simpa [tls, mat] using DV.kl a b, rfl⟩
  | il a b => exact ⟨by simpa [tls, mat] using r, by simpa [tls, mat] using DV.il a b, rfl⟩
  | lr a => exact ⟨by simpa [tls, mat] using r, by simpa [tls, mat] using DV.lr a, rfl⟩
  | fn g => exact ⟨by simpa [tls, mat] using r, .fn g, rfl⟩
theorem tls_cons (d : D) (v : V) (ds : List D) (vs : List V) : tls (d :: ds) (v :: vs) = tls [d] [v] ++ tls ds vs := by
  cases d <;> cases v <;> simp [tls]
theorem DAs.up {l : List Addr} : ∀ {ds : List D} {vs : List V}, DAs ws m H ds vs → (∀ a ∈ tls ds vs, a ∉ l) → DAs ws (m ++ l) H ds vs
  | _, _, .nil, _ => .nil
  | d :: ds, v :: vs, .cons h r, f => by
    rw [tls_cons] at f
    refine .cons ?_ (DAs.up r fun a ha => f a (List.mem_append_right _ ha))
    cases h with
    | tl n e t =>
      refine .tl (fun z => ?_) e (t.up _)
      rcases List.mem_append.mp z with z | z
      · exact n z
      · exact f _ (by simp [tls]) z
    | non => exact .non
    | bl b => exact .bl b
    | int i => exact .int i
    | str x => exact .str x
    | tup a b => exact .tup a (b.up _)
    | kl a b => exact .kl a (b.up _)
    | il a b => exact .il a (b.up _)
    | lr a => exact .lr (by rw [List.getElem?_append_left (List.getElem?_eq_some_iff.mp a).1]; exact a)
    | fn g => exact .fn g
/-- .. several -/
theorem mats_ok : ∀ {ds : List D} {vs : List V} {m : List Addr} {st : Sto}, Rl ws m st H → DAs ws m H ds vs → (tls ds vs).Nodup → Rl ws (m ++ tls ds vs) (mats ds st).2 H ∧ DVs ws (m ++ tls ds vs) H (mats ds st).1 vs
  | _, _, m, st, r, .nil, _ => by simpa [tls, mats] using ⟨r, DVs.nil⟩
  | d :: ds, v :: vs, m, st, r, .cons h t, n => by
    rw [tls_cons] at n ⊢
    obtain ⟨n1, n2, n3⟩ := List.nodup_append.mp n
    obtain ⟨r1, h1, k1⟩ := mat_ok r h
    obtain ⟨r2, h2⟩ := mats_ok r1 (t.up fun a ha z => n3 a z a ha rfl) n2
    rw [← List.append_assoc]
    exact ⟨r2, .cons (h1.up _ k1) k1 h2⟩
theorem tls_one {d : D} {v : V} (h : Fr H0 d v) : ∀ a ∈ tls [d] [v], H0 a = none := fun a ha => by
  cases d with
  | tl xs =>
    cases v with
    | ref b =>
      have : a = b := by simpa [tls] using ha
      rw [this]
      exact h rfl b rfl
    | _ => simp [tls] at ha
  | _ => cases v <;> simp [tls] at ha
end
end Mn
/-! Mn3: the operations are the model's. -/
namespace Mn
open PySem PySem.Spec PyProof.Rows L2

/-- what a context must have for the operations -/
structure Gp (ws : Ws) (X : Cx) : Prop where
  K : X.K = ws.K
  calm : X.calm = true
  units : X.A.units + 66 < cLine

/-- an operation at values, asked by the small run -/
def rP (ws : Ws) (p : Pr) : List V → Hp → VK → Prop := fun vs H Q => ∃ (H0 : Hp) (m0 m : List Addr) (st : Sto) (ds : List D) (d : D) (st' : Sto), Step m0 H0 m H ∧ Rl ws m st H ∧ RA ws H0 m H ds vs ∧
  semP p ds st = some (d, st') ∧ ∀ m' H' v, Step m0 H0 m' H' → Rl ws m' st' H' → RD ws H0 m' H' d v → Q v H'
abbrev rP2 (ws : Ws) (p : Pr) : R2 := fun x y H Q => rP ws p [x, y] H Q

section
variable {ws : Ws} {X : Cx} {H0 H : Hp} {m0 m : List Addr} {st : Sto} {d a b : D} {x y v : V} {Q : VK}
theorem fr_of (h : notl d = true) : Fr H0 d v := fun h' => by rw [h] at h'; cases h'
theorem DAs.one {ds : List D} (h : DAs ws m H ds [x]) : ∃ a, ds = [a] ∧ DV ws m H a x := by
  cases h with
  | cons h t => cases t; exact ⟨_, rfl, h⟩
theorem DAs.two {ds : List D} (h : DAs ws m H ds [x, y]) : ∃ a b, ds = [a, b] ∧ DV ws m H a x ∧ DV ws m H b y := by
  cases h with
  | cons h t =>
    obtain ⟨b, rfl, h2⟩ := t.one
    exact ⟨_, b, rfl, h, h2⟩

/-! ### lists and tuples as they are read -/
theorem lst_ok (r : Rl ws m st H) (h : DV ws m H a x) {xs : List D} (e : lstOf st a = some xs) : ∃ p vs, x = .ref p ∧ SqL ws.K H p vs ∧ DVs ws m H xs vs := by
  cases h with
  | tl n q t => cases e; exact ⟨_, _, rfl, SqL.of q, t⟩
  | kl q t => cases e; exact ⟨_, _, rfl, q.sq, t⟩
  | il q t => cases e; exact ⟨_, _, rfl, .inl (.inr ⟨_, q⟩), t⟩
  | lr q =>
    rename_i n p
    simp only [lstOf] at e
    cases h1 : st[n]? with
    | none => rw [h1] at e; cases e
    | some o =>
      cases o with
      | lst ys =>
        rw [h1] at e
        cases e
        obtain ⟨p', q', vs, z, t⟩ := r.at h1
        rw [q] at q'
        cases q'
        exact ⟨p, vs, rfl, SqL.of z, t⟩
  | non => cases e
  | bl _ => cases e
  | int _ => cases e
  | str _ => cases e
  | tup _ _ => cases e
  | fn _ => cases e
theorem mlst_ok (r : Rl ws m st H) (h : DV ws m H a x) {xs : List D} (e : mlOf st a = some xs) : ∃ p vs, x = .ref p ∧ H p = some (.lst vs) ∧ DVs ws m H xs vs := by
  cases h with
  | tl n q t => cases e; exact ⟨_, _, rfl, q, t⟩
  | lr q =>
    rename_i n p
    simp only [mlOf] at e
    cases h1 : st[n]? with
    | none => rw [h1] at e; cases e
    | some o =>
      cases o with
      | lst ys =>
        rw [h1] at e
        cases e
        obtain ⟨p', q', vs, z, t⟩ := r.at h1
        rw [q] at q'
        cases q'
        exact ⟨p, vs, rfl, z, t⟩
  | kl _ _ => cases e
  | il _ _ => cases e
  | non => cases e
  | bl _ => cases e
  | int _ => cases e
  | str _ => cases e
  | tup _ _ => cases e
  | fn _ => cases e
theorem rd_ok (r : Rl ws m st H) (h : DV ws m H a x) {xs : List D} (e : rdOf st a = some xs) : ∃ p vs, x = .ref p ∧ Rd H p (.lst vs) ∧ DVs ws m H xs vs := by
  cases h with
  | il q t => cases e; exact ⟨_, _, rfl, .inr ⟨_, q⟩, t⟩
  | non => cases e
  | bl _ => cases e
  | int _ => cases e
  | str _ => cases e
  | tup _ _ => cases e
  | fn _ => cases e
  | kl _ _ => cases e
  | tl n q t => obtain ⟨p, vs, h1, h2, h3⟩ := mlst_ok r (.tl n q t) e; exact ⟨p, vs, h1, .inl h2, h3⟩
  | lr q => obtain ⟨p, vs, h1, h2, h3⟩ := mlst_ok r (.lr q) e; exact ⟨p, vs, h1, .inl h2, h3⟩
theorem seq_ok (r : Rl ws m st H) (h : DV ws m H a x) {xs : List D} (e : seqOf st a = some xs) : ∃ p vs, x = .ref p ∧ ((SqL ws.K H p vs ∧ ∀ ys, a ≠ .tup ys) ∨ (SqT ws.K H p vs ∧ a = .tup xs)) ∧ DVs ws m H xs vs := by
  cases h with
  | tup q t => cases e; exact ⟨_, _, rfl, .inr ⟨q, rfl⟩, t⟩
  | non => cases e
  | bl _ => cases e
  | int _ => cases e
  | str _ => cases e
  | fn _ => cases e
  | tl n q t => cases e; exact ⟨_, _, rfl, .inl ⟨SqL.of q, fun _ h => by cases h⟩, t⟩
  | kl q t => cases e; exact ⟨_, _, rfl, .inl ⟨q.sq, fun _ h => by cases h⟩, t⟩
  | il q t => cases e; exact ⟨_, _, rfl, .inl ⟨.inl (.inr ⟨_, q⟩), fun _ h => by cases h⟩, t⟩
  | lr q =>
    obtain ⟨p, vs, h1, h2, h3⟩ := lst_ok r (.lr q) e
    exact ⟨p, vs, h1, .inl ⟨h2, fun _ h => by cases h⟩, h3⟩

/-! ### the three ends -/
theorem end_sc (s0 : Step m0 H0 m H) (r : Rl ws m st H) (h : DV ws m H d v) (n : notl d = true) (k : ∀ m' H' v, Step m0 H0 m' H' → Rl ws m' st H' → RD ws H0 m' H' d v → Q v H') : Q v H := k m H v s0 r ⟨h, fr_of n⟩
theorem end_tup {xs : List D} {vs : List V} (s0 : Step m0 H0 m H) (r : Rl ws m st H) (t : DVs ws m H xs vs) (k : ∀ m' H' v, Step m0 H0 m' H' → Rl ws m' st H' → RD ws H0 m' H' (.tup xs) v → Q v H') : ∀ p, H p = none → Q (.ref p) (upd H p (.tup vs)) :=
  fun p hp => k m _ _ (s0.trans (Step.alloc hp)) (r.alloc hp) ⟨.tup (SqT.of upd_same) (t.mono (Step.alloc hp)), fr_of rfl⟩
theorem end_tl {xs : List D} {vs : List V} (s0 : Step m0 H0 m H) (r : Rl ws m st H) (t : DVs ws m H xs vs) (k : ∀ m' H' v, Step m0 H0 m' H' → Rl ws m' st H' → RD ws H0 m' H' (.tl xs) v → Q v H') : ∀ p, H p = none → Q (.ref p) (upd H p (.lst vs)) :=
  fun p hp => k m _ _ (s0.trans (Step.alloc hp)) (r.alloc hp) ⟨.tl (r.free hp) upd_same (t.mono (Step.alloc hp)), fun _ a e => by cases e; exact s0.there p hp⟩

/-! ### data, for == -/
theorem mapO_ok {α β : Type} {f : α → Option β} : ∀ {xs : List α} {ys : List β}, mapO f xs = some ys → Paired (fun x y => f x = some y) xs ys
  | [], ys, e => by cases e; exact .nil
  | x :: xs, ys, e => by
    unfold mapO at e
    cases h1 : f x with
    | none => rw [h1] at e; cases e
    | some y =>
      cases h2 : mapO f xs with
      | none => rw [h1, h2] at e; cases e
      | some zs => rw [h1, h2] at e; cases e; exact .cons h1 (mapO_ok h2)
theorem strOk_shape (s : Str) (h : PySem.PyData.strOk s = true) : PyData.canLay0 (.str s) = true := by
  unfold PyData.canLay0
  exact h
theorem toP_ok (r : Rl ws m st H) : ∀ (n : Nat) {a : D} {x : V} {p : PyData}, DV ws m H a x → toP st n a = some p → Dp ws.K H x p ∧ p.canLay0 = true ∧ p.depth ≤ n := by
  intro n
  induction n with
  | zero => intro a x p _ e; cases e
  | succ n ih =>
    have many : ∀ {xs : List D} {vs : List V} {ps : List PyData}, DVs ws m H xs vs → Paired (fun x y => toP st n x = some y) xs ps → DpAll ws.K H vs ps ∧ PyData.canLayAll0 ps = true ∧ PyData.depthAll ps ≤ n := by
      intro xs vs ps t q
      induction q generalizing vs with
      | nil => cases t; exact ⟨.nil, by simp [PyData.canLayAll0], by simp [PyData.depthAll]⟩
      | cons h _ ih2 =>
        cases t with
        | cons hd _ tl =>
          obtain ⟨a1, a2, a3⟩ := ih hd h
          obtain ⟨b1, b2, b3⟩ := ih2 tl
          exact ⟨.cons a1 b1, by simp [PyData.canLayAll0, a2, b2], by simp only [PyData.depthAll]; omega⟩
    intro a x p h e
    have lists : ∀ {xs : List D} {ps : List PyData}, lstOf st a = some xs → mapO (toP st n) xs = some ps → p = .list ps → Dp ws.K H x p ∧ p.canLay0 = true ∧ p.depth ≤ n + 1 := by
      intro xs ps e1 h2 e3
      obtain ⟨q, vs, rfl, sq, t⟩ := lst_ok r h e1
      subst e3
      obtain ⟨c1, c2, c3⟩ := many t (mapO_ok h2)
      exact ⟨.lst sq c1, by simpa [PyData.canLay0] using c2, by simp only [PyData.depth]; omega⟩
    cases h with
    | non => cases e; exact ⟨.non, by simp [PyData.canLay0], by simp [PyData.depth]⟩
    | bl b => cases e; exact ⟨.bl b, by simp [PyData.canLay0], by simp [PyData.depth]⟩
    | int i => cases e; exact ⟨.int i, by simp [PyData.canLay0], by simp [PyData.depth]⟩
    | str s =>
      simp only [toP] at e
      split at e
      · rename_i hs
        cases e
        exact ⟨.str _, strOk_shape _ hs, by simp [PyData.depth]⟩
      · cases e
    | tup sq t =>
      rename_i q vs xs
      simp only [toP] at e
      cases h2 : mapO (toP st n) xs with
      | none => rw [h2] at e; cases e
      | some ps =>
        rw [h2] at e
        cases e
        obtain ⟨c1, c2, c3⟩ := many t (mapO_ok h2)
        exact ⟨.tup sq c1, by simpa [PyData.canLay0] using c2, by simp only [PyData.depth]; omega⟩
    | fn g => simp [toP] at e
    | tl a b c =>
      rename_i _ _ xs
      simp only [toP, lstOf] at e
      cases h2 : mapO (toP st n) xs with
      | none => rw [h2] at e; cases e
      | some ps => rw [h2] at e; cases e; exact lists rfl h2 rfl
    | il a b =>
      rename_i _ _ _ xs
      simp only [toP, lstOf] at e
      cases h2 : mapO (toP st n) xs with
      | none => rw [h2] at e; cases e
      | some ps => rw [h2] at e; cases e; exact lists rfl h2 rfl
    | kl a b =>
      rename_i _ _ xs
      simp only [toP, lstOf] at e
      cases h2 : mapO (toP st n) xs with
      | none => rw [h2] at e; cases e
      | some ps => rw [h2] at e; cases e; exact lists rfl h2 rfl
    | lr a =>
      rename_i k _
      simp only [toP] at e
      cases h1 : lstOf st (D.lr k) with
      | none => rw [h1] at e; cases e
      | some xs =>
        rw [h1] at e
        cases h2 : mapO (toP st n) xs with
        | none => simp only [h2] at e; cases e
        | some ps => simp only [h2] at e; cases e; exact lists h1 h2 rfl
theorem shaped_of {p : PyData} (h : p.canLay0 = true) (k : p.depth ≤ 16) : SeqAt.shaped p = true := by
  unfold SeqAt.shaped
  rw [h, Bool.true_and]
  exact decide_eq_true (by omega)
theorem eqD_ok (r : Rl ws m st H) (ha : DV ws m H a x) (hb : DV ws m H b y) {k : Bool} (e : eqD st a b = some k) : ∃ p q, Dp ws.K H x p ∧ Dp ws.K H y q ∧ SeqAt.shaped p = true ∧ SeqAt.shaped q = true ∧ PyData.eqv p q = k := by
  have gen : (match toP st 16 a, toP st 16 b with | some p, some q => some (PyData.eqv p q) | _, _ => none) = some k → ∃ p q, Dp ws.K H x p ∧ Dp ws.K H y q ∧ SeqAt.shaped p = true ∧ SeqAt.shaped q = true ∧ PyData.eqv p q = k := by
    intro e
    cases h1 : toP st 16 a with
    | none => rw [h1] at e; cases e
    | some p =>
      cases h2 : toP st 16 b with
      | none => rw [h1, h2] at e; cases e
      | some q =>
        rw [h1, h2] at e
        cases e
        obtain ⟨a1, a2, a3⟩ := toP_ok r 16 ha h1
        obtain ⟨b1, b2, b3⟩ := toP_ok r 16 hb h2
        exact ⟨p, q, a1, b1, shaped_of a2 a3, shaped_of b2 b3, rfl⟩
  unfold eqD at e
  split at e
  · cases ha; cases hb; cases e
    exact ⟨_, _, .int _, .int _, rfl, rfl, by simp only [PyData.eqv]; rfl⟩
  · cases ha; cases hb; cases e
    exact ⟨_, _, .bl _, .bl _, rfl, rfl, by simp only [PyData.eqv]; rename_i i j; cases i <;> cases j <;> rfl⟩
  · cases ha; cases hb; cases e
    exact ⟨_, _, .non, .non, rfl, rfl, by simp only [PyData.eqv]⟩
  · exact gen e
end
end Mn
/-! Mn4: the operations are the model's (operators, built-ins, methods). -/
namespace Mn
open PySem PySem.Spec PyProof.Rows L2
section
variable {ws : Ws} {X : Cx}

/-! ### arithmetic -/
theorem fdiv_any : OpR X (binaryOp .FloorDiv) (rI (fun _ j => j ≠ 0 ∧ j.natAbs.log2 < 9000) fun i j => .int (i.fdiv j)) := opI fun i j _ _ _ _ _ hc q =>
  floordiv_int hc.1 q (.inl (PyProof.noPylong_of_log2 hc.2))
theorem ifdiv_any : OpR X (inplaceOp .FloorDiv) (rI (fun _ j => j ≠ 0 ∧ j.natAbs.log2 < 9000) fun i j => .int (i.fdiv j)) := opI fun i j _ _ _ _ _ hc q =>
  ifloordiv_int hc.1 q (.inl (PyProof.noPylong_of_log2 hc.2))
theorem imod_any : OpR X (inplaceOp .Mod) (rI (fun _ j => j ≠ 0) fun i j => .int (i.fmod j)) := opI fun _ _ _ _ _ _ _ hc q => imod_int hc q
theorem imul_any : OpR X (inplaceOp .Mult) (rI CMulX fun i j => .int (i * j)) := opI fun _ _ _ _ _ _ _ hc q => imul_int q hc.ok
theorem cmulx {i j : Int} (h : Builtin.Int.intBits i + Builtin.Int.intBits j ≤ 134217728) : CMulX i j := by
  unfold CMulX
  omega

/-- an operator on ints alone -/
theorem or_ints {f : Value → Value → Sem Value} {p : Pr} {C : Int → Int → Prop} {g : Int → Int → V} (hf : OpR X f (rI C g))
    (h2 : ∀ a b st r, sem2 p a b st = some r → ∃ i j d, a = .int i ∧ b = .int j ∧ semI p i j = some d ∧ r = (d, st))
    (hI : ∀ i j d, semI p i j = some d → C i j ∧ notl d = true ∧ ∀ m H, DV ws m H d (g i j)) (hp : ∀ a b st, semP p [a, b] st = sem2 p a b st) : OpR X f (rP2 ws p) := by
  intro pins s σ H x y v u Q I rx ry h
  obtain ⟨H0, m0, m, st, ds, d, st', s0, r, ra, e, k⟩ := h
  obtain ⟨a, b, rfl, ha, hb⟩ := ra.as.two
  rw [hp] at e
  obtain ⟨i, j, d', rfl, rfl, e1, e2⟩ := h2 _ _ _ _ e
  cases e2
  cases ha
  cases hb
  obtain ⟨c, n, hd⟩ := hI _ _ _ e1
  exact hf pins s σ H _ _ v u Q I rx ry ⟨i, j, rfl, rfl, c, end_sc s0 r (hd m H) n k⟩
theorem inv_ints {p : Pr} (h1 : p = .sub ∨ p = .fdiv ∨ p = .mod ∨ p = .lt ∨ p = .le ∨ p = .gt ∨ p = .ge ∨ p = .max2 ∨ p = .min2) : ∀ a b st r, sem2 p a b st = some r → ∃ i j d, a = .int i ∧ b = .int j ∧ semI p i j = some d ∧ r = (d, st) := by
  intro a b st r e
  rcases h1 with rfl | rfl | rfl | rfl | rfl | rfl | rfl | rfl | rfl <;>
  · simp only [sem2] at e
    split at e
    · rename_i i j
      split at e
      · rename_i d hd
        cases e
        exact ⟨i, j, d, rfl, rfl, hd, rfl⟩
      · cases e
    all_goals cases e
theorem or_sub : OpR X (binaryOp .Sub) (rP2 ws .sub) := or_ints (C := fun _ _ => True) (g := fun i j => .int (i - j)) (fun pins s σ H x y v u Q I rx ry ⟨i, j, a, b, _, q⟩ => op_sub pins s σ H x y v u Q I rx ry ⟨i, j, a, b, q⟩) (inv_ints (by simp))
  (fun i j d e => by cases e; exact ⟨trivial, rfl, fun _ _ => .int _⟩) fun _ _ _ => rfl
theorem or_lt : OpR X (compareOp .Lt) (rP2 ws .lt) := or_ints (C := fun _ _ => True) (g := fun i j => .bl (decide (i < j))) (fun pins s σ H x y v u Q I rx ry ⟨i, j, a, b, _, q⟩ => op_lt pins s σ H x y v u Q I rx ry ⟨i, j, a, b, q⟩) (inv_ints (by simp))
  (fun i j d e => by cases e; exact ⟨trivial, rfl, fun _ _ => .bl _⟩) fun _ _ _ => rfl
theorem or_le : OpR X (compareOp .LtE) (rP2 ws .le) := or_ints (C := fun _ _ => True) (g := fun i j => .bl (decide (i ≤ j))) (fun pins s σ H x y v u Q I rx ry ⟨i, j, a, b, _, q⟩ => op_le pins s σ H x y v u Q I rx ry ⟨i, j, a, b, q⟩) (inv_ints (by simp))
  (fun i j d e => by cases e; exact ⟨trivial, rfl, fun _ _ => .bl _⟩) fun _ _ _ => rfl
theorem or_gt : OpR X (compareOp .Gt) (rP2 ws .gt) := or_ints (C := fun _ _ => True) (g := fun i j => .bl (decide (j < i))) (fun pins s σ H x y v u Q I rx ry ⟨i, j, a, b, _, q⟩ => op_gt pins s σ H x y v u Q I rx ry ⟨i, j, a, b, q⟩) (inv_ints (by simp))
  (fun i j d e => by cases e; exact ⟨trivial, rfl, fun _ _ => .bl _⟩) fun _ _ _ => rfl
theorem or_ge : OpR X (compareOp .GtE) (rP2 ws .ge) := or_ints (C := fun _ _ => True) (g := fun i j => .bl (decide (j ≤ i))) (fun pins s σ H x y v u Q I rx ry ⟨i, j, a, b, _, q⟩ => op_ge pins s σ H x y v u Q I rx ry ⟨i, j, a, b, q⟩) (inv_ints (by simp))
  (fun i j d e => by cases e; exact ⟨trivial, rfl, fun _ _ => .bl _⟩) fun _ _ _ => rfl
theorem or_fdiv : OpR X (binaryOp .FloorDiv) (rP2 ws .fdiv) := or_ints fdiv_any (inv_ints (by simp))
  (fun i j d e => by
    simp only [semI] at e
    split at e
    · cases e; exact ⟨by assumption, rfl, fun _ _ => .int _⟩
    · cases e) fun _ _ _ => rfl
theorem or_mod : OpR X (binaryOp .Mod) (rP2 ws .mod) := or_ints op_modN (inv_ints (by simp))
  (fun i j d e => by
    simp only [semI] at e
    split at e
    · cases e; exact ⟨by assumption, rfl, fun _ _ => .int _⟩
    · cases e) fun _ _ _ => rfl
theorem toL {K : PySem.W.Frag} (e : X.K = K) {H : Hp} {a : Addr} {vs : List V} (h : SqL K H a vs) : SqL X.K H a vs := by rw [e]; exact h
theorem toT {K : PySem.W.Frag} (e : X.K = K) {H : Hp} {a : Addr} {vs : List V} (h : SqT K H a vs) : SqT X.K H a vs := by rw [e]; exact h
/-- list + list, read alone -/
theorem op_catR : OpR X (binaryOp .Add) fun x y H Q => ∃ l b xs zs, x = .ref l ∧ y = .ref b ∧ Rd H l (.lst xs) ∧ Rd H b (.lst zs) ∧ xs.length + zs.length ≤ sizeLine ∧ ∀ p, H p = none → Q (.ref p) (upd H p (.lst (xs ++ zs))) := by
  intro pins s σ H x y v u Q I rx ry h
  obtain ⟨l, b, xs, zs, rfl, rfl, hH, hB, hz, q⟩ := h
  cases rx
  cases ry
  obtain ⟨z, its, n, r, e⟩ := hH.ok I.hok
  obtain ⟨z2, its2, n2, r2, e2⟩ := hB.ok I.hok
  have hl := r.length
  have hl2 := r2.length
  refine PySem.P.add_list e e2 ?_ (by rw [List.size_toArray, List.size_toArray]; omega)
  have ea : its.toArray ++ its2.toArray = (its ++ its2).toArray := by simp
  rw [ea]
  exact ⟨.ref _, _, I.lnew (t' := s.toks) (r.append r2) (by rw [List.length_append]; omega), rfl, q _ I.fresh⟩
theorem or_add (G : Gp ws X) : OpR X (binaryOp .Add) (rP2 ws .add) := by
  intro pins s σ H x y v u Q I rx ry h
  obtain ⟨H0, m0, m, st, ds, d, st', s0, r, ra, e, k⟩ := h
  obtain ⟨a, b, rfl, ha, hb⟩ := ra.as.two
  simp only [semP, sem2] at e
  split at e
  · simp only [semI] at e
    cases e
    cases ha
    cases hb
    exact op_add pins s σ H _ _ v u Q I rx ry ⟨_, _, rfl, rfl, end_sc s0 r (.int _) rfl k⟩
  · rename_i xs ys
    split at e
    · rename_i hl
      cases e
      cases ha with
      | tup q1 t1 =>
        cases hb with
        | tup q2 t2 =>
          rename_i p1 us p2 zs
          refine op_catA pins s σ H _ _ v u Q I rx ry ⟨_, _, us, zs, rfl, rfl, toT G.K q1, toT G.K q2, by rw [← t1.length, ← t2.length]; exact hl, fun z => ?_, fun _ z => ?_, fun _ _ => end_tup s0 r (t1.append t2) k⟩
          · subst z
            cases t1
            exact end_sc s0 r (.tup q2 t2) rfl k
          · subst z
            cases t2
            rw [List.append_nil] at k
            exact end_sc s0 r (.tup q1 t1) rfl k
    · cases e
  · cases e
  · cases e
  · rename_i z1 z2 z3 z4
    split at e
    · rename_i xs ys e1 e2
      split at e
      · rename_i hl
        cases e
        obtain ⟨p1, us, rfl, q1, t1⟩ := rd_ok r ha e1
        obtain ⟨p2, zs, rfl, q2, t2⟩ := rd_ok r hb e2
        exact op_catR pins s σ H _ _ v u Q I rx ry ⟨_, _, us, zs, rfl, rfl, q1, q2, by rw [← t1.length, ← t2.length]; exact hl, end_tl s0 r (t1.append t2) k⟩
      · cases e
    · cases e
theorem or_mul (G : Gp ws X) : OpR X (binaryOp .Mult) (rP2 ws .mul) := by
  intro pins s σ H x y v u Q I rx ry h
  obtain ⟨H0, m0, m, st, ds, d, st', s0, r, ra, e, k⟩ := h
  obtain ⟨a, b, rfl, ha, hb⟩ := ra.as.two
  simp only [semP, sem2] at e
  split at e
  · simp only [semI] at e
    split at e
    · rename_i h1
      split at h1
      · rename_i h2
        cases h1
        cases e
        cases ha
        cases hb
        exact op_mulX pins s σ H _ _ v u Q I rx ry ⟨_, _, rfl, rfl, cmulx h2, end_sc s0 r (.int _) rfl k⟩
      · cases h1
    · cases e
  · cases e
  · split at e
    · rename_i hl
      cases e
      cases ha with
      | tup q1 t1 =>
        cases hb
        rename_i p1 us
        refine op_repT pins s σ H _ _ v u Q I rx ry ⟨_, _, us, rfl, rfl, toT G.K q1, ?_, hl.2.1, hl.2.2.1, by rw [← t1.length]; exact hl.2.2.2, end_tup s0 r (t1.flat _) k⟩
        rintro rfl
        cases t1
        simp at hl
    · cases e
  · rename_i z1 z2 z3
    split at e
    · rename_i xs e1
      split at e
      · rename_i hl
        cases e
        obtain ⟨p1, us, rfl, q1, t1⟩ := mlst_ok r ha e1
        cases hb
        exact op_rep pins s σ H _ _ v u Q I rx ry ⟨_, _, us, rfl, rfl, q1, hl.1, hl.2.1, by rw [← t1.length]; exact hl.2.2, end_tl s0 r (t1.flat _) k⟩
      · cases e
    · cases e
  · cases e
/-! ### comparisons -/
theorem or_eq (G : Gp ws X) : OpR X (compareOp .Eq) (rP2 ws .eq) := by
  intro pins s σ H x y v u Q I rx ry h
  obtain ⟨H0, m0, m, st, ds, d, st', s0, r, ra, e, k⟩ := h
  obtain ⟨a, b, rfl, ha, hb⟩ := ra.as.two
  simp only [semP, sem2] at e
  split at e
  · rename_i c hc
    cases e
    obtain ⟨p, q, h1, h2, h3, h4, h5⟩ := eqD_ok r ha hb hc
    refine op_eqD (by have := G.units; omega) pins s σ H _ _ v u Q I rx ry ⟨p, q, by rw [G.K]; exact h1, by rw [G.K]; exact h2, h3, h4, ?_⟩
    rw [h5]
    exact end_sc s0 r (.bl c) rfl k
  · cases e
theorem or_ne (G : Gp ws X) : OpR X (compareOp .NotEq) (rP2 ws .ne) := by
  intro pins s σ H x y v u Q I rx ry h
  obtain ⟨H0, m0, m, st, ds, d, st', s0, r, ra, e, k⟩ := h
  obtain ⟨a, b, rfl, ha, hb⟩ := ra.as.two
  simp only [semP, sem2] at e
  split at e
  · rename_i c hc
    cases e
    obtain ⟨p, q, h1, h2, h3, h4, h5⟩ := eqD_ok r ha hb hc
    refine op_neD (by have := G.units; omega) pins s σ H _ _ v u Q I rx ry ⟨p, q, by rw [G.K]; exact h1, by rw [G.K]; exact h2, h3, h4, ?_⟩
    rw [h5]
    exact end_sc s0 r (.bl _) rfl k
  · cases e
theorem non_iff {m : List Addr} {H : Hp} {a : D} {x : V} (h : DV ws m H a x) : decide (x = .non) = isNon a := by
  cases h <;> first | rfl | exact decide_eq_false (by intro z; cases z)
theorem or_isN (G : Gp ws X) : OpR X (compareOp .Is) (rP2 ws .isN) := by
  intro pins s σ H x y v u Q I rx ry h
  obtain ⟨H0, m0, m, st, ds, d, st', s0, r, ra, e, k⟩ := h
  obtain ⟨a, b, rfl, ha, hb⟩ := ra.as.two
  simp only [semP, sem2] at e
  split at e
  · cases hb
    refine op_isN pins s σ H _ _ v u Q I rx ry ⟨rfl, ?_⟩
    rw [non_iff ha]
    cases e
    exact end_sc s0 r (.bl _) rfl k
  · cases e
theorem or_notN (G : Gp ws X) : OpR X (compareOp .IsNot) (rP2 ws .notN) := by
  intro pins s σ H x y v u Q I rx ry h
  obtain ⟨H0, m0, m, st, ds, d, st', s0, r, ra, e, k⟩ := h
  obtain ⟨a, b, rfl, ha, hb⟩ := ra.as.two
  simp only [semP, sem2] at e
  split at e
  · cases hb
    refine op_notN pins s σ H _ _ v u Q I rx ry ⟨rfl, ?_⟩
    rw [non_iff ha]
    cases e
    exact end_sc s0 r (.bl _) rfl k
  · cases e
theorem flat_ok {m : List Addr} {H : Hp} {a : D} {x : V} (h : DV ws m H a x) (f : flat a = true) : flatV x = true := by
  cases h <;> first | rfl | cases f
theorem flats_ok {m : List Addr} {H : Hp} : ∀ {ds : List D} {vs : List V}, DVs ws m H ds vs → ds.all flat = true → vs.all flatV = true
  | _, _, .nil, _ => rfl
  | _, _, .cons h _ t, f => by
    rw [List.all_cons, Bool.and_eq_true] at f ⊢
    exact ⟨flat_ok h f.1, flats_ok t f.2⟩
theorem str_beq (a b : List Nat) : ((⟨a.toArray⟩ : Str) == ⟨b.toArray⟩) = (a == b) := by
  rw [← PyProof.Rows.toList_beq]
theorem eqF_ok {m : List Addr} {H : Hp} {a b : D} {x y : V} (h : DV ws m H a x) (k : DV ws m H b y) (f : flat a = true) (g : flat b = true) : eqV x y = eqF a b := by
  cases h <;> (try (cases f)) <;> cases k <;> first | rfl | exact str_beq _ _ | cases g
theorem any_ok {m : List Addr} {H : Hp} {a : D} {x : V} (h : DV ws m H a x) (f : flat a = true) : ∀ {ds : List D} {vs : List V}, DVs ws m H ds vs → ds.all flat = true → inV x vs = ds.any fun y => eqF y a
  | _, _, .nil, _ => rfl
  | _, _, .cons k _ t, g => by
    rw [List.all_cons, Bool.and_eq_true] at g
    show (eqV _ x || _) = _
    rw [List.any_cons, eqF_ok k h g.1 f]
    exact congrArg _ (any_ok h f t g.2)
theorem or_in (G : Gp ws X) : OpR X (compareOp .In) (rP2 ws .isin) := by
  intro pins s σ H x y v u Q I rx ry h
  obtain ⟨H0, m0, m, st, ds, d, st', s0, r, ra, e, k⟩ := h
  obtain ⟨a, b, rfl, ha, hb⟩ := ra.as.two
  simp only [semP, sem2] at e
  split at e
  · rename_i xs hx
    split at e
    · rename_i hf
      cases e
      rw [Bool.and_eq_true] at hf
      obtain ⟨p, vs, rfl, q, t⟩ := seq_ok r hb hx
      refine op_in_seq pins s σ H _ _ v u Q I rx ry ⟨p, vs, rfl, ?_, flat_ok ha hf.1, flats_ok t hf.2, ?_⟩
      · rcases q with q | q
        · exact .inl (toL G.K q.1)
        · exact .inr (toT G.K q.1)
      · rw [any_ok ha hf.1 t hf.2]
        exact end_sc s0 r (.bl _) rfl k
    · cases e
  · cases e
theorem or_notin (G : Gp ws X) : OpR X (compareOp .NotIn) (rP2 ws .notin) := by
  intro pins s σ H x y v u Q I rx ry h
  obtain ⟨H0, m0, m, st, ds, d, st', s0, r, ra, e, k⟩ := h
  obtain ⟨a, b, rfl, ha, hb⟩ := ra.as.two
  simp only [semP, sem2] at e
  split at e
  · rename_i xs hx
    split at e
    · rename_i hf
      cases e
      rw [Bool.and_eq_true] at hf
      obtain ⟨p, vs, rfl, q, t⟩ := seq_ok r hb hx
      refine op_notIn_seq pins s σ H _ _ v u Q I rx ry ⟨p, vs, rfl, ?_, flat_ok ha hf.1, flats_ok t hf.2, ?_⟩
      · rcases q with q | q
        · exact .inl (toL G.K q.1)
        · exact .inr (toT G.K q.1)
      · rw [any_ok ha hf.1 t hf.2]
        exact end_sc s0 r (.bl _) rfl k
    · cases e
  · cases e
/-! ### subscripts, slices -/
theorem atI_ok {m : List Addr} {H : Hp} {ds : List D} {vs : List V} (t : DVs ws m H ds vs) {i : Int} {d : D} (e : atI ds i = some d) : ∃ v, atI vs i = some v ∧ DV ws m H d v ∧ notl d = true := by
  unfold atI at e ⊢
  rw [← t.length]
  cases h : ixN ds.length i with
  | none => rw [h] at e; cases e
  | some j =>
    rw [h] at e
    exact t.get e
theorem ix_any (G : Gp ws X) : IxR X (rP2 ws .ix) := by
  intro value slice pins s σ H x y v u Q I rx ry h hs
  obtain ⟨H0, m0, m, st, ds, d, st', s0, r, ra, e, k⟩ := h
  obtain ⟨a, b, rfl, ha, hb⟩ := ra.as.two
  simp only [semP, sem2] at e
  split at e
  · cases hb
    split at e
    · rename_i xs hx
      split at e
      · rename_i c hc
        cases e
        obtain ⟨p, vs, rfl, q, t⟩ := seq_ok r ha hx
        obtain ⟨z, h1, h2, h3⟩ := atI_ok t hc
        rcases q with q | q
        · exact ix_list value slice pins s σ H _ _ v u Q I rx ry ⟨p, vs, _, z, rfl, rfl, toL G.K q.1, h1, end_sc s0 r h2 h3 k⟩ hs
        · exact ix_tup value slice pins s σ H _ _ v u Q I rx ry ⟨p, vs, _, z, rfl, rfl, toT G.K q.1, h1, end_sc s0 r h2 h3 k⟩ hs
      · cases e
    · cases e
  · cases e
/-- a slice by values -/
def rSl (ws : Ws) : V → Option Int → Option Int → Hp → VK → Prop := fun x lo hi H Q => ∃ (H0 : Hp) (m0 m : List Addr) (st : Sto) (a : D) (d : D) (st' : Sto), Step m0 H0 m H ∧ Rl ws m st H ∧ DV ws m H a x ∧
  semSl a lo hi st = some (d, st') ∧ ∀ m' H' v, Step m0 H0 m' H' → Rl ws m' st' H' → RD ws H0 m' H' d v → Q v H'
theorem cut_whole {α : Type} (xs : List α) {lo hi : Option Int} (h : HT.sIx xs.length 0 lo = 0 ∧ HT.sIx xs.length xs.length hi = xs.length) : cut xs lo hi = xs := by
  unfold cut
  rw [h.1, h.2, List.drop_zero, Nat.sub_zero, List.take_length]
theorem sl_any (G : Gp ws X) : SlR X (rSl ws) := by
  intro pins s σ H x v vl vu lo hi sl Q I rx hs pl pu h
  obtain ⟨H0, m0, m, st, a, d, st', s0, r, ha, e, k⟩ := h
  unfold semSl at e
  split at e
  · cases e
    cases ha with
    | tup q t =>
      refine sl_tupA pins s σ H _ v vl vu lo hi sl Q I rx hs pl pu ⟨_, _, rfl, toT G.K q, fun z => ?_, fun _ => end_tup s0 r (t.cut _ _) k⟩
      rw [← t.length] at z
      rw [cut_whole _ z] at k
      exact end_sc s0 r (.tup q t) rfl k
  · split at e
    · rename_i xs hx
      cases e
      obtain ⟨p, vs, rfl, q, t⟩ := lst_ok r ha hx
      exact sl_list pins s σ H _ v vl vu lo hi sl Q I rx hs pl pu ⟨p, vs, rfl, toL G.K q, end_tl s0 r (t.cut _ _) k⟩
    · cases e
end
end Mn
/-! Mn5: built-in functions and methods are the model's. -/
namespace Mn
open PySem PySem.Spec PyProof.Rows L2
section
variable {ws : Ws} {X : Cx}

theorem allB_ok {m : List Addr} {H : Hp} : ∀ {ds : List D} {vs : List V} {bs : List Bool}, DVs ws m H ds vs → allB ds = some bs → vs = bs.map V.bl
  | [], _, bs, .nil, e => by cases e; rfl
  | d :: ds, _, bs, .cons h _ t, e => by
    unfold allB mapO at e
    cases h with
    | bl b =>
      simp only at e
      cases h2 : mapO _ ds with
      | none => rw [h2] at e; cases e
      | some cs =>
        rw [h2] at e
        cases e
        rw [List.map_cons, allB_ok t h2]
    | _ => simp at e
theorem allI_ok {m : List Addr} {H : Hp} : ∀ {ds : List D} {vs : List V} {ns : List Int}, DVs ws m H ds vs → allI ds = some ns → vs = ns.map V.int
  | [], _, bs, .nil, e => by cases e; rfl
  | d :: ds, _, bs, .cons h _ t, e => by
    unfold allI mapO at e
    cases h with
    | int b =>
      simp only at e
      cases h2 : mapO _ ds with
      | none => rw [h2] at e; cases e
      | some cs =>
        rw [h2] at e
        cases e
        rw [List.map_cons, allI_ok t h2]
    | _ => simp at e
theorem maxI_ok : ∀ (ns : List Int) (n m : Int), m ∈ n :: ns → (∀ y ∈ n :: ns, y ≤ m) → m = maxI n ns
  | [], n, m, h, _ => by simpa [maxI] using h
  | x :: ns, n, m, h, k => by
    show m = maxI (if x > n then x else n) ns
    have hx := k x (by simp)
    have hn := k n (by simp)
    refine maxI_ok ns _ m ?_ fun y hy => ?_
    · rcases List.mem_cons.mp h with rfl | h
      · split
        · exfalso; omega
        · simp
      · rcases List.mem_cons.mp h with rfl | h
        · split
          · simp
          · have : m = n := by omega
            simp [this]
        · exact List.mem_cons_of_mem _ h
    · rcases List.mem_cons.mp hy with rfl | hy
      · split <;> omega
      · exact k y (by simp [hy])
theorem minI_ok : ∀ (ns : List Int) (n m : Int), m ∈ n :: ns → (∀ y ∈ n :: ns, m ≤ y) → m = minI n ns
  | [], n, m, h, _ => by simpa [minI] using h
  | x :: ns, n, m, h, k => by
    show m = minI (if x < n then x else n) ns
    have hx := k x (by simp)
    have hn := k n (by simp)
    refine minI_ok ns _ m ?_ fun y hy => ?_
    · rcases List.mem_cons.mp h with rfl | h
      · split
        · exfalso; omega
        · simp
      · rcases List.mem_cons.mp h with rfl | h
        · split
          · simp
          · have : m = n := by omega
            simp [this]
        · exact List.mem_cons_of_mem _ h
    · rcases List.mem_cons.mp hy with rfl | hy
      · split <;> omega
      · exact k y (by simp [hy])

/-- one argument: what the run says of it -/
theorem one_arg {p : Pr} {vs : List V} {H : Hp} {Q : VK} (hp : ∀ a st, semP p [a] st = sem1 p a st) (h2 : ∀ a b st, semP p [a, b] st = sem2 p a b st) (h3 : ∀ a b st, sem2 p a b st = none) (h : rP ws p vs H Q) :
    ∃ (H0 : Hp) (m0 m : List Addr) (st : Sto) (a : D) (x : V) (d : D) (st' : Sto), vs = [x] ∧ Step m0 H0 m H ∧ Rl ws m st H ∧ RA ws H0 m H [a] [x] ∧ DV ws m H a x ∧ sem1 p a st = some (d, st') ∧ ∀ m' H' v, Step m0 H0 m' H' → Rl ws m' st' H' → RD ws H0 m' H' d v → Q v H' := by
  obtain ⟨H0, m0, m, st, ds, d, st', s0, r, ra, e, k⟩ := h
  obtain ⟨as, nd, fr⟩ := ra
  cases as with
  | nil => cases e
  | cons h t =>
    cases t with
    | nil =>
      rw [hp] at e
      exact ⟨H0, m0, m, st, _, _, d, st', rfl, s0, r, ⟨.cons h .nil, nd, fr⟩, h, e, k⟩
    | cons h' t' =>
      cases t' with
      | nil => rw [h2, h3] at e; cases e
      | cons h'' t'' => cases e
theorem sem2_none {p : Pr} (h : p = .len ∨ p = .abs ∨ p = .toInt ∨ p = .all ∨ p = .any ∨ p = .sum ∨ p = .tuple ∨ p = .list ∨ p = .max ∨ p = .min ∨ p = .pop0 ∨ p = .neg) : ∀ a b st, sem2 p a b st = none := by
  intro a b st
  rcases h with rfl | rfl | rfl | rfl | rfl | rfl | rfl | rfl | rfl | rfl | rfl | rfl <;>
  · simp only [sem2]
    split <;> rfl
theorem cr_len (G : Gp ws X) : CallR X (.builtin "len") (rP ws .len) := by
  intro pins s σ H xs us Q I rv h
  obtain ⟨H0, m0, m, st, a, x, d, st', rfl, s0, r, ra, ha, e, k⟩ := one_arg (fun _ _ => rfl) (fun _ _ _ => rfl) (sem2_none (by simp)) h
  simp only [sem1] at e
  split at e
  · rename_i ys hy
    cases e
    obtain ⟨p, vs, rfl, q, t⟩ := seq_ok r ha hy
    refine call_len_seq pins s σ H _ us Q I rv ⟨p, vs, rfl, ?_, ?_⟩
    · rcases q with q | q
      · exact .inl (toL G.K q.1)
      · exact .inr (toT G.K q.1)
    · rw [← t.length]
      exact end_sc s0 r (.int _) rfl k
  · cases e
theorem cr_abs : CallR X (.builtin "abs") (rP ws .abs) := by
  intro pins s σ H xs us Q I rv h
  obtain ⟨H0, m0, m, st, a, x, d, st', rfl, s0, r, ra, ha, e, k⟩ := one_arg (fun _ _ => rfl) (fun _ _ _ => rfl) (sem2_none (by simp)) h
  simp only [sem1] at e
  split at e
  · cases e
    cases ha
    exact call_abs pins s σ H _ us Q I rv ⟨_, rfl, end_sc s0 r (.int _) rfl k⟩
  · cases e
theorem cr_int : CallR X (.type "int") (rP ws .toInt) := by
  intro pins s σ H xs us Q I rv h
  obtain ⟨H0, m0, m, st, a, x, d, st', rfl, s0, r, ra, ha, e, k⟩ := one_arg (fun _ _ => rfl) (fun _ _ _ => rfl) (sem2_none (by simp)) h
  simp only [sem1] at e
  split at e
  · cases e
    cases ha
    exact call_int1 pins s σ H _ us Q I rv (.inl ⟨_, rfl, end_sc s0 r (.int _) rfl k⟩)
  · cases e
    cases ha
    exact call_int1 pins s σ H _ us Q I rv (.inr ⟨_, rfl, end_sc s0 r (.int _) rfl k⟩)
  · cases e
theorem cr_allM (G : Gp ws X) : CallR X (.builtin "all") (rP ws .all) := by
  intro pins s σ H xs us Q I rv h
  obtain ⟨H0, m0, m, st, a, x, d, st', rfl, s0, r, ra, ha, e, k⟩ := one_arg (fun _ _ => rfl) (fun _ _ _ => rfl) (sem2_none (by simp)) h
  simp only [sem1] at e
  split at e
  · rename_i ys hy
    split at e
    · rename_i bs hb
      cases e
      obtain ⟨p, vs, rfl, q, t⟩ := lst_ok r ha hy
      rw [allB_ok t hb] at q
      exact cr_all G.calm pins s σ H _ us Q I rv ⟨p, bs, rfl, toL G.K q, end_sc s0 r (.bl _) rfl k⟩
    · cases e
  · cases e
theorem cr_anyM (G : Gp ws X) : CallR X (.builtin "any") (rP ws .any) := by
  intro pins s σ H xs us Q I rv h
  obtain ⟨H0, m0, m, st, a, x, d, st', rfl, s0, r, ra, ha, e, k⟩ := one_arg (fun _ _ => rfl) (fun _ _ _ => rfl) (sem2_none (by simp)) h
  simp only [sem1] at e
  split at e
  · rename_i ys hy
    split at e
    · rename_i bs hb
      cases e
      obtain ⟨p, vs, rfl, q, t⟩ := lst_ok r ha hy
      rw [allB_ok t hb] at q
      exact cr_any G.calm pins s σ H _ us Q I rv ⟨p, bs, rfl, toL G.K q, end_sc s0 r (.bl _) rfl k⟩
    · cases e
  · cases e
theorem cr_sumM (G : Gp ws X) : CallR X (.builtin "sum") (rP ws .sum) := by
  intro pins s σ H xs us Q I rv h
  obtain ⟨H0, m0, m, st, a, x, d, st', rfl, s0, r, ra, ha, e, k⟩ := one_arg (fun _ _ => rfl) (fun _ _ _ => rfl) (sem2_none (by simp)) h
  simp only [sem1] at e
  split at e
  · rename_i ys hy
    split at e
    · rename_i bs hb
      cases e
      obtain ⟨p, vs, rfl, q, t⟩ := lst_ok r ha hy
      rw [allI_ok t hb] at q
      exact cr_sum G.calm pins s σ H _ us Q I rv ⟨p, bs, rfl, toL G.K q, end_sc s0 r (.int _) rfl k⟩
    · cases e
  · cases e
theorem cr_max2 (G : Gp ws X) : CallR X (.builtin "max") (rP ws .max2) := by
  intro pins s σ H xs us Q I rv h
  obtain ⟨H0, m0, m, st, ds, d, st', s0, r, ra, e, k⟩ := h
  obtain ⟨as, nd, fr⟩ := ra
  cases as with
  | nil => cases e
  | cons ha t =>
    cases t with
    | nil => cases e
    | cons hb t' =>
      cases t' with
      | nil =>
        obtain ⟨i, j, c, rfl, rfl, e1, e2⟩ := inv_ints (p := .max2) (by simp) _ _ _ _ e
        cases e2
        cases e1
        cases ha
        cases hb
        exact call_max2 G.calm pins s σ H _ us Q I rv ⟨_, _, rfl, end_sc s0 r (.int _) rfl k⟩
      | cons _ t'' => cases e
theorem cr_min2 (G : Gp ws X) : CallR X (.builtin "min") (rP ws .min2) := by
  intro pins s σ H xs us Q I rv h
  obtain ⟨H0, m0, m, st, ds, d, st', s0, r, ra, e, k⟩ := h
  obtain ⟨as, nd, fr⟩ := ra
  cases as with
  | nil => cases e
  | cons ha t =>
    cases t with
    | nil => cases e
    | cons hb t' =>
      cases t' with
      | nil =>
        obtain ⟨i, j, c, rfl, rfl, e1, e2⟩ := inv_ints (p := .min2) (by simp) _ _ _ _ e
        cases e2
        cases e1
        cases ha
        cases hb
        exact call_min2 G.calm pins s σ H _ us Q I rv ⟨_, _, rfl, end_sc s0 r (.int _) rfl k⟩
      | cons _ t'' => cases e
theorem cr_maxM (G : Gp ws X) : CallR X (.builtin "max") (rP ws .max) := by
  intro pins s σ H xs us Q I rv h
  obtain ⟨H0, m0, m, st, a, x, d, st', rfl, s0, r, ra, ha, e, k⟩ := one_arg (fun _ _ => rfl) (fun _ _ _ => rfl) (sem2_none (by simp)) h
  simp only [sem1] at e
  split at e
  · rename_i ys hy
    split at e
    · rename_i n ns hb
      cases e
      obtain ⟨p, vs, rfl, q, t⟩ := lst_ok r ha hy
      rw [allI_ok t hb] at q
      refine cr_max G.calm pins s σ H _ us Q I rv ⟨p, n :: ns, rfl, toL G.K q, by simp, fun z h1 h2 => ?_⟩
      rw [maxI_ok ns n z h1 h2]
      exact end_sc s0 r (.int _) rfl k
    · cases e
  · cases e
theorem cr_minM (G : Gp ws X) : CallR X (.builtin "min") (rP ws .min) := by
  intro pins s σ H xs us Q I rv h
  obtain ⟨H0, m0, m, st, a, x, d, st', rfl, s0, r, ra, ha, e, k⟩ := one_arg (fun _ _ => rfl) (fun _ _ _ => rfl) (sem2_none (by simp)) h
  simp only [sem1] at e
  split at e
  · rename_i ys hy
    split at e
    · rename_i n ns hb
      cases e
      obtain ⟨p, vs, rfl, q, t⟩ := lst_ok r ha hy
      rw [allI_ok t hb] at q
      refine cr_min G.calm pins s σ H _ us Q I rv ⟨p, n :: ns, rfl, toL G.K q, by simp, fun z h1 h2 => ?_⟩
      rw [minI_ok ns n z h1 h2]
      exact end_sc s0 r (.int _) rfl k
    · cases e
  · cases e
theorem cr_tuple (G : Gp ws X) : CallR X (.type "tuple") (rP ws .tuple) := by
  intro pins s σ H xs us Q I rv h
  obtain ⟨H0, m0, m, st, a, x, d, st', rfl, s0, r, ra, ha, e, k⟩ := one_arg (fun _ _ => rfl) (fun _ _ _ => rfl) (sem2_none (by simp)) h
  simp only [sem1] at e
  split at e
  · rename_i ys hy
    cases e
    obtain ⟨p, vs, rfl, q, t⟩ := seq_ok r ha hy
    refine call_tuple_of pins s σ H _ us Q I rv ⟨p, vs, rfl, ?_⟩
    rcases q with q | q
    · exact .inl ⟨toL G.K q.1, end_tup s0 r t k⟩
    · exact .inr ⟨toT G.K q.1, end_sc s0 r (.tup q.1 t) rfl k⟩
  · cases e
theorem cr_list (G : Gp ws X) : CallR X (.type "list") (rP ws .list) := by
  intro pins s σ H xs us Q I rv h
  obtain ⟨H0, m0, m, st, a, x, d, st', rfl, s0, r, ra, ha, e, k⟩ := one_arg (fun _ _ => rfl) (fun _ _ _ => rfl) (sem2_none (by simp)) h
  simp only [sem1] at e
  split at e
  · rename_i ys hy
    cases e
    obtain ⟨p, vs, rfl, q, t⟩ := seq_ok r ha hy
    refine call_list_of pins s σ H _ us Q I rv ⟨p, vs, rfl, ?_, end_tl s0 r t k⟩
    rcases q with q | q
    · exact .inl (toL G.K q.1)
    · exact .inr (toT G.K q.1)
  · cases e
theorem un_negM : UnR X (unaryOp .USub) (fun x H Q => rP ws .neg [x] H Q) := by
  intro pins s σ H x v Q I rv h
  obtain ⟨H0, m0, m, st, a, x', d, st', e0, s0, r, ra, ha, e, k⟩ := one_arg (fun _ _ => rfl) (fun _ _ _ => rfl) (sem2_none (by simp)) h
  cases e0
  simp only [sem1] at e
  split at e
  · cases e
    cases ha
    exact un_neg pins s σ H _ v Q I rv ⟨_, rfl, end_sc s0 r (.int _) rfl k⟩
  · cases e

/-! ### isinstance -/
def tyN : Option Ty → String
  | none => "NoneType"
  | some .int => "int"
  | some .bool => "bool"
  | some .str => "str"
  | some .tuple => "tuple"
  | some .list => "list"
def subO : Option Ty → Ty → Bool
  | none, _ => false
  | some t, u => subTy t u
theorem kit_all (t : Option Ty) (u : Ty) : kitB (tyN t) (tyN (some u)) = some (subO t u) := by
  cases t with
  | none => cases u <;> decide +kernel
  | some t => cases t <;> cases u <;> decide +kernel
theorem ty_ok {m : List Addr} {H : Hp} {st : Sto} {a : D} {x : V} (K : X.K = ws.K) (r : Rl ws m st H) (h : DV ws m H a x) {t : Option Ty} (e : tyOf st a = some t) : TyX X.K H x (.type (tyN t)) := by
  cases h with
  | non => cases e; exact .base .non
  | bl b => cases e; exact .base (.bl b)
  | int i => cases e; exact .base (.int i)
  | str s => cases e; exact .base (.str _)
  | tup q t =>
    cases e
    rcases q with (q | ⟨o, q⟩) | ⟨o, its, n, q, c, _⟩
    · exact .base (.tup q)
    · exact .fTuple q
    · exact .kTuple (by rw [K]; exact q) c
  | tl n q t => cases e; exact .base (.lst q)
  | il q t => cases e; exact .base (.frz q)
  | kl q t =>
    cases e
    rcases q with ⟨o, q⟩ | ⟨o, its, n, q, c, _⟩
    · exact .base (.frz q)
    · exact .kList (by rw [K]; exact q) c
  | lr q =>
    rename_i n p
    simp only [tyOf] at e
    cases h1 : st[n]? with
    | none => rw [h1] at e; cases e
    | some o =>
      cases o with
      | lst ys =>
        rw [h1] at e
        cases e
        obtain ⟨p', q', vs, z, t⟩ := r.at h1
        rw [q] at q'
        cases q'
        exact .base (.lst z)
  | fn g => cases e
/-- isinstance(x, T): the class a built-in type -/
theorem cr_inst1 (G : Gp ws X) (t : Ty) : CallR X (.builtin "isinstance") (fun vs H Q => ∃ x, vs = [x, .ty (tyN (some t))] ∧ rP ws (.inst [t]) [x] H Q) := by
  intro pins s σ H xs us Q I rv h
  obtain ⟨x, rfl, H0, m0, m, st, ds, d, st', s0, r, ra, e, k⟩ := h
  obtain ⟨a, rfl, ha⟩ := ra.as.one
  simp only [semP, sem1] at e
  have fin : ∀ o, tyOf st a = some o → (.bl (subO o t), st) = (d, st') → wpAny (model X.prog X.w) X.A (call (.builtin "isinstance") us) (EP X pins σ Q) X.xe s := by
    intro o h1 h2
    cases h2
    exact call_isi pins s σ H _ us Q I rv ⟨_, _, _, _, subO o t, rfl, .ty _, ty_ok G.K r ha h1, kit_ty (kit_all o t), end_sc s0 r (.bl _) rfl k⟩
  split at e
  · rename_i u hu
    refine fin _ hu ?_
    rw [← Option.some.inj e]
    simp [subO]
  · rename_i hu
    refine fin _ hu ?_
    rw [← Option.some.inj e]
    rfl
  · cases e
/-- isinstance(x, (T, ..)) -/
theorem kit_any (o : Option Ty) {K : PySem.W.Frag} : ∀ ts : List Ty, PySem.W.kitAny K (.type (tyN o)) (ts.map fun t => Value.type (tyN (some t))) = some (ts.any (subO o))
  | [] => kitAny_nil
  | t :: ts => by
    rw [List.map_cons]
    refine kitAny_cons (kit_ty (kit_all o t)) (fun h => ?_) (fun h => ?_)
    · rw [kit_any o ts, List.any_cons, h, Bool.false_or]
    · rw [List.any_cons, h, Bool.true_or]
theorem clss : ∀ ts : List Ty, Paired ClsV (ts.map fun t => V.ty (tyN (some t))) (ts.map fun t => Value.type (tyN (some t)))
  | [] => .nil
  | t :: ts => .cons (.ty _) (clss ts)
theorem cr_instT (G : Gp ws X) (ts : List Ty) : CallR X (.builtin "isinstance") (fun vs H Q => ∃ x tp, vs = [x, .ref tp] ∧ H tp = some (.tup (ts.map fun t => V.ty (tyN (some t)))) ∧ rP ws (.inst ts) [x] H Q) := by
  intro pins s σ H xs us Q I rv h
  obtain ⟨x, tp, rfl, ht, H0, m0, m, st, ds, d, st', s0, r, ra, e, k⟩ := h
  obtain ⟨a, rfl, ha⟩ := ra.as.one
  simp only [semP, sem1] at e
  have fin : ∀ o, tyOf st a = some o → (.bl (ts.any (subO o)), st) = (d, st') → wpAny (model X.prog X.w) X.A (call (.builtin "isinstance") us) (EP X pins σ Q) X.xe s := by
    intro o h1 h2
    cases h2
    exact call_isiT pins s σ H _ us Q I rv ⟨_, tp, _, _, _, _, rfl, ht, clss ts, ty_ok G.K r ha h1, kit_any o ts, end_sc s0 r (.bl _) rfl k⟩
  split at e
  · rename_i u hu
    refine fin _ hu ?_
    rw [← Option.some.inj e]
    rfl
  · rename_i hu
    refine fin _ hu ?_
    rw [← Option.some.inj e]
    have : ts.any (subO none) = false := by
      rw [List.any_eq_false]
      intro t _
      simp [subO]
    rw [this]
  · cases e

/-! ### methods of lists, stores -/
/-- a method: the receiver ahead -/
abbrev rM (ws : Ws) (p : Pr) : V → List V → Hp → VK → Prop := fun x xs H Q => rP ws p (x :: xs) H Q
theorem lr_of {m : List Addr} {st : Sto} {H : Hp} {n : Nat} {x : V} {xs : List D} (r : Rl ws m st H) (h : DV ws m H (.lr n) x) (e : st[n]? = some (.lst xs)) : ∃ p vs, x = .ref p ∧ m[n]? = some p ∧ H p = some (.lst vs) ∧ DVs ws m H xs vs := by
  cases h with
  | lr q =>
    obtain ⟨p', q', vs, z, t⟩ := r.at e
    rw [q] at q'
    cases q'
    exact ⟨_, vs, rfl, q, z, t⟩
/-- the store's list n is written -/
theorem end_wr {H0 H : Hp} {m0 m : List Addr} {st : Sto} {n : Nat} {p : Addr} {xs ys : List D} {vs us : List V} (s0 : Step m0 H0 m H) (r : Rl ws m st H) (e : st[n]? = some (.lst xs)) (q : m[n]? = some p) (z : H p = some (.lst vs)) (t : DVs ws m H ys us) :
    Step m0 H0 m (upd H p (.lst us)) ∧ Rl ws m (st.set n (.lst ys)) (upd H p (.lst us)) ∧ Step m H m (upd H p (.lst us)) :=
  ⟨s0.trans (Step.write (List.mem_of_getElem? q) z), r.write e q z t, Step.write (List.mem_of_getElem? q) z⟩
theorem mt_appendM : MtR X "list.append" (rM ws .append) := by
  intro pins s σ H x xs v us Q I rx rv h
  obtain ⟨H0, m0, m, st, ds, d, st', s0, r, ra, e, k⟩ := h
  obtain ⟨as, nd, fr⟩ := ra
  cases as with
  | cons ha t =>
    rename_i a as
    cases t with
    | nil => simp only [semP, sem1] at e; cases e
    | cons hb t' =>
      rename_i b y bs ys
      cases t' with
      | nil =>
        simp only [semP, sem2] at e
        split at e
        · rename_i n
          split at e
          · rename_i zs hz
            split at e
            · rename_i hl
              cases e
              obtain ⟨p, vs, rfl, q, z, t⟩ := lr_of r ha hz
              obtain ⟨r1, h1, k1⟩ := mat_ok r hb
              have s1 : Step m0 H0 (m ++ tls [b] [y]) H := s0.more fun c hc => fr c (by rw [tls_cons]; exact List.mem_append_right _ hc)
              have e1 : (mat b st).2[n]? = some (.lst zs) := by
                have hn : n < st.length := (List.getElem?_eq_some_iff.mp hz).1
                cases b <;> first | exact hz | (show (st ++ _)[n]? = _; rw [List.getElem?_append_left hn]; exact hz)
              have q1 : (m ++ tls [b] [y])[n]? = some p := by
                rw [List.getElem?_append_left (List.getElem?_eq_some_iff.mp q).1]
                exact q
              obtain ⟨w1, w2, w3⟩ := end_wr s1 r1 e1 q1 z ((t.up _).append (.cons h1 k1 .nil))
              exact mt_append pins s σ H _ _ v us Q I rx rv ⟨p, vs, y, rfl, rfl, z, by rw [← t.length]; exact hl, k _ _ _ w1 w2 ⟨.non, fr_of rfl⟩⟩
            · cases e
          · cases e
        · cases e
      | cons _ t'' => cases e
theorem mt_pop0 : MtR X "list.pop" (fun x xs H Q => xs = [] ∧ rM ws .pop0 x [] H Q) := by
  intro pins s σ H x xs v us Q I rx rv h
  obtain ⟨rfl, H0, m0, m, st, ds, d, st', s0, r, ra, e, k⟩ := h
  obtain ⟨a, rfl, ha⟩ := ra.as.one
  simp only [semP, sem1] at e
  split at e
  · rename_i n
    split at e
    · rename_i zs hz
      split at e
      · rename_i c hc
        cases e
        obtain ⟨p, vs, rfl, q, z, t⟩ := lr_of r ha hz
        obtain ⟨y, h1, h2, h3⟩ := t.get hc
        have e2 : vs.dropLast = vs.take (vs.length - 1) := List.dropLast_eq_take
        have e3 : zs.dropLast = zs.take (vs.length - 1) := by rw [← t.length]; exact List.dropLast_eq_take
        obtain ⟨w1, w2, w3⟩ := end_wr (ys := zs.dropLast) (us := vs.dropLast) s0 r hz q z (by rw [e2, e3]; exact t.take _)
        exact mt_pop pins s σ H _ _ v us Q I rx rv ⟨p, vs, y, rfl, rfl, z, by rw [← t.length]; exact h1, k _ _ _ w1 w2 ⟨h2.mono w3, fr_of h3⟩⟩
      · cases e
    · cases e
  · cases e
theorem mt_pop1 : MtR X "list.pop" (fun x xs H Q => ∃ y, xs = [y] ∧ rM ws .pop1 x [y] H Q) := by
  intro pins s σ H x xs v us Q I rx rv h
  obtain ⟨y, rfl, H0, m0, m, st, ds, d, st', s0, r, ra, e, k⟩ := h
  obtain ⟨a, b, rfl, ha, hb⟩ := ra.as.two
  simp only [semP, sem2] at e
  split at e
  · rename_i n i
    split at e
    · rename_i zs hz
      split at e
      · rename_i j hj
        split at e
        · rename_i c hc
          cases e
          obtain ⟨p, vs, rfl, q, z, t⟩ := lr_of r ha hz
          obtain ⟨y', h1, h2, h3⟩ := t.get hc
          obtain ⟨w1, w2, w3⟩ := end_wr (ys := zs.eraseIdx j) (us := vs.eraseIdx j) s0 r hz q z (t.eraseIdx j)
          cases hb
          obtain ⟨its, n2, _, _, hsz⟩ := I.lst z
          rw [t.length] at hj
          obtain ⟨g1, g2, g3, g4⟩ := ixN_seq hj
          have hL : (sizeLine : Nat) < 2 ^ 63 := by decide
          exact mt_popAt pins s σ H _ _ v us Q I rx rv ⟨p, vs, i, j, y', rfl, rfl, z, by omega, by omega, g1, h1, k _ _ _ w1 w2 ⟨h2.mono w3, fr_of h3⟩⟩
        · cases e
      · cases e
    · cases e
  · cases e
/-- o[i] = v -/
theorem set_any : PSet X (fun o i v H Q => ∃ (H0 : Hp) (m0 m : List Addr) (st st' : Sto) (a b c : D), Step m0 H0 m H ∧ Rl ws m st H ∧ DV ws m H a o ∧ DV ws m H b i ∧ DV ws m H c v ∧ Fr H0 c v ∧ setD a b c st = some st' ∧
    ∀ m' H', Step m0 H0 m' H' → Rl ws m' st' H' → Q H') := by
  intro pins s σ H o i v ov iv u Q I ro ri rv h
  obtain ⟨H0, m0, m, st, st', a, b, c, s0, r, ha, hb, hc, fr, e, k⟩ := h
  unfold setD at e
  split at e
  · rename_i n j
    split at e
    · rename_i zs hz
      split at e
      · rename_i l hl
        cases e
        obtain ⟨p, vs, rfl, q, z, t⟩ := lr_of r ha hz
        cases hb
        obtain ⟨r1, h1, k1⟩ := mat_ok r hc
        have s1 : Step m0 H0 (m ++ tls [c] [v]) H := s0.more (tls_one fr)
        have e1 : (mat c st).2[n]? = some (.lst zs) := by
          have hn : n < st.length := (List.getElem?_eq_some_iff.mp hz).1
          cases c <;> first | exact hz | (show (st ++ _)[n]? = _; rw [List.getElem?_append_left hn]; exact hz)
        have q1 : (m ++ tls [c] [v])[n]? = some p := by
          rw [List.getElem?_append_left (List.getElem?_eq_some_iff.mp q).1]
          exact q
        obtain ⟨w1, w2, w3⟩ := end_wr s1 r1 e1 q1 z (DVs.set h1 k1 l (t.up _))
        exact set_list pins s σ H _ _ v ov iv u Q I ro ri rv ⟨p, vs, j, l, rfl, rfl, z, by rw [← t.length]; exact hl, k _ _ w1 w2⟩
      · cases e
    · cases e
  · cases e
end
end Mn
/-! Mn6: contexts, readings of the small language, how they join. -/
namespace Mn
open PySem PySem.Spec PyProof.Rows L2

/-! ### what a run leaves, in a context -/
/-- an exception of the small run -/
def ExV (ws : Ws) (m : List Addr) (H : Hp) (c : Nat) (p : List D) (cls : Value) (dx : Option Addr) : Prop :=
  ∃ C an, ws.ec c = some (C, an) ∧ cls = .ref C ∧ (match an with
    | none => dx = none ∧ p = []
    | some f => ∃ d v pd, dx = some d ∧ p = [pd] ∧ H d = some (.xd [(f, v)]) ∧ DV ws m H pd v ∧ notl pd = true)
section
variable {α β γ δ : Type}
/-- R: how a result stands for one of the layer's, from the heap at the start -/
def Aft (ws : Ws) (W : WX) (n : Nat) (m : List Addr) (H : Hp) (R : Hp → List Addr → Hp → α → β → Prop) (Q : β → Hp → Prop) : Out α → Prop
  | .ok a st' => ∀ m' H' b, Step m H m' H' → Rl ws m' st' H' → R H m' H' a b → Q b H'
  | .ex c p st' => ∀ m' H' cls dx (σ' : L2.St), Step m H m' H' → Rl ws m' st' H' → ExV ws m' H' c p cls dx → σ'.length = n → W cls dx σ' H'
  | .no => False
variable {ws : Ws} {W : WX} {n : Nat} {m m1 : List Addr} {H H1 : Hp}
theorem Aft.bind {R : Hp → List Addr → Hp → α → β → Prop} {S : Hp → List Addr → Hp → γ → δ → Prop} {Q : δ → Hp → Prop} {Q1 : β → Hp → Prop} {x : Out α} {f : α → Sto → Out γ} (h : Aft ws W n m H S Q (x.bind f))
    (k : ∀ a st1 m1 H1 b, x = .ok a st1 → Step m H m1 H1 → Rl ws m1 st1 H1 → R H m1 H1 a b → Aft ws W n m H S Q (f a st1) → Q1 b H1) : Aft ws W n m H R Q1 x := by
  cases x with
  | ok a st => exact fun m' H' b s r q => k a st m' H' b rfl s r q h
  | ex c p st => exact h
  | no => exact h
/-- from a later state -/
theorem Aft.shift {S : Hp → List Addr → Hp → γ → δ → Prop} {Q : δ → Hp → Prop} {x : Out γ} (h : Aft ws W n m H S Q x) (s : Step m H m1 H1) (hS : ∀ m' H' a b, S H1 m' H' a b → S H m' H' a b) : Aft ws W n m1 H1 S Q x := by
  cases x with
  | ok a st => exact fun m' H' b s' r q => h m' H' b (s.trans s') r (hS _ _ _ _ q)
  | ex c p st => exact fun m' H' cls dx σ' s' r q l => h m' H' cls dx σ' (s.trans s') r q l
  | no => exact h
theorem Aft.imp {S : Hp → List Addr → Hp → γ → δ → Prop} {Q Q' : δ → Hp → Prop} {x : Out γ} (h : Aft ws W n m H S Q x) (k : ∀ b H', Q b H' → Q' b H') : Aft ws W n m H S Q' x := by
  cases x with
  | ok a st => exact fun m' H' b s' r q => k _ _ (h m' H' b s' r q)
  | ex c p st => exact h
  | no => exact h
end
theorem RD.back {ws : Ws} {m1 m' : List Addr} {H H1 H' : Hp} {m : List Addr} {d : D} {v : V} (s : Step m H m1 H1) (h : RD ws H1 m' H' d v) : RD ws H m' H' d v := ⟨h.1, fun n a e => s.there a (h.2 n a e)⟩
theorem RA.back {ws : Ws} {m1 m' : List Addr} {H H1 H' : Hp} {m : List Addr} {ds : List D} {vs : List V} (s : Step m H m1 H1) (h : RA ws H1 m' H' ds vs) : RA ws H m' H' ds vs := ⟨h.as, h.nd, fun a e => s.there a (h.fr a e)⟩

theorem evEs_length {cf : Cf} : ∀ {es : List E} {ρ : Rho} {st st' : Sto} {ds : List D}, evEs cf es ρ st = .ok ds st' → ds.length = es.length
  | [], ρ, st, st', ds, h => by
    unfold evEs at h
    cases h
    rfl
  | e :: es, ρ, st, st', ds, h => by
    unfold evEs at h
    cases h1 : evE cf e ρ st with
    | ok d st1 =>
      rw [h1] at h
      cases h2 : evEs cf es ρ st1 with
      | ok ds' st2 =>
        have h' : Out.ok (d :: ds') st2 = .ok ds st' := by
          have := h
          simp only [Out.bind, h2] at this
          exact this
        cases h'
        rw [List.length_cons, List.length_cons, evEs_length h2]
      | ex c p st2 => simp only [Out.bind, h2] at h; cases h
      | no => simp only [Out.bind, h2] at h; cases h
    | ex c p st1 => rw [h1] at h; cases h
    | no => rw [h1] at h; cases h

/-! ### the readings -/
section
variable (ws : Ws) (cf : Cf) (W : WX) (n : Nat)
def tE (e : E) : TE := fun σ H Q => ∃ ρ st m, RlE ws m H ρ σ ∧ Rl ws m st H ∧ σ.length = n ∧ Aft ws W n m H (RD ws) Q (evE cf e ρ st)
def tEs (es : List E) : TA := fun σ H Q => ∃ ρ st m, RlE ws m H ρ σ ∧ Rl ws m st H ∧ σ.length = n ∧ Aft ws W n m H (RA ws) Q (evEs cf es ρ st)
def RB : Hp → List Addr → Hp → Bool → Bool → Prop := fun _ _ _ a b => a = b
def tT (e : E) : TT := fun σ H Q => ∃ ρ st m, RlE ws m H ρ σ ∧ Rl ws m st H ∧ σ.length = n ∧ Aft ws W n m H RB Q ((evE cf e ρ st).bind asB)
end
/-! weaker readings -/
theorem PE.imp {X : Cx} {e : Expr} {t u : TE} (h : PE X e t) (k : ∀ σ H Q, u σ H Q → t σ H Q) : PE X e u := ⟨fun pins s σ H Q I q => h.run pins s σ H Q I (k _ _ _ q)⟩
theorem PT.imp {X : Cx} {e : Expr} {t u : TT} (h : PT X e t) (k : ∀ σ H Q, u σ H Q → t σ H Q) : PT X e u := ⟨fun pins s σ H Q I q => h.run pins s σ H Q I (k _ _ _ q)⟩
theorem PW.imp {X : Cx} {e : Expr} {t u : TT} (h : PW X e t) (k : ∀ σ H Q, u σ H Q → t σ H Q) : PW X e u := ⟨fun wh pins s σ H Q I q => h.run wh pins s σ H Q I (k _ _ _ q)⟩
theorem PA.imp {X : Cx} {es : List Expr} {t u : TA} (h : PA X es t) (k : ∀ σ H Q, u σ H Q → t σ H Q) : PA X es u := ⟨fun pos pins s σ H Q I q => h.run pos pins s σ H Q I (k _ _ _ q)⟩
theorem PS.imp {X : Cx} {e : Stmt} {t u : TS} (h : PS X e t) (k : ∀ D σ H, u D σ H → t D σ H) : PS X e u := ⟨fun pins s σ H D I q => h.run pins s σ H D I (k _ _ _ q)⟩
theorem PSs.imp {X : Cx} {e : List Stmt} {t u : TS} (h : PSs X e t) (k : ∀ D σ H, u D σ H → t D σ H) : PSs X e u := ⟨fun pins s σ H D I q => h.run pins s σ H D I (k _ _ _ q)⟩
theorem PG.imp {X : Cx} {e : Expr} {t u : TG} (h : PG X e t) (k : ∀ v σ H Q, u v σ H Q → t v σ H Q) : PG X e u := ⟨fun pins s σ H v w Q I r q => h.run pins s σ H v w Q I r (k _ _ _ _ q)⟩
theorem PI.imp {X : Cx} {tg e : Expr} {t u : TI} (h : PI X tg e t) (k : ∀ σ H R, u σ H R → t σ H R) : PI X tg e u := ⟨fun pins s σ H R I q => h.run pins s σ H R I (k _ _ _ q)⟩

section
variable {ws : Ws} {cf : Cf} {W : WX} {n : Nat} {σ : L2.St} {H : Hp}
/-- one expression, then more -/
theorem tE_bind {e : E} {ρ : Rho} {st : Sto} {m : List Addr} {γ δ : Type} {S : Hp → List Addr → Hp → γ → δ → Prop} {Q : δ → Hp → Prop} {Q1 : VK} {f : D → Sto → Out γ} (hρ : RlE ws m H ρ σ) (r : Rl ws m st H) (hl : σ.length = n)
    (h : Aft ws W n m H S Q ((evE cf e ρ st).bind f))
    (k : ∀ d st1 m1 H1 v, evE cf e ρ st = .ok d st1 → Step m H m1 H1 → Rl ws m1 st1 H1 → RlE ws m1 H1 ρ σ → RD ws H m1 H1 d v → Aft ws W n m H S Q (f d st1) → Q1 v H1) : tE ws cf W n e σ H Q1 :=
  ⟨ρ, st, m, hρ, r, hl, Aft.bind h fun d st1 m1 H1 v e1 s r1 q a => k d st1 m1 H1 v e1 s r1 (hρ.mono s) q a⟩
theorem tEs_bind {es : List E} {ρ : Rho} {st : Sto} {m : List Addr} {γ δ : Type} {S : Hp → List Addr → Hp → γ → δ → Prop} {Q : δ → Hp → Prop} {Q1 : List V → Hp → Prop} {f : List D → Sto → Out γ} (hρ : RlE ws m H ρ σ) (r : Rl ws m st H) (hl : σ.length = n)
    (h : Aft ws W n m H S Q ((evEs cf es ρ st).bind f))
    (k : ∀ ds st1 m1 H1 vs, evEs cf es ρ st = .ok ds st1 → Step m H m1 H1 → Rl ws m1 st1 H1 → RlE ws m1 H1 ρ σ → RA ws H m1 H1 ds vs → Aft ws W n m H S Q (f ds st1) → Q1 vs H1) : tEs ws cf W n es σ H Q1 :=
  ⟨ρ, st, m, hρ, r, hl, Aft.bind h fun d st1 m1 H1 v e1 s r1 q a => k d st1 m1 H1 v e1 s r1 (hρ.mono s) q a⟩
theorem tE_one {e : E} {Q : VK} {ρ : Rho} {st : Sto} {m : List Addr} (hρ : RlE ws m H ρ σ) (r : Rl ws m st H) (hl : σ.length = n) (h : Aft ws W n m H (RD ws) Q (evE cf e ρ st)) : tE ws cf W n e σ H Q := ⟨ρ, st, m, hρ, r, hl, h⟩
theorem bind_ok {α : Type} (x : Out α) : (x.bind fun a st => .ok a st) = x := by cases x <;> rfl
theorem bind_assoc {α β γ : Type} (x : Out α) (f : α → Sto → Out β) (g : β → Sto → Out γ) : (x.bind f).bind g = x.bind fun a st => (f a st).bind g := by cases x <;> rfl
/-- an operation behind its arguments -/
theorem aft_prim {m0 m : List Addr} {H0 H : Hp} {st : Sto} {p : Pr} {ds : List D} {vs : List V} {Q : VK} (s : Step m0 H0 m H) (r : Rl ws m st H) (a : RA ws H0 m H ds vs) (h : Aft ws W n m0 H0 (RD ws) Q (binds (semP p ds st))) : rP ws p vs H Q := by
  cases e : semP p ds st with
  | none => rw [e] at h; exact h.elim
  | some ds' =>
    obtain ⟨d, st'⟩ := ds'
    rw [e] at h
    exact ⟨H0, m0, m, st, ds, d, st', s, r, a, e, fun m' H' v s' r' q => h m' H' v s' r' q⟩
/-- arguments one by one -/
theorem tEs_cons {e : E} {es : List E} {Q : List V → Hp → Prop} (h : tEs ws cf W n (e :: es) σ H Q) : tCons (tE ws cf W n e) (tEs ws cf W n es) σ H Q := by
  obtain ⟨ρ, st, m, hρ, r, hl, h⟩ := h
  unfold evEs at h
  refine tE_bind hρ r hl h fun d st1 m1 H1 v _ s1 r1 hρ1 q1 h1 => ?_
  refine ⟨ρ, st1, m1, hρ1, r1, hl, ?_⟩
  cases x : evEs cf es ρ st1 with
  | ok ds st2 =>
    rw [x] at h1
    intro m2 H2 vs s2 r2 q2
    exact h1 m2 H2 (v :: vs) (s1.trans s2) r2 (q2.cons q1 s2 s1.there)
  | ex c p st2 =>
    rw [x] at h1
    exact fun m' H' cls dx σ' s' r q l => h1 m' H' cls dx σ' (s1.trans s') r q l
  | no => rw [x] at h1; exact h1
theorem tEs_nil {Q : List V → Hp → Prop} (h : tEs ws cf W n [] σ H Q) : tNil σ H Q := by
  obtain ⟨ρ, st, m, hρ, r, hl, h⟩ := h
  exact h m H [] (Step.refl m H) r ⟨.nil, by simp [tls], by simp [tls]⟩
theorem tE_mono {e : E} {Q Q' : VK} (h : tE ws cf W n e σ H Q) (k : ∀ v H', Q v H' → Q' v H') : tE ws cf W n e σ H Q' := by
  obtain ⟨ρ, st, m, hρ, r, hl, h⟩ := h
  exact ⟨ρ, st, m, hρ, r, hl, h.imp k⟩
theorem tE_prim {p : Pr} {es : List E} {Q : VK} (h : tE ws cf W n (.prim p es) σ H Q) : tEs ws cf W n es σ H (fun vs H1 => rP ws p vs H1 Q) := by
  obtain ⟨ρ, st, m, hρ, r, hl, h⟩ := h
  unfold evE at h
  exact tEs_bind hρ r hl h fun ds st1 m1 H1 vs _ s1 r1 hρ1 q1 h1 => aft_prim s1 r1 q1 h1
theorem tEs_one {a : E} {Q : List V → Hp → Prop} (h : tEs ws cf W n [a] σ H Q) : tE ws cf W n a σ H fun x H1 => Q [x] H1 := tE_mono (tEs_cons h) fun _ _ k => tEs_nil k
theorem tEs_two {a b : E} {Q : List V → Hp → Prop} (h : tEs ws cf W n [a, b] σ H Q) : tE ws cf W n a σ H fun x H1 => tE ws cf W n b σ H1 fun y H2 => Q [x, y] H2 := tE_mono (tEs_cons h) fun _ _ k => tEs_one k
theorem tEs_three {a b c : E} {Q : List V → Hp → Prop} (h : tEs ws cf W n [a, b, c] σ H Q) : tE ws cf W n a σ H fun x H1 => tE ws cf W n b σ H1 fun y H2 => tE ws cf W n c σ H2 fun z H3 => Q [x, y, z] H3 := tE_mono (tEs_cons h) fun _ _ k => tEs_two k
/-- a two-place operation -/
theorem tE_op {p : Pr} {a b : E} {Q : VK} (h : tE ws cf W n (.prim p [a, b]) σ H Q) : tOp (rP2 ws p) (tE ws cf W n a) (tE ws cf W n b) σ H Q := tEs_two (tE_prim h)
theorem asB_inv {d : D} {st : Sto} {α : Type} {f : Bool → Sto → Out α} (x : Out α) (h : x ≠ .no) (e : (asB d st).bind f = x) : ∃ b, d = .bl b ∧ f b st = x := by
  cases d with
  | bl b => exact ⟨b, rfl, e⟩
  | _ => exact absurd e.symm h
theorem aft_no {α β : Type} {m : List Addr} {R : Hp → List Addr → Hp → α → β → Prop} {Q : β → Hp → Prop} {x : Out α} (h : Aft ws W n m H R Q x) : x ≠ .no := fun e => by rw [e] at h; exact h
/-- a test, then more -/
theorem tT_bind {e : E} {ρ : Rho} {st : Sto} {m : List Addr} {γ δ : Type} {S : Hp → List Addr → Hp → γ → δ → Prop} {Q : δ → Hp → Prop} {Q1 : Bool → Hp → Prop} {f : Bool → Sto → Out γ} (hρ : RlE ws m H ρ σ) (r : Rl ws m st H) (hl : σ.length = n)
    (h : Aft ws W n m H S Q (((evE cf e ρ st).bind asB).bind f))
    (k : ∀ b st1 m1 H1, Step m H m1 H1 → Rl ws m1 st1 H1 → RlE ws m1 H1 ρ σ → Aft ws W n m H S Q (f b st1) → Q1 b H1) : tT ws cf W n e σ H Q1 :=
  ⟨ρ, st, m, hρ, r, hl, Aft.bind h fun b st1 m1 H1 b' e1 s r1 q a => by
    cases q
    exact k b st1 m1 H1 s r1 (hρ.mono s) a⟩
/-- a test by a value -/
theorem tT_val {e : E} {Q : Bool → Hp → Prop} (h : tT ws cf W n e σ H Q) : tB (tE ws cf W n e) σ H Q := by
  obtain ⟨ρ, st, m, hρ, r, hl, h⟩ := h
  refine tE_bind hρ r hl h fun d st1 m1 H1 v _ s1 r1 hρ1 q1 h1 => ?_
  obtain ⟨b, rfl, _⟩ := asB_inv (f := fun b st => .ok b st) (asB d st1) (aft_no h1) (bind_ok _)
  cases q1.1
  exact ⟨b, rfl, h1 m1 H1 b s1 r1 rfl⟩
theorem tT_not {e : E} {Q : Bool → Hp → Prop} (h : tT ws cf W n (.not e) σ H Q) : tNot (tT ws cf W n e) σ H Q := by
  obtain ⟨ρ, st, m, hρ, r, hl, h⟩ := h
  unfold evE at h
  rw [bind_assoc] at h
  exact tT_bind hρ r hl h fun b st1 m1 H1 s1 r1 hρ1 h1 => h1 m1 H1 _ s1 r1 rfl
theorem tE_not {e : E} {Q : VK} (h : tE ws cf W n (.not e) σ H Q) : tNotV (tE ws cf W n e) σ H Q := by
  obtain ⟨ρ, st, m, hρ, r, hl, h⟩ := h
  unfold evE at h
  rw [bind_assoc] at h
  refine tE_bind hρ r hl h fun d st1 m1 H1 v _ s1 r1 hρ1 q1 h1 => ?_
  obtain ⟨b, rfl, _⟩ := asB_inv _ (aft_no h1) rfl
  cases q1.1
  exact ⟨b, rfl, h1 m1 H1 _ s1 r1 ⟨.bl _, fr_of rfl⟩⟩
theorem tT_and {a b : E} {Q : Bool → Hp → Prop} (h : tT ws cf W n (.and a b) σ H Q) : tAnd (tT ws cf W n a) (tT ws cf W n b) σ H Q := by
  obtain ⟨ρ, st, m, hρ, r, hl, h⟩ := h
  unfold evE at h
  rw [bind_assoc] at h
  refine tT_bind hρ r hl h fun c st1 m1 H1 s1 r1 hρ1 h1 => ?_
  cases c with
  | true => exact ⟨ρ, st1, m1, hρ1, r1, hl, h1.shift s1 fun _ _ _ _ h => h⟩
  | false => exact h1 m1 H1 _ s1 r1 rfl
theorem tE_and {a b : E} {Q : VK} (h : tE ws cf W n (.and a b) σ H Q) : tAndV (tE ws cf W n a) (tE ws cf W n b) σ H Q := by
  obtain ⟨ρ, st, m, hρ, r, hl, h⟩ := h
  unfold evE at h
  rw [bind_assoc] at h
  refine tE_bind hρ r hl h fun d st1 m1 H1 v _ s1 r1 hρ1 q1 h1 => ?_
  obtain ⟨c, rfl, _⟩ := asB_inv _ (aft_no h1) rfl
  cases q1.1
  refine ⟨c, rfl, ?_⟩
  cases c with
  | true => exact ⟨ρ, st1, m1, hρ1, r1, hl, Aft.shift (x := evE cf b ρ st1) h1 s1 fun _ _ _ _ h => RD.back s1 h⟩
  | false => exact h1 m1 H1 _ s1 r1 ⟨.bl _, fr_of rfl⟩
theorem tT_or {a b : E} {Q : Bool → Hp → Prop} (h : tT ws cf W n (.or a b) σ H Q) : tOr (tT ws cf W n a) (tT ws cf W n b) σ H Q := by
  obtain ⟨ρ, st, m, hρ, r, hl, h⟩ := h
  unfold evE at h
  rw [bind_assoc] at h
  refine tT_bind hρ r hl h fun c st1 m1 H1 s1 r1 hρ1 h1 => ?_
  cases c with
  | false => exact ⟨ρ, st1, m1, hρ1, r1, hl, h1.shift s1 fun _ _ _ _ h => h⟩
  | true => exact h1 m1 H1 _ s1 r1 rfl
theorem tE_or {a b : E} {Q : VK} (h : tE ws cf W n (.or a b) σ H Q) : tOrV (tE ws cf W n a) (tE ws cf W n b) σ H Q := by
  obtain ⟨ρ, st, m, hρ, r, hl, h⟩ := h
  unfold evE at h
  rw [bind_assoc] at h
  refine tE_bind hρ r hl h fun d st1 m1 H1 v _ s1 r1 hρ1 q1 h1 => ?_
  obtain ⟨c, rfl, _⟩ := asB_inv _ (aft_no h1) rfl
  cases q1.1
  refine ⟨c, rfl, ?_⟩
  cases c with
  | false => exact ⟨ρ, st1, m1, hρ1, r1, hl, Aft.shift (x := evE cf b ρ st1) h1 s1 fun _ _ _ _ h => RD.back s1 h⟩
  | true => exact h1 m1 H1 _ s1 r1 ⟨.bl _, fr_of rfl⟩
theorem tE_ite {c a b : E} {Q : VK} (h : tE ws cf W n (.ite c a b) σ H Q) : tIf (tT ws cf W n c) (tE ws cf W n a) (tE ws cf W n b) σ H Q := by
  obtain ⟨ρ, st, m, hρ, r, hl, h⟩ := h
  unfold evE at h
  refine tT_bind hρ r hl h fun c st1 m1 H1 s1 r1 hρ1 h1 => ?_
  cases c with
  | true => exact ⟨ρ, st1, m1, hρ1, r1, hl, Aft.shift (x := evE cf a ρ st1) h1 s1 fun _ _ _ _ h => RD.back s1 h⟩
  | false => exact ⟨ρ, st1, m1, hρ1, r1, hl, Aft.shift (x := evE cf b ρ st1) h1 s1 fun _ _ _ _ h => RD.back s1 h⟩
def isCmp (p : Pr) : Bool := match p with
  | .lt => true
  | .le => true
  | .gt => true
  | .ge => true
  | _ => false
theorem cmp_sem {p : Pr} (h : isCmp p = true) {i j : Int} {b : Bool} (e : semI p i j = some (.bl b)) (st : Sto) : semP p [.int i, .int j] st = some (.bl b, st) := by
  cases p <;> first | exact absurd h (by decide) | (cases e <;> rfl)
theorem RA.one {H0 : Hp} {m : List Addr} {d : D} {v : V} (h : RD ws H0 m H d v) : RA ws H0 m H [d] [v] := ⟨.cons h.1 .nil, by
  cases d <;> cases v <;> simp [tls], tls_one h.2⟩
theorem tE_chain {p q : Pr} (hp : isCmp p = true) {a b c : E} {Q : VK} (h : tE ws cf W n (.chain p q a b c) σ H Q) : tChain (rP2 ws p) (rP2 ws q) (tE ws cf W n a) (tE ws cf W n b) (tE ws cf W n c) σ H Q := by
  obtain ⟨ρ, st, m, hρ, r, hl, h⟩ := h
  unfold evE at h
  refine tE_bind hρ r hl h fun x st1 m1 H1 v e1 s1 r1 hρ1 q1 h1 => ?_
  clear e1
  refine tE_bind hρ1 r1 hl (Aft.shift h1 s1 fun _ _ _ _ h => RD.back s1 h) fun y st2 m2 H2 u e2 s2 r2 hρ2 q2 h2 => ?_
  clear e2
  split at h2
  · rename_i i j
    cases q1.1
    cases q2.1
    have r0 : RA ws H2 m2 H2 [.int i, .int j] [.int i, .int j] := ⟨.cons (.int i) (.cons (.int j) .nil), by simp [tls], by simp [tls]⟩
    cases e : semI p i j with
    | none => rw [e] at h2; exact h2.elim
    | some d =>
      rw [e] at h2
      cases d with
      | bl t =>
        refine ⟨H2, m2, m2, st2, [.int i, .int j], .bl t, st2, Step.refl _ _, r2, r0, cmp_sem hp e st2, fun m3 H3 w s3 r3 q3 => ?_⟩
        cases q3.1
        refine ⟨t, rfl, ?_⟩
        cases t with
        | true =>
          have h3 : Aft ws W n m3 H3 (RD ws) Q ((evE cf c ρ st2).bind fun z st => binds (semP q [.int j, z] st)) := Aft.shift (x := (evE cf c ρ st2).bind fun z st => binds (semP q [.int j, z] st)) h2 (s2.trans s3) fun _ _ _ _ h => RD.back (s2.trans s3) h
          exact tE_bind (hρ2.mono s3) r3 hl h3 fun z st4 m4 H4 w _ s4 r4 hρ4 q4 h4 => aft_prim s4 r4 (RA.cons (H0 := H3) ⟨.int j, fr_of rfl⟩ s4 (fun _ h => h) (RA.one q4)) h4
        | false => exact h2 m3 H3 _ (s2.trans s3) r3 ⟨.bl _, fr_of rfl⟩
      | _ => exact h2.elim
  · exact h2.elim
/-! displays -/
theorem tE_tup {es : List E} (hes : es.length ≤ 1000) {Q : VK} (h : tE ws cf W n (.tupE es) σ H Q) : tTup (tEs ws cf W n es) σ H Q := by
  obtain ⟨ρ, st, m, hρ, r, hl, h⟩ := h
  unfold evE at h
  refine tEs_bind hρ r hl h fun ds st1 m1 H1 vs e1 s1 r1 hρ1 q1 h1 => ?_
  have hlen : ds.length = es.length := evEs_length e1
  refine ⟨by rw [← q1.as.length, hlen]; exact Nat.le_trans hes (by decide), fun p hp => ?_⟩
  obtain ⟨r2, t2⟩ := mats_ok r1 q1.as q1.nd
  have s2 : Step m H (m1 ++ tls ds vs) H1 := s1.more q1.fr
  exact h1 _ _ _ (s2.trans (Step.alloc hp)) (r2.alloc hp) ⟨.tup (SqT.of upd_same) (t2.mono (Step.alloc hp)), fr_of rfl⟩
theorem tE_lst {es : List E} (hes : es.length ≤ 1000) {Q : VK} (h : tE ws cf W n (.lstE es) σ H Q) : tLst (tEs ws cf W n es) σ H Q := by
  obtain ⟨ρ, st, m, hρ, r, hl, h⟩ := h
  unfold evE at h
  refine tEs_bind hρ r hl h fun ds st1 m1 H1 vs e1 s1 r1 hρ1 q1 h1 => ?_
  have hlen : ds.length = es.length := evEs_length e1
  refine ⟨by rw [← q1.as.length, hlen]; exact Nat.le_trans hes (by decide), fun p hp => ?_⟩
  obtain ⟨r2, t2⟩ := mats_ok r1 q1.as q1.nd
  have s2 : Step m H (m1 ++ tls ds vs) H1 := s1.more q1.fr
  exact h1 _ _ _ (s2.trans (Step.alloc hp)) (r2.alloc hp) ⟨.tl (r2.free hp) upd_same (t2.mono (Step.alloc hp)), fun _ a e => by cases e; exact s1.there p hp⟩
/-! names and constants -/
theorem tE_var {i : Nat} {Q : VK} (h : tE ws cf W n (.var i) σ H Q) : tVar i σ H Q := by
  obtain ⟨ρ, st, m, hρ, r, hl, h⟩ := h
  unfold evE at h
  split at h
  · rename_i d e
    obtain ⟨v, e1, q, k⟩ := hρ.2 i d e
    exact ⟨v, e1, h m H v (Step.refl m H) r ⟨q, fr_of k⟩⟩
  · exact h.elim
theorem tE_cst {d : D} {v : V} (hd : ∀ m H, DV ws m H d v) (hn : notl d = true) {Q : VK} (h : tE ws cf W n (.cst d) σ H Q) : tC v σ H Q := by
  obtain ⟨ρ, st, m, hρ, r, hl, h⟩ := h
  unfold evE at h
  exact h m H v (Step.refl m H) r ⟨hd m H, fr_of hn⟩
/-! slices -/
theorem tE_sl00 {a : E} {Q : VK} (h : tE ws cf W n (.prim (.sl false false) [a]) σ H Q) : tSl (rSl ws) (tE ws cf W n a) tNoPart tNoPart σ H Q := by
  obtain ⟨ρ, st, m, hρ, r, hl, h⟩ := h
  unfold evE evEs evEs at h
  rw [bind_assoc] at h
  refine tE_bind hρ r hl h fun x st1 m1 H1 v _ s1 r1 hρ1 q1 h1 => ?_
  have h1' : Aft ws W n m H (RD ws) Q (binds (semSl x none none st1)) := h1
  cases e : semSl x none none st1 with
  | none => rw [e] at h1'; exact h1'.elim
  | some z => rw [e] at h1'; exact ⟨H, m, m1, st1, x, z.1, z.2, s1, r1, q1.1, by rw [e], fun m' H' v s r q => h1' m' H' v s r q⟩
theorem tE_sl10 {a b : E} {Q : VK} (h : tE ws cf W n (.prim (.sl true false) [a, b]) σ H Q) : tSl (rSl ws) (tE ws cf W n a) (tPart (tE ws cf W n b)) tNoPart σ H Q := by
  obtain ⟨ρ, st, m, hρ, r, hl, h⟩ := h
  unfold evE evEs evEs evEs at h
  rw [bind_assoc] at h
  refine tE_bind hρ r hl h fun x st1 m1 H1 v _ s1 r1 hρ1 q1 h1 => ?_
  rw [bind_assoc, bind_assoc] at h1
  refine tE_bind hρ1 r1 hl (h1.shift s1 fun _ _ _ _ h => RD.back s1 h) fun y st2 m2 H2 u _ s2 r2 hρ2 q2 h2 => ?_
  have h2' : Aft ws W n m1 H1 (RD ws) Q (binds (semP (.sl true false) [x, y] st2)) := h2
  cases y with
  | int i =>
    cases q2.1
    refine ⟨i, rfl, ?_⟩
    have h3 : Aft ws W n m1 H1 (RD ws) Q (binds (semSl x (some i) none st2)) := h2'
    cases e : semSl x (some i) none st2 with
    | none => rw [e] at h3; exact h3.elim
    | some z => rw [e] at h3; exact ⟨H1, m1, m2, st2, x, z.1, z.2, s2, r2, q1.1.mono s2, by rw [e], fun m' H' v s r q => h3 m' H' v s r q⟩
  | _ => exact h2'.elim
theorem tE_sl01 {a b : E} {Q : VK} (h : tE ws cf W n (.prim (.sl false true) [a, b]) σ H Q) : tSl (rSl ws) (tE ws cf W n a) tNoPart (tPart (tE ws cf W n b)) σ H Q := by
  obtain ⟨ρ, st, m, hρ, r, hl, h⟩ := h
  unfold evE evEs evEs evEs at h
  rw [bind_assoc] at h
  refine tE_bind hρ r hl h fun x st1 m1 H1 v _ s1 r1 hρ1 q1 h1 => ?_
  rw [bind_assoc, bind_assoc] at h1
  refine tE_bind hρ1 r1 hl (h1.shift s1 fun _ _ _ _ h => RD.back s1 h) fun y st2 m2 H2 u _ s2 r2 hρ2 q2 h2 => ?_
  have h2' : Aft ws W n m1 H1 (RD ws) Q (binds (semP (.sl false true) [x, y] st2)) := h2
  cases y with
  | int i =>
    cases q2.1
    refine ⟨i, rfl, ?_⟩
    have h3 : Aft ws W n m1 H1 (RD ws) Q (binds (semSl x none (some i) st2)) := h2'
    cases e : semSl x none (some i) st2 with
    | none => rw [e] at h3; exact h3.elim
    | some z => rw [e] at h3; exact ⟨H1, m1, m2, st2, x, z.1, z.2, s2, r2, q1.1.mono s2, by rw [e], fun m' H' v s r q => h3 m' H' v s r q⟩
  | _ => exact h2'.elim
theorem tE_sl11 {a b c : E} {Q : VK} (h : tE ws cf W n (.sl3 a b c) σ H Q) : tSl (rSl ws) (tE ws cf W n a) (tPart (tE ws cf W n b)) (tPart (tE ws cf W n c)) σ H Q := by
  obtain ⟨ρ, st, m, hρ, r, hl, h⟩ := h
  unfold evE at h
  refine tE_bind hρ r hl h fun x st1 m1 H1 v _ s1 r1 hρ1 q1 h1 => ?_
  refine tE_bind hρ1 r1 hl (h1.shift s1 fun _ _ _ _ h => RD.back s1 h) fun y st2 m2 H2 u _ s2 r2 hρ2 q2 h2 => ?_
  cases y with
  | int i =>
    cases q2.1
    refine ⟨i, rfl, ?_⟩
    refine tE_bind hρ2 r2 hl (h2.shift s2 fun _ _ _ _ h => RD.back s2 h) fun z st3 m3 H3 w _ s3 r3 hρ3 q3 h3 => ?_
    cases z with
    | int j =>
      cases q3.1
      refine ⟨j, rfl, ?_⟩
      have h4 : Aft ws W n m2 H2 (RD ws) Q (binds (semSl x (some i) (some j) st3)) := h3
      cases e : semSl x (some i) (some j) st3 with
      | none => rw [e] at h4; exact h4.elim
      | some z => rw [e] at h4; exact ⟨H2, m2, m3, st3, x, z.1, z.2, s3, r3, q1.1.mono (s2.trans s3), by rw [e], fun m' H' v s r q => h4 m' H' v s r q⟩
    | _ => exact h3.elim
  | _ => exact h2.elim
end
end Mn
/-! enumerate over a tuple -/
namespace PySem
open Sem (wp)
open Builtin Builtin.Str
theorem meets_enumerate_new1 {v : Value} {o : Obj} {H : Heap → Prop} (B : Begins v o H) :
    Meets (Builtin.«enumerate.__new__» ⟨[.type "enumerate", v], []⟩) (fun _ R s => H s.heap ∧
      R (.ok (.ret (.ref (s.heap.push o).objs.size))) { s with heap := (s.heap.push o).push { cls := .type "enumerate", data := .fields #[.none, .bool false, .ref s.heap.objs.size, rawInt 0, .none, .none] } }) :=
  .of_wp fun prog w A R s h => by
    obtain ⟨hp, g, d, tk, os⟩ := s; obtain ⟨h1, h⟩ := h
    have hsub := sub_enumerate
    have q1 : ∀ {A' : Around} {E : Value → Shared → Prop} {Q : Value → Shared → Prop}, Q (.ref hp.objs.size) ⟨hp.push o, g, d, tk, os⟩ → wpAny (model prog w) A' (pyIter v) Q E ⟨hp, g, d, tk, os⟩ :=
      fun q => B.iter prog w _ _ ⟨hp, g, d, tk, os⟩ _ h1 q
    wp_walk using q1
    refine wpAny_stack_any fun st => wpAny_pure ?_
    split
    · rename_i c _ _ _ _ _
      cases (c == Value.type "enumerate")
      · wp_walk using q1
        exact ⟨_, rfl, h⟩
      · wp_walk using q1
        exact ⟨_, rfl, h⟩
    · wp_walk using q1
      exact ⟨_, rfl, h⟩
section
variable {prog : Program} {w : World} {A : Around} {E : Value → Shared → Prop} {s : Shared}
theorem enum_begins1 {v : Value} {o : Obj} {H : Heap → Prop} {Q : Value → Shared → Prop} (B : Begins v o H) (h1 : H s.heap)
    (h : ∀ h', IsEnum h' (s.heap.objs.size + 1) s.heap.objs.size 0 .none → h'.get? s.heap.objs.size = some o → h'.objs.size = s.heap.objs.size + 2 →
      (∀ b o, s.heap.get? b = some o → h'.get? b = some o) → Q (.ref (s.heap.objs.size + 1)) { s with heap := h' }) :
    wpAny (model prog w) A (call (.type "enumerate") [v]) Q E s := by
  refine callType_new F.called_enumerate (by decide) (F.typeCall_enumerate_1 _) (F.newCall_enumerate_1 _) (fun obj => F.args_object_init_2 obj _) F.entry_enumerate_new
    (meets_enumerate_new1 B) ⟨h1, ?_⟩
  have hz : (s.heap.push o).objs.size = s.heap.objs.size + 1 := Heap.size_push ..
  show _ ∧ _
  rw [hz]
  have he : IsEnum ((s.heap.push o).push { cls := .type "enumerate", data := .fields #[.none, .bool false, .ref s.heap.objs.size, rawInt 0, .none, .none] }) (s.heap.objs.size + 1) s.heap.objs.size 0 .none := by
    have := Heap.get?_push_size (s.heap.push o) (o := { cls := .type "enumerate", data := .fields #[.none, .bool false, .ref s.heap.objs.size, rawInt 0, .none, .none] }) rfl
    rw [hz] at this; exact this
  refine ⟨⟨_, he, rfl⟩, h _ he (Heap.get?_push_of_some _ (Heap.get?_push_size _ B.free)) (by rw [Heap.size_push, hz]) fun b o x => Heap.get?_push_of_some _ (Heap.get?_push_of_some _ x)⟩
end
end PySem
namespace L2
open PySem PySem.Spec PyProof.Rows
/-- the tuple at a, each item in a new pair -/
def IteT (K : PySem.W.Frag) (a : Addr) : It :=
  ⟨fun i H => ∃ (xs : List V) (x : V), SqT K H a xs ∧ xs[i]? = some x, fun i H v H' => ∃ T x, v = .ref T ∧ H T = none ∧ H' = upd H T (.tup [.int (i : Nat), x]) ∧ ∀ xs, SqT K H a xs → xs[i]? = some x, fun i H => ∃ xs : List V, SqT K H a xs ∧ xs.length ≤ i⟩
theorem turn_enumT {P : Program} {w : World} {K : PySem.W.Frag} {elts : List Expr} {kk : Nat} {tpos : Pos} (a e it : Addr) :
    Turn P w K (.Tuple elts kk tpos) (IteT K a) [e, it] e (fun i h => (∃ old, IsEnum h e it ((i : Nat) : Int) old) ∧ h.IsTupleIter it a i ∧ e ≠ it) where
  mem := by simp
  obj := fun i h st b hb => by
    obtain ⟨⟨old, he⟩, ⟨o, ho, hc, hd⟩, _⟩ := st
    have e' : b = e ∨ b = it := by simpa using hb
    rcases e' with z | z
    · rw [z]; exact ⟨_, he, fun v q => nomatch q⟩
    · rw [z]; exact ⟨o, ho, fun v q => by rw [hd] at q; cases q⟩
  keep := fun i h h' st k => let ⟨⟨old, he⟩, hi, hne⟩ := st; ⟨⟨old, k e (by simp) _ he⟩, hi.at fun o q => k it (by simp) o q, hne⟩
  item := by
    intro X hP hw hK hc i pins s σ H E I hf st hg
    subst hP hw hK
    obtain ⟨⟨old, he⟩, hit, hne⟩ := st
    obtain ⟨xs, x, hq, hx⟩ := hg
    obtain ⟨its, rv, p, hz⟩ := I.tuple hq
    have p : s.heap.IsTuple a its.toArray := p
    obtain ⟨u, hu, ru⟩ := rv.get hx
    have hel : e < s.heap.objs.size := Heap.lt_size he
    have hil : it < s.heap.objs.size := by obtain ⟨_, q, _⟩ := hit; exact Heap.lt_size q
    have hae : a ≠ e := fun z => by
      obtain ⟨o, q, c, _⟩ := p
      rw [z, he] at q
      have q := Option.some.inj q
      rw [← q] at c
      exact absurd (Value.type.inj c) (by decide)
    have hai : a ≠ it := fun z => by
      obtain ⟨o, q, c, _⟩ := p
      obtain ⟨o', q', c', _⟩ := hit
      rw [z, q'] at q
      cases q
      rw [c'] at c
      exact absurd (Value.type.inj c) (by decide)
    have hlt : i < its.toArray.size := by
      have := (List.getElem?_eq_some_iff.mp hu).1
      simpa using this
    refine wpAny_pyNext_enum_itemD (Draws.tuple (A := X.A.in1) (I.ok.hd hc) it a hai its.toArray) he ⟨hit, p⟩ hlt hne (by simp [hne, Ne.symm hae]) fun x' h' tk hP ho hst' hT hsz hk => ?_
    have ex : x' = u := by
      have hP : its.toArray[i]? = some x' := hP
      rw [List.getElem?_toArray, hu] at hP
      cases hP; rfl
    subst ex
    refine ⟨_, rfl, wpAny_letOwnedTupleGo_enum (s := { s with heap := h', toks := tk + 1 }) ho fun h'' he' sb => ?_⟩
    have hT2 : h''.get? s.heap.objs.size = some { cls := .type "tuple", data := .seq #[.int i tk, x'] } := (sb.2 _ (Nat.ne_of_gt hel)).trans hT
    have new : ObjOk X.prog X.w (upd H s.heap.objs.size (.tup [.int (i : Nat), x])) h'' s.heap.objs.size (.tup [.int (i : Nat), x]) :=
      ⟨by show 2 ≤ sizeLine; decide, [.int i tk, x'], .cons ⟨_, rfl⟩ (.cons ru .nil), ⟨_, hT2, rfl, _, rfl⟩⟩
    have I1 : Inv X pins σ (upd H s.heap.objs.size (.tup [.int (i : Nat), x])) { s with heap := h'', toks := tk + 1 } :=
      I.turnedNew (ch := [e, it]) (fun b ob hb q => (sb.2 b (fun z => hb (by simp [z]))).trans (hk b ob (fun z => hb (by simp [z])) (fun z => hb (by simp [z])) q)) hf (Nat.le_refl _) new
    refine ⟨.ref s.heap.objs.size, _, I1, rfl, ⟨_, x, rfl, I.hok.fresh (Nat.le_refl _), rfl, fun ys hy => by rw [I.tuple_inj hy hq]; exact hx⟩, ⟨⟨x', ?_⟩, hst'.1.at fun o q => (sb.2 it (Ne.symm hne)).trans q, hne⟩, fun b hb => ?_⟩
    · have e1 : ((i + 1 : Nat) : Int) = (i : Int) + 1 := by omega
      rw [e1]; exact he'
    · have hb' : b < s.heap.objs.size := by
        have e' : b = e ∨ b = it := by simpa using hb
        rcases e' with z | z
        · rw [z]; exact hel
        · rw [z]; exact hil
      rw [upd_ne (Nat.ne_of_lt hb')]
      exact (hf b hb).1
  done := by
    intro X hP hw hK hc i pins s σ H E I hf st hg
    subst hP hw hK
    obtain ⟨⟨old, he⟩, hit, hne⟩ := st
    obtain ⟨xs, hq, hx⟩ := hg
    obtain ⟨its, rv, p, hz⟩ := I.tuple hq
    have p : s.heap.IsTuple a its.toArray := p
    obtain ⟨f0, f1, f2, f3, f4, f5⟩ := hf it (by simp)
    have hl := rv.length
    have hT : s.TypeIs (.ref e) "enumerate" := ⟨_, he, rfl⟩
    unfold pyNext
    refine wpAny_bind (wpAny_attempt (wpAny_callSpecial?_slot (name := Str.ofString "__next__") hT F.slot_enumerate_next
      (wpAny_call_entry F.slot_enumerate_next hT F.entry_enumerate_next ?_ (F.args_enumerate_next_1 _))))
    show wpAny _ _ (field (.ref e) 2 >>= _) _ _ _
    refine wpAny_bind (wpAny_field he rfl (x := .ref it) rfl ?_)
    refine wpAny_bind (wpAny_nextOf_tuple_end (A := X.A.in1) (I.ok.hd hc) hit p (i := i) (by simp; omega) fun h' x he' hx' => ?_)
    obtain ⟨o, ho, hc'⟩ := hx'
    refine wpAny_bind (wpAny_isInstance (T := "StopIteration") (b := true) ⟨o, ho, hc'⟩ isSubtype_stop ?_)
    exact wpAny_pure ⟨rfl, I.turned (t' := s.toks) (fun b o hb q => he' b o hb q) f0 f1 f3 f4 f5⟩
  self := fun A i s Q E st h => let ⟨⟨_, he⟩, _⟩ := st; wpAny_pyIter_enum he h
def iEnumT (K : PySem.W.Frag) (ta : TA) : TI := fun σ H R => ta σ H fun vs H1 => ∃ a xs, vs = [.ref a] ∧ SqT K H1 a xs ∧ R (IteT K a) H1
theorem pi_enumT {X : Cx} {e : Expr} {ta : TA} {p pos tpos : Pos} {elts : List Expr} {kk : Nat} (hg : Gl X "enumerate") (hm : X.mg "enumerate" = none) (ha : PA X [e] ta) (hs : starEach [e] X.env = [(false, eval e X.env)] := by rfl) :
    PI X (.Tuple elts kk tpos) (.Call (.Name "enumerate" p) [e] [] pos) (iEnumT X.K ta) := by
  refine ⟨fun pins s σ H R I h => ?_⟩
  refine Call_ (ld_blt I hg hm boot_enumerate (PyProof.Rows.callWith_type1 (thn (ha.run pos pins s σ H _ I h) fun us s1 ⟨vs, H1, I1, r1, q1⟩ => ?_) hs rfl))
  obtain ⟨a, xs, ex, hq, q⟩ := q1
  subst ex
  cases r1 with
  | cons r rr =>
    cases rr
    cases r
    obtain ⟨its, rv, p', hz⟩ := I1.tuple hq
    refine enum_begins1 (begins_tuple _ its.toArray) (show s1.heap.IsTuple a its.toArray from p') fun h' he hit hsz hk => wpAny_pyIter_enum he ?_
    have I2 : Inv X pins σ H1 { s1 with heap := h' } := I1.kept (t' := s1.toks) hk
    refine ⟨s1.heap.objs.size + 1, [s1.heap.objs.size + 1, s1.heap.objs.size], _, _, H1, rfl, I2, turn_enumT a (s1.heap.objs.size + 1) s1.heap.objs.size, ⟨⟨.none, he⟩, ⟨_, hit, rfl, rfl⟩, Nat.succ_ne_self _⟩, fun b hb => ?_, q⟩
    have e' : b = s1.heap.objs.size + 1 ∨ b = s1.heap.objs.size := by simpa using hb
    have hle : s1.heap.objs.size ≤ b := by
      rcases e' with z | z
      · rw [z]; exact Nat.le_add_right _ _
      · rw [z]; exact Nat.le_refl _
    exact I1.fpOk hle (I1.hok.fresh hle)
end L2
/-! Mn7: calls, targets, sources, comprehensions: readings. -/
namespace Mn
open PySem PySem.Spec PyProof.Rows L2
section
variable {ws : Ws} {cf : Cf} {W : WX} {n : Nat} {σ : L2.St} {H : Hp}
/-! ### calls -/
/-- a def's promise by the small run -/
def spF (ws : Ws) (cf : Cf) (g : Nat) : Sp := fun vs H Q E => ∃ m st ds, Rl ws m st H ∧ DVs ws m H ds vs ∧ Aft ws (fun cls d _ H' => E cls d H') 0 m H (RD ws) Q (cf.call g ds st)
theorem aft_sp {g : Nat} {m0 m : List Addr} {H0 H1 : Hp} {st : Sto} {ds : List D} {vs : List V} {Q : VK} (hl : σ.length = n) (s : Step m0 H0 m H1) (r : Rl ws m st H1) (a : RA ws H0 m H1 ds vs) (h : Aft ws W n m0 H0 (RD ws) Q (cf.call g (mats ds st).1 (mats ds st).2)) :
    spF ws cf g vs H1 Q (WE W σ) := by
  obtain ⟨r2, t2⟩ := mats_ok r a.as a.nd
  have s2 := s.more a.fr
  refine ⟨_, _, _, r2, t2, ?_⟩
  cases e : cf.call g (mats ds st).1 (mats ds st).2 with
  | ok d st' =>
    rw [e] at h
    exact fun m' H' v s' r' q => h m' H' v (s2.trans s') r' (RD.back s2 q)
  | ex c p st' =>
    rw [e] at h
    exact fun m' H' cls dx σ' s' r' q _ => h m' H' cls dx σ (s2.trans s') r' q hl
  | no => rw [e] at h; exact h.elim
theorem tE_call {g : Nat} {es : List E} {Q : VK} (h : tE ws cf W n (.call g es) σ H Q) : tCallS (spF ws cf g) (WE W) (tEs ws cf W n es) σ H Q := by
  obtain ⟨ρ, st, m, hρ, r, hl, h⟩ := h
  unfold evE at h
  exact tEs_bind hρ r hl h fun ds st1 m1 H1 vs e1 s1 r1 hρ1 q1 h1 => aft_sp hl s1 r1 q1 h1
theorem tE_callv {i : Nat} {es : List E} {Q : VK} (h : tE ws cf W n (.callv i es) σ H Q) : ∃ g, g < cf.nf ∧ σ[i]? = some (some (.ref (ws.fa g))) ∧ tEs ws cf W n es σ H fun vs H1 => spF ws cf g vs H1 Q (WE W σ) := by
  obtain ⟨ρ, st, m, hρ, r, hl, h⟩ := h
  unfold evE at h
  split at h
  · rename_i g e
    obtain ⟨v, e1, q, _⟩ := hρ.2 i _ e
    cases q
    split at h
    · rename_i hg
      exact ⟨g, Nat.blt_eq.mp hg, e1, tEs_bind hρ r hl h fun ds st1 m1 H1 vs e1 s1 r1 hρ1 q1 h1 => aft_sp hl s1 r1 q1 h1⟩
    · exact h.elim
  · exact h.elim

/-! ### targets -/
theorem tE_bind0 {e : E} {ρ : Rho} {st : Sto} {m0 m : List Addr} {H0 : Hp} {γ δ : Type} {S : Hp → List Addr → Hp → γ → δ → Prop} {Q : δ → Hp → Prop} {Q1 : VK} {f : D → Sto → Out γ} (s0 : Step m0 H0 m H) (hρ : RlE ws m H ρ σ) (r : Rl ws m st H) (hl : σ.length = n)
    (h : Aft ws W n m0 H0 S Q ((evE cf e ρ st).bind f))
    (k : ∀ d st1 m1 H1 v, evE cf e ρ st = .ok d st1 → Step m H m1 H1 → Rl ws m1 st1 H1 → RlE ws m1 H1 ρ σ → RD ws H m1 H1 d v → Aft ws W n m0 H0 S Q (f d st1) → Q1 v H1) : tE ws cf W n e σ H Q1 := by
  refine ⟨ρ, st, m, hρ, r, hl, ?_⟩
  cases x : evE cf e ρ st with
  | ok d st1 =>
    rw [x] at h
    exact fun m1 H1 v s1 r1 q1 => k d st1 m1 H1 v x s1 r1 (hρ.mono s1) q1 h
  | ex c p st1 =>
    rw [x] at h
    exact fun m' H' cls dx σ' s' r' q l => h m' H' cls dx σ' (s0.trans s') r' q l
  | no => rw [x] at h; exact h
mutual
/-- the slots that a target stores -/
def tgS : Tg → List Nat
  | .nm i => [i]
  | .tp ts => tgSs ts
  | .sb _ _ => []
def tgSs : List Tg → List Nat
  | [] => []
  | t :: ts => tgS t ++ tgSs ts
end
theorem wipe_set (σ : L2.St) (i : Nat) (x : Option V) : ∀ vs : List Nat, i ∈ vs → L2.wipe (σ.set i x) vs = L2.wipe σ vs
  | v :: vs, h => by
    show (L2.wipe (σ.set i x) vs).set v none = (L2.wipe σ vs).set v none
    by_cases hv : i ∈ vs
    · rw [wipe_set σ i x vs hv]
    · have e : i = v := (List.mem_cons.mp h).resolve_right hv
      subst e
      have : ∀ us : List Nat, i ∉ us → L2.wipe (σ.set i x) us = (L2.wipe σ us).set i x := fun us => by
        induction us with
        | nil => intro _; rfl
        | cons u us ih =>
          intro hn
          have h1 : i ≠ u := fun z => hn (by simp [z])
          have h2 : i ∉ us := fun z => hn (List.mem_cons_of_mem _ z)
          show (L2.wipe (σ.set i x) us).set u none = ((L2.wipe σ us).set u none).set i x
          rw [ih h2, List.set_comm _ _ (h1)]
      rw [this vs hv, List.set_set]
def RG (ws : Ws) (n : Nat) (σ0 : L2.St) (sl : List Nat) : Hp → List Addr → Hp → Rho → L2.St → Prop := fun _ m' H' ρ' σ' => RlE ws m' H' ρ' σ' ∧ σ'.length = n ∧ ∀ vs : List Nat, (∀ i ∈ sl, i ∈ vs) → L2.wipe σ' vs = L2.wipe σ0 vs
variable (ws cf W n) in
def gT (t : Tg) : TG := fun v σ H Q => ∃ H0 m0 m st ρ d, Step m0 H0 m H ∧ Rl ws m st H ∧ RlE ws m0 H0 ρ σ ∧ RD ws H0 m H d v ∧ σ.length = n ∧ Aft ws W n m0 H0 (RG ws n σ (tgS t)) Q (evTg cf t d ρ st)
variable (ws cf W n) in
def gTs (ts : List Tg) : TGs := fun vs σ H Q => ∃ m st ρ ds, Rl ws m st H ∧ RlE ws m H ρ σ ∧ DVs ws m H ds vs ∧ vs.length = ts.length ∧ σ.length = n ∧ Aft ws W n m H (RG ws n σ (tgSs ts)) Q (evTgs cf ts ds ρ st)
theorem gT_nm {i : Nat} {v : V} {Q : L2.St → Hp → Prop} (h : gT ws cf W n (.nm i) v σ H Q) : gName i v σ H Q := by
  obtain ⟨H0, m0, m, st, ρ, d, s, r, hρ, q, hl, h⟩ := h
  unfold evTg at h
  obtain ⟨r1, h1, k1⟩ := mat_ok r q.1
  refine h _ _ _ (s.more (tls_one q.2)) r1 ⟨((hρ.mono s).up _).set h1 k1 i, by simpa using hl, fun vs hv => ?_⟩
  exact wipe_set σ i _ vs (hv i (by simp [tgS]))
theorem gT_tp {ts : List Tg} {v : V} {Q : L2.St → Hp → Prop} (h : gT ws cf W n (.tp ts) v σ H Q) : gTup ws.K ts.length (gTs ws cf W n ts) v σ H Q ∨ gLst ws.K ts.length (gTs ws cf W n ts) v σ H Q := by
  obtain ⟨H0, m0, m, st, ρ, d, s, r, hρ, q, hl, h⟩ := h
  unfold evTg at h
  split at h
  · rename_i xs hx
    split at h
    · rename_i hlen
      obtain ⟨p, vs, rfl, z, t⟩ := seq_ok r q.1 hx
      have g : gTs ws cf W n ts vs σ H Q := ⟨m, st, ρ, xs, r, hρ.mono s, t, by rw [← t.length]; exact hlen, hl, h.shift s fun _ _ _ _ k => k⟩
      rcases z with z | z
      · exact .inr ⟨p, vs, rfl, z.1, by rw [← t.length]; exact hlen, g⟩
      · exact .inl ⟨p, vs, rfl, z.1, by rw [← t.length]; exact hlen, g⟩
    · exact h.elim
  · exact h.elim
theorem gTs_nil {vs : List V} {Q : L2.St → Hp → Prop} (h : gTs ws cf W n [] vs σ H Q) : gNil vs σ H Q := by
  obtain ⟨m, st, ρ, ds, r, hρ, t, hv, hl, h⟩ := h
  refine ⟨List.eq_nil_of_length_eq_zero hv, ?_⟩
  unfold evTgs at h
  exact h m H σ (Step.refl _ _) r ⟨hρ, hl, fun _ _ => rfl⟩
theorem gTs_cons {t : Tg} {ts : List Tg} {vs : List V} {Q : L2.St → Hp → Prop} (h : gTs ws cf W n (t :: ts) vs σ H Q) : gCons (gT ws cf W n t) (gTs ws cf W n ts) vs σ H Q := by
  obtain ⟨m, st, ρ, ds, r, hρ, q, hv, hl, h⟩ := h
  cases q with
  | nil => simp at hv
  | cons hd nd tl =>
    rename_i d v ds vs
    refine ⟨v, vs, rfl, H, m, m, st, ρ, d, Step.refl _ _, r, hρ, ⟨hd, fr_of nd⟩, hl, ?_⟩
    unfold evTgs at h
    refine Aft.bind h fun ρ1 st1 m1 H1 σ1 _ s1 r1 q1 h1 => ?_
    refine ⟨m1, st1, ρ1, ds, r1, q1.1, tl.mono s1, by simpa using hv, q1.2.1, ?_⟩
    refine Aft.shift (S := RG ws n σ1 (tgSs ts)) ?_ s1 fun _ _ _ _ k => k
    cases e : evTgs cf ts ds ρ1 st1 with
    | ok ρ2 st2 =>
      rw [e] at h1
      exact fun m' H' σ' s' r' q' => h1 m' H' σ' s' r' ⟨q'.1, q'.2.1, fun us hu => (q'.2.2 us fun i hi => hu i (List.mem_append_right _ hi)).trans (q1.2.2 us fun i hi => hu i (List.mem_append_left _ hi))⟩
    | ex c p st2 => rw [e] at h1; exact h1
    | no => rw [e] at h1; exact h1
theorem gT_sb {o i : E} {v : V} {Q : L2.St → Hp → Prop} (h : gT ws cf W n (.sb o i) v σ H Q) :
    gSub (tE ws cf W n o) (tE ws cf W n i) (fun o i v H Q => ∃ (H0 : Hp) (m0 m : List Addr) (st st' : Sto) (a b c : D), Step m0 H0 m H ∧ Rl ws m st H ∧ DV ws m H a o ∧ DV ws m H b i ∧ DV ws m H c v ∧ Fr H0 c v ∧ setD a b c st = some st' ∧
      ∀ m' H', Step m0 H0 m' H' → Rl ws m' st' H' → Q H') v σ H Q := by
  obtain ⟨H0, m0, m, st, ρ, d, s, r, hρ, q, hl, h⟩ := h
  unfold evTg at h
  refine tE_bind0 s (hρ.mono s) r hl h fun x st1 m1 H1 xv _ s1 r1 hρ1 q1 h1 => ?_
  refine tE_bind0 (s.trans s1) hρ1 r1 hl h1 fun y st2 m2 H2 yv _ s2 r2 hρ2 q2 h2 => ?_
  split at h2
  · rename_i st3 e
    refine ⟨H0, m0, m2, st2, st3, x, y, d, (s.trans s1).trans s2, r2, q1.1.mono s2, q2.1, q.1.mono (s1.trans s2), q.2, e, fun m' H' s' r' => ?_⟩
    exact h2 m' H' σ s' r' ⟨hρ.mono s', hl, fun _ _ => rfl⟩
  · exact h2.elim

/-! ### sources -/
/-- a later state, but for the things at g -/
structure StepG (g : Addr → Prop) (m : List Addr) (H : Hp) (m' : List Addr) (H' : Hp) : Prop where
  pre : ∃ l, m' = m ++ l
  keep : ∀ a o, a ∉ m → ¬ g a → H a = some o → H' a = some o
  tups : ∀ a xs, H a = some (.tup xs) → H' a = some (.tup xs)
  frz : ∀ a o u, H a = some (.frz o u) → H' a = some (.frz o u)
  there : ∀ a, H' a = none → H a = none
theorem Step.toG {g : Addr → Prop} {m m' : List Addr} {H H' : Hp} (s : Step m H m' H') : StepG g m H m' H' := ⟨s.pre, fun a o n _ e => s.keep a o n e, s.tups, s.frz, s.there⟩
theorem StepG.get {g : Addr → Prop} {m m' : List Addr} {H H' : Hp} (s : StepG g m H m' H') {n : Nat} {a : Addr} (h : m[n]? = some a) : m'[n]? = some a := by
  obtain ⟨l, e⟩ := s.pre
  rw [e, List.getElem?_append_left (List.getElem?_eq_some_iff.mp h).1]
  exact h
theorem StepG.sqT {K : PySem.W.Frag} {g : Addr → Prop} {m m' : List Addr} {H H' : Hp} (s : StepG g m H m' H') {a : Addr} {vs : List V} (h : SqT K H a vs) : SqT K H' a vs := by
  rcases h with (h | ⟨o, h⟩) | h
  · exact .inl (.inl (s.tups _ _ h))
  · exact .inl (.inr ⟨o, s.frz _ _ _ h⟩)
  · exact .inr h
theorem StepG.fz {g : Addr → Prop} {m m' : List Addr} {H H' : Hp} {a : Addr} {vs : List V} (s : StepG g m H m' H') (h : FzL ws H a vs) : FzL ws H' a vs := by
  rcases h with ⟨o, h⟩ | h
  · exact .inl ⟨o, s.frz _ _ _ h⟩
  · exact .inr h
mutual
theorem DV.monoG {g : Addr → Prop} {m m' : List Addr} {H H' : Hp} (s : StepG g m H m' H') : ∀ {d : D} {v : V}, notl d = true → DV ws m H d v → DV ws m' H' d v
  | _, _, _, .non => .non
  | _, _, _, .bl b => .bl b
  | _, _, _, .int i => .int i
  | _, _, _, .str x => .str x
  | _, _, _, .tup h r => .tup (s.sqT h) (DVs.monoG s r)
  | _, _, n, .tl _ _ _ => by cases n
  | _, _, _, .kl h r => .kl (s.fz h) (DVs.monoG s r)
  | _, _, _, .il h r => .il (s.frz _ _ _ h) (DVs.monoG s r)
  | _, _, _, .lr h => .lr (s.get h)
  | _, _, _, .fn g => .fn g
theorem DVs.monoG {g : Addr → Prop} {m m' : List Addr} {H H' : Hp} (s : StepG g m H m' H') : ∀ {ds : List D} {vs : List V}, DVs ws m H ds vs → DVs ws m' H' ds vs
  | _, _, .nil => .nil
  | _, _, .cons h n r => .cons (DV.monoG s n h) n (DVs.monoG s r)
end
/-- the small walk stands for the layer's -/
def SvOk (ws : Ws) (g : Addr → Prop) (m1 : List Addr) (H1 : Hp) (sv : Sv) (cnt : Nat) (J : It) : Prop := ∀ m' H' st', StepG g m1 H1 m' H' → Rl ws m' st' H' →
  (∀ i d, i < cnt → sv.item st' i = some d → J.go i H' ∧ ∀ x H'', J.yld i H' x H'' → Step m' H' m' H'' ∧ Rl ws m' st' H'' ∧ DV ws m' H'' d x ∧ notl d = true) ∧ (sv.ends st' cnt = true → J.stop cnt H')
/-- lists that are no one's but the walk's around -/
def Own (H0 : Hp) (m : List Addr) (g : Addr → Prop) : Prop := ∀ a, g a → a ∉ m ∧ ∃ us, H0 a = some (.lst us)
def RI (ws : Ws) : Hp → List Addr → Hp → Sv × Nat → It → Prop := fun H0 m H s J => ∀ g, Own H0 m g → SvOk ws g m H s.1 s.2 J
variable (ws cf W n) in
def iS (s : Src) : TI := fun σ H R => ∃ ρ st m, RlE ws m H ρ σ ∧ Rl ws m st H ∧ σ.length = n ∧ Aft ws W n m H (RI ws) R (evSrc cf s ρ st)
/-- a list that is read, at each later state -/
theorem lst_later {g : Addr → Prop} {m m' : List Addr} {H H' : Hp} {p : Addr} {vs : List V} {xs : List D} (h : (p ∉ m ∧ ¬ g p ∧ H p = some (.lst vs)) ∨ FzL ws H p vs) (t : DVs ws m H xs vs) (s : StepG g m H m' H') : SqL ws.K H' p vs ∧ DVs ws m' H' xs vs := by
  refine ⟨?_, t.monoG s⟩
  rcases h with ⟨h1, h2, h3⟩ | h
  · exact SqL.of (s.keep _ _ h1 h2 h3)
  · exact (s.fz h).sq
theorem sv_fixL {g : Addr → Prop} {m : List Addr} {p : Addr} {vs : List V} {xs : List D} {cnt : Nat} (h : (p ∉ m ∧ ¬ g p ∧ H p = some (.lst vs)) ∨ FzL ws H p vs) (t : DVs ws m H xs vs) : SvOk ws g m H (.fix xs) cnt (Itl ws.K p) := by
  intro m' H' st' s r
  obtain ⟨q, t'⟩ := lst_later h t s
  refine ⟨fun i d _ e => ?_, fun e => ⟨vs, q, ?_⟩⟩
  · obtain ⟨v, e1, h1, n1⟩ := t'.get e
    refine ⟨⟨vs, v, q, e1⟩, fun x H'' hy => ?_⟩
    obtain ⟨rfl, f⟩ := hy
    have := (f vs q).symm.trans e1
    cases this
    exact ⟨Step.refl _ _, r, h1, n1⟩
  · have : xs.length = cnt := by simpa [Sv.ends] using e
    rw [← t.length]
    omega
theorem sv_cell {g : Addr → Prop} {m : List Addr} {p : Addr} {k cnt : Nat} (h : m[k]? = some p) : SvOk ws g m H (.cell k) cnt (Itl ws.K p) := by
  intro m' H' st' s r
  refine ⟨fun i d _ e => ?_, fun e => ?_⟩
  · simp only [Sv.item] at e
    split at e
    · rename_i xs hx
      obtain ⟨p', vs, e0, q, t⟩ := lst_ok r (DV.lr (s.get h)) hx
      cases e0
      obtain ⟨v, e1, h1, n1⟩ := t.get e
      refine ⟨⟨vs, v, q, e1⟩, fun x H'' hy => ?_⟩
      obtain ⟨rfl, f⟩ := hy
      have := (f vs q).symm.trans e1
      cases this
      exact ⟨Step.refl _ _, r, h1, n1⟩
    · cases e
  · simp only [Sv.ends] at e
    split at e
    · rename_i xs hx
      obtain ⟨p', vs, e0, q, t⟩ := lst_ok r (DV.lr (s.get h)) hx
      cases e0
      have : xs.length = cnt := by simpa using e
      exact ⟨vs, q, by rw [← t.length]; omega⟩
    · cases e
theorem sv_fixT {g : Addr → Prop} {m : List Addr} {p : Addr} {vs : List V} {xs : List D} {cnt : Nat} (h : SqT ws.K H p vs) (t : DVs ws m H xs vs) : SvOk ws g m H (.fix xs) cnt (Itt ws.K p) := by
  intro m' H' st' s r
  have q := s.sqT h
  have t' := t.monoG s
  refine ⟨fun i d _ e => ?_, fun e => ⟨vs, q, ?_⟩⟩
  · obtain ⟨v, e1, h1, n1⟩ := t'.get e
    refine ⟨⟨vs, v, q, e1⟩, fun x H'' hy => ?_⟩
    obtain ⟨rfl, f⟩ := hy
    have := (f vs q).symm.trans e1
    cases this
    exact ⟨Step.refl _ _, r, h1, n1⟩
  · have : xs.length = cnt := by simpa [Sv.ends] using e
    rw [← t.length]
    omega
theorem sv_rng {g : Addr → Prop} {m : List Addr} {lo : Int} {cnt : Nat} : SvOk ws g m H (.rng lo 1) cnt (Itr lo cnt) := by
  intro m' H' st' s r
  refine ⟨fun i d hi e => ⟨hi, fun x H'' hy => ?_⟩, fun _ => Nat.le_refl _⟩
  obtain ⟨rfl, rfl⟩ := hy
  cases e
  refine ⟨Step.refl _ _, r, ?_, rfl⟩
  rw [Int.mul_one]
  exact .int _
theorem sv_rngC {g : Addr → Prop} {m : List Addr} {lo c : Int} {cnt : Nat} : SvOk ws g m H (.rng lo c) cnt (Itc lo c cnt) := by
  intro m' H' st' s r
  refine ⟨fun i d hi e => ⟨hi, fun x H'' hy => ?_⟩, fun _ => Nat.le_refl _⟩
  obtain ⟨rfl, rfl⟩ := hy
  cases e
  exact ⟨Step.refl _ _, r, .int _, rfl⟩
/-- a pair made on the way -/
theorem pair_ok {m : List Addr} {H : Hp} {st : Sto} {T : Addr} {x y : V} {d e : D} (r : Rl ws m st H) (hT : H T = none) (hd : DV ws m H d x) (nd : notl d = true) (he : DV ws m H e y) (ne : notl e = true) :
    Step m H m (upd H T (.tup [x, y])) ∧ Rl ws m st (upd H T (.tup [x, y])) ∧ DV ws m (upd H T (.tup [x, y])) (.tup [d, e]) (.ref T) ∧ notl (.tup [d, e]) = true := by
  have s : Step m H m (upd H T (.tup [x, y])) := Step.alloc hT
  exact ⟨s, r.alloc hT, .tup (SqT.of upd_same) (.cons (hd.mono s) nd (.cons (he.mono s) ne .nil)), rfl⟩
theorem sv_enu {g : Addr → Prop} {m : List Addr} {p : Addr} {sv : Sv} {cnt : Nat} (h : SvOk ws g m H sv cnt (Itl ws.K p)) : SvOk ws g m H (.enu sv) cnt (Ite ws.K p) := by
  intro m' H' st' s r
  obtain ⟨h1, h2⟩ := h m' H' st' s r
  refine ⟨fun i d hi e => ?_, fun e => h2 e⟩
  simp only [Sv.item] at e
  split at e
  · rename_i d' e'
    cases e
    obtain ⟨g, y⟩ := h1 i d' hi e'
    refine ⟨g, fun v H'' hy => ?_⟩
    obtain ⟨T, x, rfl, hT, rfl, f⟩ := hy
    obtain ⟨_, _, q1, q2⟩ := y x H' ⟨rfl, f⟩
    exact pair_ok r hT (.int _) rfl q1 q2
  · cases e
theorem sv_enuT {g : Addr → Prop} {m : List Addr} {p : Addr} {sv : Sv} {cnt : Nat} (h : SvOk ws g m H sv cnt (Itt ws.K p)) : SvOk ws g m H (.enu sv) cnt (IteT ws.K p) := by
  intro m' H' st' s r
  obtain ⟨h1, h2⟩ := h m' H' st' s r
  refine ⟨fun i d hi e => ?_, fun e => h2 e⟩
  simp only [Sv.item] at e
  split at e
  · rename_i d' e'
    cases e
    obtain ⟨g, y⟩ := h1 i d' hi e'
    refine ⟨g, fun v H'' hy => ?_⟩
    obtain ⟨T, x, rfl, hT, rfl, f⟩ := hy
    obtain ⟨_, _, q1, q2⟩ := y x H' ⟨rfl, f⟩
    exact pair_ok r hT (.int _) rfl q1 q2
  · cases e
theorem sv_zipL {g : Addr → Prop} {m : List Addr} {p q : Addr} {sv tv : Sv} {n : Nat} (h : SvOk ws g m H sv n (Itl ws.K p)) (k : SvOk ws g m H tv n (Itl ws.K q)) (hp : ∀ m' H' st', StepG g m H m' H' → Rl ws m' st' H' → ∃ vs, SqL ws.K H' p vs)
    (hq : ∀ m' H' st', StepG g m H m' H' → Rl ws m' st' H' → ∃ vs, SqL ws.K H' q vs) : SvOk ws g m H (.zip sv tv) n (Itz ws.K p q) := by
  intro m' H' st' s r
  obtain ⟨h1, h2⟩ := h m' H' st' s r
  obtain ⟨k1, k2⟩ := k m' H' st' s r
  refine ⟨fun i d hi e => ?_, fun e => ?_⟩
  · simp only [Sv.item] at e
    split at e
    · rename_i d1 d2 e1 e2
      cases e
      obtain ⟨⟨xs, x, g1, g2⟩, y1⟩ := h1 i d1 hi e1
      obtain ⟨⟨ys, y, g3, g4⟩, y2⟩ := k1 i d2 hi e2
      refine ⟨⟨xs, ys, x, y, g1, g3, g2, g4⟩, fun v H'' hy => ?_⟩
      obtain ⟨T, x, y, rfl, hT, rfl, f1, f2⟩ := hy
      obtain ⟨_, _, q1, n1⟩ := y1 x H' ⟨rfl, f1⟩
      obtain ⟨_, _, q2, n2⟩ := y2 y H' ⟨rfl, f2⟩
      exact pair_ok r hT q1 n1 q2 n2
    · cases e
  · obtain ⟨xs, gx⟩ := hp m' H' st' s r
    obtain ⟨ys, gy⟩ := hq m' H' st' s r
    simp only [Sv.ends, Bool.or_eq_true] at e
    rcases e with e | e
    · obtain ⟨zs, g, l⟩ := h2 e
      exact ⟨zs, ys, g, gy, .inl l⟩
    · obtain ⟨zs, g, l⟩ := k2 e
      exact ⟨xs, zs, gx, g, .inr l⟩
theorem sv_zipT {g : Addr → Prop} {m : List Addr} {p q : Addr} {sv tv : Sv} {n : Nat} (h : SvOk ws g m H sv n (Itt ws.K p)) (k : SvOk ws g m H tv n (Itt ws.K q)) (hp : ∀ m' H' st', StepG g m H m' H' → Rl ws m' st' H' → ∃ vs, SqT ws.K H' p vs)
    (hq : ∀ m' H' st', StepG g m H m' H' → Rl ws m' st' H' → ∃ vs, SqT ws.K H' q vs) : SvOk ws g m H (.zip sv tv) n (RZ.ItzT ws.K p q) := by
  intro m' H' st' s r
  obtain ⟨h1, h2⟩ := h m' H' st' s r
  obtain ⟨k1, k2⟩ := k m' H' st' s r
  refine ⟨fun i d hi e => ?_, fun e => ?_⟩
  · simp only [Sv.item] at e
    split at e
    · rename_i d1 d2 e1 e2
      cases e
      obtain ⟨⟨xs, x, g1, g2⟩, y1⟩ := h1 i d1 hi e1
      obtain ⟨⟨ys, y, g3, g4⟩, y2⟩ := k1 i d2 hi e2
      refine ⟨⟨xs, ys, x, y, g1, g3, g2, g4⟩, fun v H'' hy => ?_⟩
      obtain ⟨T, x, y, rfl, hT, rfl, f1, f2⟩ := hy
      obtain ⟨_, _, q1, n1⟩ := y1 x H' ⟨rfl, f1⟩
      obtain ⟨_, _, q2, n2⟩ := y2 y H' ⟨rfl, f2⟩
      exact pair_ok r hT q1 n1 q2 n2
    · cases e
  · obtain ⟨xs, gx⟩ := hp m' H' st' s r
    obtain ⟨ys, gy⟩ := hq m' H' st' s r
    simp only [Sv.ends, Bool.or_eq_true] at e
    rcases e with e | e
    · obtain ⟨zs, g, l⟩ := h2 e
      exact ⟨zs, ys, g, gy, .inl l⟩
    · obtain ⟨zs, g, l⟩ := k2 e
      exact ⟨xs, zs, gx, g, .inr l⟩
/-- a list as a source: where it stands, its walk at each count, that it is there later -/
theorem src_lst {H0 : Hp} {m : List Addr} {st : Sto} {d : D} {v : V} {sv : Sv} {c : Nat} (r : Rl ws m st H) (h : DV ws m H d v) (fr : Fr H0 d v) (nt : isTup d = false) (e : svOf st d = some (sv, c)) :
    ∃ p vs, v = .ref p ∧ SqL ws.K H p vs ∧ ∀ g, Own H0 m g → (∀ cnt, SvOk ws g m H sv cnt (Itl ws.K p)) ∧ ∀ m' H' st', StepG g m H m' H' → Rl ws m' st' H' → ∃ vs, SqL ws.K H' p vs := by
  cases h with
  | tl nm q t =>
    cases e
    refine ⟨_, _, rfl, SqL.of q, fun g o => ?_⟩
    have hg : ¬ g _ := fun z => by
      obtain ⟨_, us, z2⟩ := o _ z
      rw [fr rfl _ rfl] at z2
      cases z2
    exact ⟨fun cnt => sv_fixL (.inl ⟨nm, hg, q⟩) t, fun m' H' st' s r' => ⟨_, (lst_later (.inl ⟨nm, hg, q⟩) t s).1⟩⟩
  | il q t => cases e; exact ⟨_, _, rfl, .inl (.inr ⟨_, q⟩), fun g _ => ⟨fun cnt => sv_fixL (.inr (.inl ⟨_, q⟩)) t, fun m' H' st' s r' => ⟨_, (lst_later (.inr (.inl ⟨_, q⟩)) t s).1⟩⟩⟩
  | kl q t => cases e; exact ⟨_, _, rfl, q.sq, fun g _ => ⟨fun cnt => sv_fixL (.inr q) t, fun m' H' st' s r' => ⟨_, (lst_later (.inr q) t s).1⟩⟩⟩
  | lr q =>
    rename_i k p
    simp only [svOf] at e
    split at e
    · rename_i xs hx
      cases e
      obtain ⟨p', vs, e0, g, t⟩ := lst_ok r (DV.lr q) hx
      cases e0
      refine ⟨p, vs, rfl, g, fun _ _ => ⟨fun cnt => sv_cell q, fun m' H' st' s r' => ?_⟩⟩
      have hk : k < st'.length := by
        rw [← r'.len]
        exact (List.getElem?_eq_some_iff.mp (s.get q)).1
      cases ho : st'[k] with
      | lst ys =>
        obtain ⟨p'', vs', e0, g', _⟩ := lst_ok r' (DV.lr (s.get q)) (xs := ys) (by simp only [lstOf]; rw [List.getElem?_eq_getElem hk, ho])
        cases e0
        exact ⟨vs', g'⟩
    · cases e
  | tup _ _ => cases nt
  | non => cases e
  | bl _ => cases e
  | int _ => cases e
  | str _ => cases e
  | fn _ => cases e
theorem src_tup {m : List Addr} {st : Sto} {d : D} {v : V} {sv : Sv} {c : Nat} (h : DV ws m H d v) (nt : isTup d = true) (e : svOf st d = some (sv, c)) :
    ∃ p vs, v = .ref p ∧ SqT ws.K H p vs ∧ ∀ g, (∀ cnt, SvOk ws g m H sv cnt (Itt ws.K p)) ∧ ∀ m' H' (st' : Sto), StepG g m H m' H' → Rl ws m' st' H' → ∃ vs, SqT ws.K H' p vs := by
  cases h with
  | tup q t => cases e; exact ⟨_, _, rfl, q, fun g => ⟨fun cnt => sv_fixT q t, fun m' H' st' s r' => ⟨_, s.sqT q⟩⟩⟩
  | _ => cases nt

theorem fr1 {H0 : Hp} {d : D} {v : V} (h : ∀ a ∈ tls [d] [v], H0 a = none) : Fr H0 d v := fun n a e => by
  subst e
  cases d with
  | tl xs => exact h a (by simp [tls])
  | _ => cases n
/-! ### what a for walks, by the small run -/
section
variable {X : Cx} {tg : Expr}
theorem iS_ex {e : Expr} {e' : E} (K : X.K = ws.K) (he : PE X e (tE ws cf W n e')) : PI X tg e (iS ws cf W n (.ex e')) := by
  refine ⟨fun pins s σ H R I h => ?_⟩
  obtain ⟨ρ, st, m, hρ, r, hl, h⟩ := h
  unfold evSrc at h
  have goL : (∀ d st1, evE cf e' ρ st = .ok d st1 → isTup d = false) → iList X.K (tE ws cf W n e') σ H R := fun f =>
    tE_bind hρ r hl h fun d st1 m1 H1 v e1 s1 r1 hρ1 q1 h1 => by
      split at h1
      · rename_i z hz
        obtain ⟨p, vs, rfl, g1, g2⟩ := src_lst r1 q1.1 q1.2 (f d st1 e1) (sv := z.1) (c := z.2) hz
        exact ⟨p, rfl, ⟨vs, toL K g1⟩, by rw [K]; exact h1 m1 H1 _ s1 r1 fun g o => (g2 g o).1 _⟩
      · exact h1.elim
  have goT : (∀ d st1, evE cf e' ρ st = .ok d st1 → isTup d = true) → iTup X.K (tE ws cf W n e') σ H R := fun f =>
    tE_bind hρ r hl h fun d st1 m1 H1 v e1 s1 r1 hρ1 q1 h1 => by
      split at h1
      · rename_i z hz
        obtain ⟨p, vs, rfl, g1, g2⟩ := src_tup q1.1 (f d st1 e1) (sv := z.1) (c := z.2) hz
        exact ⟨p, rfl, ⟨vs, toT K g1⟩, by rw [K]; exact h1 m1 H1 _ s1 r1 fun g _ => (g2 g).1 _⟩
      · exact h1.elim
  cases x : evE cf e' ρ st with
  | ok d st1 =>
    cases t : isTup d with
    | false => exact (pi_list he).run pins s σ H R I (goL fun d' st' e1 => by rw [x] at e1; cases e1; exact t)
    | true => exact (pi_tup he).run pins s σ H R I (goT fun d' st' e1 => by rw [x] at e1; cases e1; exact t)
  | ex c p st1 => exact (pi_list he).run pins s σ H R I (goL fun d' st' e1 => by rw [x] at e1; cases e1)
  | no => rw [x] at h; exact h.elim
theorem evEs_one {cf : Cf} {e' : E} {ρ : Rho} {st st1 : Sto} {d : D} (x : evE cf e' ρ st = .ok d st1) : evEs cf [e'] ρ st = .ok [d] st1 := by
  unfold evEs evEs
  rw [x]
  rfl
theorem iS_enu {e : Expr} {e' : E} {p pos tpos : Pos} {elts : List Expr} {kk : Nat} (K : X.K = ws.K) (hg : Gl X "enumerate") (hm : X.mg "enumerate" = none) (ha : PA X [e] (tEs ws cf W n [e'])) (hs : starEach [e] X.env = [(false, eval e X.env)]) :
    PI X (.Tuple elts kk tpos) (.Call (.Name "enumerate" p) [e] [] pos) (iS ws cf W n (.enu e')) := by
  refine ⟨fun pins s σ H R I h => ?_⟩
  obtain ⟨ρ, st, m, hρ, r, hl, h⟩ := h
  unfold evSrc at h
  have h' : Aft ws W n m H (RI ws) R ((evEs cf [e'] ρ st).bind fun ds st => match ds with
      | [d] => (match svOf st d with
        | some (s, n) => .ok (.enu s, n) st
        | none => .no)
      | _ => .no) := by
    unfold evEs evEs
    rw [bind_assoc]
    exact h
  have goL : (∀ d st1, evE cf e' ρ st = .ok d st1 → isTup d = false) → (∃ d st1, evE cf e' ρ st = .ok d st1) ∨ (∀ d st1, evE cf e' ρ st ≠ .ok d st1) → iEnum X.K (tEs ws cf W n [e']) σ H R := fun f _ => by
    refine tEs_bind hρ r hl h' fun ds st1 m1 H1 vs e1 s1 r1 hρ1 q1 h1 => ?_
    split at h1
    · rename_i d
      have ht : isTup d = false := by
        cases x : evE cf e' ρ st with
        | ok d2 st2 =>
          rw [evEs_one x] at e1
          cases e1
          exact f _ _ x
        | ex c p st2 => unfold evEs at e1; rw [x] at e1; cases e1
        | no => unfold evEs at e1; rw [x] at e1; cases e1
      obtain ⟨q1, qn, qf⟩ := q1
      cases q1 with
      | cons q1 q2 =>
        cases q2
        split at h1
        · rename_i z c hc
          obtain ⟨p, vs, rfl, g1, g2⟩ := src_lst r1 q1 (fr1 qf) ht hc
          exact ⟨p, vs, rfl, toL K g1, by rw [K]; exact h1 m1 H1 _ s1 r1 fun g o => sv_enu ((g2 g o).1 _)⟩
        · exact h1.elim
    · exact h1.elim
  have goT : (∃ d st1, evE cf e' ρ st = .ok d st1 ∧ isTup d = true) → iEnumT X.K (tEs ws cf W n [e']) σ H R := fun ⟨d2, st2, x, ht2⟩ => by
    refine tEs_bind hρ r hl h' fun ds st1 m1 H1 vs e1 s1 r1 hρ1 q1 h1 => ?_
    rw [evEs_one x] at e1
    cases e1
    obtain ⟨q1, qn, qf⟩ := q1
    cases q1 with
    | cons q1 q2 =>
      cases q2
      cases hz : svOf st2 d2 with
      | none =>
        simp only [hz] at h1
        exact h1.elim
      | some z =>
        simp only [hz] at h1
        obtain ⟨p, vs, rfl, g1, g2⟩ := src_tup q1 ht2 hz
        exact ⟨p, vs, rfl, toT K g1, by rw [K]; exact h1 m1 H1 _ s1 r1 fun g _ => sv_enuT ((g2 g).1 _)⟩
  cases x : evE cf e' ρ st with
  | ok d st1 =>
    cases t : isTup d with
    | false => exact (pi_enum hg hm ha hs).run pins s σ H R I (goL (fun d' st' e1 => by rw [x] at e1; cases e1; exact t) (.inl ⟨_, _, x⟩))
    | true => exact (pi_enumT hg hm ha hs).run pins s σ H R I (goT ⟨_, _, x, t⟩)
  | ex c p st1 => exact (pi_enum hg hm ha hs).run pins s σ H R I (goL (fun d' st' e1 => by rw [x] at e1; cases e1) (.inr fun d' st' e1 => by rw [x] at e1; cases e1))
  | no => rw [x] at h; exact h.elim
theorem iS_zip {e f : Expr} {e' f' : E} {p pos tpos : Pos} {elts : List Expr} {kk : Nat} (K : X.K = ws.K) (hg : Gl X "zip") (hm : X.mg "zip" = none) (ha : PA X [e, f] (tEs ws cf W n [e', f'])) (hs : starEach [e, f] X.env = (false, eval e X.env) :: starEach [f] X.env)
    (hpl : (backTo pos (starEach [f] X.env)).any (·.1) = false) : PI X (.Tuple elts kk tpos) (.Call (.Name "zip" p) [e, f] [] pos) (iS ws cf W n (.zip e' f')) := by
  refine ⟨fun pins s σ H R I h => ?_⟩
  obtain ⟨ρ, st, m, hρ, r, hl, h⟩ := h
  unfold evSrc at h
  refine (RZ.pi_zipA hg hm ha hs hpl).run pins s σ H R I ?_
  have h' : Aft ws W n m H (RI ws) R ((evEs cf [e', f'] ρ st).bind fun ds st => match ds with
      | [x, y] => (match isTup x == isTup y, svOf st x, svOf st y with
        | true, some (s, n), some (t, m) => .ok (.zip s t, min n m) st
        | _, _, _ => .no)
      | _ => .no) := by
    unfold evEs evEs evEs
    rw [bind_assoc]
    have : (fun a st => (((evE cf f' ρ st).bind fun d st => (Out.ok ([] : List D) st).bind fun ds st => Out.ok (d :: ds) st).bind fun ds st => Out.ok (a :: ds) st).bind fun ds st => (match ds with
      | [x, y] => (match isTup x == isTup y, svOf st x, svOf st y with
        | true, some (s, n), some (t, m) => Out.ok (Sv.zip s t, min n m) st
        | _, _, _ => .no)
      | _ => .no)) = fun x st => (evE cf f' ρ st).bind fun y st => (match isTup x == isTup y, svOf st x, svOf st y with
        | true, some (s, n), some (t, m) => .ok (.zip s t, min n m) st
        | _, _, _ => .no) := by
      funext x st
      rw [bind_assoc, bind_assoc]
      rfl
    rw [this]
    exact h
  refine tEs_bind hρ r hl h' fun ds st1 m1 H1 vs e1 s1 r1 hρ1 q1 h1 => ?_
  split at h1
  · rename_i x y
    obtain ⟨q1, qn, qf⟩ := q1
    cases q1 with
    | cons q1 q2 =>
      cases q2 with
      | cons q2 q3 =>
        cases q3
        split at h1
        · rename_i z1 c1 z2 c2 hz hc1 hc2
          cases t : isTup x with
          | false =>
            have t2 : isTup y = false := by
              rw [t] at hz
              simpa using hz
            rw [tls_cons] at qf
            obtain ⟨p, vs, rfl, g1, g2⟩ := src_lst r1 q1 (fr1 fun a ha => qf a (List.mem_append_left _ ha)) t hc1
            obtain ⟨q, us, rfl, k1, k2⟩ := src_lst r1 q2 (fr1 fun a ha => qf a (List.mem_append_right _ ha)) t2 hc2
            exact ⟨p, q, vs, us, rfl, .inl ⟨toL K g1, toL K k1, by rw [K]; exact h1 m1 H1 _ s1 r1 fun g o => sv_zipL ((g2 g o).1 _) ((k2 g o).1 _) (g2 g o).2 (k2 g o).2⟩⟩
          | true =>
            have t2 : isTup y = true := by
              rw [t] at hz
              simpa using hz
            obtain ⟨p, vs, rfl, g1, g2⟩ := src_tup q1 t hc1
            obtain ⟨q, us, rfl, k1, k2⟩ := src_tup q2 t2 hc2
            exact ⟨p, q, vs, us, rfl, .inr ⟨toT K g1, toT K k1, by rw [K]; exact h1 m1 H1 _ s1 r1 fun g _ => sv_zipT ((g2 g).1 _) ((k2 g).1 _) (g2 g).2 (k2 g).2⟩⟩
        · exact h1.elim
  · exact h1.elim
theorem inR_ok {i : Int} (h : inR i = true) : -(2 ^ 62) ≤ i ∧ i < 2 ^ 62 := by
  unfold inR at h
  rw [Bool.and_eq_true] at h
  exact ⟨of_decide_eq_true h.1, of_decide_eq_true h.2⟩
theorem iS_rng1 {a : Expr} {a' : E} {p pos : Pos} (hg : Gl X "range") (hm : X.mg "range" = none) (ha : PA X [a] (tEs ws cf W n [a'])) (hs : starEach [a] X.env = [(false, eval a X.env)]) :
    PI X tg (.Call (.Name "range" p) [a] [] pos) (iS ws cf W n (.rng [a'])) := by
  refine PI.imp (pi_range1 hg hm ha hs) fun σ H R h => ?_
  obtain ⟨ρ, st, m, hρ, r, hl, h⟩ := h
  unfold evSrc at h
  refine tEs_bind hρ r hl h fun ds st1 m1 H1 vs e1 s1 r1 hρ1 q1 h1 => ?_
  have hlen := evEs_length e1
  split at h1
  · rename_i z hz
    obtain ⟨q1, qn, qf⟩ := q1
    unfold rngOf at hz
    split at hz
    · rename_i j
      split at hz
      · rename_i hj
        cases hz
        cases q1 with
        | cons q1 q2 =>
          cases q2
          cases q1
          obtain ⟨b1, b2⟩ := inR_ok hj
          exact ⟨j, rfl, b1, b2, h1 m1 H1 _ s1 r1 fun _ _ => sv_rng⟩
      · cases hz
    · simp at hlen
    · simp at hlen
    · cases hz
  · exact h1.elim
theorem iS_rng2 {a b : Expr} {a' b' : E} {p pos : Pos} (hg : Gl X "range") (hm : X.mg "range" = none) (ha : PA X [a, b] (tEs ws cf W n [a', b'])) (hs : starEach [a, b] X.env = [(false, eval a X.env), (false, eval b X.env)]) (hs2 : starEach [b] X.env = [(false, eval b X.env)]) :
    PI X tg (.Call (.Name "range" p) [a, b] [] pos) (iS ws cf W n (.rng [a', b'])) := by
  refine PI.imp (pi_range2 hg hm ha hs hs2) fun σ H R h => ?_
  obtain ⟨ρ, st, m, hρ, r, hl, h⟩ := h
  unfold evSrc at h
  refine tEs_bind hρ r hl h fun ds st1 m1 H1 vs e1 s1 r1 hρ1 q1 h1 => ?_
  have hlen := evEs_length e1
  split at h1
  · rename_i z hz
    obtain ⟨q1, qn, qf⟩ := q1
    unfold rngOf at hz
    split at hz
    · simp at hlen
    · rename_i i j
      split at hz
      · rename_i hj
        cases hz
        rw [Bool.and_eq_true] at hj
        cases q1 with
        | cons q1 q2 =>
          cases q2 with
          | cons q2 q3 =>
            cases q3
            cases q1
            cases q2
            obtain ⟨b1, b2⟩ := inR_ok hj.1
            obtain ⟨b3, b4⟩ := inR_ok hj.2
            exact ⟨i, j, rfl, ⟨b1, b2, b3, b4⟩, h1 m1 H1 _ s1 r1 fun _ _ => sv_rng⟩
      · cases hz
    · simp at hlen
    · cases hz
  · exact h1.elim
theorem iS_rng3 {a b c : Expr} {a' b' c' : E} {p pos : Pos} (hg : Gl X "range") (hm : X.mg "range" = none) (ha : PA X [a, b, c] (tEs ws cf W n [a', b', c'])) (hs : starEach [a, b, c] X.env = (false, eval a X.env) :: starEach [b, c] X.env)
    (hpl : (backTo pos (starEach [b, c] X.env)).any (·.1) = false) : PI X tg (.Call (.Name "range" p) [a, b, c] [] pos) (iS ws cf W n (.rng [a', b', c'])) := by
  refine PI.imp (pi_range3 hg hm ha hs hpl) fun σ H R h => ?_
  obtain ⟨ρ, st, m, hρ, r, hl, h⟩ := h
  unfold evSrc at h
  refine tEs_bind hρ r hl h fun ds st1 m1 H1 vs e1 s1 r1 hρ1 q1 h1 => ?_
  have hlen := evEs_length e1
  split at h1
  · rename_i z hz
    obtain ⟨q1, qn, qf⟩ := q1
    unfold rngOf at hz
    split at hz
    · simp at hlen
    · simp at hlen
    · rename_i i j c
      split at hz
      · rename_i hj
        cases hz
        rw [Bool.and_eq_true, Bool.and_eq_true] at hj
        have hc : c = -1 := by simpa using hj.2
        subst hc
        cases q1 with
        | cons q1 q2 =>
          cases q2 with
          | cons q2 q3 =>
            cases q3 with
            | cons q3 q4 =>
              cases q4
              cases q1
              cases q2
              cases q3
              obtain ⟨b1, b2⟩ := inR_ok hj.1.1
              obtain ⟨b3, b4⟩ := inR_ok hj.1.2
              exact ⟨i, j, -1, _, rfl, RgC.neg b1 b2 b3 b4, h1 m1 H1 _ s1 r1 fun _ _ => sv_rngC⟩
      · cases hz
    · cases hz
  · exact h1.elim
end
end
end Mn
/-! Mn8: comprehensions by the small run. -/
namespace Mn
open PySem PySem.Spec PyProof.Rows L2
abbrev W0 : WX := fun _ _ _ _ => False
section
variable {ws : Ws} {cf : Cf} {W : WX} {n : Nat} {σ : L2.St} {H : Hp}
theorem Aft.peel {α β γ δ : Type} {R : Hp → List Addr → Hp → α → β → Prop} {S : Hp → List Addr → Hp → γ → δ → Prop} {Q : δ → Hp → Prop} {Q1 : β → Hp → Prop} {m m' : List Addr} {H H' : Hp} {x : Out α} {f : α → Sto → Out γ}
    (h : Aft ws W n m H S Q (noEx (x.bind f))) (k : ∀ a st1 m1 H1 b, x = .ok a st1 → Step m' H' m1 H1 → Rl ws m1 st1 H1 → R H' m1 H1 a b → Aft ws W n m H S Q (noEx (f a st1)) → Q1 b H1) : Aft ws W0 n m' H' R Q1 x := by
  cases x with
  | ok a st => exact fun m1 H1 b s r q => k a st m1 H1 b rfl s r q h
  | ex c p st => exact h.elim
  | no => exact h.elim
mutual
/-- the list in the making is not told by values that are kept -/
theorem DV.loc {m : List Addr} {H : Hp} {p : Addr} {us : List V} {o : HO} (hp : H p = some (.lst us)) : ∀ {d : D} {v : V}, notl d = true → DV ws m H d v → DV ws m (upd H p o) d v
  | _, _, _, .non => .non
  | _, _, _, .bl b => .bl b
  | _, _, _, .int i => .int i
  | _, _, _, .str x => .str x
  | _, _, _, .tup h r => .tup (by
      rcases h with (h | ⟨z, h⟩) | h
      · exact .inl (.inl (by rw [upd_ne (ne_of h hp (by intro e; cases e))]; exact h))
      · exact .inl (.inr ⟨z, by rw [upd_ne (ne_of h hp (by intro e; cases e))]; exact h⟩)
      · exact .inr h) (DVs.loc hp r)
  | _, _, n, .tl _ _ _ => by cases n
  | _, _, _, .kl h r => .kl (by
      rcases h with ⟨z, h⟩ | h
      · exact .inl ⟨z, by rw [upd_ne (ne_of h hp (by intro e; cases e))]; exact h⟩
      · exact .inr h) (DVs.loc hp r)
  | _, _, _, .il h r => .il (by rw [upd_ne (ne_of h hp (by intro e; cases e))]; exact h) (DVs.loc hp r)
  | _, _, _, .lr h => .lr h
  | _, _, _, .fn g => .fn g
theorem DVs.loc {m : List Addr} {H : Hp} {p : Addr} {us : List V} {o : HO} (hp : H p = some (.lst us)) : ∀ {ds : List D} {vs : List V}, DVs ws m H ds vs → DVs ws m (upd H p o) ds vs
  | _, _, .nil => .nil
  | _, _, .cons h n r => .cons (DV.loc hp n h) n (DVs.loc hp r)
end
theorem Rl.loc {m : List Addr} {st : Sto} {H : Hp} {p : Addr} {us : List V} {o : HO} (hp : H p = some (.lst us)) (n : p ∉ m) (r : Rl ws m st H) : Rl ws m st (upd H p o) := by
  refine ⟨r.len, r.nd, fun k b a e1 e2 => ?_⟩
  have q := r.obj k b a e1 e2
  have ne : a ≠ p := fun z => n (z ▸ List.mem_of_getElem? e2)
  cases b with
  | lst xs =>
    obtain ⟨vs, h, t⟩ := q
    exact ⟨vs, by rw [upd_ne ne]; exact h, t.loc hp⟩
theorem Step.own {m m' : List Addr} {H H' : Hp} {p : Addr} {o : HO} (s : Step m H m' H') (h : H p = none) : Step m H m' (upd H' p o) := by
  refine ⟨s.pre, s.new, fun a u n e => ?_, fun a xs e => ?_, fun a u z e => ?_, fun a e => ?_⟩
  · rw [upd_ne (ne_of_none e h)]; exact s.keep a u n e
  · rw [upd_ne (ne_of_none e h)]; exact s.tups a xs e
  · rw [upd_ne (ne_of_none e h)]; exact s.frz a u z e
  · by_cases z : a = p
    · rw [z]; exact h
    · rw [upd_ne z] at e; exact s.there a e
/-- a list in the making: at p, what is made so far -/
structure Lc (ws : Ws) (m1 : List Addr) (H1 : Hp) (p : Addr) (m : List Addr) (st : Sto) (H : Hp) (acc : List D) : Prop where
  sp : Step m1 H1 m H
  rl : Rl ws m st H
  out : p ∉ m
  at_ : ∃ vs, H p = some (.lst vs) ∧ DVs ws m H acc vs
theorem Lc.step {m1 m m' : List Addr} {H1 H H' : Hp} {p : Addr} {st st' : Sto} {acc : List D} (l : Lc ws m1 H1 p m st H acc) (s : Step m H m' H') (r : Rl ws m' st' H') : Lc ws m1 H1 p m' st' H' acc := by
  obtain ⟨vs, h, t⟩ := l.at_
  exact ⟨l.sp.trans s, r, s.notin l.out h, vs, s.keep _ _ l.out h, t.mono s⟩
/-- one more item -/
theorem Lc.add {m1 m2 m : List Addr} {H1 H2 H : Hp} {p : Addr} {st2 st : Sto} {acc : List D} {x : D} {y : V} (hp : H1 p = none) (l : Lc ws m1 H1 p m2 st2 H2 acc) (s : Step m2 H2 m H) (r : Rl ws m st H) (q : RD ws H2 m H x y) :
    ∃ vs, H p = some (.lst vs) ∧ vs.length = acc.length ∧ Lc ws m1 H1 p (m ++ tls [x] [y]) (mat x st).2 (upd H p (.lst (vs ++ [y]))) (acc ++ [(mat x st).1]) := by
  have l' := l.step s r
  obtain ⟨vs, h, t⟩ := l'.at_
  obtain ⟨r1, h1, k1⟩ := mat_ok r q.1
  have fr : ∀ a ∈ tls [x] [y], H2 a = none := tls_one q.2
  have s1 : Step m1 H1 (m ++ tls [x] [y]) H := l'.sp.more fun a ha => l.sp.there a (fr a ha)
  have out : p ∉ m ++ tls [x] [y] := fun z => by
    rcases List.mem_append.mp z with z | z
    · exact l'.out z
    · have := fr p z
      obtain ⟨us, g, _⟩ := l.at_
      rw [g] at this
      cases this
  refine ⟨vs, h, t.length.symm, s1.own hp, r1.loc h out, out, vs ++ [y], upd_same, ?_⟩
  exact ((t.up _).append (.cons h1 k1 .nil)).loc h
theorem wipe_wipe (σ : L2.St) (us : List Nat) : ∀ vs : List Nat, (∀ v ∈ vs, v ∈ us) → L2.wipe (L2.wipe σ vs) us = L2.wipe σ us
  | [], _ => rfl
  | v :: vs, h => by
    show L2.wipe ((L2.wipe σ vs).set v none) us = _
    rw [wipe_set _ _ _ us (h v (by simp))]
    exact wipe_wipe σ us vs fun w hw => h w (List.mem_cons_of_mem _ hw)
variable (ws cf n) in
def tCs (cs : List E) : TT := fun σ H Q => ∃ ρ st m, RlE ws m H ρ σ ∧ Rl ws m st H ∧ σ.length = n ∧ Aft ws W0 n m H RB Q (evCs cf cs ρ st)
theorem turns_zero (sv : Sv) (body : D → List D → Sto → Out (List D)) (i : Nat) (acc : List D) (st : Sto) : turns sv body 0 i acc st = if sv.ends st i then .ok acc st else .no := by rw [turns]
theorem turns_succ (sv : Sv) (body : D → List D → Sto → Out (List D)) (k i : Nat) (acc : List D) (st : Sto) : turns sv body (k + 1) i acc st = (match sv.item st i with
    | some d => (body d acc st).bind fun acc st => turns sv body k (i + 1) acc st
    | none => .no) := by
  rw [turns]
  all_goals (cases sv.item st i <;> rfl)
/-- the element of a comprehension -/
theorem lc_elt {γ δ : Type} {S : Hp → List Addr → Hp → γ → δ → Prop} {Q : δ → Hp → Prop} {m m1 m3 : List Addr} {H1 H3 : Hp} {p : Addr} {st3 : Sto} {acc : List D} {ρ : Rho} {elt : E} {f : List D → Sto → Out γ} {P : Hp → Prop} (hp : H1 p = none)
    (l : Lc ws m1 H1 p m3 st3 H3 acc) (hρ : RlE ws m3 H3 ρ σ) (hl : σ.length = n)
    (h : Aft ws W n m H S Q (noEx ((if acc.length < sizeLine then (evE cf elt ρ st3).bind fun x st => .ok (acc ++ [(mat x st).1]) (mat x st).2 else .no).bind f)))
    (k : ∀ m5 st5 H5 acc', Lc ws m1 H1 p m5 st5 H5 acc' → Aft ws W n m H S Q (noEx (f acc' st5)) → P H5) :
    tE ws cf W0 n elt σ H3 fun y H4 => ∃ av, H4 p = some (.lst av) ∧ av.length < sizeLine ∧ P (upd H4 p (.lst (av ++ [y]))) := by
  split at h
  · rename_i hz
    rw [bind_assoc] at h
    refine ⟨ρ, st3, m3, hρ, l.rl, hl, Aft.peel h fun x st4 m4 H4 y _ s4 r4 q4 h4 => ?_⟩
    obtain ⟨vs, h5, h6, h7⟩ := Lc.add hp l s4 r4 q4
    exact ⟨vs, h5, by rw [h6]; exact hz, k _ _ _ _ h7 h4⟩
  · exact h.elim
/-- a comprehension of one clause -/
theorem tE_comp {elt : E} {tg : Tg} {src : Src} {cs : List E} {own : List Nat} (ho : ∀ i ∈ tgS tg, i ∈ own) {Q : VK} (h : tE ws cf W n (.comp elt tg src cs own) σ H Q) :
    tLc (iS ws cf W n src) (gT ws cf W0 n tg) (tCs ws cf n cs) (tE ws cf W0 n elt) own σ H Q := by
  obtain ⟨ρ, st, m, hρ, r, hl, h⟩ := h
  unfold evE at h
  refine ⟨ρ, st, m, hρ, r, hl, Aft.bind h fun sv st1 m1 H1 J _ s1 r1 q1 h1 p hp => ?_⟩
  generalize hb : (fun (d : D) (acc : List D) (st : Sto) => (evTg cf tg d (wipe ρ own) st).bind fun ρ st => (evCs cf cs ρ st).bind fun b st =>
        if b = true then (if acc.length < sizeLine then (evE cf elt ρ st).bind fun x st => .ok (acc ++ [(mat x st).1]) (mat x st).2 else .no) else .ok acc st) = body at h1
  have hbody : ∀ d acc st, body d acc st = (evTg cf tg d (wipe ρ own) st).bind fun ρ st => (evCs cf cs ρ st).bind fun b st =>
        if b = true then (if acc.length < sizeLine then (evE cf elt ρ st).bind fun x st => .ok (acc ++ [(mat x st).1]) (mat x st).2 else .no) else .ok acc st := fun d acc st => by rw [← hb]
  clear hb
  refine ⟨fun i k Hc => i + k = sv.2 ∧ ∃ m' st' acc, Lc ws m1 H1 p m' st' Hc acc ∧ Aft ws W n m H (RD ws) Q (noEx ((turns sv.1 body k i acc st').bind fun acc st => .ok (.tl acc) st)),
    ⟨sv.2, by omega, m1, st1, [], ⟨Step.alloc hp, r1.alloc hp, r1.free hp, [], upd_same, .nil⟩, h1⟩, fun i k Hc hW => ?_⟩
  obtain ⟨hik, m', st', acc, l, h2⟩ := hW
  obtain ⟨g1, g2⟩ := q1 (fun _ => False) (fun _ z => z.elim) m' Hc st' l.sp.toG l.rl
  cases k with
  | zero =>
    unfold turns at h2
    split at h2
    · rename_i he
      have : i = sv.2 := by omega
      subst this
      refine .inl ⟨g2 he, ?_⟩
      obtain ⟨vs, h3, h4⟩ := l.at_
      exact h2 m' Hc _ (s1.trans l.sp) l.rl ⟨.tl l.out h3 h4, fun _ a e => by cases e; exact s1.there p hp⟩
    · exact h2.elim
  | succ k =>
    unfold turns at h2
    split at h2
    · rename_i d hd
      obtain ⟨j1, j2⟩ := g1 i d (by omega) hd
      refine .inr ⟨j1, fun H' => i + 1 + k = sv.2 ∧ ∃ m' st' acc, Lc ws m1 H1 p m' st' H' acc ∧ Aft ws W n m H (RD ws) Q (noEx ((turns sv.1 body k (i + 1) acc st').bind fun acc st => .ok (.tl acc) st)), fun H' hN => ⟨k, by omega, hN⟩, fun x H' hy => ?_⟩
      obtain ⟨s3, r3, d3, n3⟩ := j2 x H' hy
      have l3 := l.step s3 r3
      have hρ3 : RlE ws m' H' (wipe ρ own) (L2.wipe σ own) := (((hρ.mono s1).mono l3.sp)).wipe own
      rw [hbody, bind_assoc, bind_assoc] at h2
      refine ⟨H', m', m', st', wipe ρ own, d, Step.refl _ _, r3, hρ3, ⟨d3, fr_of n3⟩, by rw [L2.wipe_length]; exact hl, Aft.peel h2 fun ρ4 st4 m4 H4 σ4 _ s4 r4 q4 h4 => ?_⟩
      refine ⟨(q4.2.2 own ho).trans (wipe_wipe σ own own fun _ h => h), ρ4, st4, m4, q4.1, r4, q4.2.1, ?_⟩
      rw [bind_assoc] at h4
      refine Aft.peel h4 fun b st5 m5 H5 b' _ s5 r5 q5 h5 => ?_
      cases q5
      have l5 := (l3.step s4 r4).step s5 r5
      cases b with
      | true =>
        rw [if_pos rfl] at h5 ⊢
        exact lc_elt (P := fun H' => i + 1 + k = sv.2 ∧ ∃ m' st' acc, Lc ws m1 H1 p m' st' H' acc ∧ Aft ws W n m H (RD ws) Q (noEx ((turns sv.1 body k (i + 1) acc st').bind fun acc st => .ok (.tl acc) st))) hp l5 (q4.1.mono s5) q4.2.1 h5 fun m6 st6 H6 acc' l6 h6 => ⟨by omega, m6, st6, acc', l6, h6⟩
      | false =>
        rw [if_neg Bool.false_ne_true] at h5 ⊢
        exact ⟨by omega, m5, st5, acc, l5, h5⟩
    · exact h2.elim
theorem StepG.trans {g : Addr → Prop} {m m1 m2 : List Addr} {H H1 H2 : Hp} (a : StepG g m H m1 H1) (b : Step m1 H1 m2 H2) (k : ∀ x o, x ∉ m → ¬ g x → H x = some o → x ∉ m1) : StepG g m H m2 H2 := by
  refine ⟨?_, fun x o n ng e => b.keep x o (k x o n ng e) (a.keep x o n ng e), fun x xs e => b.tups _ _ (a.tups _ _ e), fun x o u e => b.frz _ _ _ (a.frz _ _ _ e), fun x e => a.there x (b.there x e)⟩
  obtain ⟨l, e⟩ := a.pre
  obtain ⟨l', e'⟩ := b.pre
  exact ⟨l ++ l', by rw [e', e, List.append_assoc]⟩
/-- the inner walk's state: the list at p grows, all else goes on -/
structure Lg (ws : Ws) (m1 : List Addr) (H1 : Hp) (p : Addr) (m5 : List Addr) (H5 : Hp) (m : List Addr) (st : Sto) (H : Hp) (acc : List D) : Prop where
  lc : Lc ws m1 H1 p m st H acc
  sg : StepG (fun a => a = p) m5 H5 m H
  nw : ∀ a, a ∈ m → a ∉ m5 → H5 a = none
theorem Lg.step {m1 m5 m m' : List Addr} {H1 H5 H H' : Hp} {p : Addr} {st st' : Sto} {acc : List D} (l : Lg ws m1 H1 p m5 H5 m st H acc) (s : Step m H m' H') (r : Rl ws m' st' H') : Lg ws m1 H1 p m5 H5 m' st' H' acc :=
  ⟨l.lc.step s r, l.sg.trans s (fun x o n _ e z => by
    rw [l.nw x z n] at e
    cases e), fun a h n => by
    by_cases z : a ∈ m
    · exact l.nw a z n
    · exact l.sg.there a (s.new a h z)⟩
theorem Lg.add {m1 m5 m2 m : List Addr} {H1 H5 H2 H : Hp} {p : Addr} {st2 st : Sto} {acc : List D} {x : D} {y : V} (hp : H1 p = none) (l : Lg ws m1 H1 p m5 H5 m2 st2 H2 acc) (s : Step m2 H2 m H) (r : Rl ws m st H) (q : RD ws H2 m H x y) :
    ∃ vs, H p = some (.lst vs) ∧ vs.length = acc.length ∧ Lg ws m1 H1 p m5 H5 (m ++ tls [x] [y]) (mat x st).2 (upd H p (.lst (vs ++ [y]))) (acc ++ [(mat x st).1]) := by
  obtain ⟨vs, h5, h6, h7⟩ := Lc.add hp l.lc s r q
  have l' := l.step s r
  have fr : ∀ a ∈ tls [x] [y], H2 a = none := tls_one q.2
  refine ⟨vs, h5, h6, h7, ⟨?_, fun a u n ng e => ?_, fun a xs e => ?_, fun a u z e => ?_, fun a e => ?_⟩, fun a h n => ?_⟩
  · obtain ⟨k, e⟩ := l'.sg.pre
    exact ⟨k ++ tls [x] [y], by rw [e, List.append_assoc]⟩
  · rw [upd_ne ng]
    exact l'.sg.keep a u n ng e
  · have := l'.sg.tups a xs e
    rw [upd_ne (ne_of this h5 (by intro z; cases z))]
    exact this
  · have := l'.sg.frz a u z e
    rw [upd_ne (ne_of this h5 (by intro z; cases z))]
    exact this
  · by_cases z : a = p
    · rw [z, upd_same] at e; cases e
    · rw [upd_ne z] at e; exact l'.sg.there a e
  · rcases List.mem_append.mp h with h | h
    · exact l'.nw a h n
    · exact l.sg.there a (fr a h)
theorem lg_elt {γ δ : Type} {S : Hp → List Addr → Hp → γ → δ → Prop} {Q : δ → Hp → Prop} {m m1 m5 m3 : List Addr} {H1 H5 H3 : Hp} {p : Addr} {st3 : Sto} {acc : List D} {ρ : Rho} {elt : E} {f : List D → Sto → Out γ} {P : Hp → Prop} (hp : H1 p = none)
    (l : Lg ws m1 H1 p m5 H5 m3 st3 H3 acc) (hρ : RlE ws m3 H3 ρ σ) (hl : σ.length = n)
    (h : Aft ws W n m H S Q (noEx ((if acc.length < sizeLine then (evE cf elt ρ st3).bind fun x st => .ok (acc ++ [(mat x st).1]) (mat x st).2 else .no).bind f)))
    (k : ∀ m5' st5 H5' acc', Lg ws m1 H1 p m5 H5 m5' st5 H5' acc' → Aft ws W n m H S Q (noEx (f acc' st5)) → P H5') :
    tE ws cf W0 n elt σ H3 fun y H4 => ∃ av, H4 p = some (.lst av) ∧ av.length < sizeLine ∧ P (upd H4 p (.lst (av ++ [y]))) := by
  split at h
  · rename_i hz
    rw [bind_assoc] at h
    refine ⟨ρ, st3, m3, hρ, l.lc.rl, hl, Aft.peel h fun x st4 m4 H4 y _ s4 r4 q4 h4 => ?_⟩
    obtain ⟨vs, h5, h6, h7⟩ := Lg.add hp l s4 r4 q4
    exact ⟨vs, h5, by rw [h6]; exact hz, k _ _ _ _ h7 h4⟩
  · exact h.elim
theorem RlE.monoG {ρ : Rho} {σ : L2.St} {g : Addr → Prop} {m m' : List Addr} {H H' : Hp} (s : StepG g m H m' H') (h : RlE ws m H ρ σ) : RlE ws m' H' ρ σ := ⟨h.1, fun i d e => by
  obtain ⟨v, e1, r, n⟩ := h.2 i d e
  exact ⟨v, e1, r.monoG s n, n⟩⟩
/-- a comprehension of two clauses -/
theorem tE_comp2 {elt : E} {tg tg1 : Tg} {src src1 : Src} {cs cs1 : List E} {own own1 : List Nat} (ho : ∀ i ∈ tgS tg, i ∈ own) (ho1 : ∀ i ∈ tgS tg1, i ∈ own1) (hsub : ∀ i ∈ own1, i ∈ own) {Q : VK} (h : tE ws cf W n (.comp2 elt tg src cs tg1 src1 cs1 own own1) σ H Q) :
    tLc2 (iS ws cf W n src) (gT ws cf W0 n tg) (tCs ws cf n cs) (iS ws cf W0 n src1) (gT ws cf W0 n tg1) (tCs ws cf n cs1) (tE ws cf W0 n elt) own own1 σ H Q := by
  obtain ⟨ρ, st, m, hρ, r, hl, h⟩ := h
  unfold evE at h
  refine ⟨ρ, st, m, hρ, r, hl, Aft.bind h fun sv st1 m1 H1 J _ s1 r1 q1 h1 p hp => ?_⟩
  generalize hb1 : (fun (ρ : Rho) (d : D) (acc : List D) (st : Sto) => (evTg cf tg1 d (wipe ρ own1) st).bind fun ρ st => (evCs cf cs1 ρ st).bind fun b st =>
        if b = true then (if acc.length < sizeLine then (evE cf elt ρ st).bind fun x st => .ok (acc ++ [(mat x st).1]) (mat x st).2 else .no) else .ok acc st) = body1
  have hbody1 : ∀ ρ d acc st, body1 ρ d acc st = (evTg cf tg1 d (wipe ρ own1) st).bind fun ρ st => (evCs cf cs1 ρ st).bind fun b st =>
        if b = true then (if acc.length < sizeLine then (evE cf elt ρ st).bind fun x st => .ok (acc ++ [(mat x st).1]) (mat x st).2 else .no) else .ok acc st := fun ρ d acc st => by rw [← hb1]
  generalize hb : (fun (d : D) (acc : List D) (st : Sto) => (evTg cf tg d (wipe ρ own) st).bind fun ρ st => (evCs cf cs ρ st).bind fun b st =>
        if b = true then ((evSrc cf src1 ρ st).bind fun sv1 st => turns sv1.1 (body1 ρ) sv1.2 0 acc st) else .ok acc st) = body
  have hbody : ∀ d acc st, body d acc st = (evTg cf tg d (wipe ρ own) st).bind fun ρ st => (evCs cf cs ρ st).bind fun b st =>
        if b = true then ((evSrc cf src1 ρ st).bind fun sv1 st => turns sv1.1 (body1 ρ) sv1.2 0 acc st) else .ok acc st := fun d acc st => by rw [← hb]
  have h1 : Aft ws W n m H (RD ws) Q (noEx ((turns sv.1 body sv.2 0 [] st1).bind fun acc st => .ok (.tl acc) st)) := by
    rw [← hb, ← hb1]
    exact h1
  clear hb hb1
  refine ⟨fun i k Hc => i + k = sv.2 ∧ ∃ m' st' acc, Lc ws m1 H1 p m' st' Hc acc ∧ Aft ws W n m H (RD ws) Q (noEx ((turns sv.1 body k i acc st').bind fun acc st => .ok (.tl acc) st)),
    ⟨sv.2, by omega, m1, st1, [], ⟨Step.alloc hp, r1.alloc hp, r1.free hp, [], upd_same, .nil⟩, h1⟩, fun i k Hc hW => ?_⟩
  obtain ⟨hik, m', st', acc, l, h2⟩ := hW
  obtain ⟨g1, g2⟩ := q1 (fun _ => False) (fun _ z => z.elim) m' Hc st' l.sp.toG l.rl
  cases k with
  | zero =>
    unfold turns at h2
    split at h2
    · rename_i he
      have : i = sv.2 := by omega
      subst this
      refine .inl ⟨g2 he, ?_⟩
      obtain ⟨vs, h3, h4⟩ := l.at_
      exact h2 m' Hc _ (s1.trans l.sp) l.rl ⟨.tl l.out h3 h4, fun _ a e => by cases e; exact s1.there p hp⟩
    · exact h2.elim
  | succ k =>
    unfold turns at h2
    split at h2
    · rename_i d hd
      obtain ⟨j1, j2⟩ := g1 i d (by omega) hd
      refine .inr ⟨j1, fun H' => i + 1 + k = sv.2 ∧ ∃ m' st' acc, Lc ws m1 H1 p m' st' H' acc ∧ Aft ws W n m H (RD ws) Q (noEx ((turns sv.1 body k (i + 1) acc st').bind fun acc st => .ok (.tl acc) st)), fun H' hN => ⟨k, by omega, hN⟩, fun x H' hy => ?_⟩
      obtain ⟨s3, r3, d3, n3⟩ := j2 x H' hy
      have l3 := l.step s3 r3
      have hρ3 : RlE ws m' H' (wipe ρ own) (L2.wipe σ own) := (((hρ.mono s1).mono l3.sp)).wipe own
      rw [hbody, bind_assoc, bind_assoc] at h2
      refine ⟨H', m', m', st', wipe ρ own, d, Step.refl _ _, r3, hρ3, ⟨d3, fr_of n3⟩, by rw [L2.wipe_length]; exact hl, Aft.peel h2 fun ρ4 st4 m4 H4 σ4 _ s4 r4 q4 h4 => ?_⟩
      refine ⟨(q4.2.2 own ho).trans (wipe_wipe σ own own fun _ h => h), ρ4, st4, m4, q4.1, r4, q4.2.1, ?_⟩
      rw [bind_assoc] at h4
      refine Aft.peel h4 fun b st5 m5 H5 b' _ s5 r5 q5 h5 => ?_
      cases q5
      have l5 := (l3.step s4 r4).step s5 r5
      have hρ5 := q4.1.mono s5
      cases b with
      | false =>
        rw [if_neg Bool.false_ne_true] at h5 ⊢
        exact ⟨by omega, m5, st5, acc, l5, h5⟩
      | true =>
        rw [if_pos rfl] at h5 ⊢
        rw [bind_assoc] at h5
        refine ⟨ρ4, st5, m5, hρ5, r5, q4.2.1, Aft.peel h5 fun sv1 st6 m6 H6 J1 _ s6 r6 q6 h6 => ?_⟩
        have l6 := l5.step s6 r6
        have hρ6 := hρ5.mono s6
        have hown : Own H5 m6 (fun a => a = p) := fun a z => by
          subst z
          obtain ⟨us, g, _⟩ := l5.at_
          exact ⟨l6.out, us, g⟩
        refine ⟨fun j kk Hj => j + kk = sv1.2 ∧ ∃ m' st' acc, Lg ws m1 H1 p m6 H6 m' st' Hj acc ∧ Aft ws W n m H (RD ws) Q (noEx ((turns sv1.1 (body1 ρ4) kk j acc st').bind fun acc st => (turns sv.1 body k (i + 1) acc st).bind fun acc st => .ok (.tl acc) st)),
          ⟨sv1.2, by omega, m6, st6, acc, ⟨l6, (Step.refl m6 H6).toG, fun a z n => absurd z n⟩, h6⟩, fun j kk Hj hV => ?_⟩
        obtain ⟨hjk, m7, st7, acc7, l7, h7⟩ := hV
        obtain ⟨e1, e2⟩ := q6 _ hown m7 Hj st7 l7.sg l7.lc.rl
        cases kk with
        | zero =>
          rw [turns_zero] at h7
          split at h7
          · rename_i he
            have : j = sv1.2 := by omega
            subst this
            exact .inl ⟨e2 he, by omega, m7, st7, acc7, l7.lc, h7⟩
          · exact h7.elim
        | succ kk =>
          rw [turns_succ] at h7
          split at h7
          · rename_i d' hd'
            obtain ⟨j3, j4⟩ := e1 j d' (by omega) hd'
            refine .inr ⟨j3, fun H' => j + 1 + kk = sv1.2 ∧ ∃ m' st' acc, Lg ws m1 H1 p m6 H6 m' st' H' acc ∧ Aft ws W n m H (RD ws) Q (noEx ((turns sv1.1 (body1 ρ4) kk (j + 1) acc st').bind fun acc st => (turns sv.1 body k (i + 1) acc st).bind fun acc st => .ok (.tl acc) st)), fun H' hN => ⟨kk, by omega, hN⟩, fun x H' hy => ?_⟩
            obtain ⟨s8, r8, d8, n8⟩ := j4 x H' hy
            have l8 := l7.step s8 r8
            have hρ8 : RlE ws m7 H' (wipe ρ4 own1) (L2.wipe σ4 own1) := (hρ6.monoG l8.sg).wipe own1
            rw [hbody1, bind_assoc, bind_assoc] at h7
            refine ⟨H', m7, m7, st7, wipe ρ4 own1, d', Step.refl _ _, r8, hρ8, ⟨d8, fr_of n8⟩, by rw [L2.wipe_length]; exact q4.2.1, Aft.peel h7 fun ρ9 st9 m9 H9 σ9 _ s9 r9 q9 h9 => ?_⟩
            refine ⟨(q9.2.2 own1 ho1).trans (wipe_wipe σ4 own1 own1 fun _ h => h), ρ9, st9, m9, q9.1, r9, q9.2.1, ?_⟩
            rw [bind_assoc] at h9
            refine Aft.peel h9 fun b sta ma Ha b' _ sa ra qa ha => ?_
            cases qa
            have la := (l8.step s9 r9).step sa ra
            cases b with
            | true =>
              rw [if_pos rfl] at ha ⊢
              exact lg_elt (P := fun H' => j + 1 + kk = sv1.2 ∧ ∃ m' st' acc, Lg ws m1 H1 p m6 H6 m' st' H' acc ∧ Aft ws W n m H (RD ws) Q (noEx ((turns sv1.1 (body1 ρ4) kk (j + 1) acc st').bind fun acc st => (turns sv.1 body k (i + 1) acc st).bind fun acc st => .ok (.tl acc) st))) hp la (q9.1.mono sa) q9.2.1 ha fun mb stb Hb acc' lb hb => ⟨by omega, mb, stb, acc', lb, hb⟩
            | false =>
              rw [if_neg Bool.false_ne_true] at ha ⊢
              exact ⟨by omega, ma, sta, acc7, la, ha⟩
          · exact h7.elim
    · exact h2.elim
end
end Mn
/-! Mn8b: a list that no one changes any more; [::-1]; a call of what an expression gives. -/
namespace Mn
open PySem PySem.Spec PyProof.Rows L2
section
variable {ws : Ws} {cf : Cf} {W : WX} {n : Nat} {σ : L2.St} {H : Hp} {X : Cx}
def tFrz (t : TE) : TE := fun σ H Q => t σ H fun v H1 => Q v H1 ∨ ∃ a vs, v = .ref a ∧ H1 a = some (.lst vs) ∧ ∀ od, Q v (upd H1 a (.frz od (.lst vs)))
theorem pe_frz {e : Expr} {t : TE} (h : PE X e t) : PE X e (tFrz t) := ⟨fun pins s σ H Q I q => by
  refine thn (h.run pins s σ H _ I q) fun v s1 ⟨x, H1, I1, r1, q1⟩ => ?_
  rcases q1 with q1 | ⟨a, vs, _, ha, q1⟩
  · exact ⟨x, H1, I1, r1, q1⟩
  · obtain ⟨od, I2⟩ := I1.lock ha trivial
    exact ⟨x, _, I2, r1, q1 od⟩⟩
theorem tE_frz {e : E} {Q : VK} (h : tE ws cf W n (.frz e) σ H Q) : tFrz (tE ws cf W n e) σ H Q := by
  obtain ⟨ρ, st, m, hρ, r, hl, h⟩ := h
  unfold evE at h
  refine tE_bind hρ r hl h fun d st1 m1 H1 v _ s1 r1 hρ1 q1 h1 => ?_
  have h1' : ∀ m' H' b, Step m H m' H' → Rl ws m' st1 H' → RD ws H m' H' (frzD d) b → Q b H' := h1
  by_cases hd : notl d = true
  · have e : frzD d = d := by cases d <;> first | rfl | cases hd
    rw [e] at h1'
    exact .inl (h1' m1 H1 v s1 r1 q1)
  · cases d with
    | tl xs =>
      obtain ⟨q, f⟩ := q1
      cases q with
      | tl nm z t =>
        have ha := f rfl _ rfl
        exact .inr ⟨_, _, rfl, z, fun od => h1' m1 _ _ (s1.own ha) (r1.loc z nm) ⟨.il upd_same (t.loc z), fr_of rfl⟩⟩
    | _ => exact absurd rfl hd
/-! ### from the last to the first -/
theorem DVs.snoc {m : List Addr} {d : D} {v : V} {ds : List D} {vs : List V} (r : DVs ws m H ds vs) (h : DV ws m H d v) (k : notl d = true) : DVs ws m H (ds ++ [d]) (vs ++ [v]) := r.append (.cons h k .nil)
theorem DVs.reverse {m : List Addr} : ∀ {ds : List D} {vs : List V}, DVs ws m H ds vs → DVs ws m H ds.reverse vs.reverse
  | _, _, .nil => .nil
  | d :: ds, v :: vs, .cons h k r => by
    rw [List.reverse_cons, List.reverse_cons]
    exact (DVs.reverse r).snoc h k
section
variable {prog : Program} {w : World} {A : Around} {E : Value → Shared → Prop} {s : Shared}
theorem adjust_neg (n : Nat) : Builtin.Slice.sliceAdjust none none (-1) (n : Int) = ((n : Int) - 1, -1) := by
  unfold Builtin.Slice.sliceAdjust
  simp only [show ((-1 : Int) < 0) = True by simp, if_true]
theorem places_neg (n : Nat) : Builtin.Slice.slicePlaces ((n : Int) - 1) (-1) (-1) = n := by
  unfold Builtin.Slice.slicePlaces
  simp only [show ¬ ((-1 : Int) > 0) by decide, if_false]
  split
  · simp
  · omega
theorem fm_congr {α β : Type} {f g : α → Option β} : ∀ {l : List α}, (∀ a ∈ l, f a = g a) → l.filterMap f = l.filterMap g
  | [], _ => rfl
  | a :: l, h => by
    rw [List.filterMap_cons, List.filterMap_cons, h a (by simp), fm_congr fun b hb => h b (List.mem_cons_of_mem _ hb)]
theorem fm_all {α : Type} : ∀ n (k : List α), k.length = n → (List.range n).filterMap (fun m : Nat => k[m]?) = k
  | 0, [], _ => rfl
  | n + 1, x :: k, h => by
    rw [List.range_succ_eq_map, List.filterMap_cons]
    simp only [List.getElem?_cons_zero, List.filterMap_map]
    congr 1
    exact fm_all n k (by simpa using h)
theorem fm_rev {α : Type} (l : List α) : (List.range l.length).filterMap (fun m : Nat => l[((l.length : Int) - 1 + (m : Int) * -1).toNat]?) = l.reverse := by
  rw [fm_congr (g := fun m : Nat => l.reverse[m]?) fun m hm => ?_]
  · exact fm_all _ _ (by simp)
  · have hm' := List.mem_range.mp hm
    rw [List.getElem?_reverse hm']
    congr 1
    omega
theorem pick_neg (xs : Array Value) : ((List.range xs.size).filterMap fun (m : Nat) => xs[((xs.size : Int) - 1 + (m : Int) * -1).toNat]?).toArray = xs.toList.reverse.toArray := by
  have := fm_rev xs.toList
  simp only [Array.length_toList, Array.getElem?_toList] at this
  rw [this]
theorem applied_rev {sl : Addr} {vl vu vs : Value} {k : Nat} {Q : Int × Int × Nat → Shared → Prop} (hs : s.heap.IsSliceOf sl vl vu vs) (pl : IsPart vl none) (pu : IsPart vu none) (ps : IsPart vs (some (-1)))
    (h : Q ((k : Int) - 1, -1, k) s) : wpAny (model prog w) A (Builtin.Slice.sliceApplied (.ref sl) (pure (k : Int))) Q E s := by
  obtain ⟨os, z1, z2, z3⟩ := id hs
  unfold Builtin.Slice.sliceApplied Builtin.Slice.sliceFields
  refine wpAny_bind ?_
  refine wpAny_bind (wpAny_field z1 z3 (x := vl) rfl ?_)
  refine wpAny_bind (wpAny_field z1 z3 (x := vu) rfl ?_)
  refine wpAny_bind (wpAny_field z1 z3 (x := vs) rfl ?_)
  refine wpAny_pure ?_
  refine wpAny_bind (HT.slicePart_ ps ?_)
  show wpAny _ _ (if ((-1 : Int) == 0) = true then _ else _) _ _ s
  rw [if_neg (by decide)]
  refine wpAny_bind (HT.slicePart_ pl ?_)
  refine wpAny_bind (HT.slicePart_ pu ?_)
  refine wpAny_bind (wpAny_pure ?_)
  show wpAny _ _ (match Builtin.Slice.sliceAdjust none none (-1) (k : Int) with | (a, b) => pure (a, (-1 : Int), Builtin.Slice.slicePlaces a b (-1))) _ _ s
  rw [adjust_neg k]
  show wpAny _ _ (pure ((k : Int) - 1, (-1 : Int), Builtin.Slice.slicePlaces ((k : Int) - 1) (-1) (-1))) _ _ s
  rw [places_neg]
  exact wpAny_pure h
theorem tuple_rev {t sl : Addr} {its : Array Value} {vl vu vs : Value} {Q : Value → Shared → Prop} (ht : IsTup s.heap t its) (hs : s.heap.IsSliceOf sl vl vu vs) (pl : IsPart vl none) (pu : IsPart vu none) (ps : IsPart vs (some (-1))) (hsz : its.size ≤ sizeLine)
    (h : Q (.ref s.heap.objs.size) { s with heap := s.heap.push { cls := .type "tuple", data := .seq its.toList.reverse.toArray } }) : wpAny (model prog w) A (getItem (.ref t) (.ref sl)) Q E s := by
  have fit : sizeOk (.seq its.toList.reverse.toArray) := by
    show its.toList.reverse.toArray.size ≤ sizeLine
    rw [List.size_toArray, List.length_reverse, Array.length_toList]
    exact hsz
  obtain ⟨os, z1, z2, z3⟩ := id hs
  have ty : s.TypeIs (.ref sl) "slice" := ⟨os, z1, z2⟩
  unfold getItem
  try with_reducible refine wpAny_holding ?_
  first
    | refine wpAny_bind (wpAny_pure ?_)
    | skip
  have ht2 := ht.typeIs
  refine wpAny_bind (wpAny_sequenceKey ht2 (by decide) ?_)
  refine wpAny_bind (wpAny_callSpecial?_slot (name := Str.ofString "__getitem__") ht2 slot_tuple_getitem (wpAny_call_entry slot_tuple_getitem ht2 entry_tuple_getitem ?_ (args_tuple_getitem _ _)))
  show wpAny _ _ (Builtin.Tuple.tupleItemsOf (.ref t) >>= fun _ => _) _ _ s
  refine wpAny_bind (tupleItemsOf_ ht (wpAny_bind (wpAny_typeOf ty ?_)))
  rw [if_pos (show _ = true by decide)]
  refine wpAny_bind (applied_rev hs pl pu ps ?_)
  have no : ¬ ((((its.size : Int) - 1) == 0 && (-1 : Int) == 1 && its.size == its.size) = true) := by simp
  show wpAny _ _ (if ((((its.size : Int) - 1) == 0 && (-1 : Int) == 1 && its.size == its.size) = true) then _ else _) _ _ s
  rw [if_neg no, pick_neg]
  first
    | exact wpAny_bind (m := Builtin.Tuple.tupleExact _) (wpAny_newObj_type (wpAny_pure ⟨_, rfl, wpAny_pure h⟩) fit)
    | exact wpAny_bind (m := Builtin.Tuple.tupleExact _) (wpAny_newObj_type (wpAny_bind (wpAny_pure (wpAny_pure ⟨_, rfl, wpAny_pure h⟩))) fit)
    | exact wpAny_bind (wpAny_bind (m := Builtin.Tuple.tupleExact _) (wpAny_newObj_type (wpAny_pure (wpAny_pure ⟨_, rfl, wpAny_pure h⟩)) fit))
    | exact wpAny_bind (wpAny_bind (m := Builtin.Tuple.tupleExact _) (wpAny_newObj_type (wpAny_pure ⟨_, rfl, wpAny_pure h⟩) fit))
end
/-- e[::-1], a list or a tuple -/
def tRevA (K : PySem.W.Frag) (te : TE) : TE := fun σ H Q => te σ H fun x H1 => ∃ a xs, x = .ref a ∧ ((SqL K H1 a xs ∧ ∀ p, H1 p = none → Q (.ref p) (upd H1 p (.lst xs.reverse))) ∨ (SqT K H1 a xs ∧ ∀ p, H1 p = none → Q (.ref p) (upd H1 p (.tup xs.reverse))))
theorem pe_revA {e : Expr} {te : TE} {k : Nat} {p1 p2 p3 pos : Pos} (he : PE X e te) : PE X (.Subscript e (.Slice none none (some (.UnaryOp .USub (.Constant (.int 1) k p1) p2)) p3) pos) (tRevA X.K te) := by
  refine ⟨fun pins s σ H Q I h => ?_⟩
  refine Subscript_ (thn (he.run pins s σ H _ I h) fun v s1 ⟨x, H1, I1, r1, a, xs, ex, q⟩ => ?_)
  subst ex
  cases r1
  have step : PO X (some (.UnaryOp .USub (.Constant (.int 1) k p1) p2)) (tPart (tUn (rU fun i => .int (-i)) (tC (.int 1)))) := po_some (pe_un un_neg pe_int)
  refine wpAny_Slice (thn (po_none.run pins s1 σ H1 (fun o G => o = none ∧ G = H1) I1 ⟨rfl, rfl⟩) fun vl s2 ⟨l, H2, I2, pl, el, e2⟩ => ?_)
  subst el e2
  refine thn (po_none.run pins s2 σ H2 (fun o G => o = none ∧ G = H2) I2 ⟨rfl, rfl⟩) fun vu s3 ⟨u, H3, I3, pu, eu, e3⟩ => ?_
  subst eu e3
  refine thn (step.run pins s3 σ H3 (fun o G => o = some (-1) ∧ G = H3) I3 ⟨1, rfl, -1, rfl, rfl, rfl⟩) fun vs s4 ⟨o, H4, I4, ps, eo, e4⟩ => ?_
  subst eo e4
  have I5 : Inv X pins σ H4 { s4 with heap := s4.heap.push { cls := .type "slice", data := .fields #[vl, vu, vs] } } := I4.kept (t' := s4.toks) fun b ob q => Heap.get?_push_of_some _ q
  show wpAny _ X.A (subscriptTail e (.Slice none none (some (.UnaryOp .USub (.Constant (.int 1) k p1) p2)) p3) (.ref a) (.ref s4.heap.objs.size)) (EP X pins σ Q) X.xe { s4 with heap := s4.heap.push { cls := .type "slice", data := .fields #[vl, vu, vs] } }
  rcases q with ⟨hx, q⟩ | ⟨hx, q⟩
  · obtain ⟨its, r, ht, hz⟩ := I5.list hx
    have hlen := r.length
    refine tail_any (ops := [.ref a, .ref s4.heap.objs.size]) ht.isList.typeIs (PySem.slot_list_getitem.lookup) ?_ (by with_unfolding_all rfl)
    refine wpAny_getItem_list_slice ht.isList (Heap.IsSliceOf.new _ vl vu vs) pl pu ps (by decide) ?_ (by rw [List.size_toArray]; omega)
    rw [PySem.W.krv_pick]
    exact ⟨.ref _, _, I5.laid (t' := s4.toks) (o := .lst xs.reverse) (fun b ob q => Heap.get?_push_of_some _ q) (Nat.le_refl _) ⟨by rw [List.length_reverse]; exact hz, _, 0, r.reverse, Heap.get?_push_size _ rfl⟩, rfl, q _ (I5.hok.fresh (Nat.le_refl _))⟩
  · obtain ⟨its, r, ht, hz⟩ := I5.tuple hx
    have hlen := r.length
    refine tail_any (ops := [.ref a, .ref s4.heap.objs.size]) ht.typeIs slot_tuple_getitem.lookup ?_ (by with_unfolding_all rfl)
    refine tuple_rev ht (Heap.IsSliceOf.new _ vl vu vs) pl pu ps (by rw [List.size_toArray]; omega) ?_
    exact ⟨.ref _, _, I5.laid (t' := s4.toks) (o := .tup xs.reverse) (fun b ob q => Heap.get?_push_of_some _ q) (Nat.le_refl _) ⟨by rw [List.length_reverse]; exact hz, _, r.reverse, IsTup.new _ _⟩, rfl, q _ (I5.hok.fresh (Nat.le_refl _))⟩
theorem tE_rev (K : X.K = ws.K) {a : E} {Q : VK} (h : tE ws cf W n (.prim .rev [a]) σ H Q) : tRevA X.K (tE ws cf W n a) σ H Q := by
  refine tE_mono (tEs_one (tE_prim h)) fun x H1 k => ?_
  obtain ⟨H0, m0, m, st, ds, d, st', s0, r, ra, e, k⟩ := k
  obtain ⟨a, rfl, ha⟩ := ra.as.one
  simp only [semP, sem1] at e
  split at e
  · cases e
    cases ha with
    | tup q t => exact ⟨_, _, rfl, .inr ⟨toT K q, end_tup s0 r t.reverse k⟩⟩
  · split at e
    · rename_i xs hx
      cases e
      obtain ⟨p, vs, rfl, q, t⟩ := lst_ok r ha hx
      exact ⟨_, _, rfl, .inl ⟨toL K q, end_tl s0 r t.reverse k⟩⟩
    · cases e
/-! ### a call of what an expression gives -/
theorem tE_calle {f : E} {es : List E} {Q : VK} (h : tE ws cf W n (.calle f es) σ H Q) : tE ws cf W n f σ H fun v H1 => ∃ g, g < cf.nf ∧ v = .ref (ws.fa g) ∧ tEs ws cf W n es σ H1 fun vs H2 => spF ws cf g vs H2 Q (WE W σ) := by
  obtain ⟨ρ, st, m, hρ, r, hl, h⟩ := h
  unfold evE at h
  refine tE_bind hρ r hl h fun x st1 m1 H1 v e0 s1 r1 hρ1 q1 h1 => ?_
  clear e0
  split at h1
  · rename_i g
    obtain ⟨q, _⟩ := q1
    cases q
    split at h1
    · rename_i hg
      refine ⟨g, Nat.blt_eq.mp hg, rfl, ?_⟩
      exact tEs_bind hρ1 r1 hl (Aft.shift h1 s1 fun _ _ _ _ h => RD.back s1 h) fun ds st2 m2 H2 vs e1 s2 r2 hρ2 q2 h2 => aft_sp hl s2 r2 q2 h2
    · exact h1.elim
  · exact h1.elim
theorem eval_callS (v ix : Expr) (p : Pos) (args : List Expr) (kws : List Keyword) (pos : Pos) (env : Env) : eval (.Call (.Subscript v ix p) args kws pos) env = (do
    callWith pos (← eval (.Subscript v ix p) env) [] (backTo pos (starEach args env)) (backToKw pos (keywordEach kws env))) := rfl
/-! ### a range as a list or a tuple -/
theorem rgD_ok {m : List Addr} (a b : Int) : DVs ws m H (rgD a b) (rgV a b) := by
  unfold rgD rgV
  generalize List.range (b - a).toNat = l
  induction l with
  | nil => exact .nil
  | cons i l ih => exact .cons (.int _) rfl ih
theorem rgOk_ok {a b : Int} (h : rgOk a b = true) : RgOk a b := by
  unfold rgOk inR at h
  simp only [Bool.and_eq_true, decide_eq_true_eq] at h
  obtain ⟨⟨⟨h1, h2⟩, h3, h4⟩, h5⟩ := h
  exact ⟨h1, h2, h3, h4, Nat.le_of_ble_eq_true h5⟩
abbrev tRgA (t : Bool) (te : L2.St → Hp → (Int → Int → Hp → Prop) → Prop) : TE := if t then tTupRg te else tLstRg te
theorem rg_end {t : Bool} {a b : Int} {st : Sto} {m m1 : List Addr} {H0 : Hp} {Q : VK} (hok : rgOk a b = true) (s1 : Step m H0 m1 H) (r1 : Rl ws m1 st H)
    (h : Aft ws W n m H0 (RD ws) Q (.ok (if t then D.tup (rgD a b) else D.tl (rgD a b)) st)) : RgOk a b ∧ ∀ q, H q = none → Q (.ref q) (upd H q (if t then .tup (rgV a b) else .lst (rgV a b))) := by
  refine ⟨rgOk_ok hok, ?_⟩
  cases t with
  | true => exact end_tup s1 r1 (rgD_ok a b) fun m' H' v s r q => h m' H' v s r q
  | false => exact end_tl s1 r1 (rgD_ok a b) fun m' H' v s r q => h m' H' v s r q
theorem tE_rg1 {t : Bool} {a : E} {Q : VK} (h : tE ws cf W n (.rngL t [a]) σ H Q) : tE ws cf W n a σ H fun x H1 => ∃ j, x = .int j ∧ RgOk 0 j ∧ ∀ q, H1 q = none → Q (.ref q) (upd H1 q (if t then .tup (rgV 0 j) else .lst (rgV 0 j))) := by
  obtain ⟨ρ, st, m, hρ, r, hl, h⟩ := h
  unfold evE evEs evEs at h
  rw [bind_assoc] at h
  refine tE_bind hρ r hl h fun x st1 m1 H1 v _ s1 r1 hρ1 q1 h1 => ?_
  have h1' : Aft ws W n m H (RD ws) Q (match rgL t [x] with | some d => Out.ok d st1 | none => .no) := h1
  cases x with
  | int j =>
    cases q1.1
    refine ⟨j, rfl, ?_⟩
    simp only [rgL] at h1'
    split at h1'
    · rename_i d hd
      split at hd
      · rename_i hok
        cases hd
        exact rg_end hok s1 r1 h1'
      · cases hd
    · exact h1'.elim
  | _ => exact h1'.elim
theorem tE_rg2 {t : Bool} {a b : E} {Q : VK} (h : tE ws cf W n (.rngL t [a, b]) σ H Q) : tE ws cf W n a σ H fun x H1 => tE ws cf W n b σ H1 fun y H2 => ∃ i j, x = .int i ∧ y = .int j ∧ RgOk i j ∧ ∀ q, H2 q = none → Q (.ref q) (upd H2 q (if t then .tup (rgV i j) else .lst (rgV i j))) := by
  obtain ⟨ρ, st, m, hρ, r, hl, h⟩ := h
  unfold evE evEs evEs evEs at h
  rw [bind_assoc] at h
  refine tE_bind hρ r hl h fun x st1 m1 H1 v _ s1 r1 hρ1 q1 h1 => ?_
  rw [bind_assoc, bind_assoc] at h1
  refine tE_bind hρ1 r1 hl (h1.shift s1 fun _ _ _ _ h => RD.back s1 h) fun y st2 m2 H2 u _ s2 r2 hρ2 q2 h2 => ?_
  have h2' : Aft ws W n m1 H1 (RD ws) Q (match rgL t [x, y] with | some d => Out.ok d st2 | none => .no) := h2
  cases x with
  | int i =>
    cases q1.1
    cases y with
    | int j =>
      cases q2.1
      refine ⟨i, j, rfl, rfl, ?_⟩
      simp only [rgL] at h2'
      split at h2'
      · rename_i d hd
        split at hd
        · rename_i hok
          cases hd
          exact rg_end hok s2 r2 h2'
        · cases hd
      · exact h2'.elim
    | _ => exact h2'.elim
  | _ => exact h2'.elim
end
end Mn
/-! Mn9: statements by the small run. -/
namespace Mn
open PySem PySem.Spec PyProof.Rows L2
/-- where a statement leads, on the layer's side -/
inductive Ev where
  | nx (σ : L2.St) | bk (σ : L2.St) | ct (σ : L2.St) | rt (v : V)
def QE (D : Ends) : Ev → Hp → Prop
  | .nx σ, H => D.nx σ H
  | .bk σ, H => D.bk σ H
  | .ct σ, H => D.ct σ H
  | .rt v, H => D.rt v H
def RF (ws : Ws) (n : Nat) : Hp → List Addr → Hp → Fl × Rho → Ev → Prop := fun H0 m H fr ev => match fr, ev with
  | (.nx, ρ), .nx σ => RlE ws m H ρ σ ∧ σ.length = n
  | (.brk, ρ), .bk σ => RlE ws m H ρ σ ∧ σ.length = n
  | (.cnt, ρ), .ct σ => RlE ws m H ρ σ ∧ σ.length = n
  | (.ret d, _), .rt v => RD ws H0 m H d v
  | _, _ => False
section
variable (ws : Ws) (cf : Cf) (W : WX) (n : Nat)
def tS (s : S) : TS := fun D σ H => ∃ ρ st m, RlE ws m H ρ σ ∧ Rl ws m st H ∧ σ.length = n ∧ Aft ws W n m H (RF ws n) (QE D) (exS cf s ρ st)
def tSs (ss : List S) : TS := fun D σ H => ∃ ρ st m, RlE ws m H ρ σ ∧ Rl ws m st H ∧ σ.length = n ∧ Aft ws W n m H (RF ws n) (QE D) (exSs cf ss ρ st)
end
section
variable {ws : Ws} {cf : Cf} {W : WX} {n : Nat} {σ : L2.St} {H : Hp} {De : Ends}
theorem RF.back {m1 m' m : List Addr} {H H1 H' : Hp} (s : Step m H m1 H1) {fr : Fl × Rho} {ev : Ev} (h : RF ws n H1 m' H' fr ev) : RF ws n H m' H' fr ev := by
  obtain ⟨fl, ρ⟩ := fr
  cases fl <;> cases ev <;> first | exact h | exact RD.back s h
theorem Aft.shiftF {Q : Ev → Hp → Prop} {m m1 : List Addr} {H H1 : Hp} {x : Out (Fl × Rho)} (h : Aft ws W n m H (RF ws n) Q x) (s : Step m H m1 H1) : Aft ws W n m1 H1 (RF ws n) Q x := h.shift s fun _ _ _ _ h => RF.back s h
theorem tS_ex {e : E} (h : tS ws cf W n (.ex e) De σ H) : tDrop (tE ws cf W n e) De σ H := by
  obtain ⟨ρ, st, m, hρ, r, hl, h⟩ := h
  unfold exS at h
  exact tE_bind hρ r hl h fun d st1 m1 H1 v _ s1 r1 hρ1 q1 h1 => h1 m1 H1 (.nx σ) s1 r1 ⟨hρ1, hl⟩
theorem tS_ret {e : E} (h : tS ws cf W n (.ret e) De σ H) : tRet (tE ws cf W n e) De σ H := by
  obtain ⟨ρ, st, m, hρ, r, hl, h⟩ := h
  unfold exS at h
  exact tE_bind hρ r hl h fun d st1 m1 H1 v _ s1 r1 hρ1 q1 h1 => h1 m1 H1 (.rt v) s1 r1 q1
theorem tS_ret0 (h : tS ws cf W n .ret0 De σ H) : tRetN De σ H := by
  obtain ⟨ρ, st, m, hρ, r, hl, h⟩ := h
  unfold exS at h
  exact h m H (.rt .non) (Step.refl _ _) r ⟨.non, fr_of rfl⟩
theorem tS_pas (h : tS ws cf W n .pas De σ H) : tNext De σ H := by
  obtain ⟨ρ, st, m, hρ, r, hl, h⟩ := h
  unfold exS at h
  exact h m H (.nx σ) (Step.refl _ _) r ⟨hρ, hl⟩
theorem tS_brk (h : tS ws cf W n .brk De σ H) : tBreak De σ H := by
  obtain ⟨ρ, st, m, hρ, r, hl, h⟩ := h
  unfold exS at h
  exact h m H (.bk σ) (Step.refl _ _) r ⟨hρ, hl⟩
theorem tS_cnt (h : tS ws cf W n .cnt De σ H) : tCont De σ H := by
  obtain ⟨ρ, st, m, hρ, r, hl, h⟩ := h
  unfold exS at h
  exact h m H (.ct σ) (Step.refl _ _) r ⟨hρ, hl⟩
theorem tSs_nil (h : tSs ws cf W n [] De σ H) : tNext De σ H := by
  obtain ⟨ρ, st, m, hρ, r, hl, h⟩ := h
  unfold exSs at h
  exact h m H (.nx σ) (Step.refl _ _) r ⟨hρ, hl⟩
theorem tSs_cons {s : S} {ss : List S} (h : tSs ws cf W n (s :: ss) De σ H) : tSeq (tS ws cf W n s) (tSs ws cf W n ss) De σ H := by
  obtain ⟨ρ, st, m, hρ, r, hl, h⟩ := h
  unfold exSs seqS at h
  refine ⟨ρ, st, m, hρ, r, hl, Aft.bind h fun fr st1 m1 H1 ev _ s1 r1 q1 h1 => ?_⟩
  obtain ⟨fl, ρ1⟩ := fr
  cases fl with
  | nx =>
    cases ev with
    | nx σ1 => exact ⟨ρ1, st1, m1, q1.1, r1, q1.2, Aft.shiftF h1 s1⟩
    | _ => exact q1.elim
  | brk => cases ev <;> first | exact q1.elim | exact h1 m1 H1 (.bk _) s1 r1 q1
  | cnt => cases ev <;> first | exact q1.elim | exact h1 m1 H1 (.ct _) s1 r1 q1
  | ret d => cases ev <;> first | exact q1.elim | exact h1 m1 H1 (.rt _) s1 r1 q1
theorem tS_asg {t : Tg} {e : E} (h : tS ws cf W n (.asg t e) De σ H) : tAsg (tE ws cf W n e) (gT ws cf W n t) De σ H := by
  obtain ⟨ρ, st, m, hρ, r, hl, h⟩ := h
  unfold exS at h
  refine tE_bind hρ r hl h fun d st1 m1 H1 v _ s1 r1 hρ1 q1 h1 => ?_
  exact ⟨H, m, m1, st1, ρ, d, s1, r1, hρ, q1, hl, Aft.bind h1 fun ρ2 st2 m2 H2 σ2 _ s2 r2 q2 h2 => h2 m2 H2 (.nx σ2) s2 r2 ⟨q2.1, q2.2.1⟩⟩
/-- a, b = x, y by the stores from the right -/
theorem tS_par {i j : Nat} {a b : E} (h : tS ws cf W n (.asg (.tp [.nm i, .nm j]) (.tupE [a, b])) De σ H) : tPar i j (tEs ws cf W n [a, b]) De σ H := by
  obtain ⟨ρ, st, m, hρ, r, hl, h⟩ := h
  unfold exS evE at h
  rw [bind_assoc] at h
  refine tEs_bind hρ r hl h fun ds st1 m1 H1 vs e1 s1 r1 hρ1 q1 h1 => ?_
  have hlen := evEs_length e1
  obtain ⟨r2, t2⟩ := mats_ok r1 q1.as q1.nd
  have s2 := s1.more q1.fr
  have h2 : Aft ws W n m H (RF ws n) (QE De) ((evTg cf (.tp [.nm i, .nm j]) (.tup (mats ds st1).1) ρ (mats ds st1).2).bind fun ρ st => .ok (.nx, ρ) st) := h1
  generalize (mats ds st1).1 = es at h2 t2
  have hρ2 : RlE ws (m1 ++ tls ds vs) H1 ρ σ := hρ1.up _
  obtain ⟨v, w, rfl⟩ : ∃ v w, vs = [v, w] := by
    have := q1.as.length
    rw [hlen] at this
    match vs, this with
    | [v, w], _ => exact ⟨v, w, rfl⟩
  cases t2 with
  | cons hv nv t3 =>
    rename_i d1 ds1
    cases t3 with
    | cons hw nw t4 =>
      rename_i d2 ds2
      cases t4
      refine ⟨v, w, rfl, ?_⟩
      unfold evTg at h2
      simp only [seqOf] at h2
      rw [if_pos (show [d1, d2].length = [Tg.nm i, Tg.nm j].length from rfl)] at h2
      unfold evTgs evTgs evTgs evTg at h2
      obtain ⟨k1, k2⟩ : (∀ st, mat d1 st = (d1, st)) ∧ ∀ st, mat d2 st = (d2, st) := by
        constructor
        · intro st; cases d1 <;> first | rfl | cases nv
        · intro st; cases d2 <;> first | rfl | cases nw
      simp only [Out.bind, k1, k2] at h2
      exact h2 _ _ (.nx _) s2 r2 ⟨(hρ2.set hv nv i).set hw nw j, by simpa using hl⟩
theorem tS_par3 {i j l : Nat} {a b c : E} (h : tS ws cf W n (.asg (.tp [.nm i, .nm j, .nm l]) (.tupE [a, b, c])) De σ H) : tPar3 i j l (tEs ws cf W n [a, b, c]) De σ H := by
  obtain ⟨ρ, st, m, hρ, r, hl, h⟩ := h
  unfold exS evE at h
  rw [bind_assoc] at h
  refine tEs_bind hρ r hl h fun ds st1 m1 H1 vs e1 s1 r1 hρ1 q1 h1 => ?_
  have hlen := evEs_length e1
  obtain ⟨r2, t2⟩ := mats_ok r1 q1.as q1.nd
  have s2 := s1.more q1.fr
  have h2 : Aft ws W n m H (RF ws n) (QE De) ((evTg cf (.tp [.nm i, .nm j, .nm l]) (.tup (mats ds st1).1) ρ (mats ds st1).2).bind fun ρ st => .ok (.nx, ρ) st) := h1
  generalize (mats ds st1).1 = es at h2 t2
  have hρ2 : RlE ws (m1 ++ tls ds vs) H1 ρ σ := hρ1.up _
  obtain ⟨u, v, w, rfl⟩ : ∃ u v w, vs = [u, v, w] := by
    have := q1.as.length
    rw [hlen] at this
    match vs, this with
    | [u, v, w], _ => exact ⟨u, v, w, rfl⟩
  cases t2 with
  | cons hu nu t2 =>
  rename_i d0 ds0
  cases t2 with
  | cons hv nv t3 =>
    rename_i d1 ds1
    cases t3 with
    | cons hw nw t4 =>
      rename_i d2 ds2
      cases t4
      refine ⟨u, v, w, rfl, ?_⟩
      unfold evTg at h2
      simp only [seqOf] at h2
      rw [if_pos (show [d0, d1, d2].length = [Tg.nm i, Tg.nm j, Tg.nm l].length from rfl)] at h2
      unfold evTgs evTgs evTgs evTgs evTg at h2
      obtain ⟨k0, k1, k2⟩ : (∀ st, mat d0 st = (d0, st)) ∧ (∀ st, mat d1 st = (d1, st)) ∧ ∀ st, mat d2 st = (d2, st) := by
        refine ⟨?_, ?_, ?_⟩
        · intro st; cases d0 <;> first | rfl | cases nu
        · intro st; cases d1 <;> first | rfl | cases nv
        · intro st; cases d2 <;> first | rfl | cases nw
      simp only [Out.bind, k0, k1, k2] at h2
      exact h2 _ _ (.nx _) s2 r2 ⟨((hρ2.set hu nu i).set hv nv j).set hw nw l, by simpa using hl⟩
/-- an int by an int, in place -/
def ipS (p : Pr) : TIp := fun x y H Q => ∃ i j k, x = .int i ∧ y = .int j ∧ semI p i j = some (.int k) ∧ Q (.int k) H
theorem semI_int {p : Pr} (hp : isArith p = true) {i j : Int} {d : D} (e : semI p i j = some d) : ∃ k, d = .int k := by
  cases p
  case add => exact ⟨_, (Option.some.inj e).symm⟩
  case sub => exact ⟨_, (Option.some.inj e).symm⟩
  case mul =>
    simp only [semI] at e
    split at e
    · exact ⟨_, (Option.some.inj e).symm⟩
    · cases e
  case fdiv =>
    simp only [semI] at e
    split at e
    · exact ⟨_, (Option.some.inj e).symm⟩
    · cases e
  case mod =>
    simp only [semI] at e
    split at e
    · exact ⟨_, (Option.some.inj e).symm⟩
    · cases e
  all_goals cases hp
theorem tS_aug {i : Nat} {p : Pr} (hp : isArith p = true) {e : E} (h : tS ws cf W n (.aug i p e) De σ H) : tAug i (tE ws cf W n e) (ipS p) De σ H := by
  obtain ⟨ρ, st, m, hρ, r, hl, h⟩ := h
  unfold exS at h
  split at h
  · rename_i x hx
    obtain ⟨v, e1, q, _⟩ := hρ.2 i x hx
    refine ⟨v, e1, tE_bind hρ r hl h fun y st1 m1 H1 w _ s1 r1 hρ1 q1 h1 => ?_⟩
    split at h1
    · rename_i _ _ a b
      split at h1
      · rename_i d hd
        obtain ⟨k, rfl⟩ := semI_int hp hd
        cases q
        cases q1.1
        exact ⟨_, _, k, rfl, rfl, hd, h1 m1 H1 (.nx _) s1 r1 ⟨hρ1.set (.int k) rfl i, by simpa using hl⟩⟩
      · exact h1.elim
    · exact h1.elim
  · exact h.elim
abbrev setR (ws : Ws) : TSet := fun o i v H Q => ∃ (H0 : Hp) (m0 m : List Addr) (st st' : Sto) (a b c : D), Step m0 H0 m H ∧ Rl ws m st H ∧ DV ws m H a o ∧ DV ws m H b i ∧ DV ws m H c v ∧ Fr H0 c v ∧ setD a b c st = some st' ∧
    ∀ m' H', Step m0 H0 m' H' → Rl ws m' st' H' → Q H'
theorem sem_ix {x k y : D} {st st' : Sto} (e : sem2 .ix x k st = some (y, st')) : st' = st ∧ ∃ i, k = .int i := by
  simp only [sem2] at e
  split at e
  · split at e
    · split at e
      · cases e; exact ⟨rfl, _, rfl⟩
      · cases e
    · cases e
  · cases e
theorem tS_augS {o i e : E} {p : Pr} (hp : isArith p = true) (h : tS ws cf W n (.augS o i p e) De σ H) : tAugS (tE ws cf W n o) (tE ws cf W n i) (tE ws cf W n e) (rP2 ws .ix) (ipS p) (setR ws) De σ H := by
  obtain ⟨ρ, st, m, hρ, r, hl, h⟩ := h
  unfold exS at h
  refine tE_bind hρ r hl h fun x st1 m1 H1 xv _ s1 r1 hρ1 q1 h1 => ?_
  refine tE_bind0 s1 hρ1 r1 hl h1 fun k st2 m2 H2 kv _ s2 r2 hρ2 q2 h2 => ?_
  split at h2
  · rename_i y st3 hx hy
    obtain ⟨e3, i, rfl⟩ := sem_ix hy
    subst e3
    have nx : notl x = true := by
      cases x <;> first | rfl | cases hx
    have t0 : tls [x, .int i] [xv, kv] = [] := by
      cases x <;> cases xv <;> cases kv <;> first | rfl | cases hx
    refine ⟨H2, m2, m2, st3, [x, .int i], y, st3, Step.refl _ _, r2, ⟨.cons (q1.1.mono s2) (.cons q2.1 .nil), by rw [t0]; simp, by rw [t0]; simp⟩, hy, fun m3 H3 yv s3 r3 q3 => ?_⟩
    have s13 := (s1.trans s2).trans s3
    refine tE_bind0 s13 (hρ2.mono s3) r3 hl h2 fun z st4 m4 H4 zv _ s4 r4 hρ4 q4 h4 => ?_
    split at h4
    · rename_i _ _ a b _ _
      split at h4
      · rename_i d hd
        obtain ⟨c, rfl⟩ := semI_int hp hd
        split at h4
        · rename_i st5 e5
          cases q3.1
          cases q4.1
          refine ⟨_, _, c, rfl, rfl, hd, H, m, m4, st4, st5, x, .int i, .int c, s13.trans s4, r4, q1.1.mono ((s2.trans s3).trans s4), q2.1.mono (s3.trans s4), .int c, fr_of rfl, e5, fun m' H' s' r' => ?_⟩
          exact h4 m' H' (.nx σ) s' r' ⟨hρ.mono s', hl⟩
        · exact h4.elim
      · exact h4.elim
    · exact h4.elim
  · exact h2.elim
theorem tT_bindS {e : E} {ρ : Rho} {st : Sto} {m0 m : List Addr} {H0 : Hp} {γ δ : Type} {S : Hp → List Addr → Hp → γ → δ → Prop} {Q : δ → Hp → Prop} {Q1 : Bool → Hp → Prop} {f : Bool → Sto → Out γ} (s0 : Step m0 H0 m H) (hρ : RlE ws m H ρ σ) (r : Rl ws m st H) (hl : σ.length = n)
    (h : Aft ws W n m0 H0 S Q (((evE cf e ρ st).bind asB).bind f))
    (k : ∀ b st1 m1 H1, Step m H m1 H1 → Rl ws m1 st1 H1 → RlE ws m1 H1 ρ σ → Aft ws W n m0 H0 S Q (f b st1) → Q1 b H1) : tT ws cf W n e σ H Q1 := by
  refine ⟨ρ, st, m, hρ, r, hl, ?_⟩
  cases x : (evE cf e ρ st).bind asB with
  | ok b st1 =>
    rw [x] at h
    exact fun m1 H1 b' s1 r1 q1 => by cases q1; exact k b st1 m1 H1 s1 r1 (hρ.mono s1) h
  | ex c p st1 =>
    rw [x] at h
    exact fun m' H' cls dx σ' s' r' q l => h m' H' cls dx σ' (s0.trans s') r' q l
  | no => rw [x] at h; exact h
theorem tS_if {c : E} {a b : List S} (h : tS ws cf W n (.ifS c a b) De σ H) : tIfS (tT ws cf W n c) (tSs ws cf W n a) (tSs ws cf W n b) De σ H := by
  obtain ⟨ρ, st, m, hρ, r, hl, h⟩ := h
  unfold exS at h
  refine tT_bind hρ r hl h fun t st1 m1 H1 s1 r1 hρ1 h1 => ?_
  cases t with
  | true => exact ⟨ρ, st1, m1, hρ1, r1, hl, Aft.shiftF h1 s1⟩
  | false => exact ⟨ρ, st1, m1, hρ1, r1, hl, Aft.shiftF h1 s1⟩
theorem loopF_zero (sv : Sv) (body : D → Rho → Sto → Out (Fl × Rho)) (i : Nat) (ρ : Rho) (st : Sto) : loopF sv body 0 i ρ st = if sv.ends st i then .ok (.nx, ρ) st else .no := by rw [loopF]
theorem loopF_succ (sv : Sv) (body : D → Rho → Sto → Out (Fl × Rho)) (k i : Nat) (ρ : Rho) (st : Sto) : loopF sv body (k + 1) i ρ st = (match sv.item st i with
    | some d => (body d ρ st).bind fun fr st => (match fr with
      | (.nx, ρ) => loopF sv body k (i + 1) ρ st
      | (.cnt, ρ) => loopF sv body k (i + 1) ρ st
      | (.brk, ρ) => .ok (.nx, ρ) st
      | (.ret d, ρ) => .ok (.ret d, ρ) st)
    | none => .no) := by
  rw [loopF]
  all_goals (cases sv.item st i <;> rfl)
theorem tS_for {t : Tg} {src : Src} {b : List S} (h : tS ws cf W n (.for t src b) De σ H) : tFor (iS ws cf W n src) (gT ws cf W n t) (tSs ws cf W n b) De σ H := by
  obtain ⟨ρ, st, m, hρ, r, hl, h⟩ := h
  unfold exS at h
  refine ⟨ρ, st, m, hρ, r, hl, Aft.bind h fun sv st1 m1 H1 J _ s1 r1 q1 h1 => ?_⟩
  generalize hb : (fun (d : D) (ρ : Rho) (st : Sto) => (evTg cf t d ρ st).bind fun ρ st => exSs cf b ρ st) = body at h1
  have hbody : ∀ d ρ st, body d ρ st = (evTg cf t d ρ st).bind fun ρ st => exSs cf b ρ st := fun d ρ st => by rw [← hb]
  clear hb
  refine ⟨fun i k σ' H' => i + k = sv.2 ∧ ∃ m' st' ρ', Step m1 H1 m' H' ∧ Rl ws m' st' H' ∧ RlE ws m' H' ρ' σ' ∧ σ'.length = n ∧ Aft ws W n m' H' (RF ws n) (QE De) (loopF sv.1 body k i ρ' st'),
    ⟨sv.2, by omega, m1, st1, ρ, Step.refl _ _, r1, hρ.mono s1, hl, Aft.shiftF h1 s1⟩, fun i k σ' H' hW => ?_⟩
  obtain ⟨hik, m', st', ρ', s2, r2, hρ2, hl2, h2⟩ := hW
  obtain ⟨g1, g2⟩ := q1 (fun _ => False) (fun _ z => z.elim) m' H' st' s2.toG r2
  cases k with
  | zero =>
    rw [loopF_zero] at h2
    split at h2
    · rename_i he
      have : i = sv.2 := by omega
      subst this
      exact .inl ⟨g2 he, h2 m' H' (.nx σ') (Step.refl _ _) r2 ⟨hρ2, hl2⟩⟩
    · exact h2.elim
  | succ k =>
    rw [loopF_succ] at h2
    split at h2
    · rename_i d hd
      obtain ⟨j1, j2⟩ := g1 i d (by omega) hd
      refine .inr ⟨j1, fun σ'' H'' => i + 1 + k = sv.2 ∧ ∃ m' st' ρ', Step m1 H1 m' H'' ∧ Rl ws m' st' H'' ∧ RlE ws m' H'' ρ' σ'' ∧ σ''.length = n ∧ Aft ws W n m' H'' (RF ws n) (QE De) (loopF sv.1 body k (i + 1) ρ' st'), fun σ'' H'' hN => ⟨k, by omega, hN⟩, fun x H3 hy => ?_⟩
      obtain ⟨s3, r3, d3, n3⟩ := j2 x H3 hy
      rw [hbody, bind_assoc] at h2
      refine ⟨H', m', m', st', ρ', d, s3, r3, hρ2, ⟨d3, fr_of n3⟩, hl2, ?_⟩
      refine Aft.bind h2 fun ρ4 st4 m4 H4 σ4 _ s4 r4 q4 h4 => ?_
      refine ⟨ρ4, st4, m4, q4.1, r4, q4.2.1, ?_⟩
      refine Aft.bind (Aft.shiftF h4 s4) fun fr st5 m5 H5 ev _ s5 r5 q5 h5 => ?_
      have s15 : Step m1 H1 m5 H5 := (s2.trans s4).trans s5
      obtain ⟨fl, ρ5⟩ := fr
      cases fl with
      | nx => cases ev <;> first | exact q5.elim | exact ⟨by omega, m5, st5, ρ5, s15, r5, q5.1, q5.2, Aft.shiftF h5 s5⟩
      | cnt => cases ev <;> first | exact q5.elim | exact ⟨by omega, m5, st5, ρ5, s15, r5, q5.1, q5.2, Aft.shiftF h5 s5⟩
      | brk => cases ev <;> first | exact q5.elim | exact h5 m5 H5 (.nx _) s5 r5 q5
      | ret d => cases ev <;> first | exact q5.elim | exact h5 m5 H5 (.rt _) s5 r5 q5
    · exact h2.elim
theorem loopW_succ (c : Rho → Sto → Out Bool) (body : Rho → Sto → Out (Fl × Rho)) (k : Nat) (ρ : Rho) (st : Sto) : loopW c body (k + 1) ρ st = (c ρ st).bind fun t st => if t then (body ρ st).bind fun fr st => (match fr with
      | (.nx, ρ) => loopW c body k ρ st
      | (.cnt, ρ) => loopW c body k ρ st
      | (.brk, ρ) => .ok (.nx, ρ) st
      | (.ret d, ρ) => .ok (.ret d, ρ) st)
    else .ok (.nx, ρ) st := by
  rw [loopW]
  all_goals rfl
theorem tS_whl {c : E} {b : List S} (h : tS ws cf W n (.whl c b) De σ H) : tWhile (tT ws cf W n c) (tSs ws cf W n b) De σ H := by
  obtain ⟨ρ, st, m, hρ, r, hl, h⟩ := h
  unfold exS at h
  refine ⟨fun k σ' H' => ∃ m' st' ρ', Rl ws m' st' H' ∧ RlE ws m' H' ρ' σ' ∧ σ'.length = n ∧ Aft ws W n m' H' (RF ws n) (QE De) (loopW (fun ρ st => (evE cf c ρ st).bind asB) (fun ρ st => exSs cf b ρ st) k ρ' st'),
    ⟨cf.wf, m, st, ρ, r, hρ, hl, h⟩, fun k σ' H' hW => ?_⟩
  obtain ⟨m', st', ρ', r2, hρ2, hl2, h2⟩ := hW
  cases k with
  | zero => exact h2.elim
  | succ k =>
    rw [loopW_succ] at h2
    refine tT_bind hρ2 r2 hl2 h2 fun t st1 m1 H1 s1 r1 hρ1 h1 => ?_
    cases t with
    | false => exact h1 m1 H1 (.nx σ') s1 r1 ⟨hρ1, hl2⟩
    | true =>
      refine ⟨fun σ'' H'' => ∃ m' st' ρ', Rl ws m' st' H'' ∧ RlE ws m' H'' ρ' σ'' ∧ σ''.length = n ∧ Aft ws W n m' H'' (RF ws n) (QE De) (loopW (fun ρ st => (evE cf c ρ st).bind asB) (fun ρ st => exSs cf b ρ st) k ρ' st'),
        fun σ'' H'' hN => ⟨k, by omega, hN⟩, ?_⟩
      refine ⟨ρ', st1, m1, hρ1, r1, hl2, ?_⟩
      refine Aft.bind (Aft.shiftF h1 s1) fun fr st5 m5 H5 ev _ s5 r5 q5 h5 => ?_
      obtain ⟨fl, ρ5⟩ := fr
      cases fl with
      | nx => cases ev <;> first | exact q5.elim | exact ⟨m5, st5, ρ5, r5, q5.1, q5.2, Aft.shiftF h5 s5⟩
      | cnt => cases ev <;> first | exact q5.elim | exact ⟨m5, st5, ρ5, r5, q5.1, q5.2, Aft.shiftF h5 s5⟩
      | brk => cases ev <;> first | exact q5.elim | exact h5 m5 H5 (.nx _) s5 r5 q5
      | ret d => cases ev <;> first | exact q5.elim | exact h5 m5 H5 (.rt _) s5 r5 q5
end
end Mn
/-! Mn10: raise, try, by the small run. -/
namespace Mn
open PySem PySem.Spec PyProof.Rows L2
/-- a clause: its class, the slot of its name, its suite's reading -/
structure Cl where
  c : Value
  nm : Option Nat
  ts : Addr → Value → Option Addr → TS
def Cl.wish (k : Cl) (De : Ends) (a : Addr) (cls : Value) (d : Option Addr) (σ : L2.St) (H : Hp) : Prop := match k.nm with
  | none => k.ts a cls d De σ H
  | some i => k.ts a cls d { nx := fun σ' H' => De.nx (σ'.set i none) H', rt := De.rt, bk := fun σ' H' => De.bk (σ'.set i none) H', ct := fun σ' H' => De.ct (σ'.set i none) H' } (σ.set i (some (.ref a))) H
/-- what the clauses wish of an exception of the body -/
def wU (K : PySem.W.Frag) (Wout : WX) (De : Ends) : List Cl → WX
  | [] => Wout
  | k :: r => fun cls d σ H => ∃ b, PySem.W.exmOne K cls k.c = some b ∧ (b = true → ∀ a, H a = none → k.wish De a cls d σ H) ∧ (b = false → wU K Wout De r cls d σ H)
inductive ClsOk (X : Cx) : List ExceptHandler → List Cl → Prop
  | nil : ClsOk X [] []
  | one {x : Str} {c : Value} {ts : Addr → Value → Option Addr → TS} {b₀ : Stmt} {suite : List Stmt} {np pos' : Pos} {hds : List ExceptHandler} {l : List Cl} (hc : Names X x c)
      (hsu : ∀ (a : Addr) (oe : Obj) (cls : Value) (d : Option Addr) (pn : List (Addr × Obj)), Zc cls d oe → (∃ vs, oe.data = .fields vs) → PSs (X.suite a ((a, oe) :: pn)) (b₀ :: suite) (ts a cls d)) (r : ClsOk X hds l) :
      ClsOk X (.ExceptHandler (some (.Name x np)) none (b₀ :: suite) pos' :: hds) (⟨c, none, ts⟩ :: l)
  | named {x n : Str} {i : Nat} {c : Value} {ts : Addr → Value → Option Addr → TS} {b₀ : Stmt} {suite : List Stmt} {np pos' : Pos} {hds : List ExceptHandler} {l : List Cl} (hN : X.N.Nodup) (hi : X.N[i]? = some n) (hln : X.env.kindOf n = some .local) (hc : Names X x c)
      (hsu : ∀ (a : Addr) (oe : Obj) (cls : Value) (d : Option Addr) (pn : List (Addr × Obj)), Zc cls d oe → (∃ vs, oe.data = .fields vs) → PSs (X.suite a ((a, oe) :: pn)) (b₀ :: suite) (ts a cls d)) (r : ClsOk X hds l) :
      ClsOk X (.ExceptHandler (some (.Name x np)) (some n) (b₀ :: suite) pos' :: hds) (⟨c, some i, ts⟩ :: l)
section
variable {X : Cx} {body : List Stmt} {h₀ : ExceptHandler} {hds : List ExceptHandler} {l : List Cl} {pos : Pos} {tb : WX → TS} {Wout : WX}
theorem ps_tryU (hs : X.stack = X.env :: X.outer) (hf : X.env.frame = some X.env.locals) (tk : Takes X Wout)
    (hb : ∀ (W : WX) (pn : List (Addr × Obj)) (xe : Value → Shared → Prop), Takes (X.tr pn xe) W → PassesOwn (model X.prog X.w) X.A X.env xe → PSs (X.tr pn xe) body (tb W))
    (hh : ClsOk X (h₀ :: hds) l) : PS X (.Try body (h₀ :: hds) [] [] pos) (fun De σ H => tb (wU X.K Wout De l) De σ H) := by
  refine ⟨fun pins s σ H De I h => ?_⟩
  have ok := I.ok
  have hfr : X.A.frames = some (X.env :: X.outer) := by rw [ok.frames, hs]
  refine wpAny_Try_except ?_
  refine wpAny_mono ((hb (wU X.K Wout De l) (X.pn ++ pins) (fun e s₁ => wpAny (model X.prog X.w) X.A (noteFrame e X.env) (fun _ s₂ => wpAny (model X.prog X.w) X.A (setFlight e none) (fun _ s₃ =>
    wpAny (model X.prog X.w) X.A (handleBy e X.env (h₀ :: hds)) (SP X pins De) X.xe s₃) X.xe s₂) X.xe s₁) (fun u s' xx => ?_) PassesOwn.looking).run [] s σ H De (I.toTry _) h) (fun f s1 hsp => ?_) (fun e s1 he => he)
  · obtain ⟨a, B, sI, pins', σ', H', cls, d, rfl, J', nb, up, sky, na, os, ag, w⟩ := xx
    have J : Inv X pins σ' H' sI := J'.ofTry ok
    have sky' : Sky B (X.env :: X.outer) a (Zc cls d) X.env.locals s'.heap := by rw [← hs]; exact sky
    show wpAny (model X.prog X.w) X.A (noteFrame (.ref a) X.env) _ _ _
    refine Sky.land Zc.steady hfr hf sky' fun h3 fl3 up3 => ?_
    have J3 : Inv X pins σ' H' { s' with heap := h3 } := J.landed nb fl3.1 (up.trans up3) os ag
    obtain ⟨oe3, vs3, he3, hz3, hd3⟩ := fl3.there
    have notFr : ∀ {h : Heap} {o : Obj} {vs : Array Value}, h.FunFrames B (X.env :: X.outer) → h.get? a = some o → o.data = .fields vs → a ∉ frs (X.env :: X.outer) := fun {h o vs} ff e dd hm => by
      obtain ⟨_, o', e', hnf⟩ := ff.mem hm
      rw [e] at e'; cases e'
      exact hnf _ dd
    have nfr := notFr fl3.2.2.1 he3 hd3
    have nL : a ≠ X.env.locals := fun z => nfr (List.mem_filterMap.mpr ⟨X.env, List.mem_cons_self, by rw [hf, z]⟩)
    have nF : a ∉ X.fs := fun hm => by
      obtain ⟨e, he, q⟩ := List.mem_filterMap.mp hm
      exact nfr (List.mem_filterMap.mpr ⟨e, List.mem_cons_of_mem _ he, q⟩)
    have S3 := J3.suite he3 hd3 na nL nF
    have test : ∀ {x : Str} {c : Value} {np : Pos} {Q : Value → Shared → Prop} {E : Value → Shared → Prop}, Names X x c → Q c { s' with heap := h3 } → wpAny (model X.prog X.w) (X.A.mark (some (.ref a))) (eval (.Name x np) X.env) Q E { s' with heap := h3 } := fun {x c np Q E} hc q => by
      obtain ⟨hg, hdbg, hm | ⟨hm, hv, hnn⟩⟩ := hc
      · exact ld_glob (X := X.suite a ((a, oe3) :: (X.pn ++ pins))) S3 hg hm q hdbg
      · exact ld_blt (X := X.suite a ((a, oe3) :: (X.pn ++ pins))) S3 hg hm hv q hnn hdbg
    have LT : PySem.W.Looks (model X.prog X.w) h3 (typeOf (.ref a)) cls := fun A Q E s k q => wpAny_typeOf_ref (k _ _ he3) (by rw [hz3.1]; exact q)
    have go : ∀ {hds' : List ExceptHandler} {l' : List Cl}, ClsOk X hds' l' → wU X.K Wout De l' cls d σ' H' →
        wpAny (model X.prog X.w) X.A (handleBy (.ref a) X.env hds') (SP X pins De) X.xe { s' with heap := h3 } := by
      intro hds' l' hk
      induction hk with
      | nil =>
        intro w
        refine wpAny_handleBy_nil ?_
        obtain ⟨k1, k2, k3, oe, vs, T, oT, ts', he, hz, hd, h1, hr⟩ := id fl3
        unfold PySem.passOn
        refine wpAny_bind (wpAny_field he hd h1 ?_)
        rw [if_neg (show ¬ ((Value.ref T == Value.none) = true) from by simp)]
        have fin : wpAny (model X.prog X.w) X.A (setFlight (.ref a) X.env.frame) (fun _ s4 => wpAny (model X.prog X.w) X.A (throw (.ref a) : Sem Flow) (SP X pins De) X.xe s4) X.xe { s' with heap := h3 } := by
          rw [hf]
          refine HandSPX.setFlight_upZ fl3 fun h4 hh4 up4 => wpAny_throw (tk _ _ ?_)
          exact ⟨a, B, sI, pins, σ', H', cls, d, rfl, J, nb, (up.trans up3).trans up4, .inr (.inr (by rw [hs]; exact hh4)), na, os, ag, w⟩
        first
          | exact wpAny_bind (wpAny_pure (wpAny_bind fin))
          | exact wpAny_bind fin
      | @one x c ts b₀ suite np pos' hds2 l2 hc hsu r ih =>
        intro w
        obtain ⟨b, hb1, hyes, hno⟩ := w
        refine wpAny_handleBy_cons (codeAny_handlers_test ?_) (by intro q; cases q)
        have LM := PySem.W.exm_one (M := model X.prog X.w) (J3.kIn) LT hb1
        refine test hc (LM.here ?_)
        cases b with
        | true =>
          refine codeAny_handlers_suite ?_
          refine HandSPX.lands_againZ fl3 fun h4 fl4 up4 => ?_
          have J4 : Inv X pins σ' H' { s' with heap := h4 } := J.landed nb fl4.1 ((up.trans up3).trans up4) os ag
          obtain ⟨oe4, vs4, he4, hz4, hd4⟩ := fl4.there
          have S4 := J4.suite he4 hd4 na nL nF
          refine wpAny_mono ((hsu a oe4 cls d (X.pn ++ pins) hz4 ⟨_, hd4⟩).run [] _ _ H' _ S4 (hyes rfl a na)) (fun f s6 hsp => ?_) (fun _ _ z => False.elim z)
          cases f with
          | next =>
            obtain ⟨σ6, H6, S6, q6⟩ := hsp
            exact ⟨_, _, S6.unsuite ok, q6⟩
          | brk =>
            obtain ⟨σ6, H6, S6, q6⟩ := hsp
            exact ⟨_, _, S6.unsuite ok, q6⟩
          | cont =>
            obtain ⟨σ6, H6, S6, q6⟩ := hsp
            exact ⟨_, _, S6.unsuite ok, q6⟩
          | ret u =>
            obtain ⟨v6, σ6, H6, S6, r6, q6⟩ := hsp
            exact ⟨_, _, _, S6.unsuite ok, r6, q6⟩
        | false =>
          show wpAny _ X.A (handleBy (.ref a) X.env hds2) _ _ _
          exact ih (hno rfl)
      | @named x n i c ts b₀ suite np pos' hds2 l2 hN hi hln hc hsu r ih =>
        intro w
        obtain ⟨b, hb1, hyes, hno⟩ := w
        have hloc : Loc X.env.scope n := .inl hln
        refine wpAny_handleBy_cons (codeAny_handlers_test ?_) (by intro q; cases q)
        have LM := PySem.W.exm_one (M := model X.prog X.w) (J3.kIn) LT hb1
        refine test hc (LM.here ?_)
        cases b with
        | true =>
          refine codeAny_handlers_suite_as ?_
          refine HandSPX.lands_againZ fl3 fun h4 fl4 up4 => ?_
          have J4 : Inv X pins σ' H' { s' with heap := h4 } := J.landed nb fl4.1 ((up.trans up3).trans up4) os ag
          obtain ⟨oe4, vs4, he4, hz4, hd4⟩ := fl4.there
          have S4 := J4.suite he4 hd4 na nL nF
          refine store_ok (X := X.suite a ((a, oe4) :: (X.pn ++ pins))) (v := .ref a) S4 hN hi hloc rfl (fun s5 S5 => ?_) (.inr hln)
          refine wpAny_mono ((hsu a oe4 cls d (X.pn ++ pins) hz4 ⟨_, hd4⟩).run [] s5 _ H' _ S5 (hyes rfl a na)) (fun f s6 hsp => ?_) (fun _ _ z => False.elim z)
          have end_ : ∀ {σ6 : L2.St} {H6 : Hp} {Q : Shared → Prop}, Inv (X.suite a ((a, oe4) :: (X.pn ++ pins))) [] σ6 H6 s6 → (∀ s7, Inv X pins (σ6.set i none) H6 s7 → Q s7) →
              wpAny (model X.prog X.w) X.A (do bindName X.env n .none; unbindBehindTheSuite X.env n pos') (fun _ s7 => Q s7) X.xe s6 := fun {σ6 H6 Q} S6 hq => gone_ok (S6.unsuite ok) hN hi hln hq
          cases f with
          | next =>
            obtain ⟨σ6, H6, S6, q6⟩ := hsp
            exact end_ S6 fun s7 J7 => ⟨_, _, J7, q6⟩
          | brk =>
            obtain ⟨σ6, H6, S6, q6⟩ := hsp
            exact end_ S6 fun s7 J7 => ⟨_, _, J7, q6⟩
          | cont =>
            obtain ⟨σ6, H6, S6, q6⟩ := hsp
            exact end_ S6 fun s7 J7 => ⟨_, _, J7, q6⟩
          | ret u =>
            obtain ⟨v6, σ6, H6, S6, r6, q6⟩ := hsp
            exact end_ S6 fun s7 J7 => ⟨_, _, _, J7, r6, q6⟩
        | false =>
          show wpAny _ X.A (handleBy (.ref a) X.env hds2) _ _ _
          exact ih (hno rfl)
    exact go hh w
  · cases f with
    | next =>
      obtain ⟨σ', H', J', q⟩ := hsp
      exact wpAny_execs_nil ⟨σ', H', J'.ofTry ok, q⟩
    | brk =>
      obtain ⟨σ', H', J', q⟩ := hsp
      exact ⟨σ', H', J'.ofTry ok, q⟩
    | cont =>
      obtain ⟨σ', H', J', q⟩ := hsp
      exact ⟨σ', H', J'.ofTry ok, q⟩
    | ret u =>
      obtain ⟨v, σ', H', J', r, q⟩ := hsp
      exact ⟨v, σ', H', J'.ofTry ok, r, q⟩
end
/-- the classes of exceptions, told apart -/
structure EcOk (ws : Ws) : Prop where
  mt : ∀ (c : Nat) (C : Addr) (an : Option Str) (k : Nat) (C' : Addr) (an' : Option Str), ws.ec c = some (C, an) → ws.ec k = some (C', an') → PySem.W.exmOne ws.K (.ref C) (.ref C') = some (decide (k = c))
  fld : ∀ (c : Nat) (C : Addr) (f : Str), ws.ec c = some (C, some f) → XfC ws.K C ∧ PySem.W.findIn ws.K (.ref C) f = some none
section
variable {ws : Ws} {cf : Cf} {W : WX} {n : Nat} {σ : L2.St} {H : Hp} {De : Ends}
variable (ws) in
/-- a suite that gives back written values and what the error bears -/
def tSu (c : Nat) (nm : Option Nat) (su : Su) (a : Addr) (cls : Value) (dx : Option Addr) : TS := fun De σ H => ∃ m st p d, Rl ws m st H ∧ ExV ws m H c p cls dx ∧ suRet p su = some d ∧ (∀ i, nm = some i → i < σ.length → σ[i]? = some (some (.ref a))) ∧
  ∀ m' H' v, Step m H m' H' → Rl ws m' st H' → RD ws H m' H' d v → De.rt v H'
/-- the clauses of a try: their classes' numbers, the slots, the suites -/
structure Hd where
  k : Nat
  C : Addr
  an : Option Str
  nm : Option Nat
  su : Su
def Hd.cl (ws : Ws) (h : Hd) : Cl := ⟨.ref h.C, h.nm, fun a cls d De σ H => cls = .ref h.C ∧ tSu ws h.k h.nm h.su a cls d De σ H⟩
theorem tS_try (E : EcOk ws) {b : List S} {hs : List Hd} (he : ∀ h ∈ hs, ws.ec h.k = some (h.C, h.an)) (hn : ∀ h ∈ hs, ∀ i, h.nm = some i → i < n) (h : tS ws cf W n (.tryS b (hs.map fun h => (h.k, h.su))) De σ H) : tSs ws cf (wU ws.K W De (hs.map (Hd.cl ws))) n b De σ H := by
  obtain ⟨ρ, st, m, hρ, r, hl, h⟩ := h
  refine ⟨ρ, st, m, hρ, r, hl, ?_⟩
  unfold exS at h
  cases x : exSs cf b ρ st with
  | ok fr st1 => rw [x] at h; exact h
  | no => rw [x] at h; exact h.elim
  | ex c p st1 =>
    rw [x] at h
    have h' : Aft ws W n m H (RF ws n) (QE De) (handle c p ρ st1 (hs.map fun h => (h.k, h.su))) := h
    clear h x
    intro m' H' cls dx σ' s' r' q l
    induction hs with
    | nil => exact h' m' H' cls dx σ' s' r' q l
    | cons hd hs ih =>
      obtain ⟨C, an, e1, e2, e3⟩ := id q
      subst e2
      refine ⟨_, E.mt c C an hd.k hd.C hd.an e1 (he hd List.mem_cons_self), fun hk a ha => ?_, fun hk => ?_⟩
      · have hk : hd.k = c := of_decide_eq_true hk
        unfold handle at h'
        have h2 : Aft ws W n m H (RF ws n) (QE De) (match suRet p hd.su with
          | some d => .ok (.ret d, ρ) st1
          | none => .no) := by
          have := h'
          simp only [List.map_cons] at this
          rw [if_pos hk] at this
          exact this
        split at h2
        · rename_i d hd'
          have hC : hd.C = C := by
            have := he hd List.mem_cons_self
            rw [hk, e1] at this
            cases this
            rfl
          have fin : ∀ m'' H'' v, Step m' H' m'' H'' → Rl ws m'' st1 H'' → RD ws H' m'' H'' d v → De.rt v H'' := fun m'' H'' v s'' r'' q'' => h2 m'' H'' (.rt v) (s'.trans s'') r'' (RD.back s' q'')
          unfold Cl.wish Hd.cl
          dsimp only
          cases hnm : hd.nm with
          | none =>
            exact ⟨by rw [hC], m', st1, p, d, r', by rw [hk]; exact q, hd', (fun i z => by cases z), fin⟩
          | some i =>
            refine ⟨by rw [hC], m', st1, p, d, r', by rw [hk]; exact q, hd', fun j z hj => ?_, fin⟩
            cases z
            exact List.getElem?_set_self (by simpa using hj)
        · exact h2.elim
      · have hk : ¬ hd.k = c := of_decide_eq_false hk
        refine ih (fun h hh => he h (List.mem_cons_of_mem _ hh)) (fun h hh => hn h (List.mem_cons_of_mem _ hh)) ?_
        have := h'
        simp only [List.map_cons] at this
        unfold handle at this
        rw [if_neg hk] at this
        exact this
/-! ### the suites -/
variable {X : Cx} {a : Addr} {oe : Obj} {pn : List (Addr × Obj)}
variable (ws) in
def tO (c : Nat) (nm : Option Nat) (o : Option D) (a : Addr) (cls : Value) (dx : Option Addr) : TE := fun σ H Q => ∃ m p d, ExV ws m H c p cls dx ∧ suD p o = some d ∧ (∀ i, nm = some i → i < σ.length → σ[i]? = some (some (.ref a))) ∧ σ.length = n ∧ ∀ v, DV ws m H d v → notl d = true → Q v H
end
end Mn
/-! Mn11: a text of the model against one of the small language: the check. -/
namespace Mn
open PySem PySem.Spec PyProof.Rows L2
mutual
def beqD : D → D → Bool
  | .non, .non => true
  | .bl a, .bl b => a == b
  | .int a, .int b => decide (a = b)
  | .str a, .str b => decide (a = b)
  | .tup xs, .tup ys => beqDs xs ys
  | .fn a, .fn b => decide (a = b)
  | _, _ => false
def beqDs : List D → List D → Bool
  | [], [] => true
  | x :: xs, y :: ys => beqD x y && beqDs xs ys
  | _, _ => false
end
mutual
theorem beqD_ok : ∀ {a b : D}, beqD a b = true → a = b
  | .non, .non, _ => rfl
  | .bl a, .bl b, h => by
    have : a = b := by simpa [beqD] using h
    rw [this]
  | .int a, .int b, h => by
    have : a = b := by simpa [beqD] using h
    rw [this]
  | .str a, .str b, h => by
    have : a = b := by simpa [beqD] using h
    rw [this]
  | .tup xs, .tup ys, h => by
    rw [beqDs_ok (show beqDs xs ys = true by simpa [beqD] using h)]
  | .fn a, .fn b, h => by
    have : a = b := by simpa [beqD] using h
    rw [this]
theorem beqDs_ok : ∀ {a b : List D}, beqDs a b = true → a = b
  | [], [], _ => rfl
  | x :: xs, y :: ys, h => by
    have h' : beqD x y = true ∧ beqDs xs ys = true := by simpa [beqDs] using h
    rw [beqD_ok h'.1, beqDs_ok h'.2]
end
/-! ### the module, a def -/
structure Md where
  fns : List Str
  con : List (Str × D)
  cls : List (Str × Nat × Option Str)
  bl : List Str
structure Cc where
  N : List Str
  sc : Scope
  fnc : Option Scope
  md : Md
def visB (sc : Scope) (x : Str) : Bool := match sc.names.lookup x with
  | some .local => true
  | some .cell => true
  | some .free => true
  | _ => false
def locB (cx : Cc) (i : Nat) (x : Str) : Bool := decide (cx.N[i]? = some x) && visB cx.sc x && !(x == ("__debug__" : Str)) && !(x == ("__classdict__" : Str))
def fncB (cx : Cc) (x : Str) : Bool := match cx.fnc with
  | none => true
  | some s => s.names.lookup x == some .cell
def stoB (cx : Cc) (i : Nat) (x : Str) : Bool := decide (cx.N[i]? = some x) && (match cx.sc.names.lookup x with
  | some .local => true
  | some .cell => fncB cx x
  | _ => false)
def locl (cx : Cc) (i : Nat) (x : Str) : Bool := decide (cx.N[i]? = some x) && (match cx.sc.names.lookup x with
  | some .local => true
  | _ => false)
def globB (cx : Cc) (x : Str) : Bool := (match cx.sc.names.lookup x with
  | some .globalImplicit => true
  | _ => false) && !(x == ("__debug__" : Str))
def blB (cx : Cc) (x : Str) : Bool := globB cx x && cx.md.bl.contains x
def ckC : D → Const → Bool
  | .non, .none => true
  | .bl a, .bool b => a == b
  | .int a, .int b => decide (a = b)
  | .str a, .str b => decide (b = (⟨a.toArray⟩ : Str))
  | _, _ => false
def noSet : Expr → Bool
  | .Set .. => false
  | _ => true
def noStar : Expr → Bool
  | .Starred .. => false
  | _ => true
def noSlice : Expr → Bool
  | .Slice .. => false
  | _ => true
def noCall : Expr → Bool
  | .Call .. => false
  | _ => true
def noLc : Expr → Bool
  | .ListComp .. => false
  | .SetComp .. => false
  | .DictComp .. => false
  | _ => true
def noTup : Expr → Bool
  | .Tuple .. => false
  | .List .. => false
  | _ => true
def noTpl : Expr → Bool
  | .Tuple .. => false
  | _ => true
/-- its test is its value's truth -/
def plainT : Expr → Bool
  | .UnaryOp .. => false
  | .BoolOp .. => false
  | .IfExp .. => false
  | .Compare .. => false
  | _ => true
def binP : Pr → Operator → Bool
  | .add, .Add => true
  | .sub, .Sub => true
  | .mul, .Mult => true
  | .fdiv, .FloorDiv => true
  | .mod, .Mod => true
  | _, _ => false
def cmpP : Pr → CmpOp → Bool
  | .eq, .Eq => true
  | .ne, .NotEq => true
  | .lt, .Lt => true
  | .le, .LtE => true
  | .gt, .Gt => true
  | .ge, .GtE => true
  | .isN, .Is => true
  | .notN, .IsNot => true
  | .isin, .In => true
  | .notin, .NotIn => true
  | _, _ => false
def blN : Pr → Option Str
  | .len => some "len"
  | .abs => some "abs"
  | .toInt => some "int"
  | .all => some "all"
  | .any => some "any"
  | .sum => some "sum"
  | .tuple => some "tuple"
  | .list => some "list"
  | .max => some "max"
  | .min => some "min"
  | .max2 => some "max"
  | .min2 => some "min"
  | _ => none
def mtN : Pr → Option Str
  | .append => some "append"
  | .pop0 => some "pop"
  | .pop1 => some "pop"
  | _ => none
def tyS : Ty → Str
  | .int => "int"
  | .bool => "bool"
  | .str => "str"
  | .tuple => "tuple"
  | .list => "list"
def ckTy (cx : Cc) (t : Ty) : Expr → Bool
  | .Name x _ => decide (x = tyS t) && blB cx x
  | _ => false
def ckTys (cx : Cc) : List Ty → List Expr → Bool
  | [], [] => true
  | t :: ts, e :: es => ckTy cx t e && ckTys cx ts es
  | _, _ => false
def ownOf (N : List Str) (own : List Nat) : List (Str × Nat) := own.map fun i => (N.getD i "", i)
def subL (a b : List Nat) : Bool := a.all fun i => b.contains i
def Cc.blk (cx : Cc) (scope : Scope) : Cc := ⟨cx.N, relS scope cx.sc, some scope, cx.md⟩
mutual
def ckE : Nat → Cc → E → Expr → Bool
  | 0, _, _, _ => false
  | n + 1, cx, e', e => match e' with
    | .var i => (match e with
      | .Name x _ => locB cx i x
      | _ => false)
    | .cst d => (match e with
      | .Constant c _ _ => ckC d c
      | .Name x _ => globB cx x && (match d with
        | .fn g => decide (cx.md.fns[g]? = some x)
        | d => (match cx.md.con.lookup x with
          | some d' => beqD d d'
          | none => false))
      | _ => false)
    | .tupE es => (match e with
      | .Tuple xs _ _ => Nat.ble es.length 1000 && ckEs n cx es xs
      | _ => false)
    | .lstE es => (match e with
      | .List xs _ => Nat.ble es.length 1000 && ckEs n cx es xs
      | _ => false)
    | .prim p es => (match e with
      | .BinOp a o b _ => (match es with
        | [a', b'] => binP p o && ckE n cx a' a && ckE n cx b' b
        | _ => false)
      | .Compare .. => ckCmp n cx (.prim p es) e
      | .UnaryOp o a _ => (match p, o, es with
        | .neg, .USub, [a'] => ckE n cx a' a
        | _, _, _ => false)
      | .Subscript a s _ => (match s with
        | .Slice none none (some (.UnaryOp .USub (.Constant (.int 1) _ _) _)) _ => (match p, es with
          | .rev, [a'] => ckE n cx a' a
          | _, _ => false)
        | .Slice lo hi none _ => (match p, es, lo, hi with
          | .sl false false, [a'], none, none => ckE n cx a' a
          | .sl true false, [a', b'], some b, none => ckE n cx a' a && ckE n cx b' b
          | .sl false true, [a', b'], none, some b => ckE n cx a' a && ckE n cx b' b
          | _, _, _, _ => false)
        | s => (match p, es with
          | .ix, [a', b'] => noSlice s && ckE n cx a' a && ckE n cx b' s
          | _, _ => false))
      | .Call (.Name x _) args [] _ => blB cx x && (match p with
        | .inst ts => (match es, args with
          | [a'], [a, t] => decide (x = "isinstance") && noStar a && ckE n cx a' a && (match t with
            | .Tuple ys _ _ => ckTys cx ts ys && Nat.ble ys.length 100
            | t => (match ts with
              | [ty] => ckTy cx ty t
              | _ => false))
          | _, _ => false)
        | p => decide (blN p = some x) && ckEs n cx es args)
      | _ => false)
    | .frz e1 => ckE n cx e1 e
    | .calle f es => (match e with
      | .Call (.Subscript v ix p) args [] _ => ckE n cx f (.Subscript v ix p) && ckEs n cx es args
      | _ => false)
    | .rngL t es => (match e with
      | .Call (.Name x _) [.Call (.Name y _) args [] _] [] _ => decide (x = if t then "tuple" else "list") && blB cx x && decide (y = "range") && blB cx y && (match args, es with
        | [a], [a'] => noStar a && ckE n cx a' a
        | [a, b], [a', b'] => noStar a && noStar b && ckE n cx a' a && ckE n cx b' b
        | _, _ => false)
      | _ => false)
    | .meth p o es => (match e with
      | .Call (.Attribute ov m apos) args [] pos => decide (mtN p = some m) && (apos.endLine == pos.line) && Nat.ble args.length 10 && noCall ov && ckE n cx o ov && ckEs n cx es args
      | _ => false)
    | .and a b => (match e with
      | .BoolOp .And vs _ => ckAnd n cx a b vs
      | _ => false)
    | .or a b => (match e with
      | .BoolOp .Or vs _ => ckOr n cx a b vs
      | _ => false)
    | .not a => (match e with
      | .UnaryOp .Not x _ => ckE n cx a x
      | _ => false)
    | .ite c a b => (match e with
      | .IfExp t x y _ => ckT n cx c t && ckE n cx a x && ckE n cx b y
      | _ => false)
    | .chain p q a b c => ckCmp n cx (.chain p q a b c) e
    | .sl3 a b c => (match e with
      | .Subscript x (.Slice (some y) (some z) none _) _ => ckE n cx a x && ckE n cx b y && ckE n cx c z
      | _ => false)
    | .call g es => (match e with
      | .Call (.Name x _) args [] _ => globB cx x && decide (cx.md.fns[g]? = some x) && ckEs n cx es args
      | _ => false)
    | .callv i es => (match e with
      | .Call (.Name x _) args [] _ => locB cx i x && ckEs n cx es args
      | _ => false)
    | .comp elt tg src cs own => (match e with
      | .ListComp x [⟨t, it, ifs, k⟩] scope _ => decide (k = 0) && blkC cx.N cx.sc scope (ownOf cx.N own) && subL (tgS tg) own && noSet it && ckSrc n cx src t it && ckTg n (cx.blk scope) tg t && ckCs n (cx.blk scope) cs ifs && ckE n (cx.blk scope) elt x
      | _ => false)
    | .comp2 elt tg src cs tg1 src1 cs1 own own1 => (match e with
      | .ListComp x [⟨t, it, ifs, k⟩, ⟨t1, it1, ifs1, k1⟩] scope _ => decide (k = 0) && decide (k1 = 0) && blkC cx.N cx.sc scope (ownOf cx.N own) && subL (tgS tg) own && subL (tgS tg1) own1 && subL own1 own && noSet it && noSet it1 && ckSrc n cx src t it && ckTg n (cx.blk scope) tg t && ckCs n (cx.blk scope) cs ifs &&
          ckSrc n (cx.blk scope) src1 t1 it1 && ckTg n (cx.blk scope) tg1 t1 && ckCs n (cx.blk scope) cs1 ifs1 && ckE n (cx.blk scope) elt x
      | _ => false)
def ckEs : Nat → Cc → List E → List Expr → Bool
  | 0, _, _, _ => false
  | n + 1, cx, es', es => match es', es with
    | [], [] => true
    | e' :: es', e :: es => noStar e && ckE n cx e' e && ckEs n cx es' es
    | _, _ => false
def ckCmp : Nat → Cc → E → Expr → Bool
  | 0, _, _, _ => false
  | n + 1, cx, e', e => match e' with
    | .prim p [a', b'] => (match e with
      | .Compare a [o] [b] _ => cmpP p o && noSet b && ckE n cx a' a && ckE n cx b' b
      | _ => false)
    | .chain p q a' b' c' => (match e with
      | .Compare a [o, o1] [b, c] _ => isCmp p && cmpP p o && cmpP q o1 && noSet c && ckE n cx a' a && ckE n cx b' b && ckE n cx c' c
      | _ => false)
    | _ => false
def ckAnd : Nat → Cc → E → E → List Expr → Bool
  | 0, _, _, _, _ => false
  | n + 1, cx, a', b', vs => match vs with
    | [x, y] => ckE n cx a' x && ckE n cx b' y
    | x :: y :: z :: r => ckE n cx a' x && (match b' with
      | .and a1 b1 => ckAnd n cx a1 b1 (y :: z :: r)
      | _ => false)
    | _ => false
def ckOr : Nat → Cc → E → E → List Expr → Bool
  | 0, _, _, _, _ => false
  | n + 1, cx, a', b', vs => match vs with
    | [x, y] => ckE n cx a' x && ckE n cx b' y
    | x :: y :: z :: r => ckE n cx a' x && (match b' with
      | .or a1 b1 => ckOr n cx a1 b1 (y :: z :: r)
      | _ => false)
    | _ => false
def ckT : Nat → Cc → E → Expr → Bool
  | 0, _, _, _ => false
  | n + 1, cx, e', e => match e with
    | .Compare .. => ckCmp n cx e' e
    | .UnaryOp .Not x _ => (match e' with
      | .not a => ckT n cx a x
      | _ => false)
    | .BoolOp .And vs _ => (match e' with
      | .and a b => ckAndT n cx a b vs
      | _ => false)
    | .BoolOp .Or vs _ => (match e' with
      | .or a b => ckOrT n cx a b vs
      | _ => false)
    | e => plainT e && ckE n cx e' e
def ckAndT : Nat → Cc → E → E → List Expr → Bool
  | 0, _, _, _, _ => false
  | n + 1, cx, a', b', vs => match vs with
    | [x, y] => ckT n cx a' x && ckT n cx b' y
    | x :: y :: z :: r => ckT n cx a' x && (match b' with
      | .and a1 b1 => ckAndT n cx a1 b1 (y :: z :: r)
      | _ => false)
    | _ => false
def ckOrT : Nat → Cc → E → E → List Expr → Bool
  | 0, _, _, _, _ => false
  | n + 1, cx, a', b', vs => match vs with
    | [x, y] => ckT n cx a' x && ckT n cx b' y
    | x :: y :: z :: r => ckT n cx a' x && (match b' with
      | .or a1 b1 => ckOrT n cx a1 b1 (y :: z :: r)
      | _ => false)
    | _ => false
def ckCs : Nat → Cc → List E → List Expr → Bool
  | 0, _, _, _ => false
  | n + 1, cx, cs', cs => match cs', cs with
    | [], [] => true
    | [c'], [c] => ckT n cx c' c
    | _, _ => false
def ckTg : Nat → Cc → Tg → Expr → Bool
  | 0, _, _, _ => false
  | n + 1, cx, t', t => match t' with
    | .nm i => (match t with
      | .Name x _ => stoB cx i x
      | _ => false)
    | .tp ts => (match t with
      | .Tuple es _ _ => ckTgs n cx ts es
      | _ => false)
    | .sb o i => (match t with
      | .Subscript ov iv _ => noSlice iv && ckE n cx o ov && ckE n cx i iv
      | _ => false)
def ckTgs : Nat → Cc → List Tg → List Expr → Bool
  | 0, _, _, _ => false
  | n + 1, cx, ts', ts => match ts', ts with
    | [], [] => true
    | t' :: ts', t :: ts => noStar t && ckTg n cx t' t && ckTgs n cx ts' ts
    | _, _ => false
def ckSrc : Nat → Cc → Src → Expr → Expr → Bool
  | 0, _, _, _, _ => false
  | n + 1, cx, s', t, e => match s' with
    | .ex e' => ckE n cx e' e
    | .rng es => (match e with
      | .Call (.Name x _) args [] _ => decide (x = "range") && blB cx x && Nat.ble 1 args.length && Nat.ble args.length 3 && ckEs n cx es args
      | _ => false)
    | .enu e' => (match e, t with
      | .Call (.Name x _) [a] [] _, .Tuple .. => decide (x = "enumerate") && blB cx x && ckEs n cx [e'] [a]
      | _, _ => false)
    | .zip a' b' => (match e, t with
      | .Call (.Name x _) [a, b] [] _, .Tuple .. => decide (x = "zip") && blB cx x && ckEs n cx [a', b'] [a, b]
      | _, _ => false)
end
/-- the exchange: name = [..] on one line -/
def swB (cx : Cc) (value tg : Expr) : Bool := match value, tg with
  | .ListComp _ _ s _, .Name t pos => (match cx.sc.kind with | .function => true | _ => false) && (cx.sc.names.lookup t == some .local) && (pos.line == value.pos.line) && !(s.names.any fun (n, k) => n == t && (k == .local || k == .cell))
  | _, _ => false
def bkS (sc : Scope) : ScopeKind := if sc.kind.isAnnotationScope then .function else sc.kind
/-- the stores from the right -/
def swS (sc : Scope) (ts vs : List Expr) : Option (Option (List Str)) :=
  if !(ts.length == 2 || ts.length == 3) || vs.length != ts.length || bkS sc != .function then some none
  else if vs.any fun | .Starred .. => true | _ => false then some none
  else
    let line := (ts.head?.map (·.pos.line)).getD 0
    let names := ts.filterMap fun
      | .Name id pos => if sc.names.lookup id == some .local && pos.line == line then some id else none
      | _ => none
    if names.length != ts.length || names.eraseDups.length != names.length then some none
    else if vs.all (foldedForSure 8) then some none
    else if vs.all (constantsAlone 8) then none
    else some (some names)
/-- an except clause: the class, the name's slot, the suite -/
def ckO (cx : Cc) (nm : Option Str) (an : Option Str) : Option D → Expr → Bool
  | some d, .Constant c _ _ => ckC d c
  | none, .Attribute (.Name y _) f _ => decide (nm = some y) && decide (an = some f) && !(y == ("__debug__" : Str)) && !(y == ("__classdict__" : Str))
  | _, _ => false
def ckOs (cx : Cc) (nm : Option Str) (an : Option Str) : List (Option D) → List Expr → Bool
  | [], [] => true
  | o :: os, e :: es => noStar e && ckO cx nm an o e && ckOs cx nm an os es
  | _, _ => false
def slotB (cx : Cc) : Option Str → Bool
  | none => true
  | some y => cx.N.contains y && (cx.sc.names.lookup y == some .local)
def ckH (cx : Cc) (h : Nat × Su) : ExceptHandler → Bool
  | .ExceptHandler (some (.Name x _)) nm [.Return (some e) _] _ => globB cx x && slotB cx nm && (match cx.md.cls.lookup x with
    | some (k, an) => decide (k = h.1) && (match h.2 with
      | .one o => ckO cx nm an o e
      | .tup os => (match e with
        | .Tuple es _ _ => Nat.ble os.length 1000 && ckOs cx nm an os es
        | _ => false))
    | none => false)
  | _ => false
def ckHs (cx : Cc) : List (Nat × Su) → List ExceptHandler → Bool
  | [], [] => true
  | h :: hs, e :: es => ckH cx h e && ckHs cx hs es
  | _, _ => false
mutual
def ckS : Nat → Cc → S → Stmt → Bool
  | 0, _, _, _ => false
  | n + 1, cx, s', s => match s' with
    | .ex e' => (match s with
      | .Expr e _ => noLc e && ckE n cx e' e
      | _ => false)
    | .ret e' => (match s with
      | .Return (some e) _ => ckE n cx e' e
      | _ => false)
    | .ret0 => (match s with
      | .Return none _ => true
      | _ => false)
    | .pas => (match s with
      | .Pass _ => true
      | _ => false)
    | .brk => (match s with
      | .Break _ => true
      | _ => false)
    | .cnt => (match s with
      | .Continue _ => true
      | _ => false)
    | .asg t' e' => (match s with
      | .Assign [t] e _ => noStar t && (match e with
        | .ListComp .. => (match t, t' with
          | .Name x _, .nm i => (if swB cx e t then locl cx i x else ckTg n cx t' t) && ckE n cx e' e
          | _, _ => false)
        | .Tuple vs _ _ => (match t with
          | .Tuple ts _ _ => (match swS cx.sc ts vs with
            | some none => ckTg n cx t' t && ckE n cx e' e
            | some (some names) => (match ts, vs, t', e' with
              | [.Name x _, .Name y _], [a, b], .tp [.nm i, .nm j], .tupE es => decide (names = [x, y]) && !(decide (i = j)) && locl cx i x && locl cx j y && ckEs n cx es vs
              | [.Name x _, .Name y _, .Name z _], [a, b, c], .tp [.nm i, .nm j, .nm l], .tupE es => decide (names = [x, y, z]) && !(decide (i = j)) && !(decide (i = l)) && !(decide (j = l)) && locl cx i x && locl cx j y && locl cx l z && ckEs n cx es vs
              | _, _, _, _ => false)
            | none => false)
          | .List .. => false
          | t => noTup t && ckTg n cx t' t && ckE n cx e' e)
        | e => noLc e && noTpl e && ckTg n cx t' t && ckE n cx e' e)
      | _ => false)
    | .aug i p e' => (match s with
      | .AugAssign (.Name x _) o e _ => binP p o && stoB cx i x && ckE n cx e' e
      | _ => false)
    | .augS o i p e' => (match s with
      | .AugAssign (.Subscript ov iv _) op e _ => binP p op && noSlice iv && ckE n cx o ov && ckE n cx i iv && ckE n cx e' e
      | _ => false)
    | .ifS c a b => (match s with
      | .If t x y _ => ckT n cx c t && ckSs n cx a x && ckSs n cx b y
      | _ => false)
    | .whl c b => (match s with
      | .While t x [] _ => ckT n cx c t && ckSs n cx b x
      | _ => false)
    | .for t' src b => (match s with
      | .For t it x [] _ => noSet it && ckSrc n cx src t it && ckTg n cx t' t && ckSs n cx b x
      | _ => false)
    | .rse c es => (match s with
      | .Raise (some (.Call (.Name x _) [.Constant (.str _) _ _] [] _)) none _ => globB cx x && es.isEmpty && (match cx.md.cls.lookup x with
        | some (k, none) => decide (k = c)
        | _ => false)
      | _ => false)
    | .tryS b hs => (match s with
      | .Try x (h :: hds) [] [] _ => ckSs n cx b x && ckHs cx hs (h :: hds)
      | _ => false)
def ckSs : Nat → Cc → List S → List Stmt → Bool
  | 0, _, _, _ => false
  | n + 1, cx, ss', ss => match ss', ss with
    | [], [] => true
    | s' :: ss', s :: ss => ckS n cx s' s && ckSs n cx ss' ss
    | _, _ => false
end
end Mn
/-! Mn12: the check is sound: expressions. -/
namespace Mn
open PySem PySem.Spec PyProof.Rows L2
/-! ### forms -/
theorem star_cons {e : Expr} {es : List Expr} {env : Env} (h : noStar e = true) : starEach (e :: es) env = (false, eval e env) :: starEach es env := by
  cases e <;> first | rfl | cases h
theorem asg_cons {e : Expr} {es : List Expr} {env : Env} (h : noStar e = true) : assignEach (e :: es) env = (false, assign e env) :: assignEach es env := by
  cases e <;> first | rfl | cases h
theorem asg_len {env : Env} : ∀ {es : List Expr}, (assignEach es env).length = es.length
  | [] => rfl
  | e :: es => by
    cases e <;> (show (_ :: assignEach es env).length = _; rw [List.length_cons, List.length_cons, asg_len])
theorem plainIx {b : Expr} (h : noSlice b = true) : PlainIx b := fun o i => by cases b <;> first | rfl | cases h
theorem asg_sub {o i : Expr} {pos : Pos} {env : Env} (h : noSlice i = true) (v : Value) : assign (.Subscript o i pos) env v = (do
      let ov ← holding [v] (eval o env)
      let iv ← holding [v, ov] (eval i env)
      standAt pos
      holding [v, ov, iv] (setItem ov iv v)
      release [v, ov, iv] []) := by
  cases i <;> first | rfl | cases h
theorem aug_sub {i : Expr} (h : noSlice i = true) (ov iv new : Value) : augStore i ov iv new = (do holding [new, ov, iv] (setItem ov iv new); release [new, ov, iv] []; pure .next) := by
  cases i <;> first | rfl | cases h
theorem nomarkS {op : CmpOp} {b : Expr} (h : noSet b = true) : behindInMarks op b = false := by
  cases b <;> first | rfl | cases h
theorem plain_test {e : Expr} {env : Env} (h : plainT e = true) (whole : Sem Value) : isTrue e env whole = (do let v ← whole; standAt e.pos; holding [v] (truthy v)) := by
  cases e <;> first | rfl | cases h
theorem fold_set {e : Expr} {env : Env} (h : noSet e = true) (x : Value) : foldedSetIterable e env x = pure x := by
  cases e <;> first | rfl | cases h
theorem attr_base {o : Expr} {a : Str} {env : Env} (h : noCall o = true) (w : Sem Value) : attributeBase o a env w = w := by
  cases o <;> first | rfl | cases h
theorem swaps_no {e : Expr} {t : Option Expr} {l : Nat} {env : Env} (h : noLc e = true) : swapsWith e t l env = pure false := by
  cases e <;> first | rfl | cases h
inductive PlainEs : List Expr → Prop
  | nil : PlainEs []
  | cons {e : Expr} {es : List Expr} : noStar e = true → PlainEs es → PlainEs (e :: es)
theorem PlainEs.any {env : Env} {pos : Pos} : ∀ {es : List Expr}, PlainEs es → (backTo pos (starEach es env)).any (·.1) = false
  | _, .nil => rfl
  | _, .cons h r => by
    rw [star_cons h]
    show (false || (backTo pos (starEach _ env)).any (·.1)) = false
    rw [r.any]
    rfl
theorem PlainEs.all {env : Env} {pos : Pos} : ∀ {es : List Expr}, PlainEs es → (backTo pos (starEach es env)).all (fun x => !x.1) = true
  | _, .nil => rfl
  | _, .cons h r => by
    rw [star_cons h]
    show ((!false) && (backTo pos (starEach _ env)).all (fun x => !x.1)) = true
    rw [r.all]
    rfl
theorem PlainEs.find {env : Env} : ∀ {es : List Expr}, PlainEs es → (assignEach es env).findIdx? (·.1) = none
  | _, .nil => rfl
  | _, .cons h r => by
    rw [asg_cons h, List.findIdx?_cons]
    simp [r.find]
/-! ### what a context must have -/
/-- a class that may be raised with a text -/
def Rse (X : Cx) (C : Addr) : Prop := ∃ B newId initId bmB, ExcBaseFacts B newId initId bmB ∧ PySem.W.excIn X.K C bmB newId = true ∧ PySem.W.keepIn X.K (.ref C) = true ∧ Raises X (.ref C)
def FnG (ws : Ws) (cf : Cf) (X : Cx) (g : Nat) (x : Str) : Prop := X.mg x = some (.ref (ws.fa g)) ∧ PySem.W.keepIn X.K (.ref (ws.fa g)) = true ∧
  ∃ k fd ps, FnOk X.prog X.w X.K X.mg X.base (L2.CX X.prog X.w) k (ws.fa g) fd ps (spF ws cf g) ∧ Room k X.A ∧ Binds X.K fd ps []
structure Gd (ws : Ws) (cf : Cf) (cx : Cc) (X : Cx) : Prop where
  g : Gp ws X
  N : X.N = cx.N
  nd : cx.N.Nodup
  sc : X.env.scope = cx.sc
  kd : cx.sc.kind = .function
  fn : ∀ x, fncB cx x = true → X.fn x = true
  bl : ∀ x ∈ cx.md.bl, X.mg x = none
  con : ∀ x d, cx.md.con.lookup x = some d → ∃ u v, X.mg x = some u ∧ RelV v u ∧ (∀ m H, DV ws m H d v) ∧ notl d = true
  cls : ∀ x k an, cx.md.cls.lookup x = some (k, an) → ∃ C, ws.ec k = some (C, an) ∧ X.mg x = some (.ref C)
  rse : ∀ x k C, cx.md.cls.lookup x = some (k, none) → ws.ec k = some (C, none) → Rse X C
  fns : ∀ g x, cx.md.fns[g]? = some x → FnG ws cf X g x
  nf : ∀ g, g < cf.nf → ∃ x, cx.md.fns[g]? = some x
section
variable {ws : Ws} {cf : Cf} {cx : Cc} {X : Cx} {W : WX} {n : Nat}
theorem Gd.blk (G : Gd ws cf cx X) (s : Shared) (H : Hp) (scope : Scope) (C : Addr) (cl : List (Str × Addr)) (fp : List Addr) (hk : scope.kind = .function) : Gd ws cf (cx.blk scope) (X.blk s H scope (compEnvC scope cl C X.env) fp) :=
  ⟨⟨G.g.K, G.g.calm, G.g.units⟩, G.N, G.nd, by
    show relabel scope X.env = relS scope cx.sc
    rw [← G.sc]
    rfl, hk, fun x h => h, G.bl, G.con, G.cls, G.rse, fun g x e => G.fns g x e, G.nf⟩
theorem Gd.tr (G : Gd ws cf cx X) (pn : List (Addr × Obj)) (xe : Value → Shared → Prop) : Gd ws cf cx (X.tr pn xe) := ⟨⟨G.g.K, G.g.calm, G.g.units⟩, G.N, G.nd, G.sc, G.kd, G.fn, G.bl, G.con, G.cls, G.rse, G.fns, G.nf⟩
theorem Gd.loc (G : Gd ws cf cx X) {i : Nat} {x : Str} (h : locB cx i x = true) : X.N[i]? = some x ∧ Vis X.env.scope x ∧ (x == ("__debug__" : Str)) = false ∧ (x == ("__classdict__" : Str)) = false := by
  unfold locB visB at h
  simp only [Bool.and_eq_true, Bool.not_eq_true', decide_eq_true_eq] at h
  obtain ⟨⟨⟨h1, h2⟩, h3⟩, h4⟩ := h
  refine ⟨by rw [G.N]; exact h1, ?_, h3, h4⟩
  unfold Vis
  rw [G.sc]
  split at h2
  · rename_i e; exact .inl e
  · rename_i e; exact .inr (.inl e)
  · rename_i e; exact .inr (.inr e)
  · cases h2
theorem Gd.sto (G : Gd ws cf cx X) {i : Nat} {x : Str} (h : stoB cx i x = true) : X.N[i]? = some x ∧ L2.Loc X.env.scope x ∧ (X.fn x = true ∨ X.env.scope.names.lookup x = some .local) := by
  unfold stoB at h
  simp only [Bool.and_eq_true, decide_eq_true_eq] at h
  obtain ⟨h1, h2⟩ := h
  refine ⟨by rw [G.N]; exact h1, ?_⟩
  unfold L2.Loc
  rw [G.sc]
  split at h2
  · rename_i e; exact ⟨.inl e, .inr e⟩
  · rename_i e; exact ⟨.inr e, .inl (G.fn x h2)⟩
  · cases h2
theorem Gd.locl (G : Gd ws cf cx X) {i : Nat} {x : Str} (h : Mn.locl cx i x = true) : X.N[i]? = some x ∧ X.env.scope.names.lookup x = some .local := by
  unfold Mn.locl at h
  simp only [Bool.and_eq_true, decide_eq_true_eq] at h
  obtain ⟨h1, h2⟩ := h
  refine ⟨by rw [G.N]; exact h1, ?_⟩
  rw [G.sc]
  split at h2
  · rename_i e; exact e
  · cases h2
theorem Gd.glob (G : Gd ws cf cx X) {x : Str} (h : globB cx x = true) : Gl X x ∧ (x == ("__debug__" : Str)) = false := by
  unfold globB at h
  simp only [Bool.and_eq_true, Bool.not_eq_true'] at h
  obtain ⟨h1, h2⟩ := h
  refine ⟨?_, h2⟩
  show X.env.scope.names.lookup x = _
  rw [G.sc]
  split at h1
  · rename_i e; exact e
  · cases h1
theorem Gd.blt (G : Gd ws cf cx X) {x : Str} (h : blB cx x = true) : Gl X x ∧ X.mg x = none ∧ (x == ("__debug__" : Str)) = false := by
  unfold blB at h
  rw [Bool.and_eq_true] at h
  obtain ⟨h1, h2⟩ := G.glob h.1
  exact ⟨h1, G.bl x (by simpa using h.2), h2⟩
/-! ### constants -/
theorem ckC_ok {d : D} {c : Const} {j : Nat} {pos : Pos} (h : ckC d c = true) : ∃ v, PE X (.Constant c j pos) (tC v) ∧ (∀ m H, DV ws m H d v) ∧ notl d = true := by
  unfold ckC at h
  split at h
  · exact ⟨.non, pe_non, fun _ _ => .non, rfl⟩
  · rename_i a b
    have : a = b := by simpa using h
    subst this
    exact ⟨.bl a, pe_bl, fun _ _ => .bl a, rfl⟩
  · rename_i a b
    have : a = b := by simpa using h
    subst this
    exact ⟨.int a, pe_int, fun _ _ => .int a, rfl⟩
  · rename_i a b
    have : b = (⟨a.toArray⟩ : Str) := by simpa using h
    subst this
    exact ⟨.str _, pe_str, fun _ _ => .str a, rfl⟩
  · cases h
/-! ### operations -/
theorem binP_ok {p : Pr} {o : Operator} (h : binP p o = true) (G : Gp ws X) : OpR X (binaryOp o) (rP2 ws p) := by
  unfold binP at h
  split at h
  · exact or_add G
  · exact or_sub
  · exact or_mul G
  · exact or_fdiv
  · exact or_mod
  · cases h
theorem cmpP_ok {p : Pr} {o : CmpOp} (h : cmpP p o = true) (G : Gp ws X) : OpR X (compareOp o) (rP2 ws p) := by
  unfold cmpP at h
  split at h
  · exact or_eq G
  · exact or_ne G
  · exact or_lt
  · exact or_le
  · exact or_gt
  · exact or_ge
  · exact or_isN G
  · exact or_notN G
  · exact or_in G
  · exact or_notin G
  · cases h
theorem ipP_ok {p : Pr} {o : Operator} (h : binP p o = true) : PIp X o (ipS p) ∧ isArith p = true := by
  unfold binP at h
  split at h
  · refine ⟨fun pins s σ H x y v u Q I r1 r2 h => ?_, rfl⟩
    obtain ⟨i, j, k, rfl, rfl, e, q⟩ := h
    cases e
    exact ip_add pins s σ H _ _ v u Q I r1 r2 ⟨i, j, rfl, rfl, q⟩
  · refine ⟨fun pins s σ H x y v u Q I r1 r2 h => ?_, rfl⟩
    obtain ⟨i, j, k, rfl, rfl, e, q⟩ := h
    cases e
    exact ip_sub pins s σ H _ _ v u Q I r1 r2 ⟨i, j, rfl, rfl, q⟩
  · refine ⟨fun pins s σ H x y v u Q I r1 r2 h => ?_, rfl⟩
    obtain ⟨i, j, k, rfl, rfl, e, q⟩ := h
    simp only [semI] at e
    split at e
    · rename_i hc
      cases e
      exact imul_any pins s σ H _ _ v u Q I r1 r2 ⟨i, j, rfl, rfl, cmulx hc, q⟩
    · cases e
  · refine ⟨fun pins s σ H x y v u Q I r1 r2 h => ?_, rfl⟩
    obtain ⟨i, j, k, rfl, rfl, e, q⟩ := h
    simp only [semI] at e
    split at e
    · rename_i hc
      cases e
      exact ifdiv_any pins s σ H _ _ v u Q I r1 r2 ⟨i, j, rfl, rfl, hc, q⟩
    · cases e
  · refine ⟨fun pins s σ H x y v u Q I r1 r2 h => ?_, rfl⟩
    obtain ⟨i, j, k, rfl, rfl, e, q⟩ := h
    simp only [semI] at e
    split at e
    · rename_i hc
      cases e
      exact imod_any pins s σ H _ _ v u Q I r1 r2 ⟨i, j, rfl, rfl, hc, q⟩
    · cases e
  · cases h
/-- the built-in functions -/
theorem blN_ok {p : Pr} {x : Str} (h : blN p = some x) (G : Gp ws X) : x ≠ "__name__" ∧ ((∃ id, bootBuiltins x = some (.builtin id) ∧ CallR X (.builtin id) (rP ws p)) ∨ ∃ T, bootBuiltins x = some (.type T) ∧ CallR X (.type T) (rP ws p)) := by
  cases p
  case len => cases h; exact ⟨by decide, .inl ⟨_, boot_len, cr_len G⟩⟩
  case abs => cases h; exact ⟨by decide, .inl ⟨_, by decide +kernel, cr_abs⟩⟩
  case toInt => cases h; exact ⟨by decide, .inr ⟨_, by decide +kernel, cr_int⟩⟩
  case all => cases h; exact ⟨by decide, .inl ⟨_, by decide +kernel, cr_allM G⟩⟩
  case any => cases h; exact ⟨by decide, .inl ⟨_, by decide +kernel, cr_anyM G⟩⟩
  case sum => cases h; exact ⟨by decide, .inl ⟨_, by decide +kernel, cr_sumM G⟩⟩
  case tuple => cases h; exact ⟨by decide, .inr ⟨_, by decide +kernel, cr_tuple G⟩⟩
  case list => cases h; exact ⟨by decide, .inr ⟨_, by decide +kernel, cr_list G⟩⟩
  case max => cases h; exact ⟨by decide, .inl ⟨_, by decide +kernel, cr_maxM G⟩⟩
  case min => cases h; exact ⟨by decide, .inl ⟨_, by decide +kernel, cr_minM G⟩⟩
  case max2 => cases h; exact ⟨by decide, .inl ⟨_, by decide +kernel, cr_max2 G⟩⟩
  case min2 => cases h; exact ⟨by decide, .inl ⟨_, by decide +kernel, cr_min2 G⟩⟩
  all_goals cases h
theorem pe_blN {p : Pr} {x : Str} {e : Expr} {es : List Expr} {es' : List E} {np pos : Pos} (h : blN p = some x) (G : Gd ws cf cx X) (hb : blB cx x = true) (ha : PA X (e :: es) (tEs ws cf W n es')) (hs : PlainEs (e :: es)) : PE X (.Call (.Name x np) (e :: es) [] pos) (tE ws cf W n (.prim p es')) := by
  obtain ⟨g1, g2, g3⟩ := G.blt hb
  cases hs with
  | cons h1 h2 =>
    obtain ⟨hn, ⟨id, hv, hc⟩ | ⟨T, hv, hc⟩⟩ := blN_ok h G.g
    · exact PE.imp (pe_callB hc g1 g2 hv ha hn g3 (star_cons h1) h2.any) fun σ H Q q => tE_prim q
    · exact PE.imp (pe_callTy hc g1 g2 hv ha hn g3 (star_cons h1) h2.any) fun σ H Q q => tE_prim q
/-! ### isinstance -/
theorem rP_alloc {p : Pr} {vs : List V} {H : Hp} {Q : VK} {q : Addr} {o : HO} (h : rP ws p vs H Q) (hq : H q = none) : rP ws p vs (upd H q o) Q := by
  obtain ⟨H0, m0, m, st, ds, d, st', s, r, a, e, k⟩ := h
  exact ⟨H0, m0, m, st, ds, d, st', s.trans (Step.alloc hq), r.alloc hq, ⟨a.as.mono (Step.alloc hq), a.nd, a.fr⟩, e, k⟩
theorem boot_ty (t : Ty) : bootBuiltins (tyS t) = some (.type (tyN (some t))) ∧ tyS t ≠ "__name__" := by
  cases t <;> exact ⟨by decide +kernel, by decide⟩
theorem ckTy_ok {t : Ty} {e : Expr} (G : Gd ws cf cx X) (h : ckTy cx t e = true) : PE X e (tC (.ty (tyN (some t)))) ∧ noStar e = true := by
  unfold ckTy at h
  split at h
  · rw [Bool.and_eq_true] at h
    obtain ⟨h1, h2⟩ := h
    have h1 := of_decide_eq_true h1
    subst h1
    obtain ⟨g1, g2, g3⟩ := G.blt h2
    exact ⟨pe_bltn g1 g2 (boot_ty t).1 rfl (boot_ty t).2 g3, rfl⟩
  · cases h
theorem ckTys_ok (G : Gd ws cf cx X) : ∀ {ts : List Ty} {es : List Expr}, ckTys cx ts es = true → PA X es (fun _ H Q => Q (ts.map fun t => V.ty (tyN (some t))) H) ∧ ts.length = es.length
  | [], [], _ => ⟨pa_nil, rfl⟩
  | t :: ts, e :: es, h => by
    have h' : ckTy cx t e = true ∧ ckTys cx ts es = true := by simpa [ckTys] using h
    obtain ⟨h1, h2⟩ := ckTy_ok G h'.1
    obtain ⟨h3, h4⟩ := ckTys_ok G h'.2
    exact ⟨pa_cons h1 h3 (star_cons h2), by rw [List.length_cons, List.length_cons, h4]⟩
theorem pe_inst1 {t : Ty} {a e : Expr} {a' : E} {np pos : Pos} (G : Gd ws cf cx X) (hb : blB cx "isinstance" = true) (ha : PE X a (tE ws cf W n a')) (hs : noStar a = true) (ht : ckTy cx t e = true) :
    PE X (.Call (.Name "isinstance" np) [a, e] [] pos) (tE ws cf W n (.prim (.inst [t]) [a'])) := by
  obtain ⟨g1, g2, g3⟩ := G.blt hb
  obtain ⟨h1, h2⟩ := ckTy_ok G ht
  refine PE.imp (pe_callB (cr_inst1 G.g t) g1 g2 boot_isinstance (pa_cons ha (pa_cons h1 pa_nil (star_cons h2)) (star_cons hs)) (by decide) g3 (star_cons hs) (PlainEs.cons h2 .nil).any) fun σ H Q q => ?_
  exact tE_mono (tEs_one (tE_prim q)) fun x H1 k => ⟨x, rfl, k⟩
theorem pe_instT {ts : List Ty} {a : Expr} {ys : List Expr} {a' : E} {np pos kp : Pos} {kk : Nat} (G : Gd ws cf cx X) (hb : blB cx "isinstance" = true) (ha : PE X a (tE ws cf W n a')) (hs : noStar a = true) (ht : ckTys cx ts ys = true) (hl : ys.length ≤ 100) :
    PE X (.Call (.Name "isinstance" np) [a, .Tuple ys kk kp] [] pos) (tE ws cf W n (.prim (.inst ts) [a'])) := by
  obtain ⟨g1, g2, g3⟩ := G.blt hb
  obtain ⟨h1, h2⟩ := ckTys_ok G ht
  refine PE.imp (pe_callB (cr_instT G.g ts) g1 g2 boot_isinstance (pa_cons ha (pa_cons (pe_tup h1) pa_nil rfl) (star_cons hs)) (by decide) g3 (star_cons hs) (PlainEs.cons (e := .Tuple ys kk kp) rfl .nil).any) fun σ H Q q => ?_
  refine tE_mono (tEs_one (tE_prim q)) fun x H1 k => ⟨by rw [List.length_map, h2]; exact Nat.le_trans hl (by decide), fun p hp => ⟨x, p, rfl, upd_same, rP_alloc k hp⟩⟩
/-! ### methods of lists -/
theorem tE_meth {p : Pr} {o : E} {es : List E} {σ : L2.St} {H : Hp} {Q : VK} (h : tE ws cf W n (.meth p o es) σ H Q) : tE ws cf W n o σ H fun x H1 => tyV ws.K "list" x H1 ∧ tEs ws cf W n es σ H1 fun vs H2 => rP ws p (x :: vs) H2 Q := by
  obtain ⟨ρ, st, m, hρ, r, hl, h⟩ := h
  unfold evE at h
  refine tE_bind hρ r hl h fun x st1 m1 H1 v _ s1 r1 hρ1 q1 h1 => ?_
  split at h1
  · rename_i hr
    obtain ⟨k, rfl⟩ : ∃ k, x = .lr k := by
      unfold rcv at hr
      split at hr <;> first | exact ⟨_, rfl⟩ | cases hr
    refine ⟨?_, ⟨ρ, st1, m1, hρ1, r1, hl, ?_⟩⟩
    · cases q1.1 with
      | lr e =>
        rename_i a
        have hk : k < st1.length := by
          rw [← r1.len]
          exact (List.getElem?_eq_some_iff.mp e).1
        refine .inl ⟨rfl, ?_⟩
        cases ho : st1[k] with
        | lst xs =>
          obtain ⟨vs, z, _⟩ := r1.obj k (.lst xs) a (by rw [List.getElem?_eq_getElem hk, ho]) e
          exact ⟨vs, SqL.of z⟩
    · refine Aft.bind (Aft.shift h1 s1 fun _ _ _ _ h => RD.back s1 h) fun ds st2 m2 H2 vs _ s2 r2 q2 h2 => ?_
      exact aft_prim s2 r2 (RA.cons ⟨q1.1, fr_of rfl⟩ s2 (fun _ h => h) q2) h2
  · exact h1.elim
theorem pe_meth0 {p : Pr} {o : Expr} {o' : E} {m : Str} {apos pos : Pos} (G : Gd ws cf cx X) (hm : mtN p = some m) (hl : (apos.endLine == pos.line) = true) (hc : noCall o = true) (ho : PE X o (tE ws cf W n o')) :
    PE X (.Call (.Attribute o m apos) [] [] pos) (tE ws cf W n (.meth p o' [])) := by
  have go : ∀ {m : Str} {id : String} {r : V → List V → Hp → VK → Prop}, Slot "list" m id → typeOf (.builtin id) = pure (.type "method_descriptor") → MtR X id r → (∀ x H Q, rP ws p [x] H Q → r x [] H Q) →
      PE X (.Call (.Attribute o m apos) [] [] pos) (tE ws cf W n (.meth p o' [])) := fun sl ty mt f =>
    PE.imp (pe_bm0 PySem.F.plainAttrs_list sl ty mt ho (attr_base hc _) hl) fun σ H Q q => tE_mono (tE_meth q) fun x H1 k => ⟨by rw [G.g.K]; exact k.1, f _ _ _ (tEs_nil k.2)⟩
  cases p
  case append => cases hm; exact go PySem.F.slot_list_append PySem.F.type_list_append mt_appendM fun x H Q k => k
  case pop0 => cases hm; exact go PySem.F.slot_list_pop PySem.F.type_list_pop mt_pop0 fun x H Q k => ⟨rfl, k⟩
  case pop1 =>
    cases hm
    exact go PySem.F.slot_list_pop PySem.F.type_list_pop (mt_pop0 (ws := ws)) fun x H Q k => by
      obtain ⟨H0, m0, m, st, ds, d, st', s, r, a, e, k⟩ := k
      obtain ⟨a, rfl, ha⟩ := a.as.one
      simp only [semP, sem1] at e
      cases e
  all_goals cases hm
theorem pe_meth {p : Pr} {o e : Expr} {es : List Expr} {o' : E} {es' : List E} {m : Str} {apos pos : Pos} (G : Gd ws cf cx X) (hm : mtN p = some m) (hl : (apos.endLine == pos.line) = true) (hc : noCall o = true) (ho : PE X o (tE ws cf W n o')) (ha : PA X (e :: es) (tEs ws cf W n es')) (hs : PlainEs (e :: es)) (hn : (e :: es).length ≤ 10) :
    PE X (.Call (.Attribute o m apos) (e :: es) [] pos) (tE ws cf W n (.meth p o' es')) := by
  have hfew : ((backTo pos (starEach (e :: es) X.env)).all (fun x => !x.1) && (backToKw pos (keywordEach [] X.env)).all (fun x => x.1.isSome)
      && decide ((e :: es).length + ([] : List Keyword).length + (if ([] : List Keyword).isEmpty then 0 else 1) < 30)) = true := by
    rw [hs.all]
    simp only [Bool.true_and, Bool.and_eq_true]
    exact ⟨rfl, decide_eq_true (by simp only [List.length_nil, List.isEmpty_nil, if_true]; omega)⟩
  cases hs with
  | cons h1 h2 =>
    have go : ∀ {m : Str} {id : String} {r : V → List V → Hp → VK → Prop}, Slot "list" m id → typeOf (.builtin id) = pure (.type "method_descriptor") → MtR X id r → (∀ x xs H Q, rP ws p (x :: xs) H Q → r x xs H Q) →
        PE X (.Call (.Attribute o m apos) (e :: es) [] pos) (tE ws cf W n (.meth p o' es')) := fun sl ty mt f =>
      PE.imp (pe_bm PySem.F.plainAttrs_list sl ty mt ho ha (attr_base hc _) hfew hl (star_cons h1) h2.any) fun σ H Q q => tE_mono (tE_meth q) fun x H1 k => ⟨by rw [G.g.K]; exact k.1, by
        obtain ⟨ρ, st, m, hρ, r, hl, h⟩ := k.2
        exact ⟨ρ, st, m, hρ, r, hl, h.imp fun vs H' k => f _ _ _ _ k⟩⟩
    cases p
    case append => cases hm; exact go PySem.F.slot_list_append PySem.F.type_list_append mt_appendM fun x xs H Q k => k
    case pop0 =>
      cases hm
      exact go PySem.F.slot_list_pop PySem.F.type_list_pop mt_pop0 fun x xs H Q k => by
        obtain ⟨H0, m0, m, st, ds, d, st', s, r, a, e, k'⟩ := id k
        cases ds with
        | nil => cases e
        | cons a1 t =>
          cases t with
          | nil =>
            obtain ⟨a, b⟩ := a
            cases a with
            | cons _ t => cases t; exact ⟨rfl, k⟩
          | cons b t =>
            cases t with
            | nil => simp only [semP, sem2] at e; cases a1 <;> cases b <;> first | cases e | (simp only [semI] at e; cases e)
            | cons _ _ => cases e
    case pop1 =>
      cases hm
      exact go PySem.F.slot_list_pop PySem.F.type_list_pop mt_pop1 fun x xs H Q k => by
        obtain ⟨H0, m0, m, st, ds, d, st', s, r, a, e, k'⟩ := id k
        cases ds with
        | nil => cases e
        | cons a1 t =>
          cases t with
          | nil => simp only [semP, sem1] at e; cases e
          | cons b t =>
            cases t with
            | nil =>
              obtain ⟨a, b⟩ := a
              cases a with
              | cons _ t =>
                cases t with
                | cons _ t => cases t; exact ⟨_, rfl, k⟩
            | cons _ _ => cases e
    all_goals cases hm
end
end Mn
/-! Mn13: the check is sound: the walk over expressions. -/
namespace Mn
open PySem PySem.Spec PyProof.Rows L2
structure Snd (ws : Ws) (cf : Cf) (n : Nat) : Prop where
  e : ∀ {cx : Cc} {X : Cx} {W : WX} {e' : E} {e : Expr}, Gd ws cf cx X → Takes X W → ckE n cx e' e = true → PE X e (tE ws cf W cx.N.length e')
  es : ∀ {cx : Cc} {X : Cx} {W : WX} {es' : List E} {es : List Expr}, Gd ws cf cx X → Takes X W → ckEs n cx es' es = true → PA X es (tEs ws cf W cx.N.length es') ∧ PlainEs es ∧ es'.length = es.length
  cmp : ∀ {cx : Cc} {X : Cx} {W : WX} {e' : E} {e : Expr}, Gd ws cf cx X → Takes X W → ckCmp n cx e' e = true → PE X e (tE ws cf W cx.N.length e') ∧ PT X e (tT ws cf W cx.N.length e')
  and : ∀ {cx : Cc} {X : Cx} {W : WX} {a b : E} {vs : List Expr} {pos : Pos}, Gd ws cf cx X → Takes X W → ckAnd n cx a b vs = true → PE X (.BoolOp .And vs pos) (tE ws cf W cx.N.length (.and a b))
  or : ∀ {cx : Cc} {X : Cx} {W : WX} {a b : E} {vs : List Expr} {pos : Pos}, Gd ws cf cx X → Takes X W → ckOr n cx a b vs = true → PE X (.BoolOp .Or vs pos) (tE ws cf W cx.N.length (.or a b))
  t : ∀ {cx : Cc} {X : Cx} {W : WX} {e' : E} {e : Expr}, Gd ws cf cx X → Takes X W → ckT n cx e' e = true → PT X e (tT ws cf W cx.N.length e')
  andT : ∀ {cx : Cc} {X : Cx} {W : WX} {a b : E} {vs : List Expr} {pos : Pos}, Gd ws cf cx X → Takes X W → ckAndT n cx a b vs = true → PW X (.BoolOp .And vs pos) (tT ws cf W cx.N.length (.and a b))
  orT : ∀ {cx : Cc} {X : Cx} {W : WX} {a b : E} {vs : List Expr} {pos : Pos}, Gd ws cf cx X → Takes X W → ckOrT n cx a b vs = true → PW X (.BoolOp .Or vs pos) (tT ws cf W cx.N.length (.or a b))
  cs : ∀ {cx : Cc} {X : Cx} {cs' : List E} {cs : List Expr}, Gd ws cf cx X → Takes X W0 → ckCs n cx cs' cs = true → PTs X cs (tCs ws cf cx.N.length cs')
  tg : ∀ {cx : Cc} {X : Cx} {W : WX} {t' : Tg} {t : Expr}, Gd ws cf cx X → Takes X W → ckTg n cx t' t = true → PG X t (gT ws cf W cx.N.length t')
  tgs : ∀ {cx : Cc} {X : Cx} {W : WX} {ts' : List Tg} {ts : List Expr}, Gd ws cf cx X → Takes X W → ckTgs n cx ts' ts = true → PGs X ts (gTs ws cf W cx.N.length ts') ∧ PlainEs ts ∧ ts'.length = ts.length
  src : ∀ {cx : Cc} {X : Cx} {W : WX} {s' : Src} {t e : Expr}, Gd ws cf cx X → Takes X W → ckSrc n cx s' t e = true → PI X t e (iS ws cf W cx.N.length s')
section
variable {ws : Ws} {cf : Cf} {cx : Cc} {X : Cx} {W : WX} {n : Nat}
theorem PG.imp' {X : Cx} {e : Expr} {t u : TG} (h : PG X e t) (k : ∀ v σ H Q, u v σ H Q → t v σ H Q) : PG X e u := PG.imp h k
theorem PG.or {X : Cx} {e : Expr} {t u : TG} (h : PG X e t) (k : PG X e u) : PG X e (fun v σ H Q => t v σ H Q ∨ u v σ H Q) := ⟨fun pins s σ H v w Q I r q => by
  rcases q with q | q
  · exact h.run pins s σ H v w Q I r q
  · exact k.run pins s σ H v w Q I r q⟩
theorem PGs.imp {X : Cx} {e : List Expr} {t u : TGs} (h : PGs X e t) (k : ∀ v σ H Q, u v σ H Q → t v σ H Q) : PGs X e u := ⟨fun pins s σ H v w Q I r q => h.run pins s σ H v w Q I r (k _ _ _ _ q)⟩
theorem PTs.imp {X : Cx} {e : List Expr} {t u : TT} (h : PTs X e t) (k : ∀ σ H Q, u σ H Q → t σ H Q) : PTs X e u := ⟨fun pins s σ H Q I q => h.run pins s σ H Q I (k _ _ _ q)⟩
theorem subL_ok {a b : List Nat} (h : subL a b = true) : ∀ i ∈ a, i ∈ b := fun i hi => by
  unfold subL at h
  have := List.all_eq_true.mp h i hi
  simpa using this
theorem ownOf_map (N : List Str) (own : List Nat) : (ownOf N own).map (·.2) = own := by
  unfold ownOf
  rw [List.map_map]
  exact List.map_id _
theorem snd_e (S : Snd ws cf n) {e' : E} {e : Expr} (G : Gd ws cf cx X) (tk : Takes X W) (h : ckE (n + 1) cx e' e = true) : PE X e (tE ws cf W cx.N.length e') := by
  have hpx : X.N.Nodup := by rw [G.N]; exact G.nd
  cases e' with
  | var i =>
    simp only [ckE] at h
    split at h
    · obtain ⟨h1, h2, h3, h4⟩ := G.loc h
      exact PE.imp (pe_var h1 h2 h3 h4) fun σ H Q q => tE_var q
    · cases h
  | cst d =>
    simp only [ckE] at h
    split at h
    · obtain ⟨v, h1, h2, h3⟩ := ckC_ok (ws := ws) (X := X) h
      exact PE.imp h1 fun σ H Q q => tE_cst h2 h3 q
    · rename_i x _
      rw [Bool.and_eq_true] at h
      obtain ⟨g1, g2⟩ := G.glob h.1
      have hh := h.2
      split at hh
      · rename_i g
        obtain ⟨m1, _⟩ := G.fns g x (of_decide_eq_true hh)
        exact PE.imp (pe_glob g1 m1 (v := .ref (ws.fa g)) rfl g2) fun σ H Q q => tE_cst (fun _ _ => .fn g) rfl q
      · split at hh
        · rename_i d' e1
          have := beqD_ok hh
          subst this
          obtain ⟨u, v, m1, r, k1, k2⟩ := G.con x _ e1
          exact PE.imp (pe_glob g1 m1 r g2) fun σ H Q q => tE_cst k1 k2 q
        · cases hh
    · cases h
  | tupE es =>
    simp only [ckE] at h
    split at h
    · rw [Bool.and_eq_true] at h
      obtain ⟨h1, _⟩ := S.es G tk h.2
      exact PE.imp (pe_tup h1) fun σ H Q q => tE_tup (Nat.le_of_ble_eq_true h.1) q
    · cases h
  | lstE es =>
    simp only [ckE] at h
    split at h
    · rw [Bool.and_eq_true] at h
      obtain ⟨h1, _⟩ := S.es G tk h.2
      exact PE.imp (pe_lst h1) fun σ H Q q => tE_lst (Nat.le_of_ble_eq_true h.1) q
    · cases h
  | prim p es =>
    simp only [ckE] at h
    split at h
    · -- BinOp
      split at h
      · simp only [Bool.and_eq_true] at h
        obtain ⟨⟨h1, h2⟩, h3⟩ := h
        exact PE.imp (pe_op (binP_ok h1 G.g) (S.e G tk h2) (S.e G tk h3)) fun σ H Q q => tE_op q
      · cases h
    · exact (S.cmp G tk h).1
    · -- UnaryOp
      split at h
      · exact PE.imp (pe_un un_negM (S.e G tk h)) fun σ H Q q => tEs_one (tE_prim q)
      · cases h
    · -- Subscript
      split at h
      · split at h
        · exact PE.imp (pe_revA (S.e G tk h)) fun σ H Q q => tE_rev G.g.K q
        · cases h
      · split at h
        · exact PE.imp (pe_slice (sl_any G.g) (S.e G tk h) po_none po_none) fun σ H Q q => tE_sl00 q
        · rw [Bool.and_eq_true] at h
          exact PE.imp (pe_slice (sl_any G.g) (S.e G tk h.1) (po_some (S.e G tk h.2)) po_none) fun σ H Q q => tE_sl10 q
        · rw [Bool.and_eq_true] at h
          exact PE.imp (pe_slice (sl_any G.g) (S.e G tk h.1) po_none (po_some (S.e G tk h.2))) fun σ H Q q => tE_sl01 q
        · cases h
      · split at h
        · simp only [Bool.and_eq_true] at h
          obtain ⟨⟨h1, h2⟩, h3⟩ := h
          exact PE.imp (pe_ix (ix_any G.g) (S.e G tk h2) (S.e G tk h3) (plainIx h1)) fun σ H Q q => tE_op q
        · cases h
    · -- Call
      rw [Bool.and_eq_true] at h
      obtain ⟨hb, h⟩ := h
      split at h
      · split at h
        · simp only [Bool.and_eq_true] at h
          obtain ⟨⟨⟨h1, h2⟩, h3⟩, h4⟩ := h
          have h1 := of_decide_eq_true h1
          subst h1
          split at h4
          · rw [Bool.and_eq_true] at h4
            exact pe_instT G hb (S.e G tk h3) h2 h4.1 (Nat.le_of_ble_eq_true h4.2)
          · split at h4
            · exact pe_inst1 G hb (S.e G tk h3) h2 h4
            · cases h4
        · cases h
      · rw [Bool.and_eq_true] at h
        obtain ⟨h1, h2⟩ := h
        have h1 := of_decide_eq_true h1
        obtain ⟨h3, h4, h5⟩ := S.es G tk (W := W) h2
        cases h4 with
        | nil =>
          have : es = [] := List.eq_nil_of_length_eq_zero h5
          subst this
          refine PE.imp (t := fun _ _ _ => False) ⟨fun _ _ _ _ _ _ z => z.elim⟩ fun σ H Q q => ?_
          obtain ⟨ρ, st, m, hρ, r, hl, q⟩ := q
          unfold evE evEs at q
          exact q.elim
        | cons s1 s2 => exact pe_blN h1 G hb h3 (.cons s1 s2)
    · cases h
  | frz e1 =>
    simp only [ckE] at h
    exact PE.imp (pe_frz (S.e G tk h)) fun σ H Q q => tE_frz q
  | calle f es =>
    simp only [ckE] at h
    split at h
    · rename_i v ix p args pos
      simp only [Bool.and_eq_true] at h
      obtain ⟨h1, h2⟩ := h
      have hf := S.e G tk (W := W) h1
      obtain ⟨k1, k2, k3⟩ := S.es G tk (W := W) h2
      refine ⟨fun pins s σ H Q I q => ?_⟩
      rw [eval_callS]
      refine wpAny_bind (thn (hf.run pins s σ H _ I (tE_calle q)) fun u s1 ⟨v1, H1, I1, r1, g, hg, e1, ht⟩ => ?_)
      subst e1
      cases r1
      obtain ⟨y, hy⟩ := G.nf g hg
      obtain ⟨m1, m2, k, fd, ps, F, R, B⟩ := G.fns g y hy
      cases args with
      | nil =>
        have : es = [] := List.eq_nil_of_length_eq_zero k3
        subst this
        exact PySem.W.callWith_K0 I1.kIn m2 (run_fnS (us := []) (vs := []) F R B (passAt tk σ) I1 .nil (tEs_nil ht))
      | cons a as =>
        cases k2 with
        | cons s1' s2' => exact PySem.W.callWith_K (h₀ := X.base) I.ok.mod.kin m2 (thn (k1.run pos pins s1 σ _ _ I1 ht) fun us s2 ⟨vs, H2, I2, r, q⟩ => ⟨I2.kIn, run_fnS F R B (passAt tk σ) I2 r q⟩) (star_cons s1') s2'.any
    · cases h
  | rngL t es =>
    simp only [ckE] at h
    split at h
    · rename_i x p y p2 args pos2 pos
      simp only [Bool.and_eq_true] at h
      obtain ⟨⟨⟨⟨h1, h2⟩, h3⟩, h4⟩, h5⟩ := h
      have h1 := of_decide_eq_true h1
      have h3 := of_decide_eq_true h3
      subst h3
      obtain ⟨a1, a2, a3⟩ := G.blt h2
      obtain ⟨b1, b2, b3⟩ := G.blt h4
      split at h5
      · rename_i a a'
        rw [Bool.and_eq_true] at h5
        have hp := prg_1 (p := p2) (pos := pos2) b1 b2 (S.e G tk (W := W) h5.2) (star_cons h5.1)
        cases t with
        | true =>
          subst h1
          exact PE.imp (pe_tupRg G.g.calm a1 a2 hp) fun σ H Q q => tE_rg1 q
        | false =>
          subst h1
          exact PE.imp (pe_listRg G.g.calm a1 a2 hp) fun σ H Q q => tE_rg1 q
      · rename_i a b a' b'
        simp only [Bool.and_eq_true] at h5
        obtain ⟨⟨⟨h6, h7⟩, h8⟩, h9⟩ := h5
        have hp := prg_2 (p := p2) (pos := pos2) b1 b2 (S.e G tk (W := W) h8) (S.e G tk (W := W) h9) (star_cons h6) (star_cons h7) (PlainEs.cons h7 .nil).any
        cases t with
        | true =>
          subst h1
          exact PE.imp (pe_tupRg G.g.calm a1 a2 hp) fun σ H Q q => tE_rg2 q
        | false =>
          subst h1
          exact PE.imp (pe_listRg G.g.calm a1 a2 hp) fun σ H Q q => tE_rg2 q
      · cases h5
    · cases h
  | meth p o es =>
    simp only [ckE] at h
    split at h
    · rename_i ov m apos args pos
      simp only [Bool.and_eq_true] at h
      obtain ⟨⟨⟨⟨⟨h1, h2⟩, h3⟩, h4⟩, h5⟩, h6⟩ := h
      obtain ⟨k1, k2, k3⟩ := S.es G tk (W := W) h6
      cases args with
      | nil =>
        have : es = [] := List.eq_nil_of_length_eq_zero k3
        subst this
        exact pe_meth0 G (of_decide_eq_true h1) h2 h4 (S.e G tk h5)
      | cons a as => exact pe_meth G (of_decide_eq_true h1) h2 h4 (S.e G tk h5) k1 k2 (Nat.le_of_ble_eq_true h3)
    · cases h
  | and a b =>
    simp only [ckE] at h
    split at h
    · exact S.and G tk h
    · cases h
  | or a b =>
    simp only [ckE] at h
    split at h
    · exact S.or G tk h
    · cases h
  | not a =>
    simp only [ckE] at h
    split at h
    · exact PE.imp (pe_not (S.e G tk h)) fun σ H Q q => tE_not q
    · cases h
  | ite c a b =>
    simp only [ckE] at h
    split at h
    · simp only [Bool.and_eq_true] at h
      exact PE.imp (pe_ifExp (S.t G tk h.1.1) (S.e G tk h.1.2) (S.e G tk h.2)) fun σ H Q q => tE_ite q
    · cases h
  | chain p q a b c =>
    simp only [ckE] at h
    exact (S.cmp G tk h).1
  | sl3 a b c =>
    simp only [ckE] at h
    split at h
    · simp only [Bool.and_eq_true] at h
      exact PE.imp (pe_slice (sl_any G.g) (S.e G tk h.1.1) (po_some (S.e G tk h.1.2)) (po_some (S.e G tk h.2))) fun σ H Q q => tE_sl11 q
    · cases h
  | call g es =>
    simp only [ckE] at h
    split at h
    · rename_i x _ args pos
      simp only [Bool.and_eq_true] at h
      obtain ⟨⟨h1, h2⟩, h3⟩ := h
      obtain ⟨g1, g2⟩ := G.glob h1
      obtain ⟨m1, m2, k, fd, ps, F, R, B⟩ := G.fns g x (of_decide_eq_true h2)
      obtain ⟨k1, k2, k3⟩ := S.es G tk (W := W) h3
      cases args with
      | nil =>
        have : es = [] := List.eq_nil_of_length_eq_zero k3
        subst this
        refine ⟨fun pins s σ H Q I q => ?_⟩
        refine wpAny_Call_Name_kw (ld_glob I g1 m1 ?_ g2)
        exact PySem.W.callWith_K0 I.kIn m2 (run_fnS (us := []) (vs := []) F R B (passAt tk σ) I .nil (tEs_nil (tE_call q)))
      | cons a as =>
        cases k2 with
        | cons s1 s2 => exact PE.imp (pe_callS F R g1 m1 m2 B (passAt tk) k1 g2 (star_cons s1) s2.any) fun σ H Q q => tE_call q
    · cases h
  | callv i es =>
    simp only [ckE] at h
    split at h
    · rename_i x np args pos
      simp only [Bool.and_eq_true] at h
      obtain ⟨h1, h2⟩ := h
      obtain ⟨l1, l2, l3, l4⟩ := G.loc h1
      obtain ⟨k1, k2, k3⟩ := S.es G tk (W := W) h2
      refine ⟨fun pins s σ H Q I q => ?_⟩
      obtain ⟨g, hg, hs, ht⟩ := tE_callv q
      obtain ⟨y, hy⟩ := G.nf g hg
      obtain ⟨m1, m2, k, fd, ps, F, R, B⟩ := G.fns g y hy
      refine wpAny_Call_Name_kw (thn ((pe_var (pos := np) l1 l2 l3 l4).run pins s σ H (fun v H1 => v = .ref (ws.fa g) ∧ H1 = H) I ⟨.ref (ws.fa g), hs, rfl, rfl⟩) fun u s1 ⟨v, H1, I1, r1, q1⟩ => ?_)
      obtain ⟨rfl, rfl⟩ := q1
      cases r1
      cases args with
      | nil =>
        have : es = [] := List.eq_nil_of_length_eq_zero k3
        subst this
        exact PySem.W.callWith_K0 I1.kIn m2 (run_fnS (us := []) (vs := []) F R B (passAt tk σ) I1 .nil (tEs_nil ht))
      | cons a as =>
        cases k2 with
        | cons s1' s2' => exact PySem.W.callWith_K (h₀ := X.base) I.ok.mod.kin m2 (thn (k1.run pos pins s1 σ _ _ I1 ht) fun us s2 ⟨vs, H2, I2, r, q⟩ => ⟨I2.kIn, run_fnS F R B (passAt tk σ) I2 r q⟩) (star_cons s1') s2'.any
    · cases h
  | comp elt tg src cs own =>
    simp only [ckE] at h
    split at h
    · rename_i x t it ifs k scope pos
      simp only [Bool.and_eq_true] at h
      obtain ⟨⟨⟨⟨⟨⟨⟨h1, h2⟩, h3⟩, h4⟩, h5⟩, h6⟩, h7⟩, h8⟩ := h
      have h1 := of_decide_eq_true h1
      subst h1
      have ok : BlkOk X.N X.env.scope scope (ownOf cx.N own) := by rw [G.N, G.sc]; exact blkOk_by h2
      have G' := fun s H C cl fp => G.blk s H scope C cl fp ok.kind
      refine PE.imp (pe_lc (own := ownOf cx.N own) G.g.calm hpx (S.src G tk h5) ok (fun s H C cl fp => S.tg (G' s H C cl fp) takes0 h6) (fun s H C cl fp => S.cs (G' s H C cl fp) takes0 h7) (fun s H C cl fp => S.e (G' s H C cl fp) takes0 h8) (fold_set h4)) fun σ H Q q => ?_
      rw [ownOf_map]
      exact tE_comp (subL_ok h3) q
    · cases h
  | comp2 elt tg src cs tg1 src1 cs1 own own1 =>
    simp only [ckE] at h
    split at h
    · rename_i x t it ifs k t1 it1 ifs1 k1 scope pos
      simp only [Bool.and_eq_true] at h
      obtain ⟨⟨⟨⟨⟨⟨⟨⟨⟨⟨⟨⟨⟨⟨h1, h1'⟩, h2⟩, h3⟩, h3'⟩, h3''⟩, h4⟩, h4'⟩, h5⟩, h6⟩, h7⟩, h5'⟩, h6'⟩, h7'⟩, h8⟩ := h
      have h1 := of_decide_eq_true h1
      have h1' := of_decide_eq_true h1'
      subst h1
      subst h1'
      have ok : BlkOk X.N X.env.scope scope (ownOf cx.N own) := by rw [G.N, G.sc]; exact blkOk_by h2
      have G' := fun s H C cl fp => G.blk s H scope C cl fp ok.kind
      refine PE.imp (pe_lc2 (own := ownOf cx.N own) (vs1 := own1) G.g.calm hpx (S.src G tk h5) ok (by rw [ownOf_map]; exact subL_ok h3'') (fun s H C cl fp => S.tg (G' s H C cl fp) takes0 h6) (fun s H C cl fp => S.cs (G' s H C cl fp) takes0 h7)
        (fun s H C cl fp => S.src (G' s H C cl fp) takes0 h5') (fun s H C cl fp => S.tg (G' s H C cl fp) takes0 h6') (fun s H C cl fp => S.cs (G' s H C cl fp) takes0 h7') (fun s H C cl fp => S.e (G' s H C cl fp) takes0 h8) (fold_set h4) (fun env => fold_set h4')) fun σ H Q q => ?_
      rw [ownOf_map]
      exact tE_comp2 (subL_ok h3) (subL_ok h3') (subL_ok h3'') q
    · cases h
end
end Mn
/-! Mn14: the check is sound: all of expressions. -/
namespace Mn
open PySem PySem.Spec PyProof.Rows L2
section
variable {ws : Ws} {cf : Cf} {cx : Cc} {X : Cx} {W : WX} {n : Nat}
theorem snd_es (S : Snd ws cf n) {es' : List E} {es : List Expr} (G : Gd ws cf cx X) (tk : Takes X W) (h : ckEs (n + 1) cx es' es = true) : PA X es (tEs ws cf W cx.N.length es') ∧ PlainEs es ∧ es'.length = es.length := by
  simp only [ckEs] at h
  split at h
  · exact ⟨⟨fun pos pins s σ H Q I q => pa_nil.run pos pins s σ H Q I (tEs_nil q)⟩, .nil, rfl⟩
  · simp only [Bool.and_eq_true] at h
    obtain ⟨⟨h1, h2⟩, h3⟩ := h
    obtain ⟨k1, k2, k3⟩ := S.es G tk (W := W) h3
    exact ⟨PA.imp (pa_cons (S.e G tk h2) k1 (star_cons h1)) fun σ H Q q => tEs_cons q, .cons h1 k2, by rw [List.length_cons, List.length_cons, k3]⟩
  · cases h
theorem snd_cmp (S : Snd ws cf n) {e' : E} {e : Expr} (G : Gd ws cf cx X) (tk : Takes X W) (h : ckCmp (n + 1) cx e' e = true) : PE X e (tE ws cf W cx.N.length e') ∧ PT X e (tT ws cf W cx.N.length e') := by
  simp only [ckCmp] at h
  split at h
  · split at h
    · simp only [Bool.and_eq_true] at h
      obtain ⟨⟨⟨h1, h2⟩, h3⟩, h4⟩ := h
      exact ⟨PE.imp (pe_cmpR (cmpP_ok h1 G.g) (S.e G tk h3) (S.e G tk h4) (nomarkS h2)) fun σ H Q q => tE_op q, PT.imp (pt_cmpR (cmpP_ok h1 G.g) (S.e G tk h3) (S.e G tk h4) (nomarkS h2)) fun σ H Q q => tE_op (tT_val q)⟩
    · cases h
  · split at h
    · simp only [Bool.and_eq_true] at h
      obtain ⟨⟨⟨⟨⟨⟨h1, h2⟩, h3⟩, h4⟩, h5⟩, h6⟩, h7⟩ := h
      rename_i p q a' b' c' _ a o o1 b c pos
      have hm : lastMarks [o, o1] [b, c] = false := nomarkS h4
      exact ⟨PE.imp (pe_chain (cmpP_ok h2 G.g) (cmpP_ok h3 G.g) (S.e G tk h5) (S.e G tk h6) (S.e G tk h7) hm) fun σ H Q q => tE_chain h1 q, PT.imp (pt_chain (cmpP_ok h2 G.g) (cmpP_ok h3 G.g) (S.e G tk h5) (S.e G tk h6) (S.e G tk h7) hm) fun σ H Q q => tE_chain h1 (tT_val q)⟩
    · cases h
  · cases h
theorem snd_and (S : Snd ws cf n) {a b : E} {vs : List Expr} {pos : Pos} (G : Gd ws cf cx X) (tk : Takes X W) (h : ckAnd (n + 1) cx a b vs = true) : PE X (.BoolOp .And vs pos) (tE ws cf W cx.N.length (.and a b)) := by
  simp only [ckAnd] at h
  split at h
  · rw [Bool.and_eq_true] at h
    exact PE.imp (pe_and (S.e G tk h.1) (pe_one (S.e G tk h.2))) fun σ H Q q => tE_and q
  · rw [Bool.and_eq_true] at h
    obtain ⟨h1, h2⟩ := h
    split at h2
    · exact PE.imp (pe_and (S.e G tk h1) (S.and G tk h2)) fun σ H Q q => tE_and q
    · cases h2
  · cases h
theorem snd_or (S : Snd ws cf n) {a b : E} {vs : List Expr} {pos : Pos} (G : Gd ws cf cx X) (tk : Takes X W) (h : ckOr (n + 1) cx a b vs = true) : PE X (.BoolOp .Or vs pos) (tE ws cf W cx.N.length (.or a b)) := by
  simp only [ckOr] at h
  split at h
  · rw [Bool.and_eq_true] at h
    exact PE.imp (pe_or (S.e G tk h.1) (pe_one (S.e G tk h.2))) fun σ H Q q => tE_or q
  · rw [Bool.and_eq_true] at h
    obtain ⟨h1, h2⟩ := h
    split at h2
    · exact PE.imp (pe_or (S.e G tk h1) (S.or G tk h2)) fun σ H Q q => tE_or q
    · cases h2
  · cases h
theorem snd_andT (S : Snd ws cf n) {a b : E} {vs : List Expr} {pos : Pos} (G : Gd ws cf cx X) (tk : Takes X W) (h : ckAndT (n + 1) cx a b vs = true) : PW X (.BoolOp .And vs pos) (tT ws cf W cx.N.length (.and a b)) := by
  simp only [ckAndT] at h
  split at h
  · rw [Bool.and_eq_true] at h
    exact PW.imp (pw_and (S.t G tk h.1) (pw_and1 (S.t G tk h.2))) fun σ H Q q => tT_and q
  · rw [Bool.and_eq_true] at h
    obtain ⟨h1, h2⟩ := h
    split at h2
    · exact PW.imp (pw_and (S.t G tk h1) (S.andT G tk h2)) fun σ H Q q => tT_and q
    · cases h2
  · cases h
theorem snd_orT (S : Snd ws cf n) {a b : E} {vs : List Expr} {pos : Pos} (G : Gd ws cf cx X) (tk : Takes X W) (h : ckOrT (n + 1) cx a b vs = true) : PW X (.BoolOp .Or vs pos) (tT ws cf W cx.N.length (.or a b)) := by
  simp only [ckOrT] at h
  split at h
  · rw [Bool.and_eq_true] at h
    exact PW.imp (pw_or (S.t G tk h.1) (pw_or1 (S.t G tk h.2))) fun σ H Q q => tT_or q
  · rw [Bool.and_eq_true] at h
    obtain ⟨h1, h2⟩ := h
    split at h2
    · exact PW.imp (pw_or (S.t G tk h1) (S.orT G tk h2)) fun σ H Q q => tT_or q
    · cases h2
  · cases h
theorem snd_t (S : Snd ws cf n) {e' : E} {e : Expr} (G : Gd ws cf cx X) (tk : Takes X W) (h : ckT (n + 1) cx e' e = true) : PT X e (tT ws cf W cx.N.length e') := by
  simp only [ckT] at h
  split at h
  · exact (S.cmp G tk h).2
  · split at h
    · exact PT.imp (pt_not (S.t G tk h)) fun σ H Q q => tT_not q
    · cases h
  · split at h
    · exact (S.andT G tk h).pt
    · cases h
  · split at h
    · exact (S.orT G tk h).pt
    · cases h
  · rw [Bool.and_eq_true] at h
    exact PT.imp (pt_val (S.e G tk h.2) (plain_test h.1)) fun σ H Q q => tT_val q
theorem snd_cs (S : Snd ws cf n) {cs' : List E} {cs : List Expr} (G : Gd ws cf cx X) (tk : Takes X W0) (h : ckCs (n + 1) cx cs' cs = true) : PTs X cs (tCs ws cf cx.N.length cs') := by
  simp only [ckCs] at h
  split at h
  · refine PTs.imp pts_nil fun σ H Q q => ?_
    obtain ⟨ρ, st, m, hρ, r, hl, q⟩ := q
    unfold evCs at q
    exact q m H true (Step.refl _ _) r rfl
  · refine PTs.imp (pts_one (S.t G tk h)) fun σ H Q q => ?_
    obtain ⟨ρ, st, m, hρ, r, hl, q⟩ := q
    unfold evCs at q
    exact ⟨ρ, st, m, hρ, r, hl, q⟩
  · cases h
theorem snd_tg (S : Snd ws cf n) {t' : Tg} {t : Expr} (G : Gd ws cf cx X) (tk : Takes X W) (h : ckTg (n + 1) cx t' t = true) : PG X t (gT ws cf W cx.N.length t') := by
  simp only [ckTg] at h
  split at h
  · split at h
    · obtain ⟨h1, h2, h3⟩ := G.sto h
      exact PG.imp (pg_name (by rw [G.N]; exact G.nd) h1 h2 h3) fun v σ H Q q => gT_nm q
    · cases h
  · split at h
    · obtain ⟨k1, k2, k3⟩ := S.tgs G tk (W := W) h
      refine PG.imp (PG.or (pg_tup G.g.calm k1 (by rw [asg_len, ← k3]) k2.find) (pg_lst G.g.calm k1 (by rw [asg_len, ← k3]) k2.find)) fun v σ H Q q => ?_
      rw [G.g.K]
      exact gT_tp q
    · cases h
  · split at h
    · simp only [Bool.and_eq_true] at h
      obtain ⟨⟨h1, h2⟩, h3⟩ := h
      exact PG.imp (pg_sub (S.e G tk h2) (S.e G tk h3) set_any (asg_sub h1)) fun v σ H Q q => gT_sb q
    · cases h
theorem snd_tgs (S : Snd ws cf n) {ts' : List Tg} {ts : List Expr} (G : Gd ws cf cx X) (tk : Takes X W) (h : ckTgs (n + 1) cx ts' ts = true) : PGs X ts (gTs ws cf W cx.N.length ts') ∧ PlainEs ts ∧ ts'.length = ts.length := by
  simp only [ckTgs] at h
  split at h
  · exact ⟨PGs.imp pgs_nil fun v σ H Q q => gTs_nil q, .nil, rfl⟩
  · simp only [Bool.and_eq_true] at h
    obtain ⟨⟨h1, h2⟩, h3⟩ := h
    obtain ⟨k1, k2, k3⟩ := S.tgs G tk (W := W) h3
    refine ⟨PGs.imp (pgs_cons (S.tg G tk h2) k1 ?_) fun v σ H Q q => gTs_cons q, .cons h1 k2, by rw [List.length_cons, List.length_cons, k3]⟩
    rw [asg_cons h1]
    rfl
  · cases h
theorem snd_src (S : Snd ws cf n) {s' : Src} {t e : Expr} (G : Gd ws cf cx X) (tk : Takes X W) (h : ckSrc (n + 1) cx s' t e = true) : PI X t e (iS ws cf W cx.N.length s') := by
  simp only [ckSrc] at h
  split at h
  · exact iS_ex G.g.K (S.e G tk h)
  · split at h
    · rename_i es _ x np args pos
      simp only [Bool.and_eq_true] at h
      obtain ⟨⟨⟨⟨h1, h2⟩, h3⟩, h4⟩, h5⟩ := h
      have h1 := of_decide_eq_true h1
      subst h1
      obtain ⟨g1, g2, g3⟩ := G.blt h2
      obtain ⟨k1, k2, k3⟩ := S.es G tk (W := W) h5
      match args, es, k1, k2, k3, h3, h4 with
      | [a], [a'], k1, .cons s1 .nil, _, _, _ => exact iS_rng1 g1 g2 k1 (star_cons s1)
      | [a, b], [a', b'], k1, .cons s1 (.cons s2 .nil), _, _, _ => exact iS_rng2 g1 g2 k1 (by rw [star_cons s1, star_cons s2]; rfl) (star_cons s2)
      | [a, b, c], [a', b', c'], k1, .cons s1 s2, _, _, _ => exact iS_rng3 g1 g2 k1 (star_cons s1) s2.any
      | _ :: _ :: _ :: _ :: _, _, _, _, _, _, h4 => simp [Nat.ble] at h4
    · cases h
  · split at h
    · simp only [Bool.and_eq_true] at h
      obtain ⟨⟨h1, h2⟩, h3⟩ := h
      have h1 := of_decide_eq_true h1
      subst h1
      obtain ⟨g1, g2, g3⟩ := G.blt h2
      obtain ⟨k1, k2, k3⟩ := S.es G tk (W := W) h3
      cases k2 with
      | cons s1 s2 => exact iS_enu G.g.K g1 g2 k1 (star_cons s1)
    · cases h
  · split at h
    · simp only [Bool.and_eq_true] at h
      obtain ⟨⟨h1, h2⟩, h3⟩ := h
      have h1 := of_decide_eq_true h1
      subst h1
      obtain ⟨g1, g2, g3⟩ := G.blt h2
      obtain ⟨k1, k2, k3⟩ := S.es G tk (W := W) h3
      cases k2 with
      | cons s1 s2 => exact iS_zip G.g.K g1 g2 k1 (star_cons s1) s2.any
    · cases h
end
theorem snd (ws : Ws) (cf : Cf) : ∀ n, Snd ws cf n
  | 0 => ⟨fun _ _ h => (by simp [ckE] at h), fun _ _ h => (by simp [ckEs] at h), fun _ _ h => (by simp [ckCmp] at h), fun _ _ h => (by simp [ckAnd] at h), fun _ _ h => (by simp [ckOr] at h), fun _ _ h => (by simp [ckT] at h), fun _ _ h => (by simp [ckAndT] at h),
      fun _ _ h => (by simp [ckOrT] at h), fun _ _ h => (by simp [ckCs] at h), fun _ _ h => (by simp [ckTg] at h), fun _ _ h => (by simp [ckTgs] at h), fun _ _ h => (by simp [ckSrc] at h)⟩
  | n + 1 =>
    have S := snd ws cf n
    ⟨snd_e S, snd_es S, snd_cmp S, snd_and S, snd_or S, snd_t S, snd_andT S, snd_orT S, snd_cs S, snd_tg S, snd_tgs S, snd_src S⟩
end Mn
/-! Mn15: the check is sound: statements. -/
namespace Mn
open PySem PySem.Spec PyProof.Rows L2
section
variable {ws : Ws} {cf : Cf} {cx : Cc} {X : Cx} {W : WX} {n : Nat}
theorem Gd.kindF (G : Gd ws cf cx X) : X.env.blockKind = .function := by
  unfold Env.blockKind
  rw [G.sc, G.kd]
  rfl
theorem Gd.sw (G : Gd ws cf cx X) {elt : Expr} {gs : List Comprehension} {s : Scope} {p pos : Pos} {t : Str} {l : Nat} : swapsWith (.ListComp elt gs s p) (some (.Name t pos)) l X.env = pure (swB cx (.ListComp elt gs s p) (.Name t pos)) := by
  unfold swapsWith swB
  have h2 : X.env.kindOf t = cx.sc.names.lookup t := by show X.env.scope.names.lookup t = _; rw [G.sc]
  simp only [G.kindF, h2, G.kd]
  rfl
theorem Gd.swS (G : Gd ws cf cx X) {ts vs : List Expr} {k k2 : Nat} {p p2 : Pos} {r : Option (List Str)} (h : Mn.swS cx.sc ts vs = some r) : swappedStores [.Tuple ts k p] (.Tuple vs k2 p2) X.env = pure r := by
  have hb : X.env.blockKind = bkS cx.sc := by unfold Env.blockKind bkS; rw [G.sc]
  have hn : ∀ t, X.env.kindOf t = cx.sc.names.lookup t := fun t => by show X.env.scope.names.lookup t = _; rw [G.sc]
  unfold swappedStores
  unfold Mn.swS at h
  simp only [hb, hn]
  split at h
  · rename_i h1
    cases h
    exact if_pos h1
  · rename_i h1
    refine (if_neg h1).trans ?_
    split at h
    · rename_i h2
      cases h
      exact if_pos h2
    · rename_i h2
      refine (if_neg h2).trans ?_
      dsimp only at h
      split at h
      · rename_i h3
        cases h
        exact if_pos h3
      · rename_i h3
        refine (if_neg h3).trans ?_
        split at h
        · rename_i h4
          cases h
          exact if_pos h4
        · rename_i h4
          refine (if_neg h4).trans ?_
          split at h
          · cases h
          · rename_i h5
            cases h
            exact if_neg h5
/-- a statement, then a list is locked -/
theorem ps_frz {st : Stmt} {t : TS} (h : PS X st t) : PS X st (fun D σ H => t ⟨fun σ' H' => D.nx σ' H' ∨ ∃ a vs, H' a = some (.lst vs) ∧ ∀ od, D.nx σ' (upd H' a (.frz od (.lst vs))), D.rt, D.bk, D.ct⟩ σ H) := ⟨fun pins s σ H D I q => by
  refine thn (h.run pins s σ H _ I q) fun f s1 z => ?_
  cases f with
  | next =>
    obtain ⟨σ', H', I1, z⟩ := z
    rcases z with z | ⟨a, vs, ha, z⟩
    · exact ⟨σ', H', I1, z⟩
    · obtain ⟨od, I2⟩ := I1.lock ha trivial
      exact ⟨σ', _, I2, z od⟩
  | brk => exact z
  | cont => exact z
  | ret u => exact z⟩
/-- name = [..] on one line -/
theorem snd_lcS {e' : E} {elt : Expr} {gs : List Comprehension} {scope : Scope} {lp np sp : Pos} {y : Str} {i : Nat} (G : Gd ws cf cx X) (tk : Takes X W) (hi : X.N[i]? = some y) (hl : X.env.scope.names.lookup y = some .local)
    (hsw : swB cx (.ListComp elt gs scope lp) (.Name y np) = true) (h : ckE n cx e' (.ListComp elt gs scope lp) = true) :
    PS X (.Assign [.Name y np] (.ListComp elt gs scope lp) sp) (tAsg (tE ws cf W cx.N.length e') (gName i)) := by
  have hpx : X.N.Nodup := by rw [G.N]; exact G.nd
  have hw : swapsWith (.ListComp elt gs scope lp) (some (.Name y np)) sp.line X.env = pure true := by rw [G.sw, hsw]
  induction n generalizing e' with
  | zero => simp [ckE] at h
  | succ n ih =>
  have S := snd ws cf n
  cases e' with
  | frz e1 =>
    simp only [ckE] at h
    refine PS.imp (ps_frz (ih h)) fun De σ H q => ?_
    refine tE_mono (tE_frz q) fun v H1 k => ?_
    rcases k with k | ⟨a, vs, _, ha, k⟩
    · exact .inl k
    · exact .inr ⟨a, vs, ha, k⟩
  | calle f es => simp [ckE] at h
  | rngL t es => simp [ckE] at h
  | comp elt' tg src cs own =>
    simp only [ckE] at h
    split at h
    · rename_i x t it ifs k scope pos heq
      cases heq
      simp only [Bool.and_eq_true] at h
      obtain ⟨⟨⟨⟨⟨⟨⟨h1, h2⟩, h3⟩, h4⟩, h5⟩, h6⟩, h7⟩, h8⟩ := h
      have h1 := of_decide_eq_true h1
      subst h1
      have ok : BlkOk X.N X.env.scope scope (ownOf cx.N own) := by rw [G.N, G.sc]; exact blkOk_by h2
      have G' := fun s H C cl fp => G.blk s H scope C cl fp ok.kind
      refine PS.imp (ps_setLc (own := ownOf cx.N own) G.g.calm hpx hi hl hw (S.src (W := W) G tk h5) ok (fun s H C cl fp => S.tg (G' s H C cl fp) takes0 h6) (fun s H C cl fp => S.cs (G' s H C cl fp) takes0 h7) (fun s H C cl fp => S.e (G' s H C cl fp) takes0 h8) (fold_set h4)) fun De σ H q => ?_
      rw [ownOf_map]
      exact tE_comp (subL_ok h3) q
    · cases h
  | comp2 elt' tg src cs tg1 src1 cs1 own own1 =>
    simp only [ckE] at h
    split at h
    · rename_i x t it ifs k t1 it1 ifs1 k1 scope pos heq
      cases heq
      simp only [Bool.and_eq_true] at h
      obtain ⟨⟨⟨⟨⟨⟨⟨⟨⟨⟨⟨⟨⟨⟨h1, h1'⟩, h2⟩, h3⟩, h3'⟩, h3''⟩, h4⟩, h4'⟩, h5⟩, h6⟩, h7⟩, h5'⟩, h6'⟩, h7'⟩, h8⟩ := h
      have h1 := of_decide_eq_true h1
      have h1' := of_decide_eq_true h1'
      subst h1
      subst h1'
      have ok : BlkOk X.N X.env.scope scope (ownOf cx.N own) := by rw [G.N, G.sc]; exact blkOk_by h2
      have G' := fun s H C cl fp => G.blk s H scope C cl fp ok.kind
      refine PS.imp (ps_setLc2 (own := ownOf cx.N own) (vs1 := own1) G.g.calm hpx hi hl hw (S.src (W := W) G tk h5) ok (by rw [ownOf_map]; exact subL_ok h3'') (fun s H C cl fp => S.tg (G' s H C cl fp) takes0 h6) (fun s H C cl fp => S.cs (G' s H C cl fp) takes0 h7)
        (fun s H C cl fp => S.src (G' s H C cl fp) takes0 h5') (fun s H C cl fp => S.tg (G' s H C cl fp) takes0 h6') (fun s H C cl fp => S.cs (G' s H C cl fp) takes0 h7') (fun s H C cl fp => S.e (G' s H C cl fp) takes0 h8) (fold_set h4) (fun env => fold_set h4')) fun De σ H q => ?_
      rw [ownOf_map]
      exact tE_comp2 (subL_ok h3) (subL_ok h3') (subL_ok h3'') q
    · cases h
  | prim p es => simp [ckE] at h
  | var i => simp [ckE] at h
  | cst d => simp [ckE] at h
  | tupE es => simp [ckE] at h
  | lstE es => simp [ckE] at h
  | meth p o es => simp [ckE] at h
  | and a b => simp [ckE] at h
  | or a b => simp [ckE] at h
  | not a => simp [ckE] at h
  | ite a b c => simp [ckE] at h
  | chain p q a b c =>
    simp only [ckE] at h
    cases n <;> simp [ckCmp] at h
  | sl3 a b c => simp [ckE] at h
  | call g es => simp [ckE] at h
  | callv i es => simp [ckE] at h
/-! ### suites of except clauses -/
variable {a : Addr} {oe : Obj} {pn : List (Addr × Obj)} {cls : Value} {dx : Option Addr}
variable (ws) in
def oT (C : Addr) (c : Nat) (nm : Option Nat) (o : Option D) (a : Addr) (cls : Value) (dx : Option Addr) : TE := fun σ H Q => ∃ m p d, cls = .ref C ∧ ExV ws m H c p cls dx ∧ suD p o = some d ∧ (∀ i, nm = some i → i < σ.length → σ[i]? = some (some (.ref a))) ∧ ∀ v, DV ws m H d v → notl d = true → Q v H
variable (ws) in
def osT (C : Addr) (c : Nat) (nm : Option Nat) (os : List (Option D)) (a : Addr) (cls : Value) (dx : Option Addr) : TA := fun σ H Q => ∃ m p ds, cls = .ref C ∧ ExV ws m H c p cls dx ∧ mapO (suD p) os = some ds ∧ (∀ i, nm = some i → i < σ.length → σ[i]? = some (some (.ref a))) ∧ ∀ vs, DVs ws m H ds vs → Q vs H
def slotN (N : List Str) : Option Str → Option Nat := Option.map fun y => N.idxOf y
theorem pe_o (E : EcOk ws) (G : Gd ws cf cx X) {C : Addr} {c : Nat} {nm an : Option Str} {o : Option D} {e : Expr} (hc : ws.ec c = some (C, an)) (hs : slotB cx nm = true) (hz : Zc cls dx oe) (hf : ∃ vs, oe.data = .fields vs) (h : ckO cx nm an o e = true) :
    PE (X.suite a ((a, oe) :: pn)) e (oT ws C c (slotN cx.N nm) o a cls dx) := by
  unfold ckO at h
  split at h
  · rename_i d cn j pos
    obtain ⟨v, h1, h2, h3⟩ := ckC_ok (ws := ws) (X := X.suite a ((a, oe) :: pn)) (j := j) (pos := pos) h
    refine PE.imp h1 fun σ H Q q => ?_
    obtain ⟨m, p, d', _, _, e1, _, k⟩ := q
    have e1 : some d = some d' := e1
    cases e1
    exact k v (h2 m H) h3
  · rename_i y yp f fp
    simp only [Bool.and_eq_true, decide_eq_true_eq, Bool.not_eq_true'] at h
    obtain ⟨⟨⟨h1, h2⟩, h3⟩, h4⟩ := h
    subst h1
    subst h2
    unfold slotB at hs
    simp only [Bool.and_eq_true] at hs
    have hm : y ∈ cx.N := by simpa using hs.1
    have hlt : cx.N.idxOf y < cx.N.length := List.idxOf_lt_length_of_mem hm
    have hi : cx.N[cx.N.idxOf y]? = some y := by
      rw [List.getElem?_eq_getElem hlt]
      simp
    have hl : cx.sc.names.lookup y = some .local := by simpa using hs.2
    obtain ⟨T, hno⟩ := E.fld c C f hc
    have T' : XfC X.K C := by rw [G.g.K]; exact T
    have he : PE (X.suite a ((a, oe) :: pn)) (.Name y yp) (tVar (cx.N.idxOf y)) := pe_var (X := X.suite a ((a, oe) :: pn)) (by show X.N[_]? = _; rw [G.N]; exact hi) (.inl (by show X.env.scope.names.lookup y = _; rw [G.sc]; exact hl)) h3 h4
    have main := pe_xf (X := X) (pos := fp) T' (by rw [G.g.K]; exact hno) hz hf he (attr_base rfl _)
    refine ⟨fun pins s σ H Q I q => main.run pins s σ H Q I ?_⟩
    obtain ⟨m, p, d', e0, ev, e1, sl, k⟩ := q
    have hlen : cx.N.idxOf y < σ.length := by
      have := I.len
      rw [this]
      show _ < X.N.length
      rw [G.N]
      exact hlt
    refine ⟨.ref a, sl _ rfl hlen, rfl, e0, ?_⟩
    obtain ⟨C', an', e2, e3, e4⟩ := ev
    rw [hc] at e2
    cases e2
    obtain ⟨dd, v, pd, rfl, rfl, e5, e6, e7⟩ := e4
    have e1 : some pd = some d' := e1
    cases e1
    exact ⟨dd, [(f, v)], v, rfl, e5, by simp [List.lookup], k v e6 e7⟩
  · cases h
theorem pa_os (E : EcOk ws) (G : Gd ws cf cx X) {C : Addr} {c : Nat} {nm an : Option Str} (hc : ws.ec c = some (C, an)) (hs : slotB cx nm = true) (hz : Zc cls dx oe) (hf : ∃ vs, oe.data = .fields vs) : ∀ {os : List (Option D)} {es : List Expr}, ckOs cx nm an os es = true →
    PA (X.suite a ((a, oe) :: pn)) es (osT ws C c (slotN cx.N nm) os a cls dx) ∧ os.length = es.length
  | [], [], _ => ⟨PA.imp pa_nil fun σ H Q q => by
      obtain ⟨m, p, ds, _, _, e1, _, k⟩ := q
      cases e1
      exact k [] .nil, rfl⟩
  | o :: os, e :: es, h => by
    have h' : (noStar e = true ∧ ckO cx nm an o e = true) ∧ ckOs cx nm an os es = true := by simpa [ckOs, and_assoc] using h
    obtain ⟨h1, h2⟩ := pa_os E G hc hs hz hf h'.2
    refine ⟨PA.imp (pa_cons (pe_o E G hc hs hz hf h'.1.2) h1 (star_cons h'.1.1)) fun σ H Q q => ?_, by rw [List.length_cons, List.length_cons, h2]⟩
    obtain ⟨m, p, ds, e0, ev, e1, sl, k⟩ := q
    unfold mapO at e1
    split at e1
    · rename_i d ds' e2 e3
      cases e1
      exact ⟨m, p, d, e0, ev, e2, sl, fun v hv nv => ⟨m, p, ds', e0, ev, e3, sl, fun vs hvs => k (v :: vs) (.cons hv nv hvs)⟩⟩
    · cases e1
theorem mapO_len {α β : Type} {f : α → Option β} : ∀ {xs : List α} {ys : List β}, mapO f xs = some ys → ys.length = xs.length
  | [], ys, e => by cases e; rfl
  | x :: xs, ys, e => by
    unfold mapO at e
    split at e
    · rename_i e2
      cases e
      rw [List.length_cons, List.length_cons, mapO_len e2]
    · cases e
/-- one clause's suite -/
theorem pss_su (E : EcOk ws) (G : Gd ws cf cx X) {C : Addr} {c : Nat} {nm an : Option Str} {su : Su} {e : Expr} {pos : Pos} (hc : ws.ec c = some (C, an)) (hs : slotB cx nm = true) (hz : Zc cls dx oe) (hf : ∃ vs, oe.data = .fields vs)
    (h : (match su with
      | .one o => ckO cx nm an o e
      | .tup os => (match e with
        | .Tuple es _ _ => Nat.ble os.length 1000 && ckOs cx nm an os es
        | _ => false)) = true) :
    PSs (X.suite a ((a, oe) :: pn)) [.Return (some e) pos] (fun De σ H => cls = .ref C ∧ tSu ws c (slotN cx.N nm) su a cls dx De σ H) := by
  cases su with
  | one o =>
    refine PSs.imp (pss_one (ps_ret (pe_o E G hc hs hz hf h))) fun De σ H q => ?_
    obtain ⟨e0, m, st, p, d, r, ev, e1, sl, k⟩ := q
    exact ⟨m, p, d, e0, ev, e1, sl, fun v hv nv => k m H v (Step.refl _ _) r ⟨hv, fr_of nv⟩⟩
  | tup os =>
    dsimp only at h
    split at h
    · rw [Bool.and_eq_true] at h
      obtain ⟨h1, h2⟩ := pa_os (a := a) (pn := pn) E G hc hs hz hf h.2
      refine PSs.imp (pss_one (ps_ret (pe_tup h1))) fun De σ H q => ?_
      obtain ⟨e0, m, st, p, d, r, ev, e1, sl, k⟩ := q
      cases e2 : mapO (suD p) os with
      | none =>
        simp [suRet, e2] at e1
      | some ds =>
        have e1 : some (D.tup ds) = some d := by simpa [suRet, e2] using e1
        cases e1
        refine ⟨m, p, ds, e0, ev, e2, sl, fun vs hvs => ⟨?_, fun q hq => k m _ _ (Step.alloc hq) (r.alloc hq) ⟨.tup (SqT.of upd_same) (hvs.mono (Step.alloc hq)), fr_of rfl⟩⟩⟩
        rw [← hvs.length, mapO_len e2]
        exact Nat.le_trans (Nat.le_of_ble_eq_true h.1) (by decide)
    · cases h
end
end Mn
/-! Mn16: the check is sound: statements, blocks. -/
namespace Mn
open PySem PySem.Spec PyProof.Rows L2
section
variable {ws : Ws} {cf : Cf} {cx : Cc} {X : Cx} {W : WX} {n : Nat}
theorem ckHs_ok (EO : EcOk ws) (G : Gd ws cf cx X) : ∀ {hs : List (Nat × Su)} {es : List ExceptHandler}, ckHs cx hs es = true →
    ∃ l : List Hd, l.map (fun h => (h.k, h.su)) = hs ∧ (∀ h ∈ l, ws.ec h.k = some (h.C, h.an)) ∧ (∀ h ∈ l, ∀ i, h.nm = some i → i < cx.N.length) ∧ ClsOk X es (l.map (Hd.cl ws))
  | [], [], _ => ⟨[], rfl, fun _ z => (by cases z), fun _ z => (by cases z), .nil⟩
  | (k, su) :: hs, e :: es, h => by
    have h' : ckH cx (k, su) e = true ∧ ckHs cx hs es = true := by simpa [ckHs] using h
    obtain ⟨l, l1, l2, l3, l4⟩ := ckHs_ok EO G h'.2
    have hh := h'.1
    unfold ckH at hh
    split at hh
    · rename_i x np nm ev rp pos'
      simp only [Bool.and_eq_true] at hh
      obtain ⟨⟨h1, h2⟩, h3⟩ := hh
      split at h3
      · rename_i k' an e1
        rw [Bool.and_eq_true] at h3
        obtain ⟨h4, h5⟩ := h3
        have h4 := of_decide_eq_true h4
        subst h4
        obtain ⟨C, c1, c2⟩ := G.cls x k' an e1
        obtain ⟨g1, g2⟩ := G.glob h1
        have nmx : Names X x (.ref C) := ⟨g1, g2, .inl c2⟩
        refine ⟨⟨k', C, an, slotN cx.N nm, su⟩ :: l, by rw [List.map_cons, l1], fun h hm => ?_, fun h hm => ?_, ?_⟩
        · rcases List.mem_cons.mp hm with rfl | hm
          · exact c1
          · exact l2 h hm
        · rcases List.mem_cons.mp hm with rfl | hm
          · intro i hi
            cases nm with
            | none => cases hi
            | some y =>
              cases hi
              unfold slotB at h2
              simp only [Bool.and_eq_true] at h2
              exact List.idxOf_lt_length_of_mem (by simpa using h2.1)
          · exact l3 h hm
        · rw [List.map_cons]
          cases nm with
          | none => exact .one nmx (fun a oe cls d pn hz hf => pss_su (pos := rp) (nm := none) EO G c1 h2 hz hf h5) l4
          | some y =>
            have h2' := h2
            unfold slotB at h2'
            simp only [Bool.and_eq_true] at h2'
            have hm : y ∈ cx.N := by simpa using h2'.1
            have hlt : cx.N.idxOf y < cx.N.length := List.idxOf_lt_length_of_mem hm
            exact .named (by rw [G.N]; exact G.nd) (by rw [G.N, List.getElem?_eq_getElem hlt]; simp) (by show X.env.scope.names.lookup y = _; rw [G.sc]; simpa using h2'.2) nmx
              (fun a oe cls d pn hz hf => pss_su (pos := rp) (nm := some y) EO G c1 h2 hz hf h5) l4
      · cases h3
    · cases hh
theorem tS_rse {c : Nat} {C : Addr} {σ : L2.St} {H : Hp} {De : Ends} (hc : ws.ec c = some (C, none)) (h : tS ws cf W n (.rse c []) De σ H) : W (.ref C) none σ H := by
  obtain ⟨ρ, st, m, hρ, r, hl, h⟩ := h
  unfold exS evEs at h
  exact h m H (.ref C) none σ (Step.refl _ _) r ⟨C, none, hc, rfl, rfl, rfl⟩ hl
theorem get_any (G : Gp ws X) : PGet X (rP2 ws .ix) := by
  intro pins s σ H x y v u Q I rx ry h
  obtain ⟨H0, m0, m, st, ds, d, st', s0, r, ra, e, k⟩ := h
  obtain ⟨a, b, rfl, ha, hb⟩ := ra.as.two
  simp only [semP, sem2] at e
  split at e
  · rename_i i
    cases hb
    obtain ⟨tk, rfl⟩ := ry
    split at e
    · rename_i xs hx
      split at e
      · rename_i c hc
        cases e
        obtain ⟨p, vs, rfl, q, t⟩ := seq_ok r ha hx
        obtain ⟨z, h1, h2, h3⟩ := atI_ok t hc
        cases rx
        have fin : ∀ {w : Value}, RelV z w → EP X pins σ Q w s := fun rw' => ⟨z, H, I, rw', end_sc s0 r h2 h3 k⟩
        obtain ⟨j, g1, g2, g3, g4, g5⟩ := atI_get h1
        have hn := line63
        rcases q with q | q
        · obtain ⟨its, rv, pl, hz⟩ := I.list (toL G.K q.1)
          obtain ⟨w, ew, rw'⟩ := rv.get g2
          have hl := rv.length
          by_cases h0 : 0 ≤ i
          · have hj : i.toNat = j := by
              rw [seqIndex_of h0 g5] at g1
              exact Option.some.inj g1
            exact wpAny_getItem_list pl.isList h0 (by omega) (by rw [hj]; simpa using ew) (fin rw')
          · have hj : (i + (its.toArray.size : Int)).toNat = j := by
              rw [seqIndex_neg (by omega) g4] at g1
              rw [List.size_toArray, ← hl]
              exact Option.some.inj g1
            exact wpAny_getItem_list_neg pl.isList (by omega) (by rw [List.size_toArray] <;> omega) (by omega) (by rw [hj]; simpa using ew) (fin rw')
        · obtain ⟨its, rv, pl, hz⟩ := I.tuple (toT G.K q.1)
          obtain ⟨w, ew, rw'⟩ := rv.get g2
          have hl := rv.length
          exact PyProof.Rows.getItem_tuple (j := j) pl (by omega) (by omega) (by rw [List.size_toArray, ← hl]; exact g1) (by simpa using ew) (fin rw')
      · cases e
    · cases e
  · cases e
structure SndS (ws : Ws) (cf : Cf) (n : Nat) : Prop where
  s : ∀ {cx : Cc} {X : Cx} {W : WX} {s' : S} {s : Stmt}, EcOk ws → Gd ws cf cx X → Takes X W → PassesOwn (model X.prog X.w) X.A X.env X.xe → X.stack = X.env :: X.outer → X.env.frame = some X.env.locals → ckS n cx s' s = true → PS X s (tS ws cf W cx.N.length s')
  ss : ∀ {cx : Cc} {X : Cx} {W : WX} {s' : List S} {s : List Stmt}, EcOk ws → Gd ws cf cx X → Takes X W → PassesOwn (model X.prog X.w) X.A X.env X.xe → X.stack = X.env :: X.outer → X.env.frame = some X.env.locals → ckSs n cx s' s = true → PSs X s (tSs ws cf W cx.N.length s')
theorem asg_one {t : Expr} {env : Env} (h : noStar t = true) : (assignEach [t] env).map (·.2) = [assign t env] := by rw [asg_cons h]; rfl
theorem sws_no {t e : Expr} {env : Env} (h : noTpl e = true) : swappedStores [t] e env = pure none := by
  cases e <;> first | (cases t <;> rfl) | cases h
theorem sws_noT {t e : Expr} {env : Env} (h : noTup t = true) : swappedStores [t] e env = pure none := by
  cases t <;> first | rfl | cases h
theorem snd_s (SS : SndS ws cf n) (EO : EcOk ws) {s' : S} {s : Stmt} (G : Gd ws cf cx X) (tk : Takes X W) (hp : PassesOwn (model X.prog X.w) X.A X.env X.xe) (hs : X.stack = X.env :: X.outer) (hf : X.env.frame = some X.env.locals) (h : ckS (n + 1) cx s' s = true) :
    PS X s (tS ws cf W cx.N.length s') := by
  have hpx : X.N.Nodup := by rw [G.N]; exact G.nd
  have S := snd ws cf n
  have asg : ∀ {t e : Expr} {t' : Tg} {e' : E} {pos : Pos}, noStar t = true → ckTg n cx t' t = true → ckE n cx e' e = true → swapsWithSole [t] e pos.line X.env = pure false → swappedStores [t] e X.env = pure none → PS X (.Assign [t] e pos) (tS ws cf W cx.N.length (.asg t' e')) :=
    fun h1 h2 h3 h4 h5 => PS.imp (ps_asg (S.e G tk h3) (S.tg (W := W) G tk h2) h4 h5 (asg_one h1)) fun De σ H q => tS_asg q
  cases s' with
  | ex e' =>
    simp only [ckS] at h
    split at h
    · rw [Bool.and_eq_true] at h
      exact PS.imp (ps_expr (S.e G tk h.2) (swaps_no h.1)) fun De σ H q => tS_ex q
    · cases h
  | ret e' =>
    simp only [ckS] at h
    split at h
    · exact PS.imp (ps_ret (S.e G tk h)) fun De σ H q => tS_ret q
    · cases h
  | ret0 =>
    simp only [ckS] at h
    split at h
    · exact PS.imp ps_retN fun De σ H q => tS_ret0 q
    · cases h
  | pas =>
    simp only [ckS] at h
    split at h
    · exact PS.imp ps_pass fun De σ H q => tS_pas q
    · cases h
  | brk =>
    simp only [ckS] at h
    split at h
    · exact PS.imp ps_break fun De σ H q => tS_brk q
    · cases h
  | cnt =>
    simp only [ckS] at h
    split at h
    · exact PS.imp ps_continue fun De σ H q => tS_cnt q
    · cases h
  | asg t' e' =>
    simp only [ckS] at h
    split at h
    · rename_i t e pos
      rw [Bool.and_eq_true] at h
      obtain ⟨hst, h⟩ := h
      split at h
      · -- a list comprehension
        rename_i elt gs sc lp
        split at h
        · rename_i x np i
          rw [Bool.and_eq_true] at h
          obtain ⟨h1, h2⟩ := h
          split at h1
          · rename_i hsw
            obtain ⟨k1, k2⟩ := G.locl h1
            refine PS.imp (snd_lcS (sp := pos) G tk k1 k2 hsw h2) fun De σ H q => ?_
            exact tE_mono (tS_asg q) fun v H1 k => gT_nm k
          · rename_i hsw
            exact asg hst h1 h2 (by
              exact (show swapsWith (.ListComp elt gs sc lp) (some (.Name x np)) pos.line X.env = pure false from by rw [G.sw, Bool.eq_false_iff.mpr hsw])) (sws_no rfl)
        · cases h
      · -- a tuple
        rename_i vs k2 p2
        split at h
        · rename_i ts k1 p1
          split at h
          · rename_i hsw
            rw [Bool.and_eq_true] at h
            exact asg hst h.1 h.2 rfl (G.swS hsw)
          · rename_i names hsw
            split at h
            · rename_i x px y py a b i j es
              simp only [Bool.and_eq_true] at h
              obtain ⟨⟨⟨⟨h1, h2⟩, h3⟩, h4⟩, h5⟩ := h
              have h1 := of_decide_eq_true h1
              subst h1
              obtain ⟨a1, a2⟩ := G.locl h3
              obtain ⟨b1, b2⟩ := G.locl h4
              obtain ⟨c1, c2, c3⟩ := S.es G tk (W := W) h5
              match es, c3 with
              | [a', b'], _ => exact PS.imp (ps_par G.g.calm hpx a1 b1 (by simpa using h2) a2 b2 c1 (G.swS hsw) rfl) fun De σ H q => tS_par q
            · rename_i x px y py z pz a b c i j l es
              simp only [Bool.and_eq_true] at h
              obtain ⟨⟨⟨⟨⟨⟨⟨h1, h2⟩, h2'⟩, h2''⟩, h3⟩, h4⟩, h4'⟩, h5⟩ := h
              have h1 := of_decide_eq_true h1
              subst h1
              obtain ⟨a1, a2⟩ := G.locl h3
              obtain ⟨b1, b2⟩ := G.locl h4
              obtain ⟨d1, d2⟩ := G.locl h4'
              obtain ⟨c1, c2, c3⟩ := S.es G tk (W := W) h5
              match es, c3 with
              | [a', b', c'], _ => exact PS.imp (ps_par3 G.g.calm hpx a1 b1 d1 (by simpa using h2) (by simpa using h2') (by simpa using h2'') a2 b2 d2 c1 (G.swS hsw) rfl) fun De σ H q => tS_par3 q
            · cases h
          · cases h
        · cases h
        · simp only [Bool.and_eq_true] at h
          exact asg hst h.1.2 h.2 rfl (sws_noT h.1.1)
      · simp only [Bool.and_eq_true] at h
        obtain ⟨⟨⟨h1, h2⟩, h3⟩, h4⟩ := h
        exact asg hst h3 h4 (swaps_no h1) (sws_no h2)
    · cases h
  | aug i p e' =>
    simp only [ckS] at h
    split at h
    · simp only [Bool.and_eq_true] at h
      obtain ⟨⟨h1, h2⟩, h3⟩ := h
      obtain ⟨k1, k2, k3⟩ := G.sto h2
      obtain ⟨o1, o2⟩ := ipP_ok (X := X) h1
      exact PS.imp (ps_aug hpx k1 k2 (S.e G tk h3) o1 k3) fun De σ H q => tS_aug o2 q
    · cases h
  | augS o i p e' =>
    simp only [ckS] at h
    split at h
    · simp only [Bool.and_eq_true] at h
      obtain ⟨⟨⟨⟨h1, h2⟩, h3⟩, h4⟩, h5⟩ := h
      obtain ⟨o1, o2⟩ := ipP_ok (X := X) h1
      exact PS.imp (ps_augS (S.e G tk h3) (S.e G tk h4) (get_any G.g) (S.e G tk h5) o1 set_any (aug_sub h2)) fun De σ H q => tS_augS o2 q
    · cases h
  | ifS c a b =>
    simp only [ckS] at h
    split at h
    · simp only [Bool.and_eq_true] at h
      exact PS.imp (ps_if (S.t G tk h.1.1) (SS.ss (W := W) EO G tk hp hs hf h.1.2) (SS.ss (W := W) EO G tk hp hs hf h.2)) fun De σ H q => tS_if q
    · cases h
  | whl c b =>
    simp only [ckS] at h
    split at h
    · simp only [Bool.and_eq_true] at h
      exact PS.imp (ps_while hp (S.t G tk h.1) (SS.ss (W := W) EO G tk hp hs hf h.2)) fun De σ H q => tS_whl q
    · cases h
  | «for» t' src b =>
    simp only [ckS] at h
    split at h
    · simp only [Bool.and_eq_true] at h
      obtain ⟨⟨⟨h1, h2⟩, h3⟩, h4⟩ := h
      exact PS.imp (ps_for hp G.g.calm (S.src (W := W) G tk h2) (S.tg (W := W) G tk h3) (SS.ss (W := W) EO G tk hp hs hf h4) (fold_set h1)) fun De σ H q => tS_for q
    · cases h
  | rse c es =>
    simp only [ckS] at h
    split at h
    · simp only [Bool.and_eq_true] at h
      obtain ⟨⟨h1, h2⟩, h3⟩ := h
      have : es = [] := by simpa using h2
      subst this
      split at h3
      · rename_i k e1
        have h3 := of_decide_eq_true h3
        subst h3
        obtain ⟨C, c1, c2⟩ := G.cls _ _ _ e1
        obtain ⟨B, newId, initId, bmB, F, q, kC, r⟩ := G.rse _ _ C e1 c1
        obtain ⟨g1, g2⟩ := G.glob h1
        exact PS.imp (ps_raise G.g.calm tk (pmk_own F q c2 kC r g1 g2)) fun De σ H q => tS_rse c1 q
      · cases h3
    · cases h
  | tryS b hds =>
    simp only [ckS] at h
    split at h
    · rename_i x h0 hdsx pos
      rw [Bool.and_eq_true] at h
      obtain ⟨l, l1, l2, l3, l4⟩ := ckHs_ok EO G h.2
      subst l1
      refine PS.imp (ps_tryU (tb := fun W' => tSs ws cf W' cx.N.length b) hs hf tk (fun W' pn xe tk' hp' => SS.ss (X := X.tr pn xe) EO (G.tr pn xe) tk' hp' hs hf h.1) l4) fun De σ H q => ?_
      rw [G.g.K]
      exact tS_try EO l2 l3 q
    · cases h
theorem snd_ss (SS : SndS ws cf n) (EO : EcOk ws) {s' : List S} {s : List Stmt} (G : Gd ws cf cx X) (tk : Takes X W) (hp : PassesOwn (model X.prog X.w) X.A X.env X.xe) (hs : X.stack = X.env :: X.outer) (hf : X.env.frame = some X.env.locals) (h : ckSs (n + 1) cx s' s = true) :
    PSs X s (tSs ws cf W cx.N.length s') := by
  simp only [ckSs] at h
  split at h
  · exact PSs.imp pss_nil fun De σ H q => tSs_nil q
  · rw [Bool.and_eq_true] at h
    exact PSs.imp (pss_cons (SS.s EO G tk hp hs hf h.1) (SS.ss (W := W) EO G tk hp hs hf h.2)) fun De σ H q => tSs_cons q
  · cases h
end
theorem sndS (ws : Ws) (cf : Cf) : ∀ n, SndS ws cf n
  | 0 => ⟨fun _ _ _ _ _ _ h => (by simp [ckS] at h), fun _ _ _ _ _ _ h => (by simp [ckSs] at h)⟩
  | n + 1 =>
    have S := sndS ws cf n
    ⟨fun EO => snd_s S EO, fun EO => snd_ss S EO⟩
end Mn
/-! Mn17: defs by the small run; the whole text by levels. -/
namespace Mn
open PySem PySem.Spec PyProof.Rows L2
section
variable {ws : Ws} {m m' l : List Addr} {H : Hp} {n : Nat}
mutual
/-- what names lists below n alone stands over the first n -/
theorem DV.down (hn : m.length = n) : ∀ {d : D} {v : V}, below n d = true → DV ws (m ++ l) H d v → DV ws m H d v
  | _, _, _, .non => .non
  | _, _, _, .bl b => .bl b
  | _, _, _, .int i => .int i
  | _, _, _, .str x => .str x
  | _, _, h, .tup q r => .tup q (DVs.down hn (by simpa [below] using h) r)
  | _, _, h, .tl nm q r => .tl (fun z => nm (List.mem_append_left _ z)) q (DVs.down hn (by simpa [below] using h) r)
  | _, _, h, .kl q r => .kl q (DVs.down hn (by simpa [below] using h) r)
  | _, _, h, .il q r => .il q (DVs.down hn (by simpa [below] using h) r)
  | _, _, h, .lr q => .lr (by
      have hk := Nat.blt_eq.mp (show Nat.blt _ n = true by simpa only [below] using h)
      rw [List.getElem?_append_left (by omega)] at q
      exact q)
  | _, _, _, .fn g => .fn g
theorem DVs.down (hn : m.length = n) : ∀ {ds : List D} {vs : List V}, belows n ds = true → DVs ws (m ++ l) H ds vs → DVs ws m H ds vs
  | _, _, _, .nil => .nil
  | d :: ds, _, h, .cons q k r => by
    have h' : below n d = true ∧ belows n ds = true := by simpa [belows] using h
    exact .cons (DV.down hn h'.1 q) k (DVs.down hn h'.2 r)
end
theorem Rl.cut {st : Sto} (r : Rl ws (m ++ l) st H) (hn : m.length = n) (hc : clean n st = true) : Rl ws m (st.take n) H := by
  have hl := r.len
  rw [List.length_append] at hl
  refine ⟨by rw [List.length_take]; omega, (List.nodup_append.mp r.nd).1, fun k o a e1 e2 => ?_⟩
  have hk : k < m.length := (List.getElem?_eq_some_iff.mp e2).1
  have e3 : st[k]? = some o := by
    rw [List.getElem?_take] at e1
    split at e1
    · exact e1
    · cases e1
  have q := r.obj k o a e3 (by rw [List.getElem?_append_left hk]; exact e2)
  unfold clean at hc
  have hb := List.all_eq_true.mp hc o (List.mem_of_getElem? e1)
  cases o with
  | lst xs =>
    obtain ⟨vs, h1, h2⟩ := q
    exact ⟨vs, h1, h2.down hn hb⟩
/-- from a run's end to a call's end -/
theorem Step.cut {H' : Hp} (s : Step m H (m ++ l) H') : Step m H m H' := ⟨⟨[], by simp⟩, fun a h k => absurd h k, s.keep, s.tups, s.frz, s.there⟩
theorem aft_retn {W : WX} {k : Nat} {st : Sto} {d : D} {Q : VK} (hm : m.length = n) (h : Aft ws W k m H (RD ws) Q (retn n d st)) : ∀ m' H' v, Step m H m' H' → Rl ws m' st H' → RD ws H m' H' d v → Q v H' := by
  intro m' H' v s r q
  obtain ⟨l, rfl⟩ := s.pre
  unfold retn at h
  split at h
  · rename_i hc
    have rc := r.cut hm hc
    split at h
    · rename_i j
      split at h
      · rename_i hj
        exact h m H' v s.cut rc ⟨q.1.down hm (by simpa only [below] using hj), q.2⟩
      · rename_i hj
        have hj : n ≤ j := by
          rcases Nat.lt_or_ge j n with z | z
          · exact absurd (Nat.blt_eq.mpr z) hj
          · exact z
        split at h
        · rename_i xs hx
          split at h
          · rename_i hb
            cases q.1 with
            | lr e =>
              rename_i a
              obtain ⟨vs, h1, h2⟩ := r.obj j _ a hx e
              have na : a ∉ m := fun z => by
                obtain ⟨i, hi⟩ := List.mem_iff_getElem?.mp z
                have : i < m.length := (List.getElem?_eq_some_iff.mp hi).1
                have hi' : (m ++ l)[i]? = some a := by rw [List.getElem?_append_left this]; exact hi
                have := nodup_eq r.nd hi' e
                omega
              exact h m H' _ s.cut rc ⟨.tl na h1 (h2.down hm hb), fun _ b e' => by cases e'; exact s.new a (List.mem_of_getElem? e) na⟩
          · exact h _ H' v s r q
        · exact h _ H' v s r q
    · split at h
      · rename_i hb
        exact h m H' v s.cut rc ⟨q.1.down hm hb, q.2⟩
      · exact h _ H' v s r q
  · exact h _ H' v s r q
theorem aft_fin {W W' : WX} {k j : Nat} {Q : VK} {x : Out (Fl × Rho)} {st : Sto} (hl : st.length = n) (r0 : Rl ws m st H) (hW : ∀ cls dx σ σ' H', W cls dx σ H' → W' cls dx σ' H') (hk : ∃ σ : L2.St, σ.length = k) (h : Aft ws W k m H (RD ws) Q (fin n x)) :
    Aft ws W' j m H (RF ws j) (QE { nx := fun _ H' => Q .non H', rt := Q }) x := by
  have hm : m.length = n := by rw [r0.len, hl]
  cases x with
  | ok fr st' =>
    obtain ⟨fl, ρ⟩ := fr
    cases fl with
    | nx =>
      intro m' H' ev s r q
      cases ev with
      | nx σ => exact aft_retn hm (show Aft ws W k m H (RD ws) Q (retn n .non st') from h) m' H' .non s r ⟨.non, fr_of rfl⟩
      | _ => exact q.elim
    | ret d =>
      intro m' H' ev s r q
      cases ev with
      | rt v => exact aft_retn hm (show Aft ws W k m H (RD ws) Q (retn n d st') from h) m' H' v s r q
      | _ => exact q.elim
    | brk => exact h.elim
    | cnt => exact h.elim
  | ex c p st' =>
    intro m' H' cls dx σ' s r q _
    obtain ⟨σ0, hσ0⟩ := hk
    obtain ⟨l, rfl⟩ := s.pre
    have h' : Aft ws W k m H (RD ws) Q (if clean n st' && belows n p then .ex c p (st'.take n) else .ex c p st') := h
    split at h'
    · rename_i hc
      rw [Bool.and_eq_true] at hc
      refine hW _ _ σ0 _ _ (h' m H' cls dx σ0 s.cut (r.cut hm hc.1) ?_ hσ0)
      obtain ⟨C, an, e1, e2, e3⟩ := q
      refine ⟨C, an, e1, e2, ?_⟩
      cases an with
      | none => exact e3
      | some f =>
        obtain ⟨dd, v, pd, f1, f2, f3, f4, f5⟩ := e3
        subst f2
        have hb : below n pd = true := by
          have := hc.2
          simpa [belows] using this
        exact ⟨dd, v, pd, f1, rfl, f3, f4.down hm hb, f5⟩
    · exact hW _ _ σ0 _ _ (h' _ H' cls dx σ0 s r q hσ0)
  | no => exact h.elim
/-- the slots at a def's start -/
theorem rl_start {N : List Str} {ds : List D} {vs : List V} (t : DVs ws m H ds vs) (k : Nat) (hk : k = N.length - vs.length) : RlE ws m H (ds.map some ++ List.replicate k none) (L2.start N vs) := by
  subst hk
  unfold L2.start
  refine ⟨by simp [t.length], fun i d e => ?_⟩
  have hl := t.length
  by_cases hi : i < ds.length
  · rw [List.getElem?_append_left (by simpa using hi)] at e
    rw [List.getElem?_append_left (by simp; omega)]
    rw [List.getElem?_map] at e
    cases e' : ds[i]? with
    | none => rw [e'] at e; cases e
    | some d' =>
      rw [e'] at e
      cases e
      obtain ⟨v, h1, h2, h3⟩ := t.get e'
      exact ⟨v, by rw [List.getElem?_map, h1]; rfl, h2, h3⟩
  · rw [List.getElem?_append_right (by simp; omega)] at e
    rw [List.getElem?_replicate] at e
    split at e <;> cases e
end
/-! ### the text -/
/-- a def of the text against one of the small language -/
structure DefOk (K : PySem.W.Frag) (ws : Ws) (md : Md) (g : Nat) (f : Fn) (N : List Str) (x : Str) (st : Stmt) : Prop where
  fd : ∃ fd, Fun K x x st (ws.fa g) fd ∧ Binds K fd (N.take f.np) []
  sc : FnScope N (N.take f.np) (defScope st)
  nl : f.nl = N.length
  np : f.np ≤ N.length
  ck : ∃ n, ckSs n ⟨N, defScope st, none, md⟩ f.body (defBody st) = true
structure TextOk (P : Program) (w : World) (K : PySem.W.Frag) (mg : Str → Option Value) (ws : Ws) (md : Md) (T : List Fn) (NN : List (List Str)) (sts : List Stmt) : Prop where
  kk : ws.K = K
  len : T.length = md.fns.length
  defs : ∀ (g : Nat) (f : Fn) (x : Str), T[g]? = some f → md.fns[g]? = some x → ∃ N st, NN[g]? = some N ∧ sts[g]? = some st ∧ DefOk K ws md g f N x st ∧ mg x = some (.ref (ws.fa g))
  bl : ∀ x ∈ md.bl, mg x = none
  con : ∀ x d, md.con.lookup x = some d → ∃ u v, mg x = some u ∧ RelV v u ∧ (∀ m H, DV ws m H d v) ∧ notl d = true
  cls : ∀ x k an, md.cls.lookup x = some (k, an) → ∃ C, ws.ec k = some (C, an) ∧ mg x = some (.ref C)
  rse : ∀ x k C, md.cls.lookup x = some (k, none) → ws.ec k = some (C, none) → ∃ B newId initId bmB, ExcBaseFacts B newId initId bmB ∧ PySem.W.excIn K C bmB newId = true ∧ PySem.W.keepIn K (.ref C) = true ∧ (∀ X : Cx, X.K = K → Raises X (.ref C))
  ec : EcOk ws
section
variable {P : Program} {w : World} {K : PySem.W.Frag} {mg : Str → Option Value} {base : Heap} {ws : Ws} {md : Md} {T : List Fn} {NN : List (List Str)} {sts : List Stmt}
theorem textRun (O : TextOk P w K mg ws md T NN sts) (wf : Nat) : ∀ (k g : Nat) (f : Fn) (x : Str) (N : List Str) (st : Stmt) (fd : FuncData), T[g]? = some f → md.fns[g]? = some x → Fun K x x st (ws.fa g) fd → DefOk K ws md g f N x st →
    FnOk P w K mg base (L2.CX P w) k (ws.fa g) fd (N.take f.np) (spF ws ⟨callF T wf k, wf, T.length⟩ g) := by
  intro k
  induction k with
  | zero =>
    intro g f x N st fd hf hx F Dk
    refine ⟨fun vs H Q E h => ?_, fun A outer s H args us vs Q E _ _ _ _ h => ?_⟩
    · obtain ⟨m, st', ds, _, _, h⟩ := h
      exact h.elim
    · obtain ⟨m, st', ds, _, _, h⟩ := h
      exact h.elim
  | succ k ih =>
    intro g f x N st fd hf hx F Dk
    have unf : ∀ ds st', callF T wf (k + 1) g ds st' = if ds.length = f.np then fin st'.length (exSs ⟨callF T wf k, wf, T.length⟩ f.body (ds.map some ++ List.replicate (f.nl - f.np) none) st') else .no := fun ds st' => by
      rw [callF, hf]
    have hpl : (N.take f.np).length = f.np := by rw [List.length_take]; have := Dk.np; omega
    refine F.okX Dk.sc (fun vs H Q E h => ?_) (fun cdv A outer s H vs Q E hr h => ?_)
    · obtain ⟨m, st', ds, r, t, h⟩ := h
      have h : Aft ws _ 0 m H (RD ws) Q (callF T wf (k + 1) g ds st') := h
      rw [unf] at h
      split at h
      · rename_i hl
        rw [← t.length, hl, hpl]
      · exact h.elim
    · obtain ⟨m, st', ds, r, t, h⟩ := h
      have h : Aft ws (fun cls d _ H' => E cls d H') 0 m H (RD ws) Q (callF T wf (k + 1) g ds st') := h
      rw [unf] at h
      have hl : ds.length = f.np := by
        by_cases hl : ds.length = f.np
        · exact hl
        · rw [if_neg hl] at h
          exact h.elim
      rw [if_pos hl] at h
      obtain ⟨nn, hck⟩ := Dk.ck
      let X := cxOf (L2.CX P w) P w K mg base N x (defScope st) (ws.fa g) cdv A outer s H E
      let cx : Cc := ⟨N, defScope st, none, md⟩
      have hrA : Room k X.A := hr
      have G : Gd ws ⟨callF T wf k, wf, T.length⟩ cx X := by
        refine ⟨⟨O.kk.symm, rfl, by have := hrA.un; omega⟩, rfl, Dk.sc.nd, rfl, Dk.sc.kind, fun _ _ => rfl, O.bl, O.con, O.cls, fun y j C h1 h2 => ?_, fun j y hy => ?_, fun j hj => ?_⟩
        · obtain ⟨B', n', i', b', h3, h4, h5, h6⟩ := O.rse y j C h1 h2
          exact ⟨B', n', i', b', h3, h4, h5, h6 X rfl⟩
        · have hj : j < T.length := by rw [O.len]; exact (List.getElem?_eq_some_iff.mp hy).1
          obtain ⟨N', st2, _, _, Dk', e4⟩ := O.defs j T[j] y (List.getElem?_eq_getElem hj) hy
          obtain ⟨fd', F', B'⟩ := Dk'.fd
          exact ⟨e4, F'.kp, k, fd', _, ih j T[j] y N' st2 fd' (List.getElem?_eq_getElem hj) hy F' Dk', hrA, B'⟩
        · have hj' : j < md.fns.length := by rw [← O.len]; exact hj
          exact ⟨md.fns[j], List.getElem?_eq_getElem hj'⟩
      have tk : Takes X (fun cls d _ H' => E cls d H') := takes_of rfl rfl rfl rfl
      have hp : PassesOwn (model X.prog X.w) X.A X.env X.xe := passes_of rfl
      refine ⟨_, (sndS ws _ nn).ss O.ec G tk hp rfl rfl hck, ?_⟩
      have hvl : vs.length = f.np := by rw [← t.length, hl]
      have hNl : (L2.start N vs).length = N.length := by
        unfold L2.start
        have := Dk.np
        simp
        omega
      refine ⟨_, st', m, rl_start t (f.nl - f.np) (by rw [Dk.nl, hvl]), r, hNl, ?_⟩
      exact aft_fin (W' := fun cls d _ H' => E cls d H') rfl r (fun _ _ _ _ _ h => h) ⟨[], rfl⟩ h
end
end Mn
/-! Mn18: from what the head tells to the text's facts; a law by its small run. -/
namespace Mn
open PySem PySem.Spec PyProof.Rows L2
theorem zip_lookup : ∀ (ps : List Str) (us : List Value), ps.Nodup → us.length = ps.length → (∀ l : List (Str × Value), (∀ p ∈ l, p.1 ∉ ps) → ps.filterMap (fun n => ((l ++ ps.zip us).lookup n).map (n, ·)) = ps.zip us)
  | [], _, _, _ => fun _ _ => rfl
  | p :: ps, [], _, h => by cases h
  | p :: ps, u :: us, nd, h => fun l hl => by
    obtain ⟨h1, h2⟩ := List.nodup_cons.mp nd
    have ll : (l ++ (p, u) :: ps.zip us).lookup p = some u := by
      have : ∀ l : List (Str × Value), (∀ q ∈ l, q.1 ∉ p :: ps) → (l ++ (p, u) :: ps.zip us).lookup p = some u := by
        intro l
        induction l with
        | nil => intro _; simp [List.lookup]
        | cons q l ih =>
          intro hq
          have hne : (p == q.1) = false := by
            have := hq q List.mem_cons_self
            simp at this
            simp [Ne.symm this.1]
          rw [List.cons_append, List.lookup_cons, hne]
          exact ih fun z hz => hq z (List.mem_cons_of_mem _ hz)
      exact this l hl
    rw [List.zip_cons_cons, List.filterMap_cons, ll]
    show (p, u) :: _ = _
    congr 1
    have e : l ++ (p, u) :: ps.zip us = (l ++ [(p, u)]) ++ ps.zip us := by simp
    rw [e]
    refine zip_lookup ps us h2 (by simpa using h) _ fun q hq => ?_
    rcases List.mem_append.mp hq with hq | hq
    · exact fun z => hl q hq (List.mem_cons_of_mem _ z)
    · have : q = (p, u) := by simpa using hq
      rw [this]
      exact h1
theorem zip_none : ∀ (ps : List Str) (us : List Value), us.length = ps.length → ps.filter (fun n => ((ps.zip us).lookup n).isNone) = [] := by
  intro ps us h
  rw [List.filter_eq_nil_iff]
  intro n hn hh
  have : ∀ (ps : List Str) (us : List Value), us.length = ps.length → n ∈ ps → (List.lookup n (ps.zip us)).isSome = true := by
    intro ps
    induction ps with
    | nil => intro us _ h; cases h
    | cons p ps ih =>
      intro us hl hm
      cases us with
      | nil => cases hl
      | cons u us =>
        rw [List.zip_cons_cons, List.lookup_cons]
        by_cases e : n = p
        · simp [e]
        · have : (n == p) = false := by simp [e]
          rw [this]
          exact ih us (by simpa using hl) ((List.mem_cons.mp hm).resolve_left e)
  have := this ps us h hn
  rw [Option.isNone_iff_eq_none] at hh
  rw [hh] at this
  cases this
theorem bind_gen {x qual : Str} {ps : List Str} {as : List Arg} {body : List Stmt} {scope : Scope} {kV doc pm : Value} {an : Option Addr} {cdv ct : Value} (hp : as.map (·.arg) = ps) (nd : ps.Nodup) (us : List Value) (hl : us.length = ps.length) :
    bindArgs (PySem.W.fnOf x qual ⟨[], as, none, [], [], none, []⟩ body scope .none kV doc pm an cdv ct) ⟨us, []⟩ = pure (ps.zip us) := by
  subst hp
  have h1 := zip_lookup _ us nd hl [] (fun _ h => by cases h)
  have h2 := zip_none _ us hl
  rw [List.nil_append] at h1
  unfold bindArgs
  dsimp only [PySem.W.fnOf]
  generalize List.map (fun x : Arg => x.arg) as = ps at *
  have e0 : seqItems? Value.none = pure none := by rfl
  have e1 : List.take ps.length ps = ps := List.take_length
  have e2 : ¬ us.length > ps.length := by omega
  simp [e0, e1, h1, h2, hl]

/-! ### the text's own facts -/
def argsB (a : Arguments) (ps : List Str) : Bool := a.posonlyargs.isEmpty && a.vararg.isNone && a.kwonlyargs.isEmpty && a.kw_defaults.isEmpty && a.kwarg.isNone && a.defaults.isEmpty && decide (a.args.map (·.arg) = ps)
def scopeB (N ps : List Str) (sc : Scope) : Bool := (match sc.kind with | .function => true | _ => false) && !sc.isCoroutine && !sc.isGenerator && decide N.Nodup && decide (N.take ps.length = ps) &&
  (ps.all fun x => sc.names.lookup x == some .local || sc.names.lookup x == some .cell) && sc.names.all fun y => !(y.2 == .free)
def defB (md : Md) (f : Fn) (N : List Str) (st : Stmt) : Bool := argsB (defArgs st) (N.take f.np) && scopeB N (N.take f.np) (defScope st) && decide (f.nl = N.length) && Nat.ble f.np N.length && ckSs 300 ⟨N, defScope st, none, md⟩ f.body (defBody st)
def defsB (md : Md) : List Fn → List (List Str) → List Stmt → Bool
  | [], [], [] => true
  | f :: fs, N :: Ns, st :: sts => defB md f N st && defsB md fs Ns sts
  | _, _, _ => false
def clsB (md : Md) : Bool := md.cls.all fun c => decide ((md.cls.find? fun c' => c'.2.1 == c.2.1) = some c)
def textB (md : Md) (T : List Fn) (NN : List (List Str)) (sts : List Stmt) : Bool := defsB md T NN sts && decide (T.length = md.fns.length) && clsB md
/-! ### what the head is asked -/
def ddOf (x : Str) (st : Stmt) : He.DefD := ⟨(x, none), x, x, defArgs st, defBody st, defScope st, [], []⟩
def ddsOf (xs : List Str) (sts : List Stmt) : List He.DefD := List.zipWith ddOf xs sts
def faOf (md : Md) : List He.Fa := md.fns.map .glo ++ md.bl.map .free ++ md.cls.map (fun c => .glo c.1) ++ (md.cls.filter fun c => c.2.2.isNone).map (fun c => .exc c.1) ++
  md.cls.flatMap fun c => md.cls.map fun c' => .exm c.1 c'.1 (decide (c'.2.1 = c.2.1))
mutual
/-- a value of the written part -/
def relD (K : PySem.W.Frag) : D → Value → Bool
  | .non, .none => true
  | .bl a, .bool b => a == b
  | .int a, .int b _ => decide (a = b)
  | .str a, .str b _ => decide (b = (⟨a.toArray⟩ : Str))
  | .tup xs, .ref a => (match K.lookup a with
    | some ⟨.type c, _, .seq its _, _⟩ => decide (c = "tuple") && decide (its.size ≤ sizeLine) && relDs K xs its.toList
    | _ => false)
  | _, _ => false
def relDs (K : PySem.W.Frag) : List D → List Value → Bool
  | [], [] => true
  | d :: ds, v :: vs => relD K d v && relDs K ds vs
  | _, _ => false
end
def conB (K : PySem.W.Frag) (c : Str × D) : Bool := match PySem.W.nsIn K mainGlobals c.1 with
  | some (some u) => relD K c.2 u
  | _ => false
def exB (md : Md) (K : PySem.W.Frag) : Bool := md.con.all (conB K) && md.cls.all fun c => match c.2.2 with
  | some f => xfB K (He.ga K c.1) && decide (PySem.W.findIn K (.ref (He.ga K c.1)) f = some none)
  | none => true
def wsOf (K : PySem.W.Frag) (md : Md) : Ws := ⟨K, fun g => He.ga K (md.fns.getD g ""), fun k => (md.cls.find? fun c => c.2.1 == k).map fun c => (He.ga K c.1, c.2.2)⟩
/-! ### sound -/
theorem argsB_ok {a : Arguments} {ps : List Str} (h : argsB a ps = true) : ∃ as : List Arg, a = ⟨[], as, none, [], [], none, []⟩ ∧ as.map (·.arg) = ps := by
  obtain ⟨p, as, v, ko, kd, kw, df⟩ := a
  unfold argsB at h
  simp only [Bool.and_eq_true, decide_eq_true_eq, List.isEmpty_iff, Option.isNone_iff_eq_none] at h
  obtain ⟨⟨⟨⟨⟨⟨rfl, rfl⟩, rfl⟩, rfl⟩, rfl⟩, rfl⟩, h⟩ := h
  exact ⟨as, rfl, h⟩
theorem scopeB_ok {N ps : List Str} {sc : Scope} (h : scopeB N ps sc = true) : FnScope N ps sc := by
  unfold scopeB at h
  simp only [Bool.and_eq_true, decide_eq_true_eq, Bool.not_eq_true', List.all_eq_true, Bool.or_eq_true] at h
  obtain ⟨⟨⟨⟨⟨⟨h1, h2⟩, h3⟩, h4⟩, h5⟩, h6⟩, h7⟩ := h
  refine ⟨?_, h2, h3, h4, h5, fun x hx => ?_, fun y hy e => ?_⟩
  · split at h1
    · rename_i e; exact e
    · cases h1
  · rcases h6 x hx with z | z
    · exact .inl (by simpa using z)
    · exact .inr (by simpa using z)
  · have := h7 y hy
    rw [e] at this
    cases this
theorem defsB_get {md : Md} : ∀ {fs : List Fn} {Ns : List (List Str)} {sts : List Stmt}, defsB md fs Ns sts = true → ∀ {g : Nat} {f : Fn}, fs[g]? = some f → ∃ N st, Ns[g]? = some N ∧ sts[g]? = some st ∧ defB md f N st = true
  | [], [], [], _, g, f, e => by simp at e
  | f' :: fs, N :: Ns, st :: sts, h, g, f, e => by
    have h' : defB md f' N st = true ∧ defsB md fs Ns sts = true := by simpa [defsB] using h
    cases g with
    | zero =>
      have : f' = f := by simpa using e
      subst this
      exact ⟨N, st, rfl, rfl, h'.1⟩
    | succ g => exact defsB_get h'.2 (g := g) (by simpa using e)
mutual
theorem relD_ok {ws : Ws} {K : PySem.W.Frag} (hK : ws.K = K) : ∀ {d : D} {u : Value}, relD K d u = true → ∃ v, RelV v u ∧ (∀ m H, DV ws m H d v) ∧ notl d = true
  | .non, .none, _ => ⟨.non, rfl, fun _ _ => .non, rfl⟩
  | .bl a, .bool b, h => by
    have : a = b := by simpa [relD] using h
    subst this
    exact ⟨.bl a, rfl, fun _ _ => .bl a, rfl⟩
  | .int a, .int b t, h => by
    have : a = b := by simpa [relD] using h
    subst this
    exact ⟨.int a, ⟨t, rfl⟩, fun _ _ => .int a, rfl⟩
  | .str a, .str b t, h => by
    have : b = (⟨a.toArray⟩ : Str) := by simpa [relD] using h
    subst this
    exact ⟨.str _, ⟨t, rfl⟩, fun _ _ => .str a, rfl⟩
  | .tup xs, .ref a, h => by
    unfold relD at h
    split at h
    · rename_i c dx its n sl e
      simp only [Bool.and_eq_true, decide_eq_true_eq] at h
      obtain ⟨⟨h1, h2⟩, h3⟩ := h
      subst h1
      obtain ⟨vs, r, t⟩ := relDs_ok hK h3
      refine ⟨.ref a, rfl, fun m H => .tup (vs := vs) (.inr ⟨_, its, n, by rw [hK]; exact e, rfl, rfl, h2, r⟩) (t m H), rfl⟩
    · cases h
theorem relDs_ok {ws : Ws} {K : PySem.W.Frag} (hK : ws.K = K) : ∀ {ds : List D} {us : List Value}, relDs K ds us = true → ∃ vs, Vals vs us ∧ ∀ m H, DVs ws m H ds vs
  | [], [], _ => ⟨[], .nil, fun _ _ => .nil⟩
  | d :: ds, u :: us, h => by
    have h' : relD K d u = true ∧ relDs K ds us = true := by simpa [relDs] using h
    obtain ⟨v, r, t, n⟩ := relD_ok hK h'.1
    obtain ⟨vs, rs, ts⟩ := relDs_ok hK h'.2
    exact ⟨v :: vs, .cons r rs, fun m H => .cons (t m H) n (ts m H)⟩
end
theorem lookup_mem {α : Type} {x : Str} {a : α} : ∀ {l : List (Str × α)}, l.lookup x = some a → (x, a) ∈ l
  | [], h => by simp at h
  | p :: l, h => by
    rw [List.lookup_cons] at h
    split at h
    · rename_i e
      cases h
      have : x = p.1 := by simpa using e
      subst this
      exact List.mem_cons_self
    · exact List.mem_cons_of_mem _ (lookup_mem h)
section
variable {P : Program} {w : World} {K : PySem.W.Frag} {h : Heap} {mg : Str → Option Value} {md : Md} {T : List Fn} {NN : List (List Str)} {sts : List Stmt}
theorem ec_mem {k : Nat} {C : Addr} {an : Option Str} (e : (wsOf K md).ec k = some (C, an)) : ∃ x, (x, k, an) ∈ md.cls ∧ C = He.ga K x := by
  have e' : ((md.cls.find? fun c => c.2.1 == k).map fun c => (He.ga K c.1, c.2.2)) = some (C, an) := e
  cases q : md.cls.find? fun c => c.2.1 == k with
  | none => rw [q] at e'; cases e'
  | some c =>
    rw [q] at e'
    have hk := List.find?_some q
    have hm := List.mem_of_find?_eq_some q
    obtain ⟨x, k', an'⟩ := c
    have : k' = k := by simpa using hk
    subst this
    cases e'
    exact ⟨x, hm, rfl⟩
theorem text_ok (X : K.In h) (G : h.Ns mainGlobals mg) (c : He.SaysX (faOf md) (ddsOf md.fns sts) [] [] (exB md) w h K) (t : textB md T NN sts = true) : TextOk P w K mg (wsOf K md) md T NN sts := by
  have cd := c.t.d
  have more := c.more
  unfold exB at more
  rw [Bool.and_eq_true] at more
  unfold textB at t
  simp only [Bool.and_eq_true, decide_eq_true_eq] at t
  obtain ⟨⟨t1, t2⟩, t3⟩ := t
  have fns : ∀ x ∈ md.fns, mg x = some (.ref (He.ga K x)) := fun x hx => He.glo_ok X G (cd.facts (f := .glo x) (by simp [faOf, hx]))
  have clsG : ∀ e ∈ md.cls, mg e.1 = some (.ref (He.ga K e.1)) := fun e he => He.glo_ok X G (cd.facts (f := .glo e.1) (by
    unfold faOf
    refine List.mem_append_left _ (List.mem_append_left _ (List.mem_append_right _ ?_))
    exact List.mem_map.mpr ⟨e, he, rfl⟩))
  refine ⟨rfl, t2, fun g f x hf hx => ?_, fun x hx => ?_, fun x d e => ?_, fun x k an e => ?_, fun x k C e1 e2 => ?_, ?_⟩
  · obtain ⟨N, st, e1, e2, hd⟩ := defsB_get t1 hf
    have hfa : (wsOf K md).fa g = He.ga K x := by
      show He.ga K (md.fns.getD g "") = _
      rw [List.getD_eq_getElem?_getD, hx]
      rfl
    refine ⟨N, st, e1, e2, ?_, by rw [hfa]; exact fns x (List.mem_of_getElem? hx)⟩
    unfold defB at hd
    simp only [Bool.and_eq_true, decide_eq_true_eq] at hd
    obtain ⟨⟨⟨⟨h1, h2⟩, h3⟩, h4⟩, h5⟩ := hd
    have S := scopeB_ok h2
    have hm : ddOf x st ∈ ddsOf md.fns sts := by
      refine List.mem_iff_getElem?.mpr ⟨g, ?_⟩
      unfold ddsOf
      rw [List.getElem?_zipWith, hx, e2]
    obtain ⟨fd, F⟩ := cd.defs hm
    have F' : FunD K x x (defArgs st) (defBody st) (defScope st) [] [] (He.ga K x) fd := F
    have ndP : (N.take f.np).Nodup := S.nd.sublist (List.take_sublist _ _)
    obtain ⟨as, ha, hps⟩ := argsB_ok h1
    have B : Binds K fd (N.take f.np) [] := F'.bindsN fun kV doc pm an cdv ct us hl => by
      rw [ha]
      exact bind_gen hps ndP us hl
    refine ⟨⟨fd, ⟨?_, ?_⟩, B⟩, S, h3, Nat.le_of_ble_eq_true h4, 300, h5⟩
    · obtain ⟨oc, od, dV, kV, doc, pm, an, cdv, ct, osl, e1, e2, e3, e4, _⟩ := F'.ex
      rcases e4 with ⟨_, rfl⟩ | ⟨z, _⟩
      · exact ⟨oc, od, kV, doc, pm, an, cdv, ct, osl, e1, by rw [hfa]; exact e2, e3⟩
      · exact absurd rfl z
    · rw [hfa]
      exact F'.kp
  · exact He.free_ok X G (cd.facts (f := .free x) (by simp [faOf, hx]))
  · have hc := List.all_eq_true.mp more.1 _ (lookup_mem e)
    unfold conB at hc
    split at hc
    · rename_i u hu
      obtain ⟨v, h1, h2, h3⟩ := relD_ok (ws := wsOf K md) rfl hc
      exact ⟨u, v, PySem.W.mg_of X G hu, h1, h2, h3⟩
    · cases hc
  · have hm := lookup_mem e
    refine ⟨He.ga K x, ?_, clsG _ hm⟩
    have hf := List.all_eq_true.mp t3 _ hm
    have hf := of_decide_eq_true hf
    show ((md.cls.find? fun c => c.2.1 == k).map fun c => (He.ga K c.1, c.2.2)) = _
    rw [hf]
    rfl
  · have hm := lookup_mem e1
    have hf := List.all_eq_true.mp t3 _ hm
    have hf := of_decide_eq_true hf
    have e2' : ((md.cls.find? fun c => c.2.1 == k).map fun c => (He.ga K c.1, c.2.2)) = some (C, none) := e2
    rw [hf] at e2'
    cases e2'
    obtain ⟨h1, h2, h3, h4⟩ := He.exc_ok (cd.facts (f := .exc x) (by
      unfold faOf
      refine List.mem_append_left _ (List.mem_append_right _ (List.mem_map.mpr ⟨(x, k, none), List.mem_filter.mpr ⟨hm, rfl⟩, rfl⟩))))
    exact ⟨_, _, _, _, PySem.F.excBase_ValueError, h1, h2, fun X hX => raises_own (by rw [hX]; exact h3) (by rw [hX]; exact h4)⟩
  · refine ⟨fun cI C an k C' an' e1 e2 => ?_, fun cI C f e1 => ?_⟩
    · obtain ⟨x, hx, rfl⟩ := ec_mem e1
      obtain ⟨y, hy, rfl⟩ := ec_mem e2
      exact He.exm_ok (cd.facts (f := .exm x y (decide (k = cI))) (by
        unfold faOf
        refine List.mem_append_right _ (List.mem_flatMap.mpr ⟨_, hx, List.mem_map.mpr ⟨_, hy, rfl⟩⟩)))
    · obtain ⟨x, hx, rfl⟩ := ec_mem e1
      have hh := List.all_eq_true.mp more.2 _ hx
      dsimp only at hh
      rw [Bool.and_eq_true] at hh
      exact ⟨xfB_ok hh.1, of_decide_eq_true hh.2⟩
end
end Mn
/-! Mn19: a law holds if its small run gives True at every script. -/
namespace Mn
open PySem PySem.Spec PyProof.Rows L2
/-- the law's promise of the small run -/
def Plain (T : List Fn) (k g : Nat) : Prop := ∀ ns : List Int, ns.length ≤ 63 → (∀ z ∈ ns, Builtin.Int.intBits z ≤ 1048576) → ∃ wf st', callF T wf k g [.kl (ns.map D.int)] [] = .ok (.bl true) st'
theorem dvs_ints {ws : Ws} {H : Hp} : ∀ ns : List Int, DVs ws [] H (ns.map D.int) (ns.map V.int)
  | [] => .nil
  | n :: ns => .cons (.int n) rfl (dvs_ints ns)
theorem law_walk {l : PySem.W.OpenLaw} {q : Program} {loose : List Str} {XP : (Str → Option Value) → Heap → Prop} {d : DefRec} {md : Md} {T : List Fn} {NN : List (List Str)} {sts : List Stmt} {k g : Nat} {f : Fn} {x : Str}
    (hn : l.most = some 63) (hdf : d.params.defaults = []) (hr : Room k callerA) (t : textB md T NN sts = true) (hf : T[g]? = some f) (hx : md.fns[g]? = some d.name) (hps : ∀ N, NN[g]? = some N → N.take f.np = [x]) (plain : Plain T k g) :
    PySem.W.WalkO q loose XP (He.hookX 4 (faOf md) (ddsOf md.fns sts) [] [] (exB md)).says l.row.toRowW d [] (fun f vs => PySem.call f vs) := by
  refine Att.attach_callB hn hdf fun w s₀ s₁ mg mb fa o pm cd doc a vs ns G Y ho hd hcd hmg hobj hints hlen hbits hg => ?_
  obtain ⟨K, KX, c⟩ := Y
  have O := text_ok (P := l.prog) KX G.T.g c t
  obtain ⟨N, st, e1, e2, Dk, e4⟩ := O.defs g f d.name hf hx
  obtain ⟨fd, F, B⟩ := Dk.fd
  have hfa : (wsOf K md).fa g = fa := by
    rw [hmg] at e4
    cases e4
    rfl
  rw [hfa] at F
  have hpx : N.take f.np = [x] := hps N e1
  have run : ∀ (base : Heap) (wf : Nat), FnOk l.prog w K mg base (L2.CX l.prog w) k fa fd [x] (spF (wsOf K md) ⟨callF T wf k, wf, T.length⟩ g) := fun base wf => by
    have := textRun (base := base) O wf k g f d.name N st fd hf hx (by rw [hfa]; exact F) Dk
    rw [hfa, hpx] at this
    exact this
  have hF : FnOk l.prog w K mg s₁.heap (L2.CX l.prog w) k fa fd [x] (fun vs H Q E => ∃ wf, spF (wsOf K md) ⟨callF T wf k, wf, T.length⟩ g vs H Q E) → True := fun _ => trivial
  have hb : ∀ (s : Shared) (u : Value), BindsTo s fd ⟨[u], []⟩ [(x, u)] := fun s u => by
    obtain ⟨N', st', e1', e2', hd'⟩ := defsB_get (by
      unfold textB at t
      simp only [Bool.and_eq_true] at t
      exact t.1.1) hf
    rw [e1] at e1'
    cases e1'
    rw [e2] at e2'
    cases e2'
    unfold defB at hd'
    simp only [Bool.and_eq_true, decide_eq_true_eq] at hd'
    obtain ⟨as, ha, hps'⟩ := argsB_ok hd'.1.1.1.1
    obtain ⟨oc, od, kV, doc', pm', an, cdv, ct, osl, rfl, lk, hc⟩ := F.ex
    refine .of_eq ?_
    rw [ha]
    have := bind_gen (x := d.name) (qual := d.name) (body := defBody st) (scope := defScope st) (kV := kV) (doc := doc') (pm := pm') (an := an) (cdv := cdv) (ct := ct) (as := as) (ps := [x]) (by rw [hps', hpx]) (by simp) [u] rfl
    simpa using this
  refine law_call (CX := L2.CX l.prog w) (k := k) (fd := fd) (x := x) (sp := fun vs H Q E => ∃ wf, spF (wsOf K md) ⟨callF T wf k, wf, T.length⟩ g vs H Q E) KX G.T.g G.T.b G.T.builtins G.T.nolimit hg hobj hints (Nat.le_trans hlen (by decide)) hr
    (fun base _ _ => ⟨fun vs H Q E ⟨wf, h⟩ => (run base wf).len _ _ _ _ h, fun A outer s H args us vs Q E r e b v ⟨wf, h⟩ => (run base wf).run A outer s H args us vs Q E r e b v h⟩) hb (fun H hO hS => ?_) fun H e s' => ?_
  · obtain ⟨wf, st', e⟩ := plain ns hlen hbits
    have fz : FzL (wsOf K md) H a (ns.map V.int) := by
      rcases hS with (z | z) | z
      · rcases hO a with y | ⟨o, xs, y⟩
        · rw [y] at z; cases z
        · rw [y] at z; cases z
      · exact .inl z
      · exact .inr z
    refine ⟨wf, [], [], [.kl (ns.map D.int)], ⟨rfl, by simp, fun n o b e1 _ => by simp at e1⟩, .cons (.kl fz (dvs_ints ns)) rfl .nil, ?_⟩
    show Aft _ _ 0 [] H _ _ (callF T wf k g [.kl (ns.map D.int)] [])
    rw [e]
    intro m' H' v _ _ qv
    cases qv.1
    rfl
  · rintro ⟨_, _, _, _, _, _, _, _, _, _, _, _, z⟩
    exact z
end Mn
/-! Mn20: the small run, step by step, for simp. -/
namespace Mn
open PySem
@[simp] theorem bind_ok' {α β : Type} (a : α) (st : Sto) (f : α → Sto → Out β) : (Out.ok a st).bind f = f a st := (rfl)
@[simp] theorem bind_ex' {α β : Type} (c : Nat) (p : List D) (st : Sto) (f : α → Sto → Out β) : (Out.ex c p st).bind f = .ex c p st := (rfl)
@[simp] theorem bind_no' {α β : Type} (f : α → Sto → Out β) : (Out.no : Out α).bind f = .no := (rfl)
/-! ### the rest of a run, by names -/
section
variable (cf : Cf)
def kB (x : Out D) : Out Bool := x.bind asB
def kTup (x : Out (List D)) : Out D := x.bind fun ds st => .ok (.tup (mats ds st).1) (mats ds st).2
def kLst (x : Out (List D)) : Out D := x.bind fun ds st => .ok (.tl (mats ds st).1) (mats ds st).2
def kPrim (p : Pr) (x : Out (List D)) : Out D := x.bind fun ds st => binds (semP p ds st)
def kMeth (p : Pr) (es : List E) (ρ : Rho) (x : Out D) : Out D := x.bind fun x st => if rcv p x then (evEs cf es ρ st).bind fun ds st => binds (semP p (x :: ds) st) else .no
def kMeth2 (p : Pr) (x : D) (y : Out (List D)) : Out D := y.bind fun ds st => binds (semP p (x :: ds) st)
def kAnd (b : E) (ρ : Rho) (x : Out Bool) : Out D := x.bind fun c st => if c then evE cf b ρ st else .ok (.bl false) st
def kOr (b : E) (ρ : Rho) (x : Out Bool) : Out D := x.bind fun c st => if c then .ok (.bl true) st else evE cf b ρ st
def kNot (x : Out Bool) : Out D := x.bind fun c st => .ok (.bl (!c)) st
def kIte (a b : E) (ρ : Rho) (x : Out Bool) : Out D := x.bind fun t st => if t then evE cf a ρ st else evE cf b ρ st
def kChA (p q : Pr) (b c : E) (ρ : Rho) (x : Out D) : Out D := x.bind fun x st => (evE cf b ρ st).bind fun y st => (match x, y with
    | .int i, .int j => (match semI p i j with
      | some (.bl true) => (evE cf c ρ st).bind fun z st => binds (semP q [.int j, z] st)
      | some (.bl false) => .ok (.bl false) st
      | _ => .no)
    | _, _ => .no)
def kChB (p q : Pr) (c : E) (ρ : Rho) (x : D) (y : Out D) : Out D := y.bind fun y st => (match x, y with
    | .int i, .int j => (match semI p i j with
      | some (.bl true) => (evE cf c ρ st).bind fun z st => binds (semP q [.int j, z] st)
      | some (.bl false) => .ok (.bl false) st
      | _ => .no)
    | _, _ => .no)
def kChC (q : Pr) (c : E) (ρ : Rho) (j : Int) (t : Bool) (st : Sto) : Out D := if t then (evE cf c ρ st).bind fun z st => binds (semP q [.int j, z] st) else .ok (.bl false) st
def kChD (q : Pr) (j : Int) (z : Out D) : Out D := z.bind fun z st => binds (semP q [.int j, z] st)
def kSlA (b c : E) (ρ : Rho) (x : Out D) : Out D := x.bind fun x st => (evE cf b ρ st).bind fun y st => (match y with
    | .int i => (evE cf c ρ st).bind fun z st => (match z with
      | .int j => binds (semSl x (some i) (some j) st)
      | _ => .no)
    | _ => .no)
def kSlB (c : E) (ρ : Rho) (x : D) (y : Out D) : Out D := y.bind fun y st => (match y with
    | .int i => (evE cf c ρ st).bind fun z st => (match z with
      | .int j => binds (semSl x (some i) (some j) st)
      | _ => .no)
    | _ => .no)
def kSlC (x : D) (i : Int) (z : Out D) : Out D := z.bind fun z st => (match z with
      | .int j => binds (semSl x (some i) (some j) st)
      | _ => .no)
def kCall (g : Nat) (x : Out (List D)) : Out D := x.bind fun ds st => cf.call g (mats ds st).1 (mats ds st).2
def kCons (es : List E) (ρ : Rho) (x : Out D) : Out (List D) := x.bind fun d st => (evEs cf es ρ st).bind fun ds st => .ok (d :: ds) st
def kCons2 (d : D) (y : Out (List D)) : Out (List D) := y.bind fun ds st => .ok (d :: ds) st
/-! comprehensions -/
def kT3 (acc : List D) (x : Out D) : Out (List D) := x.bind fun x st => .ok (acc ++ [(mat x st).1]) (mat x st).2
def kT2 (elt : E) (acc : List D) (ρ : Rho) (x : Out Bool) : Out (List D) := x.bind fun b st => if b then (if acc.length < sizeLine then (evE cf elt ρ st).bind fun x st => .ok (acc ++ [(mat x st).1]) (mat x st).2 else .no) else .ok acc st
def kT1 (elt : E) (cs : List E) (acc : List D) (x : Out Rho) : Out (List D) := x.bind fun ρ st => (evCs cf cs ρ st).bind fun b st => if b then (if acc.length < sizeLine then (evE cf elt ρ st).bind fun x st => .ok (acc ++ [(mat x st).1]) (mat x st).2 else .no) else .ok acc st
def turnB (elt : E) (tg : Tg) (cs : List E) (own : List Nat) (ρ : Rho) (d : D) (acc : List D) (st : Sto) : Out (List D) := kT1 cf elt cs acc (evTg cf tg d (wipe ρ own) st)
def compB (elt : E) (tg : Tg) (cs : List E) (own : List Nat) (ρ : Rho) (sv : Sv) (n : Nat) (st : Sto) : Out D := noEx ((turns sv (turnB cf elt tg cs own ρ) n 0 [] st).bind fun acc st => .ok (.tl acc) st)
def kComp (elt : E) (tg : Tg) (cs : List E) (own : List Nat) (ρ : Rho) (x : Out (Sv × Nat)) : Out D := x.bind fun sv st => compB cf elt tg cs own ρ sv.1 sv.2 st
def kU3 (elt : E) (tg1 : Tg) (cs1 : List E) (own1 : List Nat) (ρ : Rho) (acc : List D) (x : Out (Sv × Nat)) : Out (List D) := x.bind fun sv1 st => turns sv1.1 (turnB cf elt tg1 cs1 own1 ρ) sv1.2 0 acc st
def kU2 (elt : E) (tg1 : Tg) (src1 : Src) (cs1 : List E) (own1 : List Nat) (ρ : Rho) (acc : List D) (x : Out Bool) : Out (List D) := x.bind fun b st => if b then kU3 cf elt tg1 cs1 own1 ρ acc (evSrc cf src1 ρ st) else .ok acc st
def kU1 (elt : E) (cs : List E) (tg1 : Tg) (src1 : Src) (cs1 : List E) (own1 : List Nat) (acc : List D) (x : Out Rho) : Out (List D) := x.bind fun ρ st => kU2 cf elt tg1 src1 cs1 own1 ρ acc (evCs cf cs ρ st)
def turnB2 (elt : E) (tg : Tg) (cs : List E) (tg1 : Tg) (src1 : Src) (cs1 : List E) (own own1 : List Nat) (ρ : Rho) (d : D) (acc : List D) (st : Sto) : Out (List D) := kU1 cf elt cs tg1 src1 cs1 own1 acc (evTg cf tg d (wipe ρ own) st)
def compB2 (elt : E) (tg : Tg) (cs : List E) (tg1 : Tg) (src1 : Src) (cs1 : List E) (own own1 : List Nat) (ρ : Rho) (sv : Sv) (n : Nat) (st : Sto) : Out D := noEx ((turns sv (turnB2 cf elt tg cs tg1 src1 cs1 own own1 ρ) n 0 [] st).bind fun acc st => .ok (.tl acc) st)
def kComp2 (elt : E) (tg : Tg) (cs : List E) (tg1 : Tg) (src1 : Src) (cs1 : List E) (own own1 : List Nat) (ρ : Rho) (x : Out (Sv × Nat)) : Out D := x.bind fun sv st => compB2 cf elt tg cs tg1 src1 cs1 own own1 ρ sv.1 sv.2 st
/-! targets, sources -/
def kTgs (ts : List Tg) (ds : List D) (x : Out Rho) : Out Rho := x.bind fun ρ st => evTgs cf ts ds ρ st
def kSbA (i : E) (d : D) (ρ : Rho) (x : Out D) : Out Rho := x.bind fun x st => (evE cf i ρ st).bind fun y st => (match setD x y d st with
    | some st => .ok ρ st
    | none => .no)
def kSbB (d : D) (ρ : Rho) (x : D) (y : Out D) : Out Rho := y.bind fun y st => (match setD x y d st with
    | some st => .ok ρ st
    | none => .no)
def stO {α : Type} (a : α) (x : Option Sto) : Out α := match x with
  | some st => .ok a st
  | none => .no
def kSvA (x : Out D) : Out (Sv × Nat) := x.bind fun d st => (match svOf st d with
    | some r => .ok r st
    | none => .no)
def kSvR (x : Out (List D)) : Out (Sv × Nat) := x.bind fun ds st => (match rngOf ds with
    | some r => .ok r st
    | none => .no)
def kSvE (x : Out D) : Out (Sv × Nat) := x.bind fun d st => (match svOf st d with
    | some (s, n) => .ok (.enu s, n) st
    | none => .no)
def kSvZ (b : E) (ρ : Rho) (x : Out D) : Out (Sv × Nat) := x.bind fun x st => (evE cf b ρ st).bind fun y st => (match isTup x == isTup y, svOf st x, svOf st y with
    | true, some (s, n), some (t, m) => .ok (.zip s t, min n m) st
    | _, _, _ => .no)
def kSvZ2 (x : D) (y : Out D) : Out (Sv × Nat) := y.bind fun y st => (match isTup x == isTup y, svOf st x, svOf st y with
    | true, some (s, n), some (t, m) => .ok (.zip s t, min n m) st
    | _, _, _ => .no)
/-! statements -/
def kEx (ρ : Rho) (x : Out D) : Out (Fl × Rho) := x.bind fun _ st => .ok (.nx, ρ) st
def kRet (ρ : Rho) (x : Out D) : Out (Fl × Rho) := x.bind fun d st => .ok (.ret d, ρ) st
def kNx (x : Out Rho) : Out (Fl × Rho) := x.bind fun ρ st => .ok (.nx, ρ) st
def kAsg (t : Tg) (ρ : Rho) (x : Out D) : Out (Fl × Rho) := x.bind fun d st => kNx (evTg cf t d ρ st)
def kAug (i : Nat) (p : Pr) (ρ : Rho) (x : D) (y : Out D) : Out (Fl × Rho) := y.bind fun y st => (match x, y with
      | .int a, .int b => (match semI p a b with
        | some d => .ok (.nx, ρ.set i (some d)) st
        | none => .no)
      | _, _ => .no)
def kIf (a b : List S) (ρ : Rho) (x : Out Bool) : Out (Fl × Rho) := x.bind fun t st => if t then exSs cf a ρ st else exSs cf b ρ st
def forB (t : Tg) (b : List S) (sv : Sv) (n i : Nat) (ρ : Rho) (st : Sto) : Out (Fl × Rho) := loopF sv (fun d ρ st => (evTg cf t d ρ st).bind fun ρ st => exSs cf b ρ st) n i ρ st
def kFor (t : Tg) (b : List S) (ρ : Rho) (x : Out (Sv × Nat)) : Out (Fl × Rho) := x.bind fun sv st => forB cf t b sv.1 sv.2 0 ρ st
def kTurn (t : Tg) (b : List S) (sv : Sv) (n i : Nat) (x : Out (Fl × Rho)) : Out (Fl × Rho) := x.bind fun fr st => match fr with
      | (.nx, ρ) => forB cf t b sv n i ρ st
      | (.cnt, ρ) => forB cf t b sv n i ρ st
      | (.brk, ρ) => .ok (.nx, ρ) st
      | (.ret d, ρ) => .ok (.ret d, ρ) st
def kBody (b : List S) (x : Out Rho) : Out (Fl × Rho) := x.bind fun ρ st => exSs cf b ρ st
def whB (c : E) (b : List S) (n : Nat) (ρ : Rho) (st : Sto) : Out (Fl × Rho) := loopW (fun ρ st => (evE cf c ρ st).bind asB) (fun ρ st => exSs cf b ρ st) n ρ st
def kWt (c : E) (b : List S) (n : Nat) (x : Out (Fl × Rho)) : Out (Fl × Rho) := x.bind fun fr st => match fr with
      | (.nx, ρ) => whB cf c b n ρ st
      | (.cnt, ρ) => whB cf c b n ρ st
      | (.brk, ρ) => .ok (.nx, ρ) st
      | (.ret d, ρ) => .ok (.ret d, ρ) st
def kWc (c : E) (b : List S) (n : Nat) (ρ : Rho) (x : Out Bool) : Out (Fl × Rho) := x.bind fun t st => if t then kWt cf c b n (exSs cf b ρ st) else .ok (.nx, ρ) st
def kRse (c : Nat) (x : Out (List D)) : Out (Fl × Rho) := x.bind fun ds st => if ds.all notl then .ex c ds st else .no
def kTry (hs : List (Nat × Su)) (ρ : Rho) (x : Out (Fl × Rho)) : Out (Fl × Rho) := match x with
    | .ex c p st => handle c p ρ st hs
    | x => x
def kSeq (ss : List S) (x : Out (Fl × Rho)) : Out (Fl × Rho) := seqS x fun ρ st => exSs cf ss ρ st
end
section
variable {cf : Cf} {ρ : Rho} {st : Sto} {c : Nat} {p : List D}
/-! ### one step -/
@[simp] theorem ev_var (i : Nat) : evE cf (.var i) ρ st = (match ρ[i]? with
    | some (some d) => .ok d st
    | _ => .no) := by rw [evE] <;> rfl
@[simp] theorem ev_cst (d : D) : evE cf (.cst d) ρ st = .ok d st := by rw [evE]
@[simp] theorem ev_tup (es : List E) : evE cf (.tupE es) ρ st = kTup (evEs cf es ρ st) := by rw [evE]; rfl
@[simp] theorem ev_lst (es : List E) : evE cf (.lstE es) ρ st = kLst (evEs cf es ρ st) := by rw [evE]; rfl
@[simp] theorem ev_prim (q : Pr) (es : List E) : evE cf (.prim q es) ρ st = kPrim q (evEs cf es ρ st) := by rw [evE]; rfl
@[simp] theorem ev_meth (q : Pr) (o : E) (es : List E) : evE cf (.meth q o es) ρ st = kMeth cf q es ρ (evE cf o ρ st) := by rw [evE]; rfl
@[simp] theorem ev_and (a b : E) : evE cf (.and a b) ρ st = kAnd cf b ρ (kB (evE cf a ρ st)) := by rw [evE]; rfl
@[simp] theorem ev_or (a b : E) : evE cf (.or a b) ρ st = kOr cf b ρ (kB (evE cf a ρ st)) := by rw [evE]; rfl
@[simp] theorem ev_not (a : E) : evE cf (.not a) ρ st = kNot (kB (evE cf a ρ st)) := by rw [evE]; rfl
@[simp] theorem ev_ite (t a b : E) : evE cf (.ite t a b) ρ st = kIte cf a b ρ (kB (evE cf t ρ st)) := by rw [evE]; rfl
@[simp] theorem ev_chain (q r : Pr) (a b d : E) : evE cf (.chain q r a b d) ρ st = kChA cf q r b d ρ (evE cf a ρ st) := by rw [evE]; rfl
@[simp] theorem ev_sl3 (a b d : E) : evE cf (.sl3 a b d) ρ st = kSlA cf b d ρ (evE cf a ρ st) := by rw [evE]; rfl
@[simp] theorem ev_call (g : Nat) (es : List E) : evE cf (.call g es) ρ st = kCall cf g (evEs cf es ρ st) := by rw [evE]; rfl
@[simp] theorem ev_callv (i : Nat) (es : List E) : evE cf (.callv i es) ρ st = (match ρ[i]? with
    | some (some (.fn g)) => if Nat.blt g cf.nf then kCall cf g (evEs cf es ρ st) else .no
    | _ => .no) := by rw [evE] <;> rfl
@[simp] theorem ev_comp (elt : E) (tg : Tg) (src : Src) (cs : List E) (own : List Nat) : evE cf (.comp elt tg src cs own) ρ st = kComp cf elt tg cs own ρ (evSrc cf src ρ st) := by rw [evE]; rfl
@[simp] theorem ev_comp2 (elt : E) (tg : Tg) (src : Src) (cs : List E) (tg1 : Tg) (src1 : Src) (cs1 : List E) (own own1 : List Nat) : evE cf (.comp2 elt tg src cs tg1 src1 cs1 own own1) ρ st = kComp2 cf elt tg cs tg1 src1 cs1 own own1 ρ (evSrc cf src ρ st) := by rw [evE]; rfl
@[simp] theorem ev_nil : evEs cf [] ρ st = .ok [] st := by rw [evEs]
@[simp] theorem ev_cons (e : E) (es : List E) : evEs cf (e :: es) ρ st = kCons cf es ρ (evE cf e ρ st) := by rw [evEs]; rfl
@[simp] theorem ev_cs0 : evCs cf [] ρ st = .ok true st := by rw [evCs]
@[simp] theorem ev_cs1 (e : E) (es : List E) : evCs cf (e :: es) ρ st = kB (evE cf e ρ st) := by rw [evCs]; rfl
@[simp] theorem ev_nm (i : Nat) (d : D) : evTg cf (.nm i) d ρ st = .ok (ρ.set i (some (mat d st).1)) (mat d st).2 := by rw [evTg]
@[simp] theorem ev_tp (ts : List Tg) (d : D) : evTg cf (.tp ts) d ρ st = (match seqOf st d with
    | some xs => if xs.length = ts.length then evTgs cf ts xs ρ st else .no
    | none => .no) := by
  rw [evTg]
  all_goals (cases seqOf st d <;> rfl)
@[simp] theorem ev_sb (o i : E) (d : D) : evTg cf (.sb o i) d ρ st = kSbA cf i d ρ (evE cf o ρ st) := by rw [evTg]; rfl
@[simp] theorem ev_tgs0 (ds : List D) : evTgs cf [] ds ρ st = .ok ρ st := by rw [evTgs]
@[simp] theorem ev_tgs1 (t : Tg) (ts : List Tg) (d : D) (ds : List D) : evTgs cf (t :: ts) (d :: ds) ρ st = kTgs cf ts ds (evTg cf t d ρ st) := by rw [evTgs]; rfl
@[simp] theorem ev_sex (e : E) : evSrc cf (.ex e) ρ st = kSvA (evE cf e ρ st) := by rw [evSrc]; rfl
@[simp] theorem ev_srng (es : List E) : evSrc cf (.rng es) ρ st = kSvR (evEs cf es ρ st) := by rw [evSrc]; rfl
@[simp] theorem ev_senu (e : E) : evSrc cf (.enu e) ρ st = kSvE (evE cf e ρ st) := by rw [evSrc]; rfl
@[simp] theorem ev_szip (a b : E) : evSrc cf (.zip a b) ρ st = kSvZ cf b ρ (evE cf a ρ st) := by rw [evSrc]; rfl
@[simp] theorem ex_ex (e : E) : exS cf (.ex e) ρ st = kEx ρ (evE cf e ρ st) := by rw [exS]; rfl
@[simp] theorem ex_ret (e : E) : exS cf (.ret e) ρ st = kRet ρ (evE cf e ρ st) := by rw [exS]; rfl
@[simp] theorem ex_ret0 : exS cf .ret0 ρ st = .ok (.ret .non, ρ) st := by rw [exS]
@[simp] theorem ex_pas : exS cf .pas ρ st = .ok (.nx, ρ) st := by rw [exS]
@[simp] theorem ex_brk : exS cf .brk ρ st = .ok (.brk, ρ) st := by rw [exS]
@[simp] theorem ex_cnt : exS cf .cnt ρ st = .ok (.cnt, ρ) st := by rw [exS]
@[simp] theorem ex_asg (t : Tg) (e : E) : exS cf (.asg t e) ρ st = kAsg cf t ρ (evE cf e ρ st) := by rw [exS]; rfl
@[simp] theorem ex_aug (i : Nat) (q : Pr) (e : E) : exS cf (.aug i q e) ρ st = (match ρ[i]? with
    | some (some x) => kAug i q ρ x (evE cf e ρ st)
    | _ => .no) := by rw [exS] <;> rfl
@[simp] theorem ex_if (t : E) (a b : List S) : exS cf (.ifS t a b) ρ st = kIf cf a b ρ (kB (evE cf t ρ st)) := by rw [exS]; rfl
@[simp] theorem ex_whl (t : E) (b : List S) : exS cf (.whl t b) ρ st = whB cf t b cf.wf ρ st := by rw [exS]; rfl
@[simp] theorem ex_for (t : Tg) (src : Src) (b : List S) : exS cf (.for t src b) ρ st = kFor cf t b ρ (evSrc cf src ρ st) := by rw [exS]; rfl
@[simp] theorem ex_rse (k : Nat) (es : List E) : exS cf (.rse k es) ρ st = kRse k (evEs cf es ρ st) := by rw [exS]; rfl
@[simp] theorem ex_try (b : List S) (hs : List (Nat × Su)) : exS cf (.tryS b hs) ρ st = kTry hs ρ (exSs cf b ρ st) := by rw [exS]; rfl
@[simp] theorem ex_nil : exSs cf [] ρ st = .ok (.nx, ρ) st := by rw [exSs]
@[simp] theorem ex_cons (s : S) (ss : List S) : exSs cf (s :: ss) ρ st = kSeq cf ss (exS cf s ρ st) := by rw [exSs]; rfl
/-! ### the rest at a value -/
@[simp] theorem kB_ok (b : Bool) : kB (.ok (.bl b) st) = .ok b st := (rfl)
@[simp] theorem kB_ex : kB (.ex c p st) = .ex c p st := (rfl)
@[simp] theorem kTup_ok (ds : List D) : kTup (.ok ds st) = .ok (.tup (mats ds st).1) (mats ds st).2 := (rfl)
@[simp] theorem kTup_ex : kTup (.ex c p st) = .ex c p st := (rfl)
@[simp] theorem kLst_ok (ds : List D) : kLst (.ok ds st) = .ok (.tl (mats ds st).1) (mats ds st).2 := (rfl)
@[simp] theorem kLst_ex : kLst (.ex c p st) = .ex c p st := (rfl)
@[simp] theorem kPrim_ok (q : Pr) (ds : List D) : kPrim q (.ok ds st) = binds (semP q ds st) := (rfl)
@[simp] theorem kPrim_ex (q : Pr) : kPrim q (.ex c p st) = .ex c p st := (rfl)
@[simp] theorem kMeth_ok (q : Pr) (es : List E) (d : D) : kMeth cf q es ρ (.ok d st) = if rcv q d then kMeth2 q d (evEs cf es ρ st) else .no := (rfl)
@[simp] theorem kMeth2_ok (q : Pr) (d : D) (ds : List D) : kMeth2 q d (.ok ds st) = binds (semP q (d :: ds) st) := (rfl)
@[simp] theorem kMeth2_ex (q : Pr) (d : D) : kMeth2 q d (.ex c p st) = .ex c p st := (rfl)
@[simp] theorem kAnd_ok (b : E) (t : Bool) : kAnd cf b ρ (.ok t st) = if t then evE cf b ρ st else .ok (.bl false) st := (rfl)
@[simp] theorem kAnd_ex (b : E) : kAnd cf b ρ (.ex c p st) = .ex c p st := (rfl)
@[simp] theorem kOr_ok (b : E) (t : Bool) : kOr cf b ρ (.ok t st) = if t then .ok (.bl true) st else evE cf b ρ st := (rfl)
@[simp] theorem kOr_ex (b : E) : kOr cf b ρ (.ex c p st) = .ex c p st := (rfl)
@[simp] theorem kNot_ok (t : Bool) : kNot (.ok t st) = .ok (.bl (!t)) st := (rfl)
@[simp] theorem kNot_ex : kNot (.ex c p st) = .ex c p st := (rfl)
@[simp] theorem kIte_ok (a b : E) (t : Bool) : kIte cf a b ρ (.ok t st) = if t then evE cf a ρ st else evE cf b ρ st := (rfl)
@[simp] theorem kIte_ex (a b : E) : kIte cf a b ρ (.ex c p st) = .ex c p st := (rfl)
@[simp] theorem kChA_ok (q r : Pr) (b e : E) (d : D) : kChA cf q r b e ρ (.ok d st) = kChB cf q r e ρ d (evE cf b ρ st) := (rfl)
@[simp] theorem kChB_ok (q r : Pr) (e : E) (i j : Int) (t : Bool) (h : semI q i j = some (.bl t)) : kChB cf q r e ρ (.int i) (.ok (.int j) st) = kChC cf r e ρ j t st := by
  show (match semI q i j with
      | some (.bl true) => (evE cf e ρ st).bind fun z st => binds (semP r [.int j, z] st)
      | some (.bl false) => .ok (.bl false) st
      | _ => .no) = _
  rw [h]
  cases t <;> rfl
@[simp] theorem kChC_eq (r : Pr) (e : E) (j : Int) (t : Bool) : kChC cf r e ρ j t st = if t then kChD r j (evE cf e ρ st) else .ok (.bl false) st := (rfl)
@[simp] theorem kChD_ok (r : Pr) (j : Int) (z : D) : kChD r j (.ok z st) = binds (semP r [.int j, z] st) := (rfl)
@[simp] theorem kSlA_ok (b e : E) (d : D) : kSlA cf b e ρ (.ok d st) = kSlB cf e ρ d (evE cf b ρ st) := (rfl)
@[simp] theorem kSlB_ok (e : E) (d : D) (i : Int) : kSlB cf e ρ d (.ok (.int i) st) = kSlC d i (evE cf e ρ st) := (rfl)
@[simp] theorem kSlC_ok (d : D) (i j : Int) : kSlC d i (.ok (.int j) st) = binds (semSl d (some i) (some j) st) := (rfl)
@[simp] theorem kCall_ok (g : Nat) (ds : List D) : kCall cf g (.ok ds st) = cf.call g (mats ds st).1 (mats ds st).2 := (rfl)
@[simp] theorem kCall_ex (g : Nat) : kCall cf g (.ex c p st) = .ex c p st := (rfl)
@[simp] theorem kCons_ok (es : List E) (d : D) : kCons cf es ρ (.ok d st) = kCons2 d (evEs cf es ρ st) := (rfl)
@[simp] theorem kCons_ex (es : List E) : kCons cf es ρ (.ex c p st) = .ex c p st := (rfl)
@[simp] theorem kCons2_ok (d : D) (ds : List D) : kCons2 d (.ok ds st) = .ok (d :: ds) st := (rfl)
@[simp] theorem kCons2_ex (d : D) : kCons2 d (.ex c p st) = .ex c p st := (rfl)
@[simp] theorem kT1_ok (elt : E) (cs : List E) (acc : List D) : kT1 cf elt cs acc (.ok ρ st) = kT2 cf elt acc ρ (evCs cf cs ρ st) := (rfl)
@[simp] theorem kT2_ok (elt : E) (acc : List D) (t : Bool) : kT2 cf elt acc ρ (.ok t st) = if t then (if acc.length < sizeLine then kT3 acc (evE cf elt ρ st) else .no) else .ok acc st := (rfl)
@[simp] theorem kT3_ok (acc : List D) (d : D) : kT3 acc (.ok d st) = .ok (acc ++ [(mat d st).1]) (mat d st).2 := (rfl)
@[simp] theorem kComp_ok (elt : E) (tg : Tg) (cs : List E) (own : List Nat) (sv : Sv) (n : Nat) : kComp cf elt tg cs own ρ (.ok (sv, n) st) = compB cf elt tg cs own ρ sv n st := (rfl)
@[simp] theorem kComp_ex (elt : E) (tg : Tg) (cs : List E) (own : List Nat) : kComp cf elt tg cs own ρ (.ex c p st) = .ex c p st := (rfl)
@[simp] theorem kComp2_ok (elt : E) (tg : Tg) (cs : List E) (tg1 : Tg) (src1 : Src) (cs1 : List E) (own own1 : List Nat) (sv : Sv) (n : Nat) : kComp2 cf elt tg cs tg1 src1 cs1 own own1 ρ (.ok (sv, n) st) = compB2 cf elt tg cs tg1 src1 cs1 own own1 ρ sv n st := (rfl)
@[simp] theorem kU1_ok (elt : E) (cs : List E) (tg1 : Tg) (src1 : Src) (cs1 : List E) (own1 : List Nat) (acc : List D) : kU1 cf elt cs tg1 src1 cs1 own1 acc (.ok ρ st) = kU2 cf elt tg1 src1 cs1 own1 ρ acc (evCs cf cs ρ st) := (rfl)
@[simp] theorem kU2_ok (elt : E) (tg1 : Tg) (src1 : Src) (cs1 : List E) (own1 : List Nat) (acc : List D) (t : Bool) : kU2 cf elt tg1 src1 cs1 own1 ρ acc (.ok t st) = if t then kU3 cf elt tg1 cs1 own1 ρ acc (evSrc cf src1 ρ st) else .ok acc st := (rfl)
@[simp] theorem kU3_ok (elt : E) (tg1 : Tg) (cs1 : List E) (own1 : List Nat) (acc : List D) (sv : Sv) (n : Nat) : kU3 cf elt tg1 cs1 own1 ρ acc (.ok (sv, n) st) = turns sv (turnB cf elt tg1 cs1 own1 ρ) n 0 acc st := (rfl)
@[simp] theorem kTgs_ok (ts : List Tg) (ds : List D) : kTgs cf ts ds (.ok ρ st) = evTgs cf ts ds ρ st := (rfl)
@[simp] theorem kSbA_ok (i : E) (d x : D) : kSbA cf i d ρ (.ok x st) = kSbB d ρ x (evE cf i ρ st) := (rfl)
@[simp] theorem kSbB_ok (d x y : D) : kSbB d ρ x (.ok y st) = stO ρ (setD x y d st) := (rfl)
@[simp] theorem stO_some {α : Type} (a : α) : stO a (some st) = .ok a st := (rfl)
@[simp] theorem kSvA_ok (d : D) (r : Sv × Nat) (h : svOf st d = some r) : kSvA (.ok d st) = .ok r st := by
  show (match svOf st d with | some r => Out.ok r st | none => .no) = _
  rw [h]
@[simp] theorem kSvA_ex : kSvA (.ex c p st) = .ex c p st := (rfl)
@[simp] theorem kSvR_ok (ds : List D) (r : Sv × Nat) (h : rngOf ds = some r) : kSvR (.ok ds st) = .ok r st := by
  show (match rngOf ds with | some r => Out.ok r st | none => .no) = _
  rw [h]
@[simp] theorem kSvE_ok (d : D) (s : Sv) (n : Nat) (h : svOf st d = some (s, n)) : kSvE (.ok d st) = .ok (.enu s, n) st := by
  show (match svOf st d with | some (s, n) => Out.ok (Sv.enu s, n) st | none => .no) = _
  rw [h]
@[simp] theorem kSvZ_ok (b : E) (d : D) : kSvZ cf b ρ (.ok d st) = kSvZ2 d (evE cf b ρ st) := (rfl)
@[simp] theorem kSvZ2_ok (d e : D) (s t : Sv) (n m : Nat) (h : svOf st d = some (s, n)) (h1 : svOf st e = some (t, m)) (h2 : isTup d = isTup e) : kSvZ2 d (.ok e st) = .ok (.zip s t, min n m) st := by
  show (match isTup d == isTup e, svOf st d, svOf st e with | true, some (s, n), some (t, m) => Out.ok (Sv.zip s t, min n m) st | _, _, _ => .no) = _
  rw [h, h1, h2]
  simp
@[simp] theorem kEx_ok (d : D) : kEx ρ (.ok d st) = .ok (.nx, ρ) st := (rfl)
@[simp] theorem kEx_ex : kEx ρ (.ex c p st) = .ex c p st := (rfl)
@[simp] theorem kRet_ok (d : D) : kRet ρ (.ok d st) = .ok (.ret d, ρ) st := (rfl)
@[simp] theorem kRet_ex : kRet ρ (.ex c p st) = .ex c p st := (rfl)
@[simp] theorem kNx_ok : kNx (.ok ρ st) = .ok (.nx, ρ) st := (rfl)
@[simp] theorem kAsg_ok (t : Tg) (d : D) : kAsg cf t ρ (.ok d st) = kNx (evTg cf t d ρ st) := (rfl)
@[simp] theorem kAsg_ex (t : Tg) : kAsg cf t ρ (.ex c p st) = .ex c p st := (rfl)
@[simp] theorem kAug_ok (i : Nat) (q : Pr) (a b : Int) (d : D) (h : semI q a b = some d) : kAug i q ρ (.int a) (.ok (.int b) st) = .ok (.nx, ρ.set i (some d)) st := by
  show (match semI q a b with | some d => Out.ok (Fl.nx, ρ.set i (some d)) st | none => .no) = _
  rw [h]
@[simp] theorem kIf_ok (a b : List S) (t : Bool) : kIf cf a b ρ (.ok t st) = if t then exSs cf a ρ st else exSs cf b ρ st := (rfl)
@[simp] theorem kIf_ex (a b : List S) : kIf cf a b ρ (.ex c p st) = .ex c p st := (rfl)
@[simp] theorem kFor_ok (t : Tg) (b : List S) (sv : Sv) (n : Nat) : kFor cf t b ρ (.ok (sv, n) st) = forB cf t b sv n 0 ρ st := (rfl)
@[simp] theorem kFor_ex (t : Tg) (b : List S) : kFor cf t b ρ (.ex c p st) = .ex c p st := (rfl)
@[simp] theorem kBody_ok (b : List S) : kBody cf b (.ok ρ st) = exSs cf b ρ st := (rfl)
@[simp] theorem kTurn_nx (t : Tg) (b : List S) (sv : Sv) (n i : Nat) : kTurn cf t b sv n i (.ok (.nx, ρ) st) = forB cf t b sv n i ρ st := (rfl)
@[simp] theorem kTurn_cnt (t : Tg) (b : List S) (sv : Sv) (n i : Nat) : kTurn cf t b sv n i (.ok (.cnt, ρ) st) = forB cf t b sv n i ρ st := (rfl)
@[simp] theorem kTurn_brk (t : Tg) (b : List S) (sv : Sv) (n i : Nat) : kTurn cf t b sv n i (.ok (.brk, ρ) st) = .ok (.nx, ρ) st := (rfl)
@[simp] theorem kTurn_ret (t : Tg) (b : List S) (sv : Sv) (n i : Nat) (d : D) : kTurn cf t b sv n i (.ok (.ret d, ρ) st) = .ok (.ret d, ρ) st := (rfl)
@[simp] theorem kTurn_ex (t : Tg) (b : List S) (sv : Sv) (n i : Nat) : kTurn cf t b sv n i (.ex c p st) = .ex c p st := (rfl)
@[simp] theorem kWt_nx (e : E) (b : List S) (n : Nat) : kWt cf e b n (.ok (.nx, ρ) st) = whB cf e b n ρ st := (rfl)
@[simp] theorem kWt_cnt (e : E) (b : List S) (n : Nat) : kWt cf e b n (.ok (.cnt, ρ) st) = whB cf e b n ρ st := (rfl)
@[simp] theorem kWt_brk (e : E) (b : List S) (n : Nat) : kWt cf e b n (.ok (.brk, ρ) st) = .ok (.nx, ρ) st := (rfl)
@[simp] theorem kWt_ret (e : E) (b : List S) (n : Nat) (d : D) : kWt cf e b n (.ok (.ret d, ρ) st) = .ok (.ret d, ρ) st := (rfl)
@[simp] theorem kWc_ok (e : E) (b : List S) (n : Nat) (t : Bool) : kWc cf e b n ρ (.ok t st) = if t then kWt cf e b n (exSs cf b ρ st) else .ok (.nx, ρ) st := (rfl)
@[simp] theorem kRse_ok (k : Nat) (ds : List D) : kRse k (.ok ds st) = if ds.all notl then .ex k ds st else .no := (rfl)
@[simp] theorem kTry_ok (hs : List (Nat × Su)) (fr : Fl × Rho) : kTry hs ρ (.ok fr st) = .ok fr st := (rfl)
@[simp] theorem kTry_ex (hs : List (Nat × Su)) : kTry hs ρ (.ex c p st) = handle c p ρ st hs := (rfl)
@[simp] theorem kSeq_nx (ss : List S) : kSeq cf ss (.ok (.nx, ρ) st) = exSs cf ss ρ st := (rfl)
@[simp] theorem kSeq_ret (ss : List S) (d : D) : kSeq cf ss (.ok (.ret d, ρ) st) = .ok (.ret d, ρ) st := (rfl)
@[simp] theorem kSeq_brk (ss : List S) : kSeq cf ss (.ok (.brk, ρ) st) = .ok (.brk, ρ) st := (rfl)
@[simp] theorem kSeq_cnt (ss : List S) : kSeq cf ss (.ok (.cnt, ρ) st) = .ok (.cnt, ρ) st := (rfl)
@[simp] theorem kSeq_ex (ss : List S) : kSeq cf ss (.ex c p st) = .ex c p st := (rfl)
@[simp] theorem binds_some (d : D) : binds (some (d, st)) = .ok d st := (rfl)
@[simp] theorem noEx_ok {α : Type} (a : α) : noEx (.ok a st) = .ok a st := (rfl)
theorem forB_zero (t : Tg) (b : List S) (sv : Sv) (i : Nat) (h : sv.ends st i = true) : forB cf t b sv 0 i ρ st = .ok (.nx, ρ) st := by
  unfold forB
  rw [loopF, if_pos h]
theorem forB_succ (t : Tg) (b : List S) (sv : Sv) (n i : Nat) (d : D) (h : sv.item st i = some d) : forB cf t b sv (n + 1) i ρ st = kTurn cf t b sv n (i + 1) (kBody cf b (evTg cf t d ρ st)) := by
  unfold forB
  rw [loopF, h]
  rfl
theorem whB_succ (e : E) (b : List S) (n : Nat) : whB cf e b (n + 1) ρ st = kWc cf e b n ρ (kB (evE cf e ρ st)) := by
  unfold whB
  rw [loopW]
  rfl
end
end Mn
/-! Mn21: operations at values, calls, loops: for simp. -/
namespace Mn
open PySem
/-! ### sizes -/
/-- the product may be made -/
def fits (a b : Int) : Prop := Builtin.Int.intBits a + Builtin.Int.intBits b ≤ 134217728
def sm (n : Nat) (a : Int) : Prop := a.natAbs < 2 ^ n
theorem bits_sm {n : Nat} {a : Int} (h : sm n a) : Builtin.Int.intBits a ≤ n := by
  unfold Builtin.Int.intBits
  split
  · exact Nat.zero_le _
  · rename_i h0
    have h1 : a.natAbs ≠ 0 := by
      intro z
      have : a = 0 := by omega
      simp [this] at h0
    exact (Nat.log2_lt h1).mpr h
theorem fits_sm {n m : Nat} {a b : Int} (h : sm n a) (k : sm m b) (hl : n + m ≤ 134217728) : fits a b := by
  unfold fits
  have := bits_sm h
  have := bits_sm k
  omega
theorem sm_mono {n m : Nat} {a : Int} (h : sm n a) (hl : n ≤ m) : sm m a := Nat.lt_of_lt_of_le h (Nat.pow_le_pow_right (by decide) hl)
theorem sm_mul {n m : Nat} {a b : Int} (h : sm n a) (k : sm m b) : sm (n + m) (a * b) := by
  unfold sm at *
  rw [Int.natAbs_mul, Nat.pow_add]
  exact Nat.mul_lt_mul_of_lt_of_le h (Nat.le_of_lt k) (Nat.pos_of_ne_zero (by intro z; rw [z] at k; exact absurd k (Nat.not_lt_zero _)))
theorem sm_add {n : Nat} {a b : Int} (h : sm n a) (k : sm n b) : sm (n + 1) (a + b) := by
  unfold sm at *
  have := Int.natAbs_add_le a b
  rw [Nat.pow_succ]
  omega
theorem sm_neg {n : Nat} {a : Int} (h : sm n a) : sm n (-a) := by
  unfold sm at *
  rw [Int.natAbs_neg]
  exact h
theorem sm_sub {n : Nat} {a b : Int} (h : sm n a) (k : sm n b) : sm (n + 1) (a - b) := by
  rw [Int.sub_eq_add_neg]
  exact sm_add h (sm_neg k)
theorem sm_lit {n : Nat} {a : Int} (h : a.natAbs < 2 ^ n) : sm n a := h
/-! ### operations -/
section
variable {st : Sto} {a b : Int} {d : D}
@[simp] theorem sp_add : semP .add [.int a, .int b] st = some (.int (a + b), st) := (rfl)
@[simp] theorem sp_sub : semP .sub [.int a, .int b] st = some (.int (a - b), st) := (rfl)
@[simp] theorem sp_lt : semP .lt [.int a, .int b] st = some (.bl (decide (a < b)), st) := (rfl)
@[simp] theorem sp_le : semP .le [.int a, .int b] st = some (.bl (decide (a ≤ b)), st) := (rfl)
@[simp] theorem sp_gt : semP .gt [.int a, .int b] st = some (.bl (decide (b < a)), st) := (rfl)
@[simp] theorem sp_ge : semP .ge [.int a, .int b] st = some (.bl (decide (b ≤ a)), st) := (rfl)
@[simp] theorem sp_neg : semP .neg [.int a] st = some (.int (-a), st) := (rfl)
@[simp] theorem sp_eqI : semP .eq [.int a, .int b] st = some (.bl (decide (a = b)), st) := (rfl)
@[simp] theorem sp_neI : semP .ne [.int a, .int b] st = some (.bl (!decide (a = b)), st) := (rfl)
@[simp] theorem sp_eqB (a b : Bool) : semP .eq [.bl a, .bl b] st = some (.bl (decide (a = b)), st) := (rfl)
@[simp] theorem sp_max2 : semP .max2 [.int a, .int b] st = some (.int (if b > a then b else a), st) := (rfl)
@[simp] theorem sp_min2 : semP .min2 [.int a, .int b] st = some (.int (if b < a then b else a), st) := (rfl)
@[simp] theorem sp_mul (h : fits a b) : semP .mul [.int a, .int b] st = some (.int (a * b), st) := by
  show (match semI .mul a b with | some d => some (d, st) | none => none) = _
  unfold fits at h
  simp only [semI]
  rw [if_pos h]
@[simp] theorem sp_fdiv (h : b ≠ 0) (h2 : b.natAbs.log2 < 9000) : semP .fdiv [.int a, .int b] st = some (.int (a.fdiv b), st) := by
  show (match semI .fdiv a b with | some d => some (d, st) | none => none) = _
  simp only [semI]
  rw [if_pos ⟨h, h2⟩]
@[simp] theorem sp_mod (h : b ≠ 0) : semP .mod [.int a, .int b] st = some (.int (a.fmod b), st) := by
  show (match semI .mod a b with | some d => some (d, st) | none => none) = _
  simp only [semI]
  rw [if_pos h]
@[simp] theorem sI_lt : semI .lt a b = some (.bl (decide (a < b))) := (rfl)
@[simp] theorem sI_le : semI .le a b = some (.bl (decide (a ≤ b))) := (rfl)
@[simp] theorem sI_gt : semI .gt a b = some (.bl (decide (b < a))) := (rfl)
@[simp] theorem sI_ge : semI .ge a b = some (.bl (decide (b ≤ a))) := (rfl)
@[simp] theorem sI_add : semI .add a b = some (.int (a + b)) := (rfl)
@[simp] theorem sI_sub : semI .sub a b = some (.int (a - b)) := (rfl)
@[simp] theorem sI_mul (h : fits a b) : semI .mul a b = some (.int (a * b)) := by
  unfold fits at h
  simp only [semI]
  rw [if_pos h]
theorem abs_nat (a : Int) : (if a < 0 then -a else a) = (a.natAbs : Int) := by
  split <;> omega
@[simp] theorem sp_abs : semP .abs [.int a] st = some (.int (a.natAbs : Int), st) := by
  show some (D.int (if a < 0 then -a else a), st) = _
  rw [abs_nat]
@[simp] theorem sp_toInt : semP .toInt [.int a] st = some (.int a, st) := (rfl)
@[simp] theorem sp_toIntB (t : Bool) : semP .toInt [.bl t] st = some (.int (if t then 1 else 0), st) := (rfl)
@[simp] theorem sp_isN : semP .isN [d, .non] st = some (.bl (isNon d), st) := (rfl)
@[simp] theorem sp_notN : semP .notN [d, .non] st = some (.bl (!isNon d), st) := (rfl)
@[simp] theorem isNon_i : isNon (.int a) = false := (rfl)
@[simp] theorem isNon_t (xs : List D) : isNon (.tup xs) = false := (rfl)
@[simp] theorem isNon_n : isNon .non = true := (rfl)
@[simp] theorem isNon_b (t : Bool) : isNon (.bl t) = false := (rfl)
@[simp] theorem isNon_s (s : List Nat) : isNon (.str s) = false := (rfl)
@[simp] theorem isNon_l (n : Nat) : isNon (.lr n) = false := (rfl)
@[simp] theorem isNon_tl (xs : List D) : isNon (.tl xs) = false := (rfl)
@[simp] theorem isNon_kl (xs : List D) : isNon (.kl xs) = false := (rfl)
@[simp] theorem sp_lenT (xs : List D) : semP .len [.tup xs] st = some (.int xs.length, st) := (rfl)
@[simp] theorem sp_lenL (xs : List D) : semP .len [.tl xs] st = some (.int xs.length, st) := (rfl)
@[simp] theorem sp_lenK (xs : List D) : semP .len [.kl xs] st = some (.int xs.length, st) := (rfl)
theorem sp_lenR {n : Nat} {xs : List D} (h : st[n]? = some (.lst xs)) : semP .len [.lr n] st = some (.int xs.length, st) := by
  simp [semP, sem1, seqOf, lstOf, h]
@[simp] theorem sp_tupT (xs : List D) : semP .tuple [.tup xs] st = some (.tup xs, st) := (rfl)
@[simp] theorem sp_tupL (xs : List D) : semP .tuple [.tl xs] st = some (.tup xs, st) := (rfl)
@[simp] theorem sp_tupK (xs : List D) : semP .tuple [.kl xs] st = some (.tup xs, st) := (rfl)
theorem sp_tupR {n : Nat} {xs : List D} (h : st[n]? = some (.lst xs)) : semP .tuple [.lr n] st = some (.tup xs, st) := by
  simp [semP, sem1, seqOf, lstOf, h]
@[simp] theorem sp_lstT (xs : List D) : semP .list [.tup xs] st = some (.tl xs, st) := (rfl)
@[simp] theorem sp_lstL (xs : List D) : semP .list [.tl xs] st = some (.tl xs, st) := (rfl)
@[simp] theorem sp_lstK (xs : List D) : semP .list [.kl xs] st = some (.tl xs, st) := (rfl)
theorem sp_lstR {n : Nat} {xs : List D} (h : st[n]? = some (.lst xs)) : semP .list [.lr n] st = some (.tl xs, st) := by
  simp [semP, sem1, seqOf, lstOf, h]
theorem allI_map : ∀ ns : List Int, allI (ns.map D.int) = some ns
  | [] => rfl
  | n :: ns => by
    have := allI_map ns
    unfold allI at *
    rw [List.map_cons, mapO, this]
theorem allB_map : ∀ ns : List Bool, allB (ns.map D.bl) = some ns
  | [] => rfl
  | n :: ns => by
    have := allB_map ns
    unfold allB at *
    rw [List.map_cons, mapO, this]
theorem sp_sum (ns : List Int) : semP .sum [.tl (ns.map D.int)] st = some (.int ns.sum, st) := by
  simp [semP, sem1, lstOf, allI_map]
theorem sp_all (ns : List Bool) : semP .all [.tl (ns.map D.bl)] st = some (.bl (ns.all id), st) := by
  simp [semP, sem1, lstOf, allB_map]
theorem sp_any (ns : List Bool) : semP .any [.tl (ns.map D.bl)] st = some (.bl (ns.any id), st) := by
  simp [semP, sem1, lstOf, allB_map]
/-! places -/
theorem atI_get' {α : Type} (xs : List α) (i : Nat) : L2.atI xs (i : Int) = xs[i]? := by
  unfold L2.atI L2.ixN
  rw [if_pos (by omega)]
  by_cases h : i < xs.length
  · rw [if_pos (by omega)]
    simp
  · rw [if_neg (by omega), List.getElem?_eq_none (by omega)]
    rfl
theorem sp_ixT {xs : List D} {i : Nat} {d : D} (h : xs[i]? = some d) : semP .ix [.tup xs, .int (i : Int)] st = some (d, st) := by
  simp [semP, sem2, seqOf, atI_get', h]
theorem sp_ixL {xs : List D} {i : Nat} {d : D} (h : xs[i]? = some d) : semP .ix [.tl xs, .int (i : Int)] st = some (d, st) := by
  simp [semP, sem2, seqOf, lstOf, atI_get', h]
theorem sp_ixK {xs : List D} {i : Nat} {d : D} (h : xs[i]? = some d) : semP .ix [.kl xs, .int (i : Int)] st = some (d, st) := by
  simp [semP, sem2, seqOf, lstOf, atI_get', h]
theorem sp_ixR {n : Nat} {xs : List D} {i : Nat} {d : D} (h0 : st[n]? = some (.lst xs)) (h : xs[i]? = some d) : semP .ix [.lr n, .int (i : Int)] st = some (d, st) := by
  simp [semP, sem2, seqOf, lstOf, h0, atI_get', h]
@[simp] theorem sp_ix0 (x : D) (xs : List D) : semP .ix [.tup (x :: xs), .int 0] st = some (x, st) := sp_ixT (i := 0) rfl
@[simp] theorem sp_ix1 (x y : D) (xs : List D) : semP .ix [.tup (x :: y :: xs), .int 1] st = some (y, st) := sp_ixT (i := 1) rfl
@[simp] theorem sp_ix2 (x y z : D) (xs : List D) : semP .ix [.tup (x :: y :: z :: xs), .int 2] st = some (z, st) := sp_ixT (i := 2) rfl
@[simp] theorem sp_ix3 (x y z w : D) (xs : List D) : semP .ix [.tup (x :: y :: z :: w :: xs), .int 3] st = some (w, st) := sp_ixT (i := 3) rfl
/-! types -/
@[simp] theorem sp_instI (ts : List Ty) : semP (.inst ts) [.int a] st = some (.bl (ts.any (subTy .int)), st) := (rfl)
@[simp] theorem sp_instB (ts : List Ty) (t : Bool) : semP (.inst ts) [.bl t] st = some (.bl (ts.any (subTy .bool)), st) := (rfl)
@[simp] theorem sp_instS (ts : List Ty) (s : List Nat) : semP (.inst ts) [.str s] st = some (.bl (ts.any (subTy .str)), st) := (rfl)
@[simp] theorem sp_instT (ts : List Ty) (xs : List D) : semP (.inst ts) [.tup xs] st = some (.bl (ts.any (subTy .tuple)), st) := (rfl)
@[simp] theorem sp_instL (ts : List Ty) (xs : List D) : semP (.inst ts) [.tl xs] st = some (.bl (ts.any (subTy .list)), st) := (rfl)
@[simp] theorem sp_instK (ts : List Ty) (xs : List D) : semP (.inst ts) [.kl xs] st = some (.bl (ts.any (subTy .list)), st) := (rfl)
@[simp] theorem sp_instN (ts : List Ty) : semP (.inst ts) [.non] st = some (.bl false, st) := (rfl)
theorem sp_instR (ts : List Ty) {n : Nat} {o : Ob} (h : st[n]? = some o) : semP (.inst ts) [.lr n] st = some (.bl (ts.any (subTy .list)), st) := by
  simp [semP, sem1, tyOf, h]
/-! stores -/
@[simp] theorem mat_i : mat (.int a) st = (.int a, st) := (rfl)
@[simp] theorem mat_b (t : Bool) : mat (.bl t) st = (.bl t, st) := (rfl)
@[simp] theorem mat_s (s : List Nat) : mat (.str s) st = (.str s, st) := (rfl)
@[simp] theorem mat_n : mat .non st = (.non, st) := (rfl)
@[simp] theorem mat_t (xs : List D) : mat (.tup xs) st = (.tup xs, st) := (rfl)
@[simp] theorem mat_k (xs : List D) : mat (.kl xs) st = (.kl xs, st) := (rfl)
@[simp] theorem mat_r (n : Nat) : mat (.lr n) st = (.lr n, st) := (rfl)
@[simp] theorem mat_f (g : Nat) : mat (.fn g) st = (.fn g, st) := (rfl)
@[simp] theorem mat_l (xs : List D) : mat (.tl xs) st = (.lr st.length, st ++ [.lst xs]) := (rfl)
@[simp] theorem mats_nil : mats [] st = ([], st) := (rfl)
@[simp] theorem mats_cons (d : D) (ds : List D) : mats (d :: ds) st = ((mat d st).1 :: (mats ds (mat d st).2).1, (mats ds (mat d st).2).2) := (rfl)
theorem mat_notl (h : notl d = true) : mat d st = (d, st) := by
  cases d <;> first | rfl | cases h
@[simp] theorem rcv_a (n : Nat) : rcv .append (.lr n) = true := (rfl)
@[simp] theorem rcv_0 (n : Nat) : rcv .pop0 (.lr n) = true := (rfl)
@[simp] theorem rcv_1 (n : Nat) : rcv .pop1 (.lr n) = true := (rfl)
theorem sp_app {n : Nat} {xs : List D} (h : st[n]? = some (.lst xs)) (hl : xs.length < sizeLine) (hd : notl d = true) : semP .append [.lr n, d] st = some (.non, st.set n (.lst (xs ++ [d]))) := by
  simp [semP, sem2, h, hl, mat_notl hd]
theorem setD_eq {n : Nat} {xs : List D} {i : Nat} (h : st[n]? = some (.lst xs)) (hi : i < xs.length) (hd : notl d = true) : setD (.lr n) (.int (i : Int)) d st = some (st.set n (.lst (xs.set i d))) := by
  have e : L2.ixN xs.length (i : Int) = some i := by
    unfold L2.ixN
    rw [if_pos (by omega), if_pos (by omega)]
    simp
  simp [setD, h, e, mat_notl hd]
@[simp] theorem nt_i : notl (.int a) = true := (rfl)
@[simp] theorem nt_b (t : Bool) : notl (.bl t) = true := (rfl)
@[simp] theorem nt_s (s : List Nat) : notl (.str s) = true := (rfl)
@[simp] theorem nt_n : notl .non = true := (rfl)
@[simp] theorem nt_t (xs : List D) : notl (.tup xs) = true := (rfl)
@[simp] theorem nt_k (xs : List D) : notl (.kl xs) = true := (rfl)
@[simp] theorem nt_r (n : Nat) : notl (.lr n) = true := (rfl)
@[simp] theorem nt_f (g : Nat) : notl (.fn g) = true := (rfl)
/-! sources -/
@[simp] theorem sv_t (xs : List D) : svOf st (.tup xs) = some (.fix xs, xs.length) := (rfl)
@[simp] theorem sv_l (xs : List D) : svOf st (.tl xs) = some (.fix xs, xs.length) := (rfl)
@[simp] theorem sv_k (xs : List D) : svOf st (.kl xs) = some (.fix xs, xs.length) := (rfl)
theorem sv_r {n : Nat} {xs : List D} (h : st[n]? = some (.lst xs)) : svOf st (.lr n) = some (.cell n, xs.length) := by
  simp [svOf, lstOf, h]
theorem rng1 (h1 : -(2 ^ 62) ≤ b) (h2 : b < 2 ^ 62) : rngOf [.int b] = some (.rng 0 1, b.toNat) := by
  have : inR b = true := by
    unfold inR
    rw [decide_eq_true h1, decide_eq_true h2]
    rfl
  simp only [rngOf, this, if_true]
theorem rng2 (h1 : -(2 ^ 62) ≤ a) (h2 : a < 2 ^ 62) (h3 : -(2 ^ 62) ≤ b) (h4 : b < 2 ^ 62) : rngOf [.int a, .int b] = some (.rng a 1, (b - a).toNat) := by
  have e1 : inR a = true := by
    unfold inR
    rw [decide_eq_true h1, decide_eq_true h2]
    rfl
  have e2 : inR b = true := by
    unfold inR
    rw [decide_eq_true h3, decide_eq_true h4]
    rfl
  simp only [rngOf, e1, e2, Bool.and_self, if_true]
end
/-! ### equality of plain data -/
mutual
/-- plain data, at most n deep -/
def pd : Nat → D → Bool
  | 0, _ => false
  | n + 1, d => match d with
    | .non => true
    | .bl _ => true
    | .int _ => true
    | .str s => s.all fun c => decide (c < 0x110000)
    | .tup xs => pds n xs
    | .il xs => pds n xs
    | _ => false
def pds : Nat → List D → Bool
  | _, [] => true
  | n, d :: ds => pd n d && pds n ds
end
mutual
def eqP : D → D → Bool
  | .non, .non => true
  | .bl a, .bl b => a == b
  | .bl a, .int b => (if a then 1 else 0) == b
  | .int a, .bl b => a == (if b then 1 else 0)
  | .int a, .int b => a == b
  | .str a, .str b => a == b
  | .tup xs, .tup ys => eqPs xs ys
  | .il xs, .il ys => eqPs xs ys
  | _, _ => false
def eqPs : List D → List D → Bool
  | [], [] => true
  | x :: xs, y :: ys => eqP x y && eqPs xs ys
  | _, _ => false
end
mutual
/-- the model's data of it -/
def dataOf : D → PyData
  | .bl b => .bool b
  | .int i => .int i
  | .str s => .str ⟨s.toArray⟩
  | .tup xs => .tuple (datasOf xs)
  | .il xs => .list (datasOf xs)
  | _ => .none
def datasOf : List D → List PyData
  | [] => []
  | d :: ds => dataOf d :: datasOf ds
end
theorem toP_pd (st : Sto) : ∀ (n : Nat) (d : D), pd n d = true → toP st n d = some (dataOf d) := by
  intro n
  induction n with
  | zero => intro d h; simp [pd] at h
  | succ n ih =>
    intro d h
    have many : ∀ ds : List D, pds n ds = true → mapO (toP st n) ds = some (datasOf ds) := by
      intro ds
      induction ds with
      | nil => intro _; rfl
      | cons d ds ih2 =>
        intro h
        have h' : pd n d = true ∧ pds n ds = true := by simpa [pds] using h
        rw [mapO, ih d h'.1, ih2 h'.2]
        rfl
    cases d with
    | non => rfl
    | bl b => rfl
    | int i => rfl
    | str s =>
      simp only [pd] at h
      simp only [toP]
      rw [if_pos (by
        unfold PySem.PyData.strOk
        simp only [List.all_eq_true, decide_eq_true_eq] at h
        simpa using h)]
      rfl
    | tup xs =>
      simp only [pd] at h
      simp only [toP, many xs h]
      rfl
    | il xs =>
      simp only [pd] at h
      simp only [toP, lstOf, many xs h]
      rfl
    | tl xs => simp [pd] at h
    | kl xs => simp [pd] at h
    | lr n => simp [pd] at h
    | fn g => simp [pd] at h
theorem str_beq' (a b : List Nat) : ((⟨a.toArray⟩ : Str) == ⟨b.toArray⟩) = (a == b) := by
  by_cases h : a = b
  · subst h
    simp
  · have : ¬ (⟨a.toArray⟩ : Str) = ⟨b.toArray⟩ := by
      intro z
      apply h
      have := congrArg (fun s : Str => s.cps.toList) z
      simpa using this
    rw [beq_eq_false_iff_ne.mpr this, beq_eq_false_iff_ne.mpr h]
mutual
theorem eqv_data : ∀ (n m : Nat) (a b : D), pd n a = true → pd m b = true → PyData.eqv (dataOf a) (dataOf b) = eqP a b
  | 0, _, _, _, h, _ => by simp [pd] at h
  | _ + 1, 0, _, _, _, h => by simp [pd] at h
  | n + 1, m + 1, .tup xs, .tup ys, h, k => by
    simp only [pd] at h k
    simp only [dataOf, PyData.eqv, eqP]
    exact eqvs_data n m xs ys h k
  | n + 1, m + 1, .str x, .str y, h, k => by
    simp only [dataOf, PyData.eqv, eqP]
    exact str_beq' x y
  | n + 1, m + 1, .il xs, .il ys, h, k => by
    simp only [pd] at h k
    simp only [dataOf, PyData.eqv, eqP]
    exact eqvs_data n m xs ys h k
  | n + 1, m + 1, .non, b, h, k => by cases b <;> first | (simp [pd] at k; done) | simp [dataOf, PyData.eqv, eqP]
  | n + 1, m + 1, .bl x, b, h, k => by cases b <;> first | (simp [pd] at k; done) | simp [dataOf, PyData.eqv, eqP]
  | n + 1, m + 1, .int x, b, h, k => by cases b <;> first | (simp [pd] at k; done) | simp [dataOf, PyData.eqv, eqP]
  | n + 1, m + 1, .tup xs, .non, h, k => by simp [dataOf, PyData.eqv, eqP]
  | n + 1, m + 1, .tup xs, .bl _, h, k => by simp [dataOf, PyData.eqv, eqP]
  | n + 1, m + 1, .tup xs, .int _, h, k => by simp [dataOf, PyData.eqv, eqP]
  | n + 1, m + 1, .tup xs, .str _, h, k => by simp [dataOf, PyData.eqv, eqP]
  | n + 1, m + 1, .tup xs, .il _, h, k => by simp [dataOf, PyData.eqv, eqP]
  | n + 1, m + 1, .tup xs, .tl _, h, k => by simp [pd] at k
  | n + 1, m + 1, .tup xs, .kl _, h, k => by simp [pd] at k
  | n + 1, m + 1, .tup xs, .lr _, h, k => by simp [pd] at k
  | n + 1, m + 1, .tup xs, .fn _, h, k => by simp [pd] at k
  | n + 1, m + 1, .str xs, .non, h, k => by simp [dataOf, PyData.eqv, eqP]
  | n + 1, m + 1, .str xs, .bl _, h, k => by simp [dataOf, PyData.eqv, eqP]
  | n + 1, m + 1, .str xs, .int _, h, k => by simp [dataOf, PyData.eqv, eqP]
  | n + 1, m + 1, .str xs, .tup _, h, k => by simp [dataOf, PyData.eqv, eqP]
  | n + 1, m + 1, .str xs, .il _, h, k => by simp [dataOf, PyData.eqv, eqP]
  | n + 1, m + 1, .str xs, .tl _, h, k => by simp [pd] at k
  | n + 1, m + 1, .str xs, .kl _, h, k => by simp [pd] at k
  | n + 1, m + 1, .str xs, .lr _, h, k => by simp [pd] at k
  | n + 1, m + 1, .str xs, .fn _, h, k => by simp [pd] at k
  | n + 1, m + 1, .il xs, .non, h, k => by simp [dataOf, PyData.eqv, eqP]
  | n + 1, m + 1, .il xs, .bl _, h, k => by simp [dataOf, PyData.eqv, eqP]
  | n + 1, m + 1, .il xs, .int _, h, k => by simp [dataOf, PyData.eqv, eqP]
  | n + 1, m + 1, .il xs, .str _, h, k => by simp [dataOf, PyData.eqv, eqP]
  | n + 1, m + 1, .il xs, .tup _, h, k => by simp [dataOf, PyData.eqv, eqP]
  | n + 1, m + 1, .il xs, .tl _, h, k => by simp [pd] at k
  | n + 1, m + 1, .il xs, .kl _, h, k => by simp [pd] at k
  | n + 1, m + 1, .il xs, .lr _, h, k => by simp [pd] at k
  | n + 1, m + 1, .il xs, .fn _, h, k => by simp [pd] at k
  | n + 1, m + 1, .tl _, _, h, _ => by simp [pd] at h
  | n + 1, m + 1, .kl _, _, h, _ => by simp [pd] at h
  | n + 1, m + 1, .lr _, _, h, _ => by simp [pd] at h
  | n + 1, m + 1, .fn _, _, h, _ => by simp [pd] at h
theorem eqvs_data : ∀ (n m : Nat) (a b : List D), pds n a = true → pds m b = true → PyData.eqvAll (datasOf a) (datasOf b) = eqPs a b
  | _, _, [], [], _, _ => by simp [datasOf, PyData.eqvAll, eqPs]
  | _, _, [], _ :: _, _, _ => by simp [datasOf, PyData.eqvAll, eqPs]
  | _, _, _ :: _, [], _, _ => by simp [datasOf, PyData.eqvAll, eqPs]
  | n, m, x :: xs, y :: ys, h, k => by
    have h' : pd n x = true ∧ pds n xs = true := by simpa [pds] using h
    have k' : pd m y = true ∧ pds m ys = true := by simpa [pds] using k
    simp only [datasOf, PyData.eqvAll, eqPs]
    rw [eqv_data n m x y h'.1 k'.1, eqvs_data n m xs ys h'.2 k'.2]
end
theorem eqD_pd {st : Sto} {a b : D} (h : pd 16 a = true) (k : pd 16 b = true) : eqD st a b = some (eqP a b) := by
  unfold eqD
  split
  · simp only [eqP]; rename_i i j; by_cases e : i = j <;> simp [e]
  · simp only [eqP]; rename_i i j; cases i <;> cases j <;> rfl
  · rfl
  · rw [toP_pd st 16 _ h, toP_pd st 16 _ k]
    show some (PyData.eqv (dataOf a) (dataOf b)) = _
    rw [eqv_data 16 16 _ _ h k]
theorem sp_eq {st : Sto} {a b : D} (h : pd 16 a = true) (k : pd 16 b = true) : semP .eq [a, b] st = some (.bl (eqP a b), st) := by
  simp [semP, sem2, eqD_pd h k]
theorem sp_ne {st : Sto} {a b : D} (h : pd 16 a = true) (k : pd 16 b = true) : semP .ne [a, b] st = some (.bl (!eqP a b), st) := by
  simp [semP, sem2, eqD_pd h k]
mutual
theorem eqP_refl : ∀ (n : Nat) (d : D), pd n d = true → eqP d d = true
  | 0, _, h => by simp [pd] at h
  | n + 1, .non, _ => by simp [eqP]
  | n + 1, .bl b, _ => by simp [eqP]
  | n + 1, .int i, _ => by simp [eqP]
  | n + 1, .str s, _ => by simp [eqP]
  | n + 1, .tup xs, h => by
    simp only [pd] at h
    simp only [eqP]
    exact eqPs_refl n xs h
  | n + 1, .il xs, h => by
    simp only [pd] at h
    simp only [eqP]
    exact eqPs_refl n xs h
  | n + 1, .tl _, h => by simp [pd] at h
  | n + 1, .kl _, h => by simp [pd] at h
  | n + 1, .lr _, h => by simp [pd] at h
  | n + 1, .fn _, h => by simp [pd] at h
theorem eqPs_refl : ∀ (n : Nat) (ds : List D), pds n ds = true → eqPs ds ds = true
  | _, [], _ => by simp [eqPs]
  | n, d :: ds, h => by
    have h' : pd n d = true ∧ pds n ds = true := by simpa [pds] using h
    simp only [eqPs]
    rw [eqP_refl n d h'.1, eqPs_refl n ds h'.2]
    rfl
end
/-! ### calls -/
section
variable {T : List Fn} {wf k g : Nat} {f : Fn} {ds : List D} {st : Sto}
theorem call_def (hT : T[g]? = some f) (hl : ds.length = f.np) : callF T wf (k + 1) g ds st = fin st.length (exSs ⟨callF T wf k, wf, T.length⟩ f.body (ds.map some ++ List.replicate (f.nl - f.np) none) st) := by
  rw [callF, hT]
  exact if_pos hl
theorem retn_same {n : Nat} {d : D} (h : st.length ≤ n) : retn n d st = .ok d st := by
  have e : st.take n = st := List.take_of_length_le h
  unfold retn
  split
  · split
    · rename_i j
      split
      · rw [e]
      · rename_i hj
        have : st[j]? = none := by
          rw [List.getElem?_eq_none_iff]
          rcases Nat.lt_or_ge j n with z | z
          · exact absurd (Nat.blt_eq.mpr z) hj
          · omega
        rw [this]
    · split
      · rw [e]
      · rfl
  · rfl
theorem fin_ret {ρ : Rho} {d : D} : fin st.length (.ok (.ret d, ρ) st) = .ok d st := retn_same (Nat.le_refl _)
theorem fin_nx {ρ : Rho} : fin st.length (.ok (.nx, ρ) st) = .ok .non st := retn_same (Nat.le_refl _)
theorem fin_retL {n : Nat} {ρ : Rho} {d : D} (h : st.length ≤ n) : fin n (.ok (.ret d, ρ) st) = .ok d st := retn_same h
theorem fin_ex {n c : Nat} {p : List D} (h : st.length ≤ n) : fin n (.ex c p st) = .ex c p st := by
  have e : st.take n = st := List.take_of_length_le h
  show (if (clean n st && belows n p) = true then Out.ex c p (st.take n) else .ex c p st) = _
  rw [e]
  exact ite_self _
/-- a store whose lists name its own lists alone -/
def Wf (st : Sto) : Prop := st.all (Ob.below st.length) = true
theorem clean_app {st ext : Sto} (h : Wf st) : clean st.length (st ++ ext) = true := by
  unfold clean
  rw [List.take_left']
  · exact h
  · rfl
theorem retn_app {ext : Sto} {d : D} (h : Wf st) (hb : below st.length d = true) : retn st.length d (st ++ ext) = .ok d st := by
  have e : (st ++ ext).take st.length = st := List.take_left' rfl
  unfold retn
  rw [if_pos (clean_app h)]
  split
  · rename_i j
    rw [if_pos (by simpa only [below] using hb), e]
  · rw [if_pos hb, e]
theorem retn_new {ext : Sto} {j : Nat} {xs : List D} (h : Wf st) (hj : st.length ≤ j) (hx : (st ++ ext)[j]? = some (.lst xs)) (hb : belows st.length xs = true) : retn st.length (.lr j) (st ++ ext) = .ok (.tl xs) st := by
  have e : (st ++ ext).take st.length = st := List.take_left' rfl
  unfold retn
  rw [if_pos (clean_app h)]
  simp only
  rw [if_neg (by
    intro z
    have := Nat.blt_eq.mp z
    omega)]
  simp only [hx]
  rw [if_pos hb, e]
theorem retn_tl {ext : Sto} {xs : List D} (h : Wf st) (hb : belows st.length xs = true) : retn st.length (.tl xs) (st ++ ext) = .ok (.tl xs) st := retn_app h (by simpa only [below] using hb)
theorem fin_retA {ext : Sto} {ρ : Rho} {d : D} (h : Wf st) (hb : below st.length d = true) : fin st.length (.ok (.ret d, ρ) (st ++ ext)) = .ok d st := retn_app h hb
theorem fin_exA {ext : Sto} {c : Nat} (h : Wf st) : fin st.length (.ex c [] (st ++ ext)) = .ex c [] st := by
  have e : (st ++ ext).take st.length = st := List.take_left' rfl
  show (if (clean st.length (st ++ ext) && belows st.length []) = true then Out.ex c [] ((st ++ ext).take st.length) else _) = _
  rw [clean_app h, e]
  rfl
end
theorem Wf_nil : Wf [] := rfl
mutual
theorem below_pd (m : Nat) : ∀ (n : Nat) (d : D), pd n d = true → below m d = true
  | 0, _, h => by simp [pd] at h
  | n + 1, .non, _ => by simp [below]
  | n + 1, .bl b, _ => by simp [below]
  | n + 1, .int i, _ => by simp [below]
  | n + 1, .str s, _ => by simp [below]
  | n + 1, .tup xs, h => by
    simp only [pd] at h
    simp only [below]
    exact belows_pd m n xs h
  | n + 1, .il xs, h => by
    simp only [pd] at h
    simp only [below]
    exact belows_pd m n xs h
  | n + 1, .tl _, h => by simp [pd] at h
  | n + 1, .kl _, h => by simp [pd] at h
  | n + 1, .lr _, h => by simp [pd] at h
  | n + 1, .fn _, h => by simp [pd] at h
theorem belows_pd (m : Nat) : ∀ (n : Nat) (ds : List D), pds n ds = true → belows m ds = true
  | _, [], _ => by simp [belows]
  | n, d :: ds, h => by
    have h' : pd n d = true ∧ pds n ds = true := by simpa [pds] using h
    simp only [belows]
    rw [below_pd m n d h'.1, belows_pd m n ds h'.2]
    rfl
end
/-! ### loops -/
section
variable {cf : Cf} {t : Tg} {b : List S} {sv : Sv}
/-- I: what is true ahead of turn i -/
theorem for_inv (I : Nat → Rho → Sto → Prop) : ∀ {k i : Nat} {ρ : Rho} {st : Sto}, I i ρ st → (∀ j ρ st, i ≤ j → j < i + k → I j ρ st → ∃ d ρ2 st2, sv.item st j = some d ∧ (kBody cf b (evTg cf t d ρ st) = .ok (.nx, ρ2) st2 ∨ kBody cf b (evTg cf t d ρ st) = .ok (.cnt, ρ2) st2) ∧ I (j + 1) ρ2 st2) →
    (∀ ρ st, I (i + k) ρ st → sv.ends st (i + k) = true) → ∃ ρ' st', forB cf t b sv k i ρ st = .ok (.nx, ρ') st' ∧ I (i + k) ρ' st'
  | 0, i, ρ, st, h0, _, he => ⟨ρ, st, forB_zero t b sv i (he ρ st h0), h0⟩
  | k + 1, i, ρ, st, h0, hs, he => by
    obtain ⟨d, ρ2, st2, e1, e2, h2⟩ := hs i ρ st (Nat.le_refl _) (by omega) h0
    have e : i + (k + 1) = i + 1 + k := by omega
    obtain ⟨ρ', st', e3, h3⟩ := for_inv I (k := k) h2 (fun j ρ st h1 h2 => hs j ρ st (by omega) (by omega)) (fun ρ st h => by
      have := he ρ st (by rw [e]; exact h)
      rw [e] at this
      exact this)
    refine ⟨ρ', st', ?_, by rw [e]; exact h3⟩
    rw [forB_succ t b sv k i d e1]
    rcases e2 with e2 | e2 <;> rw [e2] <;> exact e3
end
section
variable {cf : Cf} {elt : E} {tg : Tg} {cs : List E} {own : List Nat} {ρ : Rho} {sv : Sv}
/-- each turn adds one item, the store stays -/
theorem turns_map (F : Nat → D) {st : Sto} {body : D → List D → Sto → Out (List D)} : ∀ {k i : Nat} {acc : List D}, (∀ j acc, i ≤ j → j < i + k → acc.length < i + k → ∃ d, sv.item st j = some d ∧ body d acc st = .ok (acc ++ [F j]) st) → acc.length ≤ i → sv.ends st (i + k) = true →
    turns sv body k i acc st = .ok (acc ++ (List.range k).map fun j => F (i + j)) st
  | 0, i, acc, _, _, he => by
    rw [turns, if_pos (show sv.ends st i = true from he)]
    simp
  | k + 1, i, acc, hs, hl, he => by
    obtain ⟨d, e1, e2⟩ := hs i acc (Nat.le_refl _) (by omega) (by omega)
    have e : i + (k + 1) = i + 1 + k := by omega
    have ih := turns_map F (st := st) (body := body) (k := k) (i := i + 1) (acc := acc ++ [F i]) (fun j acc h1 h2 h3 => hs j acc (by omega) (by omega) (by omega)) (by simp; omega) (by rw [← e]; exact he)
    rw [turns, e1]
    show (body d acc st).bind _ = _
    rw [e2]
    show turns sv body k (i + 1) (acc ++ [F i]) st = _
    rw [ih, List.append_assoc]
    congr 1
    rw [List.range_succ_eq_map, List.map_cons, List.map_map]
    show acc ++ (F i :: List.map (fun j => F (i + 1 + j)) (List.range k)) = _
    congr 2
    apply List.map_congr_left
    intro j _
    show F (i + 1 + j) = F (i + (j + 1))
    congr 1
    omega
theorem comp_map (F : Nat → D) {st : Sto} {k : Nat} (h : ∀ j acc, j < k → acc.length < k → ∃ d, sv.item st j = some d ∧ turnB cf elt tg cs own ρ d acc st = .ok (acc ++ [F j]) st) (he : sv.ends st k = true) :
    compB cf elt tg cs own ρ sv k st = .ok (.tl ((List.range k).map F)) st := by
  unfold compB
  rw [turns_map F (i := 0) (acc := []) (fun j acc _ h2 h3 => h j acc (by omega) (by omega)) (Nat.le_refl _) (by simpa using he)]
  simp
/-- .. with a test -/
theorem turns_filter (P : Nat → Bool) (F : Nat → D) {st : Sto} {body : D → List D → Sto → Out (List D)} : ∀ {k i : Nat} {acc : List D}, (∀ j acc, i ≤ j → j < i + k → acc.length < i + k → ∃ d, sv.item st j = some d ∧ body d acc st = .ok (if P j then acc ++ [F j] else acc) st) → acc.length ≤ i → sv.ends st (i + k) = true →
    turns sv body k i acc st = .ok (acc ++ (((List.range k).map (i + ·)).filter P).map F) st
  | 0, i, acc, _, _, he => by
    rw [turns, if_pos (show sv.ends st i = true from he)]
    simp
  | k + 1, i, acc, hs, hl, he => by
    obtain ⟨d, e1, e2⟩ := hs i acc (Nat.le_refl _) (by omega) (by omega)
    have e : i + (k + 1) = i + 1 + k := by omega
    have ih := fun acc' hl' => turns_filter P F (st := st) (body := body) (k := k) (i := i + 1) (acc := acc') (fun j acc h1 h2 h3 => hs j acc (by omega) (by omega) (by omega)) hl' (by rw [← e]; exact he)
    rw [turns, e1]
    show (body d acc st).bind _ = _
    rw [e2]
    show turns sv body k (i + 1) (if P i then acc ++ [F i] else acc) st = _
    have er : (List.range (k + 1)).map (i + ·) = i :: (List.range k).map (i + 1 + ·) := by
      rw [List.range_succ_eq_map, List.map_cons, List.map_map]
      congr 1
      apply List.map_congr_left
      intro j _
      show i + (j + 1) = i + 1 + j
      omega
    rw [er, List.filter_cons]
    cases P i with
    | true =>
      rw [if_pos rfl, if_pos rfl, ih _ (by simp; omega), List.map_cons, List.append_assoc]
      rfl
    | false =>
      rw [if_neg Bool.false_ne_true, if_neg Bool.false_ne_true, ih _ (by omega)]
theorem comp_filter (P : Nat → Bool) (F : Nat → D) {st : Sto} {k : Nat} (h : ∀ j acc, j < k → acc.length < k → ∃ d, sv.item st j = some d ∧ turnB cf elt tg cs own ρ d acc st = .ok (if P j then acc ++ [F j] else acc) st) (he : sv.ends st k = true) :
    compB cf elt tg cs own ρ sv k st = .ok (.tl (((List.range k).filter P).map F)) st := by
  unfold compB
  rw [turns_filter P F (i := 0) (acc := []) (fun j acc _ h2 h3 => h j acc (by omega) (by omega)) (Nat.le_refl _) (by simpa using he)]
  simp
end
@[simp] theorem item_rng (lo c : Int) (st : Sto) (i : Nat) : Sv.item (.rng lo c) st i = some (.int (lo + i * c)) := (rfl)
@[simp] theorem item_fix (xs : List D) (st : Sto) (i : Nat) : Sv.item (.fix xs) st i = xs[i]? := (rfl)
theorem item_cell {n : Nat} {st : Sto} {xs : List D} (h : st[n]? = some (.lst xs)) (i : Nat) : Sv.item (.cell n) st i = xs[i]? := by
  simp [Sv.item, lstOf, h]
@[simp] theorem ends_rng (lo c : Int) (st : Sto) (n : Nat) : Sv.ends (.rng lo c) st n = true := (rfl)
@[simp] theorem ends_fix (xs : List D) (st : Sto) (n : Nat) : Sv.ends (.fix xs) st n = (xs.length == n) := (rfl)
theorem ends_cell {n : Nat} {st : Sto} {xs : List D} (h : st[n]? = some (.lst xs)) (i : Nat) : Sv.ends (.cell n) st i = (xs.length == i) := by
  simp [Sv.ends, lstOf, h]
theorem small_acc {acc : List D} {k : Nat} (h : acc.length < k) (hk : k ≤ 16777216) : acc.length < sizeLine := Nat.lt_of_lt_of_le h hk
/-- a for over a range from 0: R: the slots ahead of turn j, w: what no one reads -/
theorem for_rng {cf : Cf} {t : Tg} {b : List S} {J : Type} (R : Nat → J → Rho) {st : Sto} {k : Nat} {ρ : Rho} (w0 : J) (h0 : ρ = R 0 w0)
    (hs : ∀ j w, j < k → ∃ w', kBody cf b (evTg cf t (.int (j : Int)) (R j w) st) = .ok (.nx, R (j + 1) w') st) : ∃ w, forB cf t b (.rng 0 1) k 0 ρ st = .ok (.nx, R k w) st := by
  obtain ⟨ρ', st', h1, w, h2, h3⟩ := for_inv (cf := cf) (t := t) (b := b) (sv := .rng 0 1) (k := k) (i := 0) (ρ := ρ) (st := st) (fun i ρ s => ∃ w, ρ = R i w ∧ s = st) ⟨w0, h0, rfl⟩
    (fun j ρ s _ hj ⟨w, hρ, hs'⟩ => by
      subst hρ hs'
      obtain ⟨w', e⟩ := hs j w (by omega)
      refine ⟨_, _, _, rfl, .inl ?_, ⟨w', rfl, rfl⟩⟩
      have : (0 : Int) + (j : Int) * 1 = j := by omega
      rw [this]
      exact e) (fun _ _ _ => rfl)
  subst h2 h3
  rw [Nat.zero_add] at h1
  exact ⟨w, h1⟩
/-- .. the store too -/
theorem for_rngS {cf : Cf} {t : Tg} {b : List S} {J : Type} (R : Nat → J → Rho) (St : Nat → Sto) {k : Nat} {ρ : Rho} {st : Sto} (w0 : J) (h0 : ρ = R 0 w0) (h1 : st = St 0)
    (hs : ∀ j w, j < k → ∃ w', kBody cf b (evTg cf t (.int (j : Int)) (R j w) (St j)) = .ok (.nx, R (j + 1) w') (St (j + 1))) : ∃ w, forB cf t b (.rng 0 1) k 0 ρ st = .ok (.nx, R k w) (St k) := by
  obtain ⟨ρ', st', h1, w, h2, h3⟩ := for_inv (cf := cf) (t := t) (b := b) (sv := .rng 0 1) (k := k) (i := 0) (ρ := ρ) (st := st) (fun i ρ s => ∃ w, ρ = R i w ∧ s = St i) ⟨w0, h0, h1⟩
    (fun j ρ s _ hj ⟨w, hρ, hs'⟩ => by
      subst hρ hs'
      obtain ⟨w', e⟩ := hs j w (by omega)
      refine ⟨_, _, _, rfl, .inl ?_, ⟨w', rfl, rfl⟩⟩
      have : (0 : Int) + (j : Int) * 1 = j := by omega
      rw [this]
      exact e) (fun _ _ _ => rfl)
  subst h2 h3
  rw [Nat.zero_add] at h1
  exact ⟨w, h1⟩
/-- [.. for j in range(k)] -/
theorem comp_rng {cf : Cf} {elt : E} {tg : Tg} {cs : List E} {own : List Nat} {ρ : Rho} (F : Nat → D) {st : Sto} {k : Nat} (h : ∀ j acc, j < k → acc.length < k → turnB cf elt tg cs own ρ (.int (j : Int)) acc st = .ok (acc ++ [F j]) st) :
    compB cf elt tg cs own ρ (.rng 0 1) k st = .ok (.tl ((List.range k).map F)) st :=
  comp_map F (fun j acc h1 h2 => ⟨_, rfl, by
    have : (0 : Int) + (j : Int) * 1 = j := by omega
    rw [this]
    exact h j acc h1 h2⟩) rfl
theorem rngN {n : Nat} (h : n < 2 ^ 60) : rngOf [.int (n : Int)] = some (.rng 0 1, n) := by
  rw [rng1 (by omega) (by omega)]
  simp
theorem rngN1 {n : Nat} (h : n < 2 ^ 60) : rngOf [.int ((n : Int) + 1)] = some (.rng 0 1, n + 1) := by
  have := rngN (n := n + 1)
  rw [rng1 (by omega) (by omega)]
  congr 2
end Mn
/-! Wk1: what expressions give, over typed values. -/
namespace Wk
open Mn PySem
instance : Inhabited D := ⟨.non⟩
/-! ### tests -/
theorem a1 {a b : Bool} (h : (a && b) = true) : a = true := by cases a <;> simp_all
theorem a2 {a b : Bool} (h : (a && b) = true) : b = true := by cases a <;> simp_all
def imp (a b : Bool) : Bool := !a || b
theorem i1 {a b : Bool} (h : imp a b = true) (k : a = true) : b = true := by cases a <;> simp_all [imp]
theorem i0 {a b : Bool} (h : imp (!a) b = true) (k : a = false) : b = true := by cases a <;> simp_all [imp]
theorem c1 {c a b : Bool} (h : (bif c then a else b) = true) (k : c = true) : a = true := by cases c <;> simp_all
theorem c0 {c a b : Bool} (h : (bif c then a else b) = true) (k : c = false) : b = true := by cases c <;> simp_all
def b2i (b : Bool) : Int := bif b then 1 else 0
/-! ### typed values as values -/
section
variable {α β γ δ ε ζ : Type}
abbrev eI (a : Int) : D := .int a
abbrev eB (a : Bool) : D := .bl a
abbrev eS (a : List Nat) : D := .str a
abbrev eF (a : Nat) : D := .fn a
abbrev eU (_ : Unit) : D := .non
abbrev eD (d : D) : D := d
abbrev eT (e : α → D) (xs : List α) : D := .tup (xs.map e)
abbrev eL (e : α → D) (xs : List α) : D := .il (xs.map e)
abbrev eP1 (e1 : α → D) (p : α) : D := .tup [e1 p]
abbrev eP2 (e1 : α → D) (e2 : β → D) (p : α × β) : D := .tup [e1 p.1, e2 p.2]
abbrev eP3 (e1 : α → D) (e2 : β → D) (e3 : γ → D) (p : α × β × γ) : D := .tup [e1 p.1, e2 p.2.1, e3 p.2.2]
abbrev eP4 (e1 : α → D) (e2 : β → D) (e3 : γ → D) (e4 : δ → D) (p : α × β × γ × δ) : D := .tup [e1 p.1, e2 p.2.1, e3 p.2.2.1, e4 p.2.2.2]
abbrev eP5 (e1 : α → D) (e2 : β → D) (e3 : γ → D) (e4 : δ → D) (e5 : ε → D) (p : α × β × γ × δ × ε) : D := .tup [e1 p.1, e2 p.2.1, e3 p.2.2.1, e4 p.2.2.2.1, e5 p.2.2.2.2]
def eO (e : α → D) : Option α → D
  | none => .non
  | some a => e a
/-- not a list just made -/
class Nl (e : α → D) : Prop where
  nl : ∀ a, notl (e a) = true
/-- names no list of the store -/
class Bl (e : α → D) : Prop where
  bl : ∀ n a, below n (e a) = true
instance : Nl eI := ⟨fun _ => rfl⟩
instance : Nl eB := ⟨fun _ => rfl⟩
instance : Nl eS := ⟨fun _ => rfl⟩
instance : Nl eF := ⟨fun _ => rfl⟩
instance : Nl eU := ⟨fun _ => rfl⟩
instance {e : α → D} : Nl (eT e) := ⟨fun _ => rfl⟩
instance {e : α → D} : Nl (eL e) := ⟨fun _ => rfl⟩
instance {e1 : α → D} : Nl (eP1 e1) := ⟨fun _ => rfl⟩
instance {e1 : α → D} {e2 : β → D} : Nl (eP2 e1 e2) := ⟨fun _ => rfl⟩
instance {e1 : α → D} {e2 : β → D} {e3 : γ → D} : Nl (eP3 e1 e2 e3) := ⟨fun _ => rfl⟩
instance {e1 : α → D} {e2 : β → D} {e3 : γ → D} {e4 : δ → D} : Nl (eP4 e1 e2 e3 e4) := ⟨fun _ => rfl⟩
instance {e1 : α → D} {e2 : β → D} {e3 : γ → D} {e4 : δ → D} {e5 : ε → D} : Nl (eP5 e1 e2 e3 e4 e5) := ⟨fun _ => rfl⟩
instance {e : α → D} [h : Nl e] : Nl (eO e) := ⟨fun a => by cases a with
  | none => rfl
  | some a => exact h.nl a⟩
theorem belows_map {e : α → D} [h : Bl e] (n : Nat) : ∀ xs : List α, belows n (xs.map e) = true
  | [] => by simp [belows]
  | x :: xs => by simp [belows, h.bl n x, belows_map n xs]
instance : Bl eI := ⟨fun _ _ => by simp [below]⟩
instance : Bl eB := ⟨fun _ _ => by simp [below]⟩
instance : Bl eS := ⟨fun _ _ => by simp [below]⟩
instance : Bl eF := ⟨fun _ _ => by simp [below]⟩
instance : Bl eU := ⟨fun _ _ => by simp [below]⟩
instance {e : α → D} [Bl e] : Bl (eT e) := ⟨fun n a => by simp [below, belows_map]⟩
instance {e : α → D} [Bl e] : Bl (eL e) := ⟨fun n a => by simp [below, belows_map]⟩
instance {e1 : α → D} [h1 : Bl e1] : Bl (eP1 e1) := ⟨fun n a => by simp [below, belows, h1.bl]⟩
instance {e1 : α → D} {e2 : β → D} [h1 : Bl e1] [h2 : Bl e2] : Bl (eP2 e1 e2) := ⟨fun n a => by simp [below, belows, h1.bl, h2.bl]⟩
instance {e1 : α → D} {e2 : β → D} {e3 : γ → D} [h1 : Bl e1] [h2 : Bl e2] [h3 : Bl e3] : Bl (eP3 e1 e2 e3) := ⟨fun n a => by simp [below, belows, h1.bl, h2.bl, h3.bl]⟩
instance {e1 : α → D} {e2 : β → D} {e3 : γ → D} {e4 : δ → D} [h1 : Bl e1] [h2 : Bl e2] [h3 : Bl e3] [h4 : Bl e4] : Bl (eP4 e1 e2 e3 e4) := ⟨fun n a => by simp [below, belows, h1.bl, h2.bl, h3.bl, h4.bl]⟩
instance {e1 : α → D} {e2 : β → D} {e3 : γ → D} {e4 : δ → D} {e5 : ε → D} [h1 : Bl e1] [h2 : Bl e2] [h3 : Bl e3] [h4 : Bl e4] [h5 : Bl e5] : Bl (eP5 e1 e2 e3 e4 e5) := ⟨fun n a => by simp [below, belows, h1.bl, h2.bl, h3.bl, h4.bl, h5.bl]⟩
instance {e : α → D} [h : Bl e] : Bl (eO e) := ⟨fun n a => by cases a with
  | none => simp [eO, below]
  | some a => exact h.bl n a⟩
/-- == of values is == of what they stand for -/
class EqE (e : α → D) [BEq α] (n : outParam Nat) : Prop where
  pd : ∀ a, pd n (e a) = true
  eq : ∀ a b, eqP (e a) (e b) = (a == b)
instance : EqE eI 1 := ⟨fun _ => by simp [Mn.pd], fun _ _ => by simp [eqP]⟩
instance : EqE eB 1 := ⟨fun _ => by simp [Mn.pd], fun _ _ => by simp [eqP]⟩
theorem pds_map {e : α → D} {n : Nat} (h : ∀ a, pd n (e a) = true) : ∀ xs : List α, pds n (xs.map e) = true
  | [] => by simp [pds]
  | x :: xs => by simp [pds, h x, pds_map h xs]
theorem eqPs_map {e : α → D} [BEq α] (h : ∀ a b, eqP (e a) (e b) = (a == b)) : ∀ xs ys : List α, eqPs (xs.map e) (ys.map e) = (xs == ys)
  | [], [] => by simp [eqPs]
  | [], _ :: _ => by simp [eqPs]
  | _ :: _, [] => by simp [eqPs]
  | x :: xs, y :: ys => by simp [eqPs, h x y, eqPs_map h xs ys, List.cons_beq_cons]
theorem pd_up {n m : Nat} {d : D} (h : pd n d = true) (l : n ≤ m) : pd m d = true := by
  have : ∀ (k n : Nat), (∀ d, pd n d = true → pd (n + k) d = true) := by
    have up : ∀ (n : Nat) (d : D), (pd n d = true → pd (n + 1) d = true) := by
      intro n
      induction n with
      | zero => intro d h; simp [pd] at h
      | succ n ih =>
        have ups : ∀ ds : List D, pds n ds = true → pds (n + 1) ds = true := by
          intro ds
          induction ds with
          | nil => intro _; simp [pds]
          | cons d ds ih2 =>
            intro h
            simp only [pds, Bool.and_eq_true] at h ⊢
            exact ⟨ih d h.1, ih2 h.2⟩
        intro d h
        cases d with
        | tup xs => simp only [pd] at h ⊢; exact ups xs h
        | il xs => simp only [pd] at h ⊢; exact ups xs h
        | _ => simpa [pd] using h
    intro k
    induction k with
    | zero => intro n d h; exact h
    | succ k ih => intro n d h; exact up _ d (ih n d h)
  obtain ⟨k, rfl⟩ : ∃ k, m = n + k := ⟨m - n, by omega⟩
  exact this k n d h
instance {e : α → D} {n : Nat} [BEq α] [h : EqE e n] : EqE (eT e) (n + 1) := ⟨fun a => by simp only [Mn.pd]; exact pds_map h.pd a, fun a b => by simp only [eqP]; exact eqPs_map h.eq a b⟩
instance {e : α → D} {n : Nat} [BEq α] [h : EqE e n] : EqE (eL e) (n + 1) := ⟨fun a => by simp only [Mn.pd]; exact pds_map h.pd a, fun a b => by simp only [eqP]; exact eqPs_map h.eq a b⟩
instance {e1 : α → D} {n : Nat} [BEq α] [h1 : EqE e1 n] : EqE (eP1 e1) (n + 1) := ⟨fun a => by simp [Mn.pd, pds, h1.pd], fun a b => by simp [eqP, eqPs, h1.eq]⟩
instance {e1 : α → D} {e2 : β → D} {n m : Nat} [BEq α] [BEq β] [h1 : EqE e1 n] [h2 : EqE e2 m] : EqE (eP2 e1 e2) (n + m + 1) := ⟨fun a => by simp [Mn.pd, pds, pd_up (h1.pd a.1) (show n ≤ n + m by omega), pd_up (h2.pd a.2) (show m ≤ n + m by omega)], fun a b => by
  simp only [eqP, eqPs, h1.eq, h2.eq, Bool.and_true]
  rfl⟩
instance {e1 : α → D} {e2 : β → D} {e3 : γ → D} {n m k : Nat} [BEq α] [BEq β] [BEq γ] [h1 : EqE e1 n] [h2 : EqE e2 m] [h3 : EqE e3 k] : EqE (eP3 e1 e2 e3) (n + m + k + 1) := ⟨fun a => by simp [Mn.pd, pds, pd_up (h1.pd a.1) (show n ≤ n + m + k by omega), pd_up (h2.pd a.2.1) (show m ≤ n + m + k by omega), pd_up (h3.pd a.2.2) (show k ≤ n + m + k by omega)], fun a b => by
  simp only [eqP, eqPs, h1.eq, h2.eq, h3.eq, Bool.and_true]
  rfl⟩
instance {e1 : α → D} {e2 : β → D} {e3 : γ → D} {e4 : δ → D} {n m k l : Nat} [BEq α] [BEq β] [BEq γ] [BEq δ] [h1 : EqE e1 n] [h2 : EqE e2 m] [h3 : EqE e3 k] [h4 : EqE e4 l] : EqE (eP4 e1 e2 e3 e4) (n + m + k + l + 1) := ⟨fun a => by simp [Mn.pd, pds, pd_up (h1.pd a.1) (show n ≤ n + m + k + l by omega), pd_up (h2.pd a.2.1) (show m ≤ n + m + k + l by omega), pd_up (h3.pd a.2.2.1) (show k ≤ n + m + k + l by omega), pd_up (h4.pd a.2.2.2) (show l ≤ n + m + k + l by omega)], fun a b => by
  simp only [eqP, eqPs, h1.eq, h2.eq, h3.eq, h4.eq, Bool.and_true]
  rfl⟩
/-- not None -/
class Nn (e : α → D) : Prop where
  nn : ∀ a, isNon (e a) = false
instance : Nn eI := ⟨fun _ => rfl⟩
instance : Nn eB := ⟨fun _ => rfl⟩
instance : Nn eS := ⟨fun _ => rfl⟩
instance {e : α → D} : Nn (eT e) := ⟨fun _ => rfl⟩
instance {e : α → D} : Nn (eL e) := ⟨fun _ => rfl⟩
instance {e1 : α → D} {e2 : β → D} : Nn (eP2 e1 e2) := ⟨fun _ => rfl⟩
instance {e1 : α → D} {e2 : β → D} {e3 : γ → D} : Nn (eP3 e1 e2 e3) := ⟨fun _ => rfl⟩
instance {e1 : α → D} {e2 : β → D} {e3 : γ → D} {e4 : δ → D} : Nn (eP4 e1 e2 e3 e4) := ⟨fun _ => rfl⟩
instance {e1 : α → D} {e2 : β → D} {e3 : γ → D} {e4 : δ → D} {e5 : ε → D} : Nn (eP5 e1 e2 e3 e4 e5) := ⟨fun _ => rfl⟩
/-! ### back: from a value of any kind -/
class Un (e : α → D) where
  un : D → α
  is : D → Bool
  ok : ∀ d, is d = true → d = e (un d)
def unI : D → Int
  | .int i => i
  | _ => 0
def isI : D → Bool
  | .int _ => true
  | _ => false
instance : Un eI := ⟨unI, isI, fun d h => by cases d <;> first | rfl | cases h⟩
def unB : D → Bool
  | .bl i => i
  | _ => false
def isB : D → Bool
  | .bl _ => true
  | _ => false
instance : Un eB := ⟨unB, isB, fun d h => by cases d <;> first | rfl | cases h⟩
def unS : D → List Nat
  | .str i => i
  | _ => []
def isS : D → Bool
  | .str _ => true
  | _ => false
instance : Un eS := ⟨unS, isS, fun d h => by cases d <;> first | rfl | cases h⟩
instance : Un eD := ⟨id, fun _ => true, fun _ _ => rfl⟩
def unTs : D → List D
  | .tup xs => xs
  | _ => []
def isTs : D → Bool
  | .tup _ => true
  | _ => false
def unLs : D → List D
  | .il xs => xs
  | _ => []
def isLs : D → Bool
  | .il _ => true
  | _ => false
theorem un_map {e : α → D} [u : Un e] : ∀ {xs : List D}, xs.all (Un.is e) = true → (xs.map (Un.un e)).map e = xs
  | [], _ => rfl
  | x :: xs, h => by
    simp only [List.all_cons, Bool.and_eq_true] at h
    rw [List.map_cons, List.map_cons, un_map h.2, ← u.ok x h.1]
instance {e : α → D} [u : Un e] : Un (eT e) := ⟨fun d => (unTs d).map (Un.un e), fun d => isTs d && (unTs d).all (Un.is e), fun d h => by
  cases d with
  | tup xs => simp only [isTs, unTs, Bool.true_and] at h; simp only [unTs, eT, un_map h]
  | _ => cases h⟩
instance {e : α → D} [u : Un e] : Un (eL e) := ⟨fun d => (unLs d).map (Un.un e), fun d => isLs d && (unLs d).all (Un.is e), fun d h => by
  cases d with
  | il xs => simp only [isLs, unLs, Bool.true_and] at h; simp only [unLs, eL, un_map h]
  | _ => cases h⟩
instance {e1 : α → D} {e2 : β → D} [u1 : Un e1] [u2 : Un e2] : Un (eP2 e1 e2) := ⟨fun d => (Un.un e1 ((unTs d).getD 0 .non), Un.un e2 ((unTs d).getD 1 .non)), fun d => isTs d && Nat.beq (unTs d).length 2 && Un.is e1 ((unTs d).getD 0 .non) && Un.is e2 ((unTs d).getD 1 .non), fun d h => by
  cases d with
  | tup xs =>
    simp only [isTs, unTs, Bool.true_and, Bool.and_eq_true] at h
    obtain ⟨⟨h0, h1⟩, h2⟩ := h
    match xs, Nat.eq_of_beq_eq_true h0 with
    | [a, b], _ =>
      have k1 := u1.ok a h1
      have k2 := u2.ok b h2
      simp only [unTs, eP2, List.getD_cons_zero, List.getD_cons_succ, ← k1, ← k2]
  | _ => cases h⟩
instance {e1 : α → D} {e2 : β → D} {e3 : γ → D} [u1 : Un e1] [u2 : Un e2] [u3 : Un e3] : Un (eP3 e1 e2 e3) := ⟨fun d => (Un.un e1 ((unTs d).getD 0 .non), Un.un e2 ((unTs d).getD 1 .non), Un.un e3 ((unTs d).getD 2 .non)), fun d => isTs d && Nat.beq (unTs d).length 3 && Un.is e1 ((unTs d).getD 0 .non) && Un.is e2 ((unTs d).getD 1 .non) && Un.is e3 ((unTs d).getD 2 .non), fun d h => by
  cases d with
  | tup xs =>
    simp only [isTs, unTs, Bool.true_and, Bool.and_eq_true] at h
    obtain ⟨⟨⟨h0, h1⟩, h2⟩, h3⟩ := h
    match xs, Nat.eq_of_beq_eq_true h0 with
    | [a, b, c], _ =>
      have k1 := u1.ok a h1
      have k2 := u2.ok b h2
      have k3 := u3.ok c h3
      simp only [unTs, eP3, List.getD_cons_zero, List.getD_cons_succ, ← k1, ← k2, ← k3]
  | _ => cases h⟩
end
end Wk
/-! Wk2: expressions, one rule a construct. -/
namespace Wk
open Mn PySem
variable {cf : Cf} {ρ : Rho} {st st1 st2 st3 : Sto} {a b c : E} {es : List E} {d d1 d2 d3 : D} {ds : List D}
/-! ### what a run may need -/
def fitB (x y : Int) : Bool := Nat.ble (Builtin.Int.intBits x + Builtin.Int.intBits y) 134217728
def fdB (y : Int) : Bool := !decide (y = 0) && Nat.blt y.natAbs.log2 9000
def mdB (y : Int) : Bool := !decide (y = 0)
def szB (n : Nat) : Bool := Nat.ble n 16777216
theorem fitB_ok {x y : Int} (h : fitB x y = true) : fits x y := Nat.le_of_ble_eq_true h
theorem fdB_ok {y : Int} (h : fdB y = true) : y ≠ 0 ∧ y.natAbs.log2 < 9000 := by
  unfold fdB at h
  rw [Bool.and_eq_true] at h
  exact ⟨by simpa using h.1, Nat.blt_eq.mp h.2⟩
theorem mdB_ok {y : Int} (h : mdB y = true) : y ≠ 0 := by simpa [mdB] using h
theorem szB_ok {n : Nat} (h : szB n = true) : n ≤ sizeLine := Nat.le_of_ble_eq_true h
/-! ### names, constants, displays -/
theorem E_var {i : Nat} (h : ρ[i]? = some (some d)) : evE cf (.var i) ρ st = .ok d st := by rw [ev_var, h]
theorem E_cst : evE cf (.cst d) ρ st = .ok d st := ev_cst d
theorem E_frz (h : evE cf a ρ st = .ok d st1) : evE cf (.frz a) ρ st = .ok (frzD d) st1 := by rw [evE, h]; rfl
theorem Es_nil : evEs cf [] ρ st = .ok [] st := ev_nil
theorem Es_cons (h : evE cf a ρ st = .ok d st1) (k : evEs cf es ρ st1 = .ok ds st2) : evEs cf (a :: es) ρ st = .ok (d :: ds) st2 := by
  rw [ev_cons, h, kCons_ok, k, kCons2_ok]
theorem Es1 (h : evE cf a ρ st = .ok d st1) : evEs cf [a] ρ st = .ok [d] st1 := Es_cons h Es_nil
theorem Es2 (h : evE cf a ρ st = .ok d st1) (k : evE cf b ρ st1 = .ok d2 st2) : evEs cf [a, b] ρ st = .ok [d, d2] st2 := Es_cons h (Es1 k)
theorem ml0 : mats [] st = ([], st) := rfl
theorem mlc (h : notl d = true) (k : mats ds st = (ds, st)) : mats (d :: ds) st = (d :: ds, st) := by
  rw [mats_cons, mat_notl h, k]
theorem E_tup (h : evEs cf es ρ st = .ok ds st1) (k : mats ds st1 = (ds, st1)) : evE cf (.tupE es) ρ st = .ok (.tup ds) st1 := by
  rw [ev_tup, h, kTup_ok, k]
theorem E_lst (h : evEs cf es ρ st = .ok ds st1) (k : mats ds st1 = (ds, st1)) : evE cf (.lstE es) ρ st = .ok (.tl ds) st1 := by
  rw [ev_lst, h, kLst_ok, k]
/-! ### operations -/
theorem E_p1 {p : Pr} (h : evE cf a ρ st = .ok d st1) (k : semP p [d] st1 = some (d1, st2)) : evE cf (.prim p [a]) ρ st = .ok d1 st2 := by
  rw [ev_prim, Es1 h, kPrim_ok, k]
  rfl
theorem E_p2 {p : Pr} (h : evE cf a ρ st = .ok d st1) (h2 : evE cf b ρ st1 = .ok d2 st2) (k : semP p [d, d2] st2 = some (d3, st3)) : evE cf (.prim p [a, b]) ρ st = .ok d3 st3 := by
  rw [ev_prim, Es2 h h2, kPrim_ok, k]
  rfl
section
variable {x y : Int}
theorem E_add (h : evE cf a ρ st = .ok (.int x) st1) (k : evE cf b ρ st1 = .ok (.int y) st2) : evE cf (.prim .add [a, b]) ρ st = .ok (.int (x + y)) st2 := E_p2 h k sp_add
theorem E_sub (h : evE cf a ρ st = .ok (.int x) st1) (k : evE cf b ρ st1 = .ok (.int y) st2) : evE cf (.prim .sub [a, b]) ρ st = .ok (.int (x - y)) st2 := E_p2 h k sp_sub
theorem E_mul (o : fitB x y = true) (h : evE cf a ρ st = .ok (.int x) st1) (k : evE cf b ρ st1 = .ok (.int y) st2) : evE cf (.prim .mul [a, b]) ρ st = .ok (.int (x * y)) st2 := E_p2 h k (sp_mul (fitB_ok o))
theorem E_fdiv (o : fdB y = true) (h : evE cf a ρ st = .ok (.int x) st1) (k : evE cf b ρ st1 = .ok (.int y) st2) : evE cf (.prim .fdiv [a, b]) ρ st = .ok (.int (x.fdiv y)) st2 := E_p2 h k (sp_fdiv (fdB_ok o).1 (fdB_ok o).2)
theorem E_mod (o : mdB y = true) (h : evE cf a ρ st = .ok (.int x) st1) (k : evE cf b ρ st1 = .ok (.int y) st2) : evE cf (.prim .mod [a, b]) ρ st = .ok (.int (x.fmod y)) st2 := E_p2 h k (sp_mod (mdB_ok o))
theorem E_neg (h : evE cf a ρ st = .ok (.int x) st1) : evE cf (.prim .neg [a]) ρ st = .ok (.int (-x)) st1 := E_p1 h sp_neg
theorem E_abs (h : evE cf a ρ st = .ok (.int x) st1) : evE cf (.prim .abs [a]) ρ st = .ok (.int (x.natAbs : Int)) st1 := E_p1 h sp_abs
theorem E_toInt (h : evE cf a ρ st = .ok (.int x) st1) : evE cf (.prim .toInt [a]) ρ st = .ok (.int x) st1 := E_p1 h sp_toInt
theorem E_toIntB {t : Bool} (h : evE cf a ρ st = .ok (.bl t) st1) : evE cf (.prim .toInt [a]) ρ st = .ok (.int (b2i t)) st1 := E_p1 h (by rw [sp_toIntB]; cases t <;> rfl)
theorem E_lt (h : evE cf a ρ st = .ok (.int x) st1) (k : evE cf b ρ st1 = .ok (.int y) st2) : evE cf (.prim .lt [a, b]) ρ st = .ok (.bl (decide (x < y))) st2 := E_p2 h k sp_lt
theorem E_le (h : evE cf a ρ st = .ok (.int x) st1) (k : evE cf b ρ st1 = .ok (.int y) st2) : evE cf (.prim .le [a, b]) ρ st = .ok (.bl (decide (x ≤ y))) st2 := E_p2 h k sp_le
theorem E_gt (h : evE cf a ρ st = .ok (.int x) st1) (k : evE cf b ρ st1 = .ok (.int y) st2) : evE cf (.prim .gt [a, b]) ρ st = .ok (.bl (decide (x > y))) st2 := E_p2 h k sp_gt
theorem E_ge (h : evE cf a ρ st = .ok (.int x) st1) (k : evE cf b ρ st1 = .ok (.int y) st2) : evE cf (.prim .ge [a, b]) ρ st = .ok (.bl (decide (x ≥ y))) st2 := E_p2 h k sp_ge
theorem E_eqI (h : evE cf a ρ st = .ok (.int x) st1) (k : evE cf b ρ st1 = .ok (.int y) st2) : evE cf (.prim .eq [a, b]) ρ st = .ok (.bl (decide (x = y))) st2 := E_p2 h k sp_eqI
theorem E_neI (h : evE cf a ρ st = .ok (.int x) st1) (k : evE cf b ρ st1 = .ok (.int y) st2) : evE cf (.prim .ne [a, b]) ρ st = .ok (.bl (!decide (x = y))) st2 := E_p2 h k sp_neI
theorem E_max2 (h : evE cf a ρ st = .ok (.int x) st1) (k : evE cf b ρ st1 = .ok (.int y) st2) : evE cf (.prim .max2 [a, b]) ρ st = .ok (.int (max x y)) st2 := E_p2 h k (by
  rw [sp_max2]
  have : (if y > x then y else x) = max x y := by rw [Int.max_def]; split <;> split <;> omega
  rw [this])
theorem E_min2 (h : evE cf a ρ st = .ok (.int x) st1) (k : evE cf b ρ st1 = .ok (.int y) st2) : evE cf (.prim .min2 [a, b]) ρ st = .ok (.int (min x y)) st2 := E_p2 h k (by
  rw [sp_min2]
  have : (if y < x then y else x) = min x y := by rw [Int.min_def]; split <;> split <;> omega
  rw [this])
end
section
variable {α : Type} {e : α → D} {x y : α}
theorem E_eq [BEq α] {n : Nat} [h0 : EqE e n] (hn : n ≤ 16 := by decide) (h : evE cf a ρ st = .ok (e x) st1) (k : evE cf b ρ st1 = .ok (e y) st2) : evE cf (.prim .eq [a, b]) ρ st = .ok (.bl (x == y)) st2 := E_p2 h k (by
  rw [sp_eq (pd_up (h0.pd x) hn) (pd_up (h0.pd y) hn), h0.eq])
theorem E_ne [BEq α] {n : Nat} [h0 : EqE e n] (hn : n ≤ 16 := by decide) (h : evE cf a ρ st = .ok (e x) st1) (k : evE cf b ρ st1 = .ok (e y) st2) : evE cf (.prim .ne [a, b]) ρ st = .ok (.bl (!(x == y))) st2 := E_p2 h k (by
  rw [sp_ne (pd_up (h0.pd x) hn) (pd_up (h0.pd y) hn), h0.eq])
theorem E_eqD (o1 : pd 16 d1 = true) (o2 : pd 16 d2 = true) (h : evE cf a ρ st = .ok d1 st1) (k : evE cf b ρ st1 = .ok d2 st2) : evE cf (.prim .eq [a, b]) ρ st = .ok (.bl (eqP d1 d2)) st2 := E_p2 h k (sp_eq o1 o2)
theorem E_neD (o1 : pd 16 d1 = true) (o2 : pd 16 d2 = true) (h : evE cf a ρ st = .ok d1 st1) (k : evE cf b ρ st1 = .ok d2 st2) : evE cf (.prim .ne [a, b]) ρ st = .ok (.bl (!eqP d1 d2)) st2 := E_p2 h k (sp_ne o1 o2)
theorem E_isN [h0 : Nn e] {x : Option α} (h : evE cf a ρ st = .ok (eO e x) st1) : evE cf (.prim .isN [a, .cst .non]) ρ st = .ok (.bl x.isNone) st1 := E_p2 h E_cst (by
  rw [sp_isN]
  cases x with
  | none => rfl
  | some x => rw [show isNon (eO e (some x)) = false from h0.nn x]; rfl)
theorem E_notN [h0 : Nn e] {x : Option α} (h : evE cf a ρ st = .ok (eO e x) st1) : evE cf (.prim .notN [a, .cst .non]) ρ st = .ok (.bl x.isSome) st1 := E_p2 h E_cst (by
  rw [sp_notN]
  cases x with
  | none => rfl
  | some x => rw [show isNon (eO e (some x)) = false from h0.nn x]; rfl)
theorem E_isND (h : evE cf a ρ st = .ok d st1) : evE cf (.prim .isN [a, .cst .non]) ρ st = .ok (.bl (isNon d)) st1 := E_p2 h E_cst sp_isN
theorem E_notND (h : evE cf a ρ st = .ok d st1) : evE cf (.prim .notN [a, .cst .non]) ρ st = .ok (.bl (!isNon d)) st1 := E_p2 h E_cst sp_notN
/-- what is there, of what may be None -/
def getO [Inhabited α] : Option α → α
  | some a => a
  | none => default
theorem E_some [Inhabited α] {x : Option α} (o : x.isSome = true) (h : evE cf a ρ st = .ok (eO e x) st1) : evE cf a ρ st = .ok (e (getO x)) st1 := by
  rw [h]
  cases x with
  | none => cases o
  | some x => rfl
theorem E_un [u : Un e] (o : Un.is e d = true) (h : evE cf a ρ st = .ok d st1) : evE cf a ρ st = .ok (e (Un.un e d)) st1 := by
  rw [h, ← u.ok d o]
end
/-! ### sequences -/
section
variable {α β : Type} {e : α → D} {xs ys : List α} {i j : Int}
theorem sT : seqOf st (eT e xs) = some (xs.map e) := rfl
theorem sL : seqOf st (eL e xs) = some (xs.map e) := rfl
theorem sF : seqOf st (.tl (xs.map e)) = some (xs.map e) := rfl
theorem sR {k : Nat} (h : st[k]? = some (.lst (xs.map e))) : seqOf st (.lr k) = some (xs.map e) := by simp [seqOf, lstOf, h]
theorem lL : lstOf st (eL e xs) = some (xs.map e) := rfl
theorem lF : lstOf st (.tl (xs.map e)) = some (xs.map e) := rfl
theorem lR {k : Nat} (h : st[k]? = some (.lst (xs.map e))) : lstOf st (.lr k) = some (xs.map e) := by simp [lstOf, h]
theorem E_len (s : seqOf st1 d = some (xs.map e)) (h : evE cf a ρ st = .ok d st1) : evE cf (.prim .len [a]) ρ st = .ok (.int (xs.length : Int)) st1 := E_p1 h (by
  simp [semP, sem1, s])
def getI [Inhabited α] (xs : List α) (i : Int) : α := (L2.atI xs i).getD default
def ixB (xs : List α) (i : Int) : Bool := (L2.atI xs i).isSome
theorem atI_map {f : α → β} (xs : List α) (i : Int) : L2.atI (xs.map f) i = (L2.atI xs i).map f := by
  unfold L2.atI
  rw [List.length_map]
  cases L2.ixN xs.length i with
  | none => rfl
  | some k => simp
theorem E_ix [Inhabited α] (s : seqOf st2 d = some (xs.map e)) (o : ixB xs i = true) (h : evE cf a ρ st = .ok d st1) (k : evE cf b ρ st1 = .ok (.int i) st2) : evE cf (.prim .ix [a, b]) ρ st = .ok (e (getI xs i)) st2 := E_p2 h k (by
  unfold ixB at o
  cases z : L2.atI xs i with
  | none => rw [z] at o; cases o
  | some x => simp [semP, sem2, s, atI_map, z, getI])
theorem E_c0 (h : evE cf a ρ st = .ok (.tup (d :: ds)) st1) : evE cf (.prim .ix [a, .cst (.int 0)]) ρ st = .ok d st1 := E_p2 h E_cst (sp_ix0 _ _)
theorem E_c1 (h : evE cf a ρ st = .ok (.tup (d :: d1 :: ds)) st1) : evE cf (.prim .ix [a, .cst (.int 1)]) ρ st = .ok d1 st1 := E_p2 h E_cst (sp_ix1 _ _ _)
theorem E_c2 (h : evE cf a ρ st = .ok (.tup (d :: d1 :: d2 :: ds)) st1) : evE cf (.prim .ix [a, .cst (.int 2)]) ρ st = .ok d2 st1 := E_p2 h E_cst (sp_ix2 _ _ _ _)
theorem E_c3 (h : evE cf a ρ st = .ok (.tup (d :: d1 :: d2 :: d3 :: ds)) st1) : evE cf (.prim .ix [a, .cst (.int 3)]) ρ st = .ok d3 st1 := E_p2 h E_cst (sp_ix3 _ _ _ _ _)
theorem cut_map {f : α → β} (xs : List α) (lo hi : Option Int) : cut (xs.map f) lo hi = (cut xs lo hi).map f := by
  unfold cut
  rw [List.length_map, List.map_take, List.map_drop]
theorem E_sl00T (h : evE cf a ρ st = .ok (eT e xs) st1) : evE cf (.prim (.sl false false) [a]) ρ st = .ok (eT e (cut xs none none)) st1 := E_p1 h (by
  show semSl (eT e xs) none none st1 = _
  simp [semSl, cut_map])
theorem E_sl10T (h : evE cf a ρ st = .ok (eT e xs) st1) (k : evE cf b ρ st1 = .ok (.int i) st2) : evE cf (.prim (.sl true false) [a, b]) ρ st = .ok (eT e (cut xs (some i) none)) st2 := E_p2 h k (by
  show semSl (eT e xs) (some i) none st2 = _
  simp [semSl, cut_map])
theorem E_sl01T (h : evE cf a ρ st = .ok (eT e xs) st1) (k : evE cf b ρ st1 = .ok (.int i) st2) : evE cf (.prim (.sl false true) [a, b]) ρ st = .ok (eT e (cut xs none (some i))) st2 := E_p2 h k (by
  show semSl (eT e xs) none (some i) st2 = _
  simp [semSl, cut_map])
theorem E_sl11T (h : evE cf a ρ st = .ok (eT e xs) st1) (k : evE cf b ρ st1 = .ok (.int i) st2) (l : evE cf c ρ st2 = .ok (.int j) st3) : evE cf (.sl3 a b c) ρ st = .ok (eT e (cut xs (some i) (some j))) st3 := by
  rw [ev_sl3, h, kSlA_ok, k, kSlB_ok, l, kSlC_ok]
  simp [semSl, cut_map]
theorem semSl_l {lo hi : Option Int} (s : lstOf st d = some (xs.map e)) (n : ∀ ys, d ≠ .tup ys) : semSl d lo hi st = some (.tl ((cut xs lo hi).map e), st) := by
  unfold semSl
  split
  · exact absurd rfl (n _)
  · rw [s]
    simp [cut_map]
theorem E_sl10L (s : lstOf st2 d = some (xs.map e)) (n : isTup d = false) (h : evE cf a ρ st = .ok d st1) (k : evE cf b ρ st1 = .ok (.int i) st2) : evE cf (.prim (.sl true false) [a, b]) ρ st = .ok (.tl ((cut xs (some i) none).map e)) st2 := E_p2 h k (semSl_l s fun ys z => by rw [z] at n; cases n)
theorem E_sl01L (s : lstOf st2 d = some (xs.map e)) (n : isTup d = false) (h : evE cf a ρ st = .ok d st1) (k : evE cf b ρ st1 = .ok (.int i) st2) : evE cf (.prim (.sl false true) [a, b]) ρ st = .ok (.tl ((cut xs none (some i)).map e)) st2 := E_p2 h k (semSl_l s fun ys z => by rw [z] at n; cases n)
theorem E_sl11L (s : lstOf st3 d = some (xs.map e)) (n : isTup d = false) (h : evE cf a ρ st = .ok d st1) (k : evE cf b ρ st1 = .ok (.int i) st2) (l : evE cf c ρ st2 = .ok (.int j) st3) : evE cf (.sl3 a b c) ρ st = .ok (.tl ((cut xs (some i) (some j)).map e)) st3 := by
  rw [ev_sl3, h, kSlA_ok, k, kSlB_ok, l, kSlC_ok, semSl_l s fun ys z => by rw [z] at n; cases n]
  rfl
theorem E_addT (o : szB (xs.length + ys.length) = true) (h : evE cf a ρ st = .ok (eT e xs) st1) (k : evE cf b ρ st1 = .ok (eT e ys) st2) : evE cf (.prim .add [a, b]) ρ st = .ok (eT e (xs ++ ys)) st2 := E_p2 h k (by
  have := szB_ok o
  simp [semP, sem2, this])
theorem E_addL (o : szB (xs.length + ys.length) = true) (s1 : rdOf st2 d1 = some (xs.map e)) (s2 : rdOf st2 d2 = some (ys.map e)) (n : ∀ k, d2 ≠ .int k) (n1 : ∀ k, d1 ≠ .int k) (n2 : ∀ k, d1 ≠ .tup k) (h : evE cf a ρ st = .ok d1 st1) (k : evE cf b ρ st1 = .ok d2 st2) : evE cf (.prim .add [a, b]) ρ st = .ok (.tl ((xs ++ ys).map e)) st2 := E_p2 h k (by
  have := szB_ok o
  simp only [semP, sem2]
  split
  · exact absurd rfl (n1 _)
  · exact absurd rfl (n2 _)
  · exact absurd rfl (n2 _)
  · exact absurd rfl (n _)
  · simp [s1, s2, this])
theorem rL : rdOf st (eL e xs) = some (xs.map e) := rfl
theorem rF : rdOf st (.tl (xs.map e)) = some (xs.map e) := rfl
theorem rR {k : Nat} (h : st[k]? = some (.lst (xs.map e))) : rdOf st (.lr k) = some (xs.map e) := by simp [rdOf, mlOf, h]
def repL (k : Int) (xs : List α) : List α := (List.replicate k.toNat xs).flatten
def rpB (n : Nat) (k : Int) : Bool := decide (-(2 ^ 63) ≤ k) && decide (k < 2 ^ 63) && Nat.ble (n * k.toNat) 16777216
theorem repL_map {f : α → β} (k : Int) (xs : List α) : repL k (xs.map f) = (repL k xs).map f := by
  unfold repL
  rw [List.map_flatten, List.map_replicate]
theorem E_mulL (o : rpB xs.length i = true) (h : evE cf a ρ st = .ok (.tl (xs.map e)) st1) (k : evE cf b ρ st1 = .ok (.int i) st2) : evE cf (.prim .mul [a, b]) ρ st = .ok (.tl ((repL i xs).map e)) st2 := E_p2 h k (by
  unfold rpB at o
  simp only [Bool.and_eq_true, decide_eq_true_eq] at o
  have o2 : xs.length * i.toNat ≤ sizeLine := Nat.le_of_ble_eq_true o.2
  rw [← repL_map]
  simp only [semP, sem2, mlOf, List.length_map]
  rw [if_pos ⟨o.1.1, o.1.2, o2⟩]
  rfl)
theorem E_tuple (s : seqOf st1 d = some (xs.map e)) (h : evE cf a ρ st = .ok d st1) : evE cf (.prim .tuple [a]) ρ st = .ok (eT e xs) st1 := E_p1 h (by simp [semP, sem1, s])
theorem E_list (s : seqOf st1 d = some (xs.map e)) (h : evE cf a ρ st = .ok d st1) : evE cf (.prim .list [a]) ρ st = .ok (.tl (xs.map e)) st1 := E_p1 h (by simp [semP, sem1, s])
theorem E_revT (h : evE cf a ρ st = .ok (eT e xs) st1) : evE cf (.prim .rev [a]) ρ st = .ok (eT e xs.reverse) st1 := E_p1 h (by simp [semP, sem1])
theorem E_revL (s : lstOf st1 d = some (xs.map e)) (n : isTup d = false) (h : evE cf a ρ st = .ok d st1) : evE cf (.prim .rev [a]) ρ st = .ok (.tl (xs.reverse.map e)) st1 := E_p1 h (by
  cases d with
  | tup ys => cases n
  | _ => simp only [semP, sem1, s]; simp)
theorem E_all {f : α → Bool} {zs : List α} (s : lstOf st1 d = some ((zs.map f).map eB)) (h : evE cf a ρ st = .ok d st1) : evE cf (.prim .all [a]) ρ st = .ok (.bl (zs.all f)) st1 := E_p1 h (by
  have := allB_map (zs.map f)
  simp only [semP, sem1, s]
  rw [this]
  simp [List.all_map])
theorem E_any {f : α → Bool} {zs : List α} (s : lstOf st1 d = some ((zs.map f).map eB)) (h : evE cf a ρ st = .ok d st1) : evE cf (.prim .any [a]) ρ st = .ok (.bl (zs.any f)) st1 := E_p1 h (by
  have := allB_map (zs.map f)
  simp only [semP, sem1, s]
  rw [this]
  simp [List.any_map])
theorem E_sum {zs : List Int} (s : lstOf st1 d = some (zs.map eI)) (h : evE cf a ρ st = .ok d st1) : evE cf (.prim .sum [a]) ρ st = .ok (.int zs.sum) st1 := E_p1 h (by
  have := allI_map zs
  simp only [semP, sem1, s]
  rw [this])
def maxL : List Int → Int
  | [] => 0
  | x :: xs => maxI x xs
def minL : List Int → Int
  | [] => 0
  | x :: xs => minI x xs
def neB (xs : List Int) : Bool := !xs.isEmpty
theorem E_max {zs : List Int} (o : neB zs = true) (s : lstOf st1 d = some (zs.map eI)) (h : evE cf a ρ st = .ok d st1) : evE cf (.prim .max [a]) ρ st = .ok (.int (maxL zs)) st1 := E_p1 h (by
  have := allI_map zs
  cases zs with
  | nil => cases o
  | cons z zs =>
    simp only [semP, sem1, s]
    rw [this]
    rfl)
theorem E_min {zs : List Int} (o : neB zs = true) (s : lstOf st1 d = some (zs.map eI)) (h : evE cf a ρ st = .ok d st1) : evE cf (.prim .min [a]) ρ st = .ok (.int (minL zs)) st1 := E_p1 h (by
  have := allI_map zs
  cases zs with
  | nil => cases o
  | cons z zs =>
    simp only [semP, sem1, s]
    rw [this]
    rfl)
theorem E_inI {zs : List Int} {x : Int} (s : seqOf st2 d = some (zs.map eI)) (h : evE cf a ρ st = .ok (.int x) st1) (k : evE cf b ρ st1 = .ok d st2) : evE cf (.prim .isin [a, b]) ρ st = .ok (.bl (zs.any fun y => decide (y = x))) st2 := E_p2 h k (by
  have h1 : (zs.map eI).all flat = true := by simp [List.all_map, flat]
  have h2 : ((zs.map eI).any fun y => eqF y (.int x)) = zs.any fun y => decide (y = x) := by
    rw [List.any_map]
    congr 1
  simp only [semP, sem2, s, h1, h2]
  rfl)
theorem E_notinI {zs : List Int} {x : Int} (s : seqOf st2 d = some (zs.map eI)) (h : evE cf a ρ st = .ok (.int x) st1) (k : evE cf b ρ st1 = .ok d st2) : evE cf (.prim .notin [a, b]) ρ st = .ok (.bl (!zs.any fun y => decide (y = x))) st2 := E_p2 h k (by
  have h1 : (zs.map eI).all flat = true := by simp [List.all_map, flat]
  have h2 : ((zs.map eI).any fun y => eqF y (.int x)) = zs.any fun y => decide (y = x) := by
    rw [List.any_map]
    congr 1
  simp only [semP, sem2, s, h1, h2]
  rfl)
/-- the ints from lo, below hi -/
def rI (lo hi : Int) : List Int := (List.range (hi - lo).toNat).map fun i => lo + (i : Nat)
/-- .. from hi down, above lo -/
def rD (hi lo : Int) : List Int := (List.range (hi - lo).toNat).map fun i => hi - (i : Nat)
def rgB (lo hi : Int) : Bool := inR lo && inR hi
theorem rgD_eq (lo hi : Int) : rgD lo hi = (rI lo hi).map eI := by
  unfold rgD rI
  rw [List.map_map]
  rfl
theorem E_rgL1 (o : rgOk 0 j = true) (h : evE cf a ρ st = .ok (.int j) st1) : evE cf (.rngL false [a]) ρ st = .ok (.tl ((rI 0 j).map eI)) st1 := by
  rw [evE, Es1 h]
  show (match rgL false [.int j] with | some d => Out.ok d st1 | none => .no) = _
  simp only [rgL, o, if_true, rgD_eq]
  rfl
theorem E_rgT1 (o : rgOk 0 j = true) (h : evE cf a ρ st = .ok (.int j) st1) : evE cf (.rngL true [a]) ρ st = .ok (eT eI (rI 0 j)) st1 := by
  rw [evE, Es1 h]
  show (match rgL true [.int j] with | some d => Out.ok d st1 | none => .no) = _
  simp only [rgL, o, if_true, rgD_eq]
theorem E_rgL2 (o : rgOk i j = true) (h : evE cf a ρ st = .ok (.int i) st1) (k : evE cf b ρ st1 = .ok (.int j) st2) : evE cf (.rngL false [a, b]) ρ st = .ok (.tl ((rI i j).map eI)) st2 := by
  rw [evE, Es2 h k]
  show (match rgL false [.int i, .int j] with | some d => Out.ok d st2 | none => .no) = _
  simp only [rgL, o, if_true, rgD_eq]
  rfl
theorem E_rgT2 (o : rgOk i j = true) (h : evE cf a ρ st = .ok (.int i) st1) (k : evE cf b ρ st1 = .ok (.int j) st2) : evE cf (.rngL true [a, b]) ρ st = .ok (eT eI (rI i j)) st2 := by
  rw [evE, Es2 h k]
  show (match rgL true [.int i, .int j] with | some d => Out.ok d st2 | none => .no) = _
  simp only [rgL, o, if_true, rgD_eq]
end
/-! ### tests -/
theorem E_and {x y : Bool} (h : evE cf a ρ st = .ok (.bl x) st1) (k : x = true → evE cf b ρ st1 = .ok (.bl y) st1) : evE cf (.and a b) ρ st = .ok (.bl (x && y)) st1 := by
  rw [ev_and, h, kB_ok, kAnd_ok]
  cases x with
  | true => rw [if_pos rfl, k rfl]; rfl
  | false => rfl
theorem E_or {x y : Bool} (h : evE cf a ρ st = .ok (.bl x) st1) (k : x = false → evE cf b ρ st1 = .ok (.bl y) st1) : evE cf (.or a b) ρ st = .ok (.bl (x || y)) st1 := by
  rw [ev_or, h, kB_ok, kOr_ok]
  cases x with
  | true => rfl
  | false => rw [if_neg Bool.false_ne_true, k rfl]; rfl
theorem E_not {x : Bool} (h : evE cf a ρ st = .ok (.bl x) st1) : evE cf (.not a) ρ st = .ok (.bl (!x)) st1 := by
  rw [ev_not, h, kB_ok, kNot_ok]
theorem E_ite {α : Type} {e : α → D} {t : Bool} {x y : α} (h : evE cf c ρ st = .ok (.bl t) st1) (k : t = true → evE cf a ρ st1 = .ok (e x) st1) (l : t = false → evE cf b ρ st1 = .ok (e y) st1) : evE cf (.ite c a b) ρ st = .ok (e (bif t then x else y)) st1 := by
  rw [ev_ite, h, kB_ok, kIte_ok]
  cases t with
  | true => rw [if_pos rfl, k rfl]; rfl
  | false => rw [if_neg Bool.false_ne_true, l rfl]; rfl
theorem E_iteF {α : Type} {e : α → D} {t : Bool} {x y : List α} (h : evE cf c ρ st = .ok (.bl t) st1) (k : t = true → evE cf a ρ st1 = .ok (.tl (x.map e)) st1) (l : t = false → evE cf b ρ st1 = .ok (.tl (y.map e)) st1) : evE cf (.ite c a b) ρ st = .ok (.tl ((bif t then x else y).map e)) st1 := by
  rw [ev_ite, h, kB_ok, kIte_ok]
  cases t with
  | true => rw [if_pos rfl, k rfl]; rfl
  | false => rw [if_neg Bool.false_ne_true, l rfl]; rfl
theorem E_chain {p q : Pr} {x y z : Int} {t u : Bool} (hp : semI p x y = some (.bl t)) (hq : semP q [.int y, .int z] st2 = some (.bl u, st2)) (h : evE cf a ρ st = .ok (.int x) st1) (k : evE cf b ρ st1 = .ok (.int y) st2) (l : t = true → evE cf c ρ st2 = .ok (.int z) st2) : evE cf (.chain p q a b c) ρ st = .ok (.bl (t && u)) st2 := by
  rw [ev_chain, h, kChA_ok, k, kChB_ok _ _ _ _ _ t hp, kChC_eq]
  cases t with
  | true => rw [if_pos rfl, l rfl, kChD_ok, hq]; rfl
  | false => rfl
/-! ### types -/
def tyB (d : D) : Bool := (tyOf [] d).isSome
def isTy (ts : List Ty) (d : D) : Bool := match tyOf [] d with
  | some (some t) => ts.any (subTy t)
  | _ => false
theorem tyOf_nil {d : D} (h : (tyOf [] d).isSome = true) (st : Sto) : tyOf st d = tyOf [] d := by
  cases d with
  | lr n => simp [tyOf] at h
  | _ => rfl
theorem E_instD {ts : List Ty} (o : tyB d = true) (h : evE cf a ρ st = .ok d st1) : evE cf (.prim (.inst ts) [a]) ρ st = .ok (.bl (isTy ts d)) st1 := E_p1 h (by
  have := tyOf_nil o st1
  simp only [semP, sem1, this, isTy]
  unfold tyB at o
  cases z : tyOf [] d with
  | none => rw [z] at o; cases o
  | some t => cases t <;> rfl)
theorem E_inst {ts : List Ty} {t : Bool} (k : semP (.inst ts) [d] st1 = some (.bl t, st1)) (h : evE cf a ρ st = .ok d st1) : evE cf (.prim (.inst ts) [a]) ρ st = .ok (.bl t) st1 := E_p1 h k
/-! ### calls -/
theorem E_call {g : Nat} {R : Out D} (h : evEs cf es ρ st = .ok ds st1) (k : mats ds st1 = (ds, st1)) (r : cf.call g ds st1 = R) : evE cf (.call g es) ρ st = R := by
  rw [ev_call, h, kCall_ok, k, r]
theorem E_callv {i g : Nat} {R : Out D} (hi : ρ[i]? = some (some (.fn g))) (hg : Nat.blt g cf.nf = true) (h : evEs cf es ρ st = .ok ds st1) (k : mats ds st1 = (ds, st1)) (r : cf.call g ds st1 = R) : evE cf (.callv i es) ρ st = R := by
  rw [ev_callv, hi]
  show (if Nat.blt g cf.nf then kCall cf g (evEs cf es ρ st) else .no) = _
  rw [if_pos hg, h, kCall_ok, k, r]
theorem E_calle {f : E} {g : Nat} {R : Out D} (hf : evE cf f ρ st = .ok (.fn g) st1) (hg : Nat.blt g cf.nf = true) (h : evEs cf es ρ st1 = .ok ds st2) (k : mats ds st2 = (ds, st2)) (r : cf.call g ds st2 = R) : evE cf (.calle f es) ρ st = R := by
  rw [evE, hf]
  show (if Nat.blt g cf.nf then (evEs cf es ρ st1).bind fun ds st => cf.call g (mats ds st).1 (mats ds st).2 else .no) = _
  rw [if_pos hg, h]
  show cf.call g (mats ds st2).1 (mats ds st2).2 = _
  rw [k, r]
/-! ### comprehensions -/
/-- a walk over the values ys -/
structure IsW (sv : Sv) (n : Nat) (ys : List D) (st : Sto) : Prop where
  len : ys.length = n
  item : ∀ i, i < n → sv.item st i = ys[i]?
  ends : sv.ends st n = true
/-- a source: its values, at all stores of a kind -/
def SrcP (cf : Cf) (src : Src) (ρ : Rho) (st st1 : Sto) (ys : List D) (P : Sto → Prop) : Prop := ∃ sv n, evSrc cf src ρ st = .ok (sv, n) st1 ∧ ∀ st', P st' → IsW sv n ys st'
abbrev AnyS : Sto → Prop := fun _ => True
section
variable {α β : Type} {e : α → D} {e2 : β → D} {elt : E} {tg : Tg} {src : Src} {own : List Nat} {sv : Sv} {n : Nat} {xs : List α} {P0 : Sto → Prop}
theorem E_comp {f : α → β} {cf : Cf} (o : szB xs.length = true) (h : SrcP cf src ρ st st (xs.map e) P0) (hp : P0 st)
    (k : ∀ x ∈ xs, ∃ ρ', evTg cf tg (e x) (wipe ρ own) st = .ok ρ' st ∧ evE cf elt ρ' st = .ok (e2 (f x)) st) (nl : ∀ x ∈ xs, notl (e2 (f x)) = true) :
    evE cf (.comp elt tg src [] own) ρ st = .ok (.tl ((xs.map f).map e2)) st := by
  obtain ⟨sv, n, h, w⟩ := h
  have w := w st hp
  have hl : xs.length = n := by simpa using w.len
  rw [ev_comp, h, kComp_ok]
  by_cases hn : n = 0
  · subst hn
    have : xs = [] := List.eq_nil_of_length_eq_zero hl
    subst this
    have := comp_map (cf := cf) (elt := elt) (tg := tg) (cs := []) (own := own) (ρ := ρ) (sv := sv) (fun _ => D.non) (st := st) (k := 0) (fun j _ hj => absurd hj (Nat.not_lt_zero _)) w.ends
    simpa using this
  · obtain ⟨x0, hx0⟩ : ∃ x0, x0 ∈ xs := by
      cases xs with
      | nil => exact absurd hl.symm hn
      | cons x _ => exact ⟨x, by simp⟩
    have := comp_map (cf := cf) (elt := elt) (tg := tg) (cs := []) (own := own) (ρ := ρ) (sv := sv) (fun j => e2 (f (xs[j]?.getD x0))) (st := st) (k := n) (fun j acc hj ha => by
      have hj' : j < xs.length := by omega
      obtain ⟨ρ', k1, k2⟩ := k xs[j] (List.getElem_mem hj')
      refine ⟨e xs[j], by rw [w.item j hj]; simp [hj'], ?_⟩
      have hs : acc.length < sizeLine := Nat.lt_of_lt_of_le ha (by have := szB_ok o; omega)
      simp [turnB, k1, k2, hs, mat_notl (nl _ (List.getElem_mem hj')), hj']) w.ends
    rw [this]
    congr 2
    apply List.ext_getElem?
    intro j
    by_cases hj : j < n
    · have hj' : j < xs.length := by omega
      simp [hj, hj']
    · have hj' : ¬ j < xs.length := by omega
      simp [hj, hj']
theorem turns_filt {sv : Sv} {body : D → List D → Sto → Out (List D)} {e2 : β → D} (P : α → Bool) (f : α → β) : ∀ (k i : Nat) (zs : List α) (acc : List D), zs.length = k → (∀ j z, zs[j]? = some z → sv.item st (i + j) = some (e z)) → acc.length ≤ i →
    (∀ z ∈ zs, ∀ acc : List D, acc.length < i + k → body (e z) acc st = .ok (if P z then acc ++ [e2 (f z)] else acc) st) → sv.ends st (i + k) = true → turns sv body k i acc st = .ok (acc ++ ((zs.filter P).map f).map e2) st
  | 0, i, zs, acc, hl, _, _, _, he => by
    have : zs = [] := List.eq_nil_of_length_eq_zero hl
    subst this
    rw [turns, if_pos (show sv.ends st i = true from he)]
    simp
  | k + 1, i, [], acc, hl, _, _, _, _ => by simp at hl
  | k + 1, i, z :: zs, acc, hl, hi, ha, hb, he => by
    have e1 := hi 0 z rfl
    have e2' := hb z (by simp) acc (by omega)
    have ek : i + (k + 1) = i + 1 + k := by omega
    rw [turns, show sv.item st i = some (e z) from e1]
    show (body (e z) acc st).bind _ = _
    rw [e2']
    show turns sv body k (i + 1) (if P z then acc ++ [e2 (f z)] else acc) st = _
    rw [turns_filt P f k (i + 1) zs _ (by simpa using hl) (fun j y hj => by
      have := hi (j + 1) y (by simpa using hj)
      rw [show i + 1 + j = i + (j + 1) by omega]
      exact this) (by cases P z <;> simp <;> omega) (fun y hy acc h => hb y (List.mem_cons_of_mem _ hy) acc (by omega)) (by rw [← ek]; exact he)]
    cases hP : P z <;> simp [hP]
theorem E_compF {f : α → β} {P : α → Bool} {cnd : E} {cf : Cf} (o : szB xs.length = true) (h : SrcP cf src ρ st st (xs.map e) P0) (hp : P0 st)
    (k : ∀ x ∈ xs, ∃ ρ', evTg cf tg (e x) (wipe ρ own) st = .ok ρ' st ∧ evE cf cnd ρ' st = .ok (.bl (P x)) st ∧ (P x = true → evE cf elt ρ' st = .ok (e2 (f x)) st)) (nl : ∀ x ∈ xs, notl (e2 (f x)) = true) :
    evE cf (.comp elt tg src [cnd] own) ρ st = .ok (.tl (((xs.filter P).map f).map e2)) st := by
  obtain ⟨sv, n, h, w⟩ := h
  have w := w st hp
  have hl : xs.length = n := by simpa using w.len
  rw [ev_comp, h, kComp_ok]
  unfold compB
  rw [turns_filt (e := e) (e2 := e2) P f n 0 xs [] hl (fun j z hz => by
    have hj : j < xs.length := (List.getElem?_eq_some_iff.mp hz).1
    rw [Nat.zero_add, w.item j (by omega)]
    simp [hz]) (Nat.le_refl _) (fun z hz acc ha => by
    obtain ⟨ρ', k1, k2, k3⟩ := k z hz
    have hs : acc.length < sizeLine := Nat.lt_of_lt_of_le ha (by have := szB_ok o; omega)
    cases hP : P z with
    | true => simp [turnB, k1, k2, hP, k3 hP, hs, mat_notl (nl z hz)]
    | false => simp [turnB, k1, k2, hP]) (by rw [Nat.zero_add]; exact w.ends)]
  rfl
end
/-! ### what is walked -/
section
variable {α β : Type} {e : α → D} {e2 : β → D} {xs : List α} {ys : List β} {x y : Int} {P P1 P2 : Sto → Prop}
theorem W_fix (zs : List D) : IsW (.fix zs) zs.length zs st := ⟨rfl, fun i _ => rfl, by simp⟩
/-- a list or tuple as a source -/
def VP (st : Sto) (d : D) (ys : List D) (P : Sto → Prop) : Prop := ∃ sv, svOf st d = some (sv, ys.length) ∧ ∀ st', P st' → IsW sv ys.length ys st'
theorem v_T : VP st (eT e xs) (xs.map e) AnyS := ⟨.fix (xs.map e), by simp, fun _ _ => W_fix _⟩
theorem v_L : VP st (eL e xs) (xs.map e) AnyS := ⟨.fix (xs.map e), by simp [svOf], fun _ _ => W_fix _⟩
theorem v_F : VP st (.tl (xs.map e)) (xs.map e) AnyS := ⟨.fix (xs.map e), by simp [svOf], fun _ _ => W_fix _⟩
theorem v_K {ys : List D} : VP st (.kl ys) ys AnyS := ⟨.fix ys, by simp [svOf], fun _ _ => W_fix _⟩
theorem v_R {k : Nat} {ys : List D} (h : st[k]? = some (.lst ys)) : VP st (.lr k) ys (fun st => st[k]? = some (.lst ys)) := ⟨.cell k, by simp [svOf, lstOf, h], fun st' h' => ⟨rfl, fun i _ => item_cell h' i, by simp [ends_cell h']⟩⟩
theorem S_seq {ys : List D} (v : VP st1 d ys P) (h : evE cf a ρ st = .ok d st1) : SrcP cf (.ex a) ρ st st1 ys P := by
  obtain ⟨sv, v, w⟩ := v
  refine ⟨sv, ys.length, ?_, w⟩
  rw [ev_sex, h]
  exact kSvA_ok _ _ v
theorem rI_get (lo hi : Int) (i : Nat) (h : i < (hi - lo).toNat) : ((rI lo hi).map eI)[i]? = some (.int (lo + i)) := by
  simp [rI, h]
theorem rI_len (lo hi : Int) : (rI lo hi).length = (hi - lo).toNat := by simp [rI]
theorem W_rng {lo hi : Int} {n : Nat} (hn : (hi - lo).toNat = n) : IsW (.rng lo 1) n ((rI lo hi).map eI) st := ⟨by simp [rI_len, hn], fun i h => by
  rw [item_rng, rI_get lo hi i (by omega)]
  congr 3
  omega, rfl⟩
theorem S_rng1 (o : rgB 0 y = true) (h : evE cf a ρ st = .ok (.int y) st1) : SrcP cf (.rng [a]) ρ st st1 ((rI 0 y).map eI) AnyS := by
  unfold rgB at o
  rw [Bool.and_eq_true] at o
  refine ⟨.rng 0 1, y.toNat, ?_, fun _ _ => W_rng (by simp)⟩
  rw [ev_srng, Es1 h]
  exact kSvR_ok _ _ (by simp only [rngOf, o.2, if_true])
theorem S_rng2 (o : rgB x y = true) (h : evE cf a ρ st = .ok (.int x) st1) (k : evE cf b ρ st1 = .ok (.int y) st2) : SrcP cf (.rng [a, b]) ρ st st2 ((rI x y).map eI) AnyS := by
  unfold rgB at o
  rw [Bool.and_eq_true] at o
  refine ⟨.rng x 1, (y - x).toNat, ?_, fun _ _ => W_rng rfl⟩
  rw [ev_srng, Es2 h k]
  exact kSvR_ok _ _ (by simp only [rngOf, o.1, o.2, Bool.and_self, if_true])
theorem S_rngD (o : rgB x y = true) (h : evE cf a ρ st = .ok (.int x) st1) (k : evE cf b ρ st1 = .ok (.int y) st2) (l : evE cf c ρ st2 = .ok (.int (-1)) st3) : SrcP cf (.rng [a, b, c]) ρ st st3 ((rD x y).map eI) AnyS := by
  unfold rgB at o
  rw [Bool.and_eq_true] at o
  refine ⟨.rng x (-1), (x - y).toNat, ?_, fun _ _ => ⟨by simp [rD], fun i h => ?_, rfl⟩⟩
  · rw [ev_srng, Es_cons h (Es2 k l)]
    refine kSvR_ok _ _ ?_
    simp [rngOf, o.1, o.2]
  · rw [item_rng]
    simp only [rD, List.map_map, List.getElem?_map]
    rw [List.getElem?_range h]
    simp
    omega
/-- with their places -/
def enumI (xs : List α) : List (Int × α) := (List.range xs.length).zip xs |>.map fun p => ((p.1 : Int), p.2)
theorem enumI_get (xs : List α) (i : Nat) (x : α) (h : xs[i]? = some x) : (enumI xs)[i]? = some ((i : Int), x) := by
  have hi := (List.getElem?_eq_some_iff.mp h).1
  simp [enumI, List.getElem?_zip_eq_some, hi]
  exact (List.getElem?_eq_some_iff.mp h).2
theorem enumI_len (xs : List α) : (enumI xs).length = xs.length := by simp [enumI]
theorem W_enu {sv : Sv} {n : Nat} (w : IsW sv n (xs.map e) st) : IsW (.enu sv) n ((enumI xs).map (eP2 eI e)) st := by
  have hl : xs.length = n := by simpa using w.len
  refine ⟨by simp [enumI_len, hl], fun i h => ?_, w.ends⟩
  have hx : xs[i]? = some xs[i] := List.getElem?_eq_getElem (by omega)
  simp only [Sv.item]
  rw [w.item i h]
  simp [hx, enumI_get xs i _ hx]
theorem S_enu (v : VP st1 d (xs.map e) P) (h : evE cf a ρ st = .ok d st1) : SrcP cf (.enu a) ρ st st1 ((enumI xs).map (eP2 eI e)) P := by
  obtain ⟨sv, s1, w⟩ := v
  refine ⟨.enu sv, (xs.map e).length, ?_, fun st' hp => W_enu (w st' hp)⟩
  rw [ev_senu, h]
  exact kSvE_ok _ _ _ s1
theorem zip_get {xs : List α} {ys : List β} {i : Nat} {x : α} {y : β} (h : xs[i]? = some x) (k : ys[i]? = some y) : (xs.zip ys)[i]? = some (x, y) := by
  simp [List.getElem?_zip_eq_some, h, k]
theorem W_zip {s t : Sv} {n m : Nat} (w : IsW s n (xs.map e) st) (v : IsW t m (ys.map e2) st) : IsW (.zip s t) (min n m) ((xs.zip ys).map (eP2 e e2)) st := by
  have hl : xs.length = n := by simpa using w.len
  have hm : ys.length = m := by simpa using v.len
  refine ⟨by simp [hl, hm], fun i h => ?_, ?_⟩
  · have hx : xs[i]? = some xs[i] := List.getElem?_eq_getElem (by omega)
    have hy : ys[i]? = some ys[i] := List.getElem?_eq_getElem (by omega)
    simp only [Sv.item]
    rw [w.item i (by omega), v.item i (by omega)]
    simp only [List.getElem?_map, hx, hy, zip_get hx hy]
    rfl
  · simp only [Sv.ends, Bool.or_eq_true]
    rcases Nat.le_total n m with z | z
    · left; rw [Nat.min_eq_left z]; exact w.ends
    · right; rw [Nat.min_eq_right z]; exact v.ends
theorem S_zip {d e' : D} (v1 : VP st2 d (xs.map e) P1) (v2 : VP st2 e' (ys.map e2) P2) (n : isTup d = isTup e') (h : evE cf a ρ st = .ok d st1) (k : evE cf b ρ st1 = .ok e' st2) :
    SrcP cf (.zip a b) ρ st st2 ((xs.zip ys).map (eP2 e e2)) (fun st => P1 st ∧ P2 st) := by
  obtain ⟨sv, s1, w⟩ := v1
  obtain ⟨tv, t1, v⟩ := v2
  refine ⟨.zip sv tv, min (xs.map e).length (ys.map e2).length, ?_, fun st' hp => W_zip (w st' hp.1) (v st' hp.2)⟩
  rw [ev_szip, h, kSvZ_ok, k]
  exact kSvZ2_ok _ _ _ _ _ _ s1 t1 n
end
/-! ### targets -/
theorem T_nm {i : Nat} (n : notl d = true) : evTg cf (.nm i) d ρ st = .ok (ρ.set i (some d)) st := by rw [ev_nm, mat_notl n]
theorem Ts_nil : evTgs cf [] ds ρ st = .ok ρ st := ev_tgs0 ds
theorem Ts_cons {t : Tg} {ts : List Tg} {ρ1 ρ2 : Rho} (h : evTg cf t d ρ st = .ok ρ1 st1) (k : evTgs cf ts ds ρ1 st1 = .ok ρ2 st2) : evTgs cf (t :: ts) (d :: ds) ρ st = .ok ρ2 st2 := by
  rw [ev_tgs1, h, kTgs_ok, k]
theorem T_tp {ts : List Tg} {ρ1 : Rho} (s : seqOf st d = some ds) (l : ds.length = ts.length) (h : evTgs cf ts ds ρ st = .ok ρ1 st1) : evTg cf (.tp ts) d ρ st = .ok ρ1 st1 := by
  rw [ev_tp, s]
  show (if ds.length = ts.length then evTgs cf ts ds ρ st else .no) = _
  rw [if_pos l, h]
theorem T_sb {o i : E} {k j : Nat} {z : Int} {xs : List D} (n : notl d = true) (ho : evE cf o ρ st = .ok (.lr k) st) (hi : evE cf i ρ st = .ok (.int z) st) (hk : st[k]? = some (.lst xs)) (hj : L2.ixN xs.length z = some j) : evTg cf (.sb o i) d ρ st = .ok ρ (st.set k (.lst (xs.set j d))) := by
  rw [ev_sb, ho, kSbA_ok, hi, kSbB_ok]
  have : setD (.lr k) (.int z) d st = some (st.set k (.lst (xs.set j d))) := by simp [setD, hk, hj, mat_notl n]
  rw [this]
  rfl
end Wk
/-! Wk3: statements, loops, calls. -/
namespace Wk
open Mn PySem
variable {cf : Cf} {ρ ρ1 : Rho} {st st1 st2 st3 : Sto} {a b c : E} {es : List E} {d d1 d2 d3 : D} {ds : List D}
abbrev Kt := Fl → Rho → Sto → Prop
abbrev Et := Nat → List D → Sto → Prop
def Holds (x : Out (Fl × Rho)) (Q : Kt) (E : Et) : Prop := match x with
  | .ok (fl, ρ) st => Q fl ρ st
  | .ex c p st => E c p st
  | .no => False
/-- statements from here: what follows them -/
def HS (cf : Cf) (ss : List S) (ρ : Rho) (st : Sto) (Q : Kt) (E : Et) : Prop := Holds (exSs cf ss ρ st) Q E
/-- a def's end -/
def QF (n : Nat) (R : Out D) : Kt := fun fl ρ st => fin n (.ok (fl, ρ) st) = R
def EF (n : Nat) (R : Out D) : Et := fun c p st => fin n (.ex c p st) = R
section
variable {ss x y : List S} {Q : Kt} {E : Et}
theorem holds_seq {x : Out (Fl × Rho)} {s : List S} (h : Holds x (fun fl ρ st => match fl with
    | .nx => HS cf s ρ st Q E
    | fl => Q fl ρ st) E) : Holds (kSeq cf s x) Q E := by
  cases x with
  | ok p st =>
    obtain ⟨fl, ρ⟩ := p
    cases fl <;> exact h
  | ex c p st => exact h
  | no => exact h.elim
theorem HS_nil (h : Q .nx ρ st) : HS cf [] ρ st Q E := by
  unfold HS
  rw [ex_nil]
  exact h
theorem HS_app : ∀ {x : List S} {ρ : Rho} {st : Sto}, HS cf (x ++ ss) ρ st Q E → Holds (kSeq cf ss (exSs cf x ρ st)) Q E
  | [], ρ, st, h => by rw [ex_nil]; exact h
  | s :: x, ρ, st, h => by
    have h' : Holds (kSeq cf (x ++ ss) (exS cf s ρ st)) Q E := by
      have := h
      unfold HS at this
      rw [List.cons_append, ex_cons] at this
      exact this
    rw [ex_cons]
    cases z : exS cf s ρ st with
    | ok p st1 =>
      rw [z] at h'
      obtain ⟨fl, ρ1⟩ := p
      cases fl with
      | nx => exact HS_app (x := x) h'
      | brk => exact h'
      | cnt => exact h'
      | ret d => exact h'
    | ex c p st1 => rw [z] at h'; exact h'
    | no => rw [z] at h'; exact h'.elim
theorem HS_ret (h : evE cf a ρ st = .ok d st1) (q : Q (.ret d) ρ st1) : HS cf (.ret a :: ss) ρ st Q E := by
  unfold HS
  rw [ex_cons, ex_ret, h]
  exact q
theorem HS_retX {n : Nat} {p : List D} (h : evE cf a ρ st = .ex n p st1) (q : E n p st1) : HS cf (.ret a :: ss) ρ st Q E := by
  unfold HS
  rw [ex_cons, ex_ret, h]
  exact q
theorem HS_ret0 (q : Q (.ret .non) ρ st) : HS cf (.ret0 :: ss) ρ st Q E := by
  unfold HS
  rw [ex_cons, ex_ret0]
  exact q
theorem HS_pas (h : HS cf ss ρ st Q E) : HS cf (.pas :: ss) ρ st Q E := by
  unfold HS
  rw [ex_cons, ex_pas]
  exact h
theorem HS_brk (q : Q .brk ρ st) : HS cf (.brk :: ss) ρ st Q E := by
  unfold HS
  rw [ex_cons, ex_brk]
  exact q
theorem HS_cnt (q : Q .cnt ρ st) : HS cf (.cnt :: ss) ρ st Q E := by
  unfold HS
  rw [ex_cons, ex_cnt]
  exact q
theorem HS_ex (h : evE cf a ρ st = .ok d st1) (k : HS cf ss ρ st1 Q E) : HS cf (.ex a :: ss) ρ st Q E := by
  unfold HS
  rw [ex_cons, ex_ex, h]
  exact k
theorem HS_exX {n : Nat} {p : List D} (h : evE cf a ρ st = .ex n p st1) (k : E n p st1) : HS cf (.ex a :: ss) ρ st Q E := by
  unfold HS
  rw [ex_cons, ex_ex, h]
  exact k
theorem HS_asg {t : Tg} (h : evE cf a ρ st = .ok d st1) (g : evTg cf t d ρ st1 = .ok ρ1 st2) (k : HS cf ss ρ1 st2 Q E) : HS cf (.asg t a :: ss) ρ st Q E := by
  unfold HS
  rw [ex_cons, ex_asg, h, kAsg_ok, g]
  exact k
theorem HS_asgX {t : Tg} {n : Nat} {p : List D} (h : evE cf a ρ st = .ex n p st1) (k : E n p st1) : HS cf (.asg t a :: ss) ρ st Q E := by
  unfold HS
  rw [ex_cons, ex_asg, h]
  exact k
/-- a list just made goes to a name whose list will change -/
theorem HS_new {i : Nat} (h : evE cf a ρ st = .ok (.tl ds) st1) (k : HS cf ss (ρ.set i (some (.lr st1.length))) (st1 ++ [.lst ds]) Q E) : HS cf (.asg (.nm i) a :: ss) ρ st Q E :=
  HS_asg h (by rw [ev_nm]; rfl) k
theorem HS_aug {i : Nat} {p : Pr} {x y : Int} (hi : ρ[i]? = some (some (.int x))) (h : evE cf a ρ st = .ok (.int y) st1) (r : semI p x y = some d) (k : HS cf ss (ρ.set i (some d)) st1 Q E) : HS cf (.aug i p a :: ss) ρ st Q E := by
  unfold HS
  rw [ex_cons, ex_aug, hi]
  show Holds (kSeq cf ss (kAug i p ρ (.int x) (evE cf a ρ st))) Q E
  rw [h, kAug_ok _ _ _ _ _ r]
  exact k
theorem sI_fdiv {x y : Int} (o : fdB y = true) : semI .fdiv x y = some (.int (x.fdiv y)) := by
  have := fdB_ok o
  simp only [semI]
  rw [if_pos this]
theorem sI_mulB {x y : Int} (o : fitB x y = true) : semI .mul x y = some (.int (x * y)) := sI_mul (fitB_ok o)
theorem HS_augSet {o i : Mn.E} {p : Pr} {n j : Nat} {z x y : Int} {d : D} {xs : List D} (ho : evE cf o ρ st = .ok (.lr n) st) (hi : evE cf i ρ st = .ok (.int z) st) (hn : st[n]? = some (.lst xs)) (hj : L2.ixN xs.length z = some j) (hx : xs[j]? = some (.int x)) (h : evE cf a ρ st = .ok (.int y) st)
    (r : semI p x y = some d) (nd : notl d = true) (k : HS cf ss ρ (st.set n (.lst (xs.set j d))) Q E) : HS cf (.augS o i p a :: ss) ρ st Q E := by
  have e1 : sem2 .ix (.lr n) (.int z) st = some (.int x, st) := by
    have : L2.atI xs z = some (.int x) := by simp [L2.atI, hj, hx]
    simp [sem2, seqOf, lstOf, hn, this]
  have e2 : setD (.lr n) (.int z) d st = some (st.set n (.lst (xs.set j d))) := by simp [setD, hn, hj, mat_notl nd]
  unfold HS
  rw [ex_cons]
  have : exS cf (.augS o i p a) ρ st = .ok (.nx, ρ) (st.set n (.lst (xs.set j d))) := by
    rw [exS, ho]
    show ((evE cf i ρ st).bind fun k st => _) = _
    rw [hi]
    show (match mlOf [] (.lr n), sem2 .ix (.lr n) (.int z) st with
      | none, some (y, _) => _
      | _, _ => Out.no) = _
    rw [e1]
    show ((evE cf a ρ st).bind fun z' st => _) = _
    rw [h]
    show (match semI p x y with | some d => _ | none => Out.no) = _
    rw [r]
    show (match setD (.lr n) (.int z) d st with | some st => _ | none => Out.no) = _
    rw [e2]
  rw [this]
  exact k
theorem HS_if {t : Bool} (h : evE cf c ρ st = .ok (.bl t) st1) (k : t = true → HS cf (x ++ ss) ρ st1 Q E) (l : t = false → HS cf (y ++ ss) ρ st1 Q E) : HS cf (.ifS c x y :: ss) ρ st Q E := by
  unfold HS
  rw [ex_cons, ex_if, h, kB_ok, kIf_ok]
  cases t with
  | true => rw [if_pos rfl]; exact HS_app (k rfl)
  | false => rw [if_neg Bool.false_ne_true]; exact HS_app (l rfl)
/-- .. that tells what comes of it -/
theorem HS_ifV {t : Bool} {Q : Bool → Kt} {E : Bool → Et} (h : evE cf c ρ st = .ok (.bl t) st1) (k : t = true → HS cf (x ++ ss) ρ st1 (Q true) (E true)) (l : t = false → HS cf (y ++ ss) ρ st1 (Q false) (E false)) : HS cf (.ifS c x y :: ss) ρ st (Q t) (E t) :=
  HS_if h (fun z => by subst z; exact k rfl) fun z => by subst z; exact l rfl
theorem HS_rse {n : Nat} (h : evEs cf es ρ st = .ok ds st1) (l : ds.all notl = true) (k : E n ds st1) : HS cf (.rse n es :: ss) ρ st Q E := by
  unfold HS
  rw [ex_cons, ex_rse, h, kRse_ok, if_pos l]
  exact k
theorem HS_try {b : List S} {hs : List (Nat × Su)} (h : HS cf b ρ st (fun fl ρ st => match fl with
    | .nx => HS cf ss ρ st Q E
    | fl => Q fl ρ st) fun c p st => Holds (kSeq cf ss (handle c p ρ st hs)) Q E) : HS cf (.tryS b hs :: ss) ρ st Q E := by
  unfold HS
  rw [ex_cons, ex_try]
  unfold HS at h
  cases z : exSs cf b ρ st with
  | ok p st1 =>
    rw [z] at h
    obtain ⟨fl, ρ1⟩ := p
    cases fl <;> exact h
  | ex c p st1 => rw [z] at h; exact h
  | no => rw [z] at h; exact h.elim
/-! ### loops -/
/-- what a turn leads to -/
inductive Stp (σ τ : Type) where
  | nx (s : σ) | bk (s : σ) | rt (r : τ)
def Stp.els {σ τ : Type} (x : Stp σ τ) (f : σ → τ) : τ := match x with
  | .nx s => f s
  | .bk s => f s
  | .rt r => r
def Stp.all {σ τ : Type} (x : Stp σ τ) (g : σ → Bool) : Bool := match x with
  | .nx s => g s
  | .bk s => g s
  | .rt _ => true
section
variable {α σ τ : Type} {e : α → D} {t : Tg} {src : Src} {bd : List S} {sv : Sv} {n : Nat}
/-- the state of the loop is held -/
abbrev Rp (σ : Type) := σ → Rho → Sto → Prop
def QL (I : Rp σ) (s : σ) : Kt := fun fl ρ st => (fl = .nx ∨ fl = .cnt) ∧ I s ρ st
def EN : Et := fun _ _ _ => False
def okF (step : σ → α → σ) (ok : σ → α → Bool) : List α → σ → Bool
  | [], _ => true
  | x :: xs, s => ok s x && okF step ok xs (step s x)
theorem for_fold (step : σ → α → σ) (ok : σ → α → Bool) (I : Rp σ) {e : α → D} (ys : List D) (hn : ys.length = n) (hit : ∀ s ρ st, I s ρ st → ∀ i, i < n → sv.item st i = ys[i]?) (hend : ∀ s ρ st, I s ρ st → sv.ends st n = true)
    (body : ∀ s x ρ st, ok s x = true → I s ρ st → Holds (kBody cf bd (evTg cf t (e x) ρ st)) (QL I (step s x)) EN) :
    ∀ (k i : Nat) (xs : List α) (s : σ) (ρ : Rho) (st : Sto), i + k = n → xs.map e = ys.drop i → okF step ok xs s = true → I s ρ st → ∃ ρ' st', forB cf t bd sv k i ρ st = .ok (.nx, ρ') st' ∧ I (xs.foldl step s) ρ' st'
  | 0, i, xs, s, ρ, st, hk, hx, ho, hI => by
    have : xs = [] := by
      have : (xs.map e).length = 0 := by rw [hx, List.length_drop]; omega
      simpa using this
    subst this
    exact ⟨ρ, st, forB_zero t bd sv i (by have := hend s ρ st hI; rwa [show i = n by omega]), hI⟩
  | k + 1, i, xs, s, ρ, st, hk, hx, ho, hI => by
    cases xs with
    | nil =>
      have : (ys.drop i).length = 0 := by rw [← hx]; rfl
      rw [List.length_drop] at this
      omega
    | cons x xs =>
      have hi : ys[i]? = some (e x) := by
        have := congrArg (·[0]?) hx
        simpa using this.symm
      have hb := body s x ρ st (a1 ho) hI
      have hx' : xs.map e = ys.drop (i + 1) := by
        have := congrArg List.tail hx
        simpa using this
      rw [forB_succ t bd sv k i (e x) (by rw [hit s ρ st hI i (by omega), hi])]
      cases z : kBody cf bd (evTg cf t (e x) ρ st) with
      | ok p st1 =>
        rw [z] at hb
        obtain ⟨fl, ρ1⟩ := p
        obtain ⟨hf, hI1⟩ := hb
        obtain ⟨ρ', st', h1, h2⟩ := for_fold step ok I ys hn hit hend body k (i + 1) xs (step s x) ρ1 st1 (by omega) hx' (a2 ho) hI1
        refine ⟨ρ', st', ?_, h2⟩
        rcases hf with rfl | rfl <;> exact h1
      | ex c p st1 => rw [z] at hb; exact hb.elim
      | no => rw [z] at hb; exact hb.elim
theorem HS_for {ss : List S} (I : Rp σ) (step : σ → α → σ) (ok : σ → α → Bool) (xs : List α) (s0 : σ) {P : Sto → Prop} (h : SrcP cf src ρ st st1 (xs.map e) P)
    (hP : ∀ s ρ st, I s ρ st → P st) (h0 : I s0 ρ st1) (o : okF step ok xs s0 = true)
    (body : ∀ s x ρ st, ok s x = true → I s ρ st → Holds (kBody cf bd (evTg cf t (e x) ρ st)) (QL I (step s x)) EN)
    (rest : ∀ ρ st, I (xs.foldl step s0) ρ st → HS cf ss ρ st Q E) : HS cf (.for t src bd :: ss) ρ st Q E := by
  obtain ⟨sv, n, h1, w⟩ := h
  obtain ⟨ρ', st', h2, h3⟩ := for_fold step ok I (xs.map e) (w st1 (hP _ _ _ h0)).len (fun s ρ st hI i hi => (w st (hP s ρ st hI)).item i hi) (fun s ρ st hI => (w st (hP s ρ st hI)).ends) body n 0 xs s0 ρ st1 (by omega) rfl o h0
  unfold HS
  rw [ex_cons, ex_for, h1, kFor_ok, h2]
  exact rest ρ' st' h3
/-- .. that may be left -/
def forR (step : σ → α → Stp σ τ) : List α → σ → Stp σ τ
  | [], s => .nx s
  | x :: xs, s => match step s x with
    | .nx s => forR step xs s
    | .bk s => .bk s
    | .rt r => .rt r
def okR (step : σ → α → Stp σ τ) (ok : σ → α → Bool) : List α → σ → Bool
  | [], _ => true
  | x :: xs, s => ok s x && (match step s x with
    | .nx s => okR step ok xs s
    | _ => true)
def QR (I : Rp σ) (Q : τ → Kt) (o : Stp σ τ) : Kt := fun fl ρ st => match o with
  | .nx s => (fl = .nx ∨ fl = .cnt) ∧ I s ρ st
  | .bk s => fl = .brk ∧ I s ρ st
  | .rt r => (∃ d, fl = .ret d) ∧ Q r fl ρ st
def ER (E : τ → Et) (o : Stp σ τ) : Et := fun c p st => match o with
  | .rt r => E r c p st
  | _ => False
theorem for_ret (step : σ → α → Stp σ τ) (ok : σ → α → Bool) (I : Rp σ) {e : α → D} {Q : τ → Kt} {E : τ → Et} (ys : List D) (hn : ys.length = n) (hit : ∀ s ρ st, I s ρ st → ∀ i, i < n → sv.item st i = ys[i]?) (hend : ∀ s ρ st, I s ρ st → sv.ends st n = true)
    (body : ∀ s x ρ st, ok s x = true → I s ρ st → Holds (kBody cf bd (evTg cf t (e x) ρ st)) (QR I Q (step s x)) (ER E (step s x))) :
    ∀ (k i : Nat) (xs : List α) (s : σ) (ρ : Rho) (st : Sto), i + k = n → xs.map e = ys.drop i → okR step ok xs s = true → I s ρ st →
      Holds (forB cf t bd sv k i ρ st) (fun fl ρ' st' => match forR step xs s with
        | .nx s => fl = .nx ∧ I s ρ' st'
        | .bk s => fl = .nx ∧ I s ρ' st'
        | .rt r => (∃ d, fl = .ret d) ∧ Q r fl ρ' st') (ER E (forR step xs s))
  | 0, i, xs, s, ρ, st, hk, hx, ho, hI => by
    have : xs = [] := by
      have : (xs.map e).length = 0 := by rw [hx, List.length_drop]; omega
      simpa using this
    subst this
    rw [forB_zero t bd sv i (by have := hend s ρ st hI; rwa [show i = n by omega])]
    exact ⟨rfl, hI⟩
  | k + 1, i, xs, s, ρ, st, hk, hx, ho, hI => by
    cases xs with
    | nil =>
      have : (ys.drop i).length = 0 := by rw [← hx]; rfl
      rw [List.length_drop] at this
      omega
    | cons x xs =>
      have hi : ys[i]? = some (e x) := by
        have := congrArg (·[0]?) hx
        simpa using this.symm
      have hb := body s x ρ st (a1 ho) hI
      have hx' : xs.map e = ys.drop (i + 1) := by
        have := congrArg List.tail hx
        simpa using this
      rw [forB_succ t bd sv k i (e x) (by rw [hit s ρ st hI i (by omega), hi])]
      have ho2 := a2 ho
      cases zs : step s x with
      | nx s1 =>
        rw [zs] at hb ho2
        have er : forR step (x :: xs) s = forR step xs s1 := by rw [forR, zs]
        rw [er]
        cases z : kBody cf bd (evTg cf t (e x) ρ st) with
        | ok p st1 =>
          rw [z] at hb
          obtain ⟨fl, ρ1⟩ := p
          obtain ⟨hf, hI1⟩ := hb
          have := for_ret step ok I ys hn hit hend body k (i + 1) xs s1 ρ1 st1 (by omega) hx' ho2 hI1
          rcases hf with rfl | rfl <;> exact this
        | ex c p st1 => rw [z] at hb; exact hb.elim
        | no => rw [z] at hb; exact hb.elim
      | bk s1 =>
        rw [zs] at hb
        have er : forR step (x :: xs) s = .bk s1 := by rw [forR, zs]
        rw [er]
        cases z : kBody cf bd (evTg cf t (e x) ρ st) with
        | ok p st1 =>
          rw [z] at hb
          obtain ⟨fl, ρ1⟩ := p
          obtain ⟨hf, hI1⟩ := hb
          subst hf
          exact ⟨rfl, hI1⟩
        | ex c p st1 => rw [z] at hb; exact hb.elim
        | no => rw [z] at hb; exact hb.elim
      | rt r =>
        rw [zs] at hb
        have er : forR step (x :: xs) s = .rt r := by rw [forR, zs]
        rw [er]
        cases z : kBody cf bd (evTg cf t (e x) ρ st) with
        | ok p st1 =>
          rw [z] at hb
          obtain ⟨fl, ρ1⟩ := p
          obtain ⟨⟨d, hf⟩, hI1⟩ := hb
          subst hf
          exact ⟨⟨d, rfl⟩, hI1⟩
        | ex c p st1 => rw [z] at hb; exact hb
        | no => rw [z] at hb; exact hb.elim
theorem HS_forR {ss : List S} {Q : τ → Kt} {E : τ → Et} (I : Rp σ) (step : σ → α → Stp σ τ) (ok : σ → α → Bool) (xs : List α) (s0 : σ) (f : σ → τ) (g : σ → Bool) {P : Sto → Prop} (h : SrcP cf src ρ st st1 (xs.map e) P)
    (hP : ∀ s ρ st, I s ρ st → P st) (h0 : I s0 ρ st1) (o : okR step ok xs s0 = true) (o2 : (forR step xs s0).all g = true)
    (body : ∀ s x ρ st, ok s x = true → I s ρ st → Holds (kBody cf bd (evTg cf t (e x) ρ st)) (QR I Q (step s x)) (ER E (step s x)))
    (rest : ∀ s ρ st, g s = true → I s ρ st → HS cf ss ρ st (Q (f s)) (E (f s))) : HS cf (.for t src bd :: ss) ρ st (Q ((forR step xs s0).els f)) (E ((forR step xs s0).els f)) := by
  obtain ⟨sv, n, h1, w⟩ := h
  have h2 := for_ret step ok I (xs.map e) (w st1 (hP _ _ _ h0)).len (fun s ρ st hI i hi => (w st (hP s ρ st hI)).item i hi) (fun s ρ st hI => (w st (hP s ρ st hI)).ends) body n 0 xs s0 ρ st1 (by omega) rfl o h0
  unfold HS
  rw [ex_cons, ex_for, h1, kFor_ok]
  generalize forB cf t bd sv n 0 ρ st1 = z at h2 ⊢
  generalize forR step xs s0 = w at h2 o2 ⊢
  cases w with
  | nx s =>
    cases z with
    | ok p st2 =>
      obtain ⟨fl, ρ2⟩ := p
      obtain ⟨hf, hI⟩ := h2
      subst hf
      exact rest s ρ2 st2 o2 hI
    | ex c p st2 => exact h2.elim
    | no => exact h2.elim
  | bk s =>
    cases z with
    | ok p st2 =>
      obtain ⟨fl, ρ2⟩ := p
      obtain ⟨hf, hI⟩ := h2
      subst hf
      exact rest s ρ2 st2 o2 hI
    | ex c p st2 => exact h2.elim
    | no => exact h2.elim
  | rt r =>
    cases z with
    | ok p st2 =>
      obtain ⟨fl, ρ2⟩ := p
      obtain ⟨⟨d, hf⟩, hI⟩ := h2
      subst hf
      exact hI
    | ex c p st2 => exact h2
    | no => exact h2.elim
end
/-! ### while -/
section
variable {σ τ : Type} {bd : List S}
def whV (c : σ → Bool) (step : σ → σ) : Nat → σ → σ
  | 0, s => s
  | n + 1, s => bif c s then whV c step n (step s) else s
/-- it ends within n turns, each may be run -/
def whO (c : σ → Bool) (oc : σ → Bool) (step : σ → σ) (ok : σ → Bool) : Nat → σ → Bool
  | 0, _ => false
  | n + 1, s => oc s && (bif c s then ok s && whO c oc step ok n (step s) else true)
def wfB (n : Nat) : Bool := Nat.blt n.log2 134217000
theorem while_ok (I : Rp σ) (cv oc : σ → Bool) (step : σ → σ) (ok : σ → Bool) (hc : ∀ s ρ st, oc s = true → I s ρ st → evE cf c ρ st = .ok (.bl (cv s)) st)
    (body : ∀ s ρ st, oc s = true → cv s = true → ok s = true → I s ρ st → HS cf bd ρ st (QL I (step s)) EN) :
    ∀ (n m : Nat) (s : σ) (ρ : Rho) (st : Sto), n ≤ m → whO cv oc step ok n s = true → I s ρ st → ∃ ρ' st', whB cf c bd m ρ st = .ok (.nx, ρ') st' ∧ I (whV cv step n s) ρ' st'
  | 0, m, s, ρ, st, hm, ho, hI => by cases ho
  | n + 1, 0, s, ρ, st, hm, ho, hI => by omega
  | n + 1, m + 1, s, ρ, st, hm, ho, hI => by
    have o1 := a1 ho
    have o2 := a2 ho
    rw [whB_succ, hc s ρ st o1 hI, kB_ok, kWc_ok, whV]
    cases z : cv s with
    | true =>
      rw [z] at o2
      have hb := body s ρ st o1 z (a1 o2) hI
      rw [if_pos rfl]
      unfold HS at hb
      cases y : exSs cf bd ρ st with
      | ok p st1 =>
        rw [y] at hb
        obtain ⟨fl, ρ1⟩ := p
        obtain ⟨hf, hI1⟩ := hb
        obtain ⟨ρ', st', h1, h2⟩ := while_ok I cv oc step ok hc body n m (step s) ρ1 st1 (by omega) (a2 o2) hI1
        refine ⟨ρ', st', ?_, h2⟩
        rcases hf with rfl | rfl <;> exact h1
      | ex c p st1 => rw [y] at hb; exact hb.elim
      | no => rw [y] at hb; exact hb.elim
    | false =>
      rw [if_neg Bool.false_ne_true]
      exact ⟨ρ, st, rfl, hI⟩
theorem HS_while {ss : List S} (I : Rp σ) (cv oc : σ → Bool) (step : σ → σ) (ok : σ → Bool) (n : Nat) (s0 : σ) (hw : n ≤ cf.wf) (h0 : I s0 ρ st) (o : whO cv oc step ok n s0 = true) (hc : ∀ s ρ st, oc s = true → I s ρ st → evE cf c ρ st = .ok (.bl (cv s)) st)
    (body : ∀ s ρ st, oc s = true → cv s = true → ok s = true → I s ρ st → HS cf bd ρ st (QL I (step s)) EN)
    (rest : ∀ ρ st, I (whV cv step n s0) ρ st → HS cf ss ρ st Q E) : HS cf (.whl c bd :: ss) ρ st Q E := by
  obtain ⟨ρ', st', h2, h3⟩ := while_ok I cv oc step ok hc body n cf.wf s0 ρ st hw o h0
  unfold HS
  rw [ex_cons, ex_whl, h2]
  exact rest ρ' st' h3
/-- .. that may be left -/
def whR (c : σ → Bool) (step : σ → Stp σ τ) : Nat → σ → Stp σ τ
  | 0, s => .nx s
  | n + 1, s => bif c s then (match step s with
    | .nx s => whR c step n s
    | .bk s => .bk s
    | .rt r => .rt r) else .nx s
def whOR (c : σ → Bool) (oc : σ → Bool) (step : σ → Stp σ τ) (ok : σ → Bool) : Nat → σ → Bool
  | 0, _ => false
  | n + 1, s => oc s && (bif c s then ok s && (match step s with
    | .nx s => whOR c oc step ok n s
    | _ => true) else true)
theorem while_ret {Q : τ → Kt} {E : τ → Et} (I : Rp σ) (cv oc : σ → Bool) (step : σ → Stp σ τ) (ok : σ → Bool) (hc : ∀ s ρ st, oc s = true → I s ρ st → evE cf c ρ st = .ok (.bl (cv s)) st)
    (body : ∀ s ρ st, oc s = true → cv s = true → ok s = true → I s ρ st → HS cf bd ρ st (QR I Q (step s)) (ER E (step s))) :
    ∀ (n m : Nat) (s : σ) (ρ : Rho) (st : Sto), n ≤ m → whOR cv oc step ok n s = true → I s ρ st → Holds (whB cf c bd m ρ st) (fun fl ρ' st' => match whR cv step n s with
        | .nx s => fl = .nx ∧ I s ρ' st'
        | .bk s => fl = .nx ∧ I s ρ' st'
        | .rt r => (∃ d, fl = .ret d) ∧ Q r fl ρ' st') (ER E (whR cv step n s))
  | 0, m, s, ρ, st, hm, ho, hI => by cases ho
  | n + 1, 0, s, ρ, st, hm, ho, hI => by omega
  | n + 1, m + 1, s, ρ, st, hm, ho, hI => by
    have o1 := a1 ho
    have o2 := a2 ho
    rw [whB_succ, hc s ρ st o1 hI, kB_ok, kWc_ok]
    cases z : cv s with
    | true =>
      rw [z] at o2
      have hb := body s ρ st o1 z (a1 o2) hI
      have o3 := a2 o2
      rw [if_pos rfl]
      unfold HS at hb
      cases zs : step s with
      | nx s1 =>
        rw [zs] at hb o3
        have er : whR cv step (n + 1) s = whR cv step n s1 := by rw [whR, z, zs]; rfl
        rw [er]
        cases y : exSs cf bd ρ st with
        | ok p st1 =>
          rw [y] at hb
          obtain ⟨fl, ρ1⟩ := p
          obtain ⟨hf, hI1⟩ := hb
          have := while_ret I cv oc step ok hc body n m s1 ρ1 st1 (by omega) o3 hI1
          rcases hf with rfl | rfl <;> exact this
        | ex c p st1 => rw [y] at hb; exact hb.elim
        | no => rw [y] at hb; exact hb.elim
      | bk s1 =>
        rw [zs] at hb
        have er : whR cv step (n + 1) s = .bk s1 := by rw [whR, z, zs]; rfl
        rw [er]
        cases y : exSs cf bd ρ st with
        | ok p st1 =>
          rw [y] at hb
          obtain ⟨fl, ρ1⟩ := p
          obtain ⟨hf, hI1⟩ := hb
          subst hf
          exact ⟨rfl, hI1⟩
        | ex c p st1 => rw [y] at hb; exact hb.elim
        | no => rw [y] at hb; exact hb.elim
      | rt r =>
        rw [zs] at hb
        have er : whR cv step (n + 1) s = .rt r := by rw [whR, z, zs]; rfl
        rw [er]
        cases y : exSs cf bd ρ st with
        | ok p st1 =>
          rw [y] at hb
          obtain ⟨fl, ρ1⟩ := p
          obtain ⟨⟨d, hf⟩, hI1⟩ := hb
          subst hf
          exact ⟨⟨d, rfl⟩, hI1⟩
        | ex c p st1 => rw [y] at hb; exact hb
        | no => rw [y] at hb; exact hb.elim
    | false =>
      have er : whR cv step (n + 1) s = .nx s := by rw [whR, z]; rfl
      rw [if_neg Bool.false_ne_true, er]
      exact ⟨rfl, hI⟩
theorem HS_whileR {ss : List S} {Q : τ → Kt} {E : τ → Et} (I : Rp σ) (cv oc : σ → Bool) (step : σ → Stp σ τ) (ok : σ → Bool) (n : Nat) (s0 : σ) (f : σ → τ) (g : σ → Bool) (hw : n ≤ cf.wf) (h0 : I s0 ρ st) (o : whOR cv oc step ok n s0 = true) (o2 : (whR cv step n s0).all g = true)
    (hc : ∀ s ρ st, oc s = true → I s ρ st → evE cf c ρ st = .ok (.bl (cv s)) st) (body : ∀ s ρ st, oc s = true → cv s = true → ok s = true → I s ρ st → HS cf bd ρ st (QR I Q (step s)) (ER E (step s)))
    (rest : ∀ s ρ st, g s = true → I s ρ st → HS cf ss ρ st (Q (f s)) (E (f s))) : HS cf (.whl c bd :: ss) ρ st (Q ((whR cv step n s0).els f)) (E ((whR cv step n s0).els f)) := by
  have h2 := while_ret I cv oc step ok hc body n cf.wf s0 ρ st hw o h0
  unfold HS
  rw [ex_cons, ex_whl]
  generalize whB cf c bd cf.wf ρ st = z at h2 ⊢
  generalize whR cv step n s0 = w at h2 o2 ⊢
  cases w with
  | nx s =>
    cases z with
    | ok p st2 =>
      obtain ⟨fl, ρ2⟩ := p
      obtain ⟨hf, hI⟩ := h2
      subst hf
      exact rest s ρ2 st2 o2 hI
    | ex c p st2 => exact h2.elim
    | no => exact h2.elim
  | bk s =>
    cases z with
    | ok p st2 =>
      obtain ⟨fl, ρ2⟩ := p
      obtain ⟨hf, hI⟩ := h2
      subst hf
      exact rest s ρ2 st2 o2 hI
    | ex c p st2 => exact h2.elim
    | no => exact h2.elim
  | rt r =>
    cases z with
    | ok p st2 =>
      obtain ⟨fl, ρ2⟩ := p
      obtain ⟨⟨d, hf⟩, hI⟩ := h2
      subst hf
      exact hI
    | ex c p st2 => exact h2
    | no => exact h2.elim
end
end
theorem HB {t : Tg} {bd : List S} {Q : Kt} {E : Et} (h : evTg cf t d ρ st = .ok ρ1 st1) (k : HS cf bd ρ1 st1 Q E) : Holds (kBody cf bd (evTg cf t d ρ st)) Q E := by
  rw [h, kBody_ok]
  exact k
/-! ### a def -/
section
variable {T : List Fn} {wf k g : Nat} {f : Fn} {R : Out D}
theorem call_HS (hT : T[g]? = some f) (hl : ds.length = f.np) (h : HS ⟨callF T wf k, wf, T.length⟩ f.body (ds.map some ++ List.replicate (f.nl - f.np) none) st (QF st.length R) (EF st.length R)) : callF T wf (k + 1) g ds st = R := by
  rw [call_def hT hl]
  unfold HS at h
  generalize exSs ⟨callF T wf k, wf, T.length⟩ f.body (ds.map some ++ List.replicate (f.nl - f.np) none) st = x at h ⊢
  cases x with
  | ok p st => obtain ⟨fl, ρ⟩ := p; exact h
  | ex c p st => exact h
  | no => exact h.elim
/-! what a def may give -/
inductive Ex (α : Type) where
  | ok (a : α) | ex (c : Nat) (p : List D)
def outX {α : Type} (e : α → D) (st : Sto) : Ex α → Out D
  | .ok a => .ok (e a) st
  | .ex c p => .ex c p st
/-- the script's state at the store's first place -/
abbrev S2 := Int × Int
def ss (st : Sto) (s : S2) : Sto := st.set 0 (.lst [.int s.1, .int s.2])
theorem ss_len (s : S2) : (ss st s).length = st.length := by simp [ss]
theorem ss_ss (s t : S2) : ss (ss st s) t = ss st t := by simp [ss]
def outS {α : Type} (e : α → D) (st : Sto) (p : α × S2) : Out D := .ok (e p.1) (ss st p.2)
end
theorem q_ret {n : Nat} (h : st.length = n) : QF n (.ok d st) (.ret d) ρ st := by subst h; exact fin_ret
theorem q_retS {s s' : S2} : QF (ss st s).length (.ok d (ss st s')) (.ret d) ρ (ss st s') := q_ret (by rw [ss_len, ss_len])
theorem q_nx {n : Nat} (h : st.length = n) : QF n (.ok .non st) .nx ρ st := by subst h; exact fin_nx
theorem q_ex {n m : Nat} {p : List D} (h : st.length = n) : EF n (.ex m p st) m p st := fin_ex (Nat.le_of_eq h)
/-! ### lists that change -/
/-- B: the store at the start; each list's place and what it holds -/
structure MS (B : Sto) (cs : List (Nat × List D)) (st : Sto) : Prop where
  wf : Wf B
  wfs : Wf st
  len : B.length ≤ st.length
  fr : ∀ j, j < B.length → st[j]? = B[j]?
  nd : (cs.map (·.1)).Nodup
  own : ∀ p ∈ cs, B.length ≤ p.1
  at_ : ∀ p ∈ cs, st[p.1]? = some (.lst p.2)
section
variable {B : Sto} {cs l r : List (Nat × List D)} {k : Nat} {xs ys : List D}
theorem MS.nil (h : Wf st) : MS st [] st := ⟨h, h, Nat.le_refl _, fun _ _ => rfl, by simp, by simp, by simp⟩
theorem MS.lt (m : MS B cs st) {p : Nat × List D} (h : p ∈ cs) : p.1 < st.length := (List.getElem?_eq_some_iff.mp (m.at_ p h)).1
mutual
theorem below_up {n k : Nat} (h : n ≤ k) : ∀ d : D, below n d = true → below k d = true
  | .tup xs, z => by simp only [below] at z ⊢; exact belows_up h xs z
  | .tl xs, z => by simp only [below] at z ⊢; exact belows_up h xs z
  | .kl xs, z => by simp only [below] at z ⊢; exact belows_up h xs z
  | .il xs, z => by simp only [below] at z ⊢; exact belows_up h xs z
  | .lr i, z => by simp only [below] at z ⊢; exact Nat.blt_eq.mpr (Nat.lt_of_lt_of_le (Nat.blt_eq.mp z) h)
  | .non, _ => by simp [below]
  | .bl _, _ => by simp [below]
  | .int _, _ => by simp [below]
  | .str _, _ => by simp [below]
  | .fn _, _ => by simp [below]
theorem belows_up {n k : Nat} (h : n ≤ k) : ∀ ds : List D, belows n ds = true → belows k ds = true
  | [], _ => by simp [belows]
  | d :: ds, z => by
    simp only [belows, Bool.and_eq_true] at z ⊢
    exact ⟨below_up h d z.1, belows_up h ds z.2⟩
end
theorem ob_up {n k : Nat} (h : n ≤ k) {o : Ob} (z : o.below n = true) : o.below k = true := by
  cases o with
  | lst xs => exact belows_up h xs z
theorem wf_app (w : Wf st) (h : ∀ n, belows n xs = true) : Wf (st ++ [.lst xs]) := by
  unfold Wf at w ⊢
  rw [List.all_eq_true] at w ⊢
  intro o ho
  rcases List.mem_append.mp ho with z | z
  · exact ob_up (by simp) (w o z)
  · have : o = .lst xs := by simpa using z
    subst this
    exact h _
theorem wf_set {i : Nat} (w : Wf st) (h : ∀ n, belows n xs = true) : Wf (st.set i (.lst xs)) := by
  unfold Wf at w ⊢
  rw [List.all_eq_true] at w ⊢
  intro o ho
  rw [List.length_set]
  rcases List.mem_or_eq_of_mem_set ho with z | z
  · exact w o z
  · subst z
    exact h _
theorem MS.new (m : MS B cs st) (hb : ∀ n, belows n xs = true) : MS B ((st.length, xs) :: cs) (st ++ [.lst xs]) := by
  refine ⟨m.wf, wf_app m.wfs hb, by have := m.len; simp; omega, fun j h => ?_, ?_, fun p h => ?_, fun p h => ?_⟩
  · rw [List.getElem?_append_left (by have := m.len; omega)]
    exact m.fr j h
  · rw [List.map_cons, List.nodup_cons]
    refine ⟨fun z => ?_, m.nd⟩
    obtain ⟨q, hq, e⟩ := List.mem_map.mp z
    have := m.lt hq
    simp only at e
    omega
  · rcases List.mem_cons.mp h with rfl | h
    · exact m.len
    · exact m.own p h
  · rcases List.mem_cons.mp h with rfl | h
    · simp
    · rw [List.getElem?_append_left (m.lt h)]
      exact m.at_ p h
theorem MS.get (m : MS B (l ++ (k, xs) :: r) st) : st[k]? = some (.lst xs) := m.at_ (k, xs) (by simp)
theorem MS.set (m : MS B (l ++ (k, xs) :: r) st) (hb : ∀ n, belows n ys = true) : MS B (l ++ (k, ys) :: r) (st.set k (.lst ys)) := by
  have hk := m.lt (p := (k, xs)) (by simp)
  have nd := m.nd
  rw [List.map_append, List.map_cons] at nd
  have own := m.own (k, xs) (by simp)
  have ne : ∀ p, p ∈ l ∨ p ∈ r → k ≠ p.1 := fun p h z => by
    have n2 := List.nodup_append.mp nd
    rcases h with h | h
    · exact n2.2.2 p.1 (List.mem_map.mpr ⟨p, h, rfl⟩) k (by simp) z.symm
    · have := (List.nodup_cons.mp n2.2.1).1
      exact this (z ▸ List.mem_map.mpr ⟨p, h, rfl⟩)
  refine ⟨m.wf, wf_set m.wfs hb, by rw [List.length_set]; exact m.len, fun j h => ?_, by rw [List.map_append, List.map_cons]; exact nd, fun p h => ?_, fun p h => ?_⟩
  · rw [List.getElem?_set_ne (by simp only at own; omega)]
    exact m.fr j h
  · rcases List.mem_append.mp h with h | h
    · exact m.own p (List.mem_append_left _ h)
    · rcases List.mem_cons.mp h with rfl | h
      · exact own
      · exact m.own p (List.mem_append_right _ (List.mem_cons_of_mem _ h))
  · rcases List.mem_append.mp h with h | h
    · rw [List.getElem?_set_ne (ne p (.inl h))]
      exact m.at_ p (List.mem_append_left _ h)
    · rcases List.mem_cons.mp h with rfl | h
      · simp only
        rw [List.getElem?_set_self hk]
      · rw [List.getElem?_set_ne (ne p (.inr h))]
        exact m.at_ p (List.mem_append_right _ (List.mem_cons_of_mem _ h))
theorem MS.sub (m : MS B cs st) (h : l.Sublist cs) : MS B l st := ⟨m.wf, m.wfs, m.len, m.fr, m.nd.sublist (h.map _), fun p k => m.own p (h.subset k), fun p k => m.at_ p (h.subset k)⟩
theorem MS.take (m : MS B cs st) : st.take B.length = B := by
  apply List.ext_getElem?
  intro j
  by_cases h : j < B.length
  · rw [List.getElem?_take_of_lt h, m.fr j h]
  · rw [List.getElem?_eq_none (by rw [List.length_take]; omega), List.getElem?_eq_none (by omega)]
theorem MS.app (m : MS B cs st) : ∃ ext, st = B ++ ext := ⟨st.drop B.length, by
  have := List.take_append_drop B.length st
  rw [m.take] at this
  exact this.symm⟩
theorem MS.ret (m : MS B cs st) (h : below B.length d = true) : QF B.length (.ok d B) (.ret d) ρ st := by
  obtain ⟨ext, rfl⟩ := m.app
  exact fin_retA m.wf h
theorem MS.nx (m : MS B cs st) : QF B.length (.ok .non B) .nx ρ st := by
  obtain ⟨ext, rfl⟩ := m.app
  exact retn_app m.wf rfl
theorem MS.retL (m : MS B (l ++ (k, xs) :: r) st) (h : belows B.length xs = true) : QF B.length (.ok (.tl xs) B) (.ret (.lr k)) ρ st := by
  have e := m.get
  have o := m.own (k, xs) (by simp)
  obtain ⟨ext, rfl⟩ := m.app
  exact retn_new m.wf o e h
theorem MS.ex {n : Nat} (m : MS B cs st) : EF B.length (.ex n [] B) n [] st := by
  obtain ⟨ext, rfl⟩ := m.app
  exact fin_exA m.wf
end
end Wk
/-! Wk4: what raises, the state, lists that change: statements. -/
namespace Wk
open Mn PySem
variable {cf : Cf} {ρ ρ1 : Rho} {st st1 st2 st3 : Sto} {a b c : Mn.E} {es : List Mn.E} {d d1 d2 d3 : D} {ds : List D}
/-- turns enough for any loop -/
def Big (wf : Nat) : Prop := ∀ n : Nat, wfB n = true → n ≤ wf
theorem big_gen (M : Nat) : ∃ wf : Nat, ∀ n : Nat, Nat.blt n.log2 M = true → n ≤ wf := ⟨2 ^ M, fun n h => by
  by_cases h0 : n = 0
  · subst h0; exact Nat.zero_le _
  · exact Nat.le_of_lt ((Nat.log2_lt h0).mp (Nat.blt_eq.mp h))⟩
theorem big_ex : ∃ wf, Big wf := big_gen 134217000
theorem jt {α : Type} {P : α → Prop} {c : Bool} {a b : α} (hc : c = true) (h : P (bif c then a else b)) : P a := by subst hc; exact h
theorem jf {α : Type} {P : α → Prop} {c : Bool} {a b : α} (hc : c = false) (h : P (bif c then a else b)) : P b := by subst hc; exact h
/-! ### strings and other data compared -/
class EqV {α : Type} (e : α → D) [BEq α] : Prop where
  eq : ∀ a b, eqP (e a) (e b) = (a == b)
instance {α : Type} {e : α → D} {n : Nat} [BEq α] [h : EqE e n] : EqV e := ⟨h.eq⟩
instance : EqV eS := ⟨fun _ _ => by simp [eqP]⟩
instance {α : Type} {e : α → D} [BEq α] [h : EqV e] : EqV (eT e) := ⟨fun a b => by simp only [eqP]; exact eqPs_map h.eq a b⟩
instance {α : Type} {e : α → D} [BEq α] [h : EqV e] : EqV (eL e) := ⟨fun a b => by simp only [eqP]; exact eqPs_map h.eq a b⟩
instance {α β : Type} {e1 : α → D} {e2 : β → D} [BEq α] [BEq β] [h1 : EqV e1] [h2 : EqV e2] : EqV (eP2 e1 e2) := ⟨fun a b => by
  simp only [eqP, eqPs, h1.eq, h2.eq, Bool.and_true]
  rfl⟩
section
variable {α : Type} {e : α → D} {x y : α}
def pdB (d : D) : Bool := pd 16 d
theorem E_eqV [BEq α] [h0 : EqV e] (o1 : pdB (e x) = true) (o2 : pdB (e y) = true) (h : evE cf a ρ st = .ok (e x) st1) (k : evE cf b ρ st1 = .ok (e y) st2) : evE cf (.prim .eq [a, b]) ρ st = .ok (.bl (x == y)) st2 := E_p2 h k (by
  rw [sp_eq o1 o2, h0.eq])
theorem E_neV [BEq α] [h0 : EqV e] (o1 : pdB (e x) = true) (o2 : pdB (e y) = true) (h : evE cf a ρ st = .ok (e x) st1) (k : evE cf b ρ st1 = .ok (e y) st2) : evE cf (.prim .ne [a, b]) ρ st = .ok (.bl (!(x == y))) st2 := E_p2 h k (by
  rw [sp_ne o1 o2, h0.eq])
theorem E_eqDD (o1 : pdB d1 = true) (o2 : pdB d2 = true) (h : evE cf a ρ st = .ok d1 st1) (k : evE cf b ρ st1 = .ok d2 st2) : evE cf (.prim .eq [a, b]) ρ st = .ok (.bl (eqP d1 d2)) st2 := E_p2 h k (sp_eq o1 o2)
theorem E_neDD (o1 : pdB d1 = true) (o2 : pdB d2 = true) (h : evE cf a ρ st = .ok d1 st1) (k : evE cf b ρ st1 = .ok d2 st2) : evE cf (.prim .ne [a, b]) ρ st = .ok (.bl (!eqP d1 d2)) st2 := E_p2 h k (sp_ne o1 o2)
end
/-! ### values of any kind: their items -/
def itD : D → List D
  | .tup xs => xs
  | .il xs => xs
  | _ => []
def sqD : D → Bool
  | .tup _ => true
  | .il _ => true
  | _ => false
theorem sD (o : sqD d = true) : seqOf st d = some ((itD d).map eD) := by
  cases d <;> first | (cases o; done) | simp [seqOf, lstOf, itD, List.map_id']
theorem v_D (o : sqD d = true) : VP st d ((itD d).map eD) AnyS := by
  refine ⟨.fix (itD d), ?_, fun _ _ => ?_⟩
  · rw [List.length_map]
    cases d <;> first | (cases o; done) | rfl
  · have := W_fix (st := ‹Sto›) (itD d)
    simpa [List.map_id'] using this
/-! ### what raises -/
section
variable {α β : Type} {e : α → D} {e2 : β → D}
def Ex.bind (m : Ex α) (f : α → Ex β) : Ex β := match m with
  | .ok a => f a
  | .ex c p => .ex c p
def Ex.isOk : Ex α → Bool
  | .ok _ => true
  | .ex _ _ => false
def Ex.get [Inhabited α] : Ex α → α
  | .ok a => a
  | .ex _ _ => default
theorem E_get [Inhabited α] {m : Ex α} (o : m.isOk = true) (h : evE cf a ρ st = outX e st1 m) : evE cf a ρ st = .ok (e m.get) st1 := by
  cases m with
  | ok v => exact h
  | ex c p => cases o
/-- a part that may raise, then the whole -/
theorem X_bind {m : Ex α} {f : α → Ex β} {w : Mn.E} (h : evE cf a ρ st = outX e st m) (k : ∀ v, m = .ok v → evE cf a ρ st = .ok (e v) st → evE cf w ρ st = outX e2 st (f v)) (l : ∀ c p, evE cf a ρ st = .ex c p st → evE cf w ρ st = .ex c p st) : evE cf w ρ st = outX e2 st (m.bind f) := by
  cases m with
  | ok v => exact k v rfl h
  | ex c p => exact l c p h
variable {n : Nat} {p : List D}
theorem X_here (h : evE cf a ρ st = .ex n p st1) : evEs cf (a :: es) ρ st = .ex n p st1 := by rw [ev_cons, h]; rfl
theorem X_next (h : evE cf a ρ st = .ok d st1) (k : evEs cf es ρ st1 = .ex n p st2) : evEs cf (a :: es) ρ st = .ex n p st2 := by rw [ev_cons, h, kCons_ok, k]; rfl
theorem X_tup (h : evEs cf es ρ st = .ex n p st1) : evE cf (.tupE es) ρ st = .ex n p st1 := by rw [ev_tup, h]; rfl
theorem X_call {g : Nat} (h : evEs cf es ρ st = .ex n p st1) : evE cf (.call g es) ρ st = .ex n p st1 := by rw [ev_call, h]; rfl
theorem X_prim {q : Pr} (h : evEs cf es ρ st = .ex n p st1) : evE cf (.prim q es) ρ st = .ex n p st1 := by rw [ev_prim, h]; rfl
theorem X_frz (h : evE cf a ρ st = .ex n p st1) : evE cf (.frz a) ρ st = .ex n p st1 := by rw [evE, h]; rfl
theorem E_callX {g : Nat} {m : Ex α} (h : evEs cf es ρ st = .ok ds st1) (k : mats ds st1 = (ds, st1)) (r : cf.call g ds st1 = outX e st1 m) : evE cf (.call g es) ρ st = outX e st1 m := E_call h k r
variable {ss : List S} {Q : Kt} {E : Et}
theorem HS_retM {m : Ex α} (h : evE cf a ρ st = outX e st m) (k : ∀ v, m = .ok v → Q (.ret (e v)) ρ st) (l : ∀ c p, m = .ex c p → E c p st) : HS cf (.ret a :: ss) ρ st Q E := by
  cases m with
  | ok v => exact HS_ret h (k v rfl)
  | ex c p => exact HS_retX h (l c p rfl)
/-- .. and goes on with what is given -/
theorem HS_asgM {τ : Type} {m : Ex α} {f : α → Ex τ} {t : Tg} {Q : Ex τ → Kt} {E : Ex τ → Et} (h : evE cf a ρ st = outX e st m) (k : ∀ v, m = .ok v → ∃ ρ1, evTg cf t (e v) ρ st = .ok ρ1 st ∧ HS cf ss ρ1 st (Q (f v)) (E (f v))) (l : ∀ c p, E (.ex c p) c p st) :
    HS cf (.asg t a :: ss) ρ st (Q (m.bind f)) (E (m.bind f)) := by
  cases m with
  | ok v =>
    obtain ⟨ρ1, k1, k2⟩ := k v rfl
    exact HS_asg h k1 k2
  | ex c p => exact HS_asgX h (l c p)
theorem HS_exM {τ : Type} {m : Ex α} {f : α → Ex τ} {Q : Ex τ → Kt} {E : Ex τ → Et} (h : evE cf a ρ st = outX e st m) (k : ∀ v, m = .ok v → HS cf ss ρ st (Q (f v)) (E (f v))) (l : ∀ c p, E (.ex c p) c p st) : HS cf (.ex a :: ss) ρ st (Q (m.bind f)) (E (m.bind f)) := by
  cases m with
  | ok v => exact HS_ex h (k v rfl)
  | ex c p => exact HS_exX h (l c p)
/-! the body of a try: its end, its errors -/
def QT {τ : Type} (Q : τ → Kt) (o : Ex τ) : Kt := fun fl ρ st => match o with
  | .ok v => (∃ d, fl = .ret d) ∧ Q v fl ρ st
  | .ex _ _ => False
def ET {τ : Type} (st0 : Sto) (o : Ex τ) : Et := fun c p st => o = .ex c p ∧ st = st0
def Ex.els {τ : Type} (m : Ex τ) (f : Nat → List D → τ) : τ := match m with
  | .ok v => v
  | .ex c p => f c p
theorem HS_tryM {τ : Type} {m : Ex τ} {f : Nat → List D → τ} {bd : List S} {hs : List (Nat × Su)} {Q : τ → Kt} {E : τ → Et} (o : Bool) (h : HS cf bd ρ st (QT Q m) (ET st m)) (k : ∀ c p, m = .ex c p → ∃ d, handle c p ρ st hs = .ok (.ret d, ρ) st ∧ Q (f c p) (.ret d) ρ st) :
    HS cf (.tryS bd hs :: ss) ρ st (Q (m.els f)) (E (m.els f)) := by
  refine HS_try ?_
  unfold HS at h ⊢
  cases z : exSs cf bd ρ st with
  | ok q st1 =>
    rw [z] at h
    obtain ⟨fl, ρ1⟩ := q
    cases m with
    | ok v =>
      obtain ⟨⟨d, rfl⟩, hq⟩ := h
      exact hq
    | ex c p => exact h.elim
  | ex c p st1 =>
    rw [z] at h
    obtain ⟨hm, hst⟩ := h
    subst hm hst
    obtain ⟨d, h1, h2⟩ := k c p rfl
    show Holds (kSeq cf ss (handle c p ρ st1 hs)) _ _
    rw [h1]
    exact h2
  | no => rw [z] at h; exact h.elim
theorem q_ok {n : Nat} {v : α} (h : st.length = n) : QF n (outX e st (.ok v)) (.ret (e v)) ρ st := q_ret h
theorem q_exX {n m : Nat} {p : List D} (h : st.length = n) : EF n (outX e st (.ex m p)) m p st := q_ex h
end
/-! ### lists that change, by statements -/
section
variable {B : Sto} {cs l r : List (Nat × List D)} {k : Nat} {xs : List D} {ss : List S} {Q : Kt} {E : Et}
theorem HM_new {i : Nat} (m : MS B cs st) (h : evE cf a ρ st = .ok (.tl ds) st) (hb : ∀ n, belows n ds = true) (n : ∀ k st', MS B ((k, ds) :: cs) st' → HS cf ss (ρ.set i (some (.lr k))) st' Q E) : HS cf (.asg (.nm i) a :: ss) ρ st Q E :=
  HS_new h (n _ _ (m.new hb))
theorem HM_app {i : Nat} (m : MS B (l ++ (k, xs) :: r) st) (hi : ρ[i]? = some (some (.lr k))) (h : evE cf a ρ st = .ok d st) (nd : notl d = true) (hb : ∀ n, belows n (xs ++ [d]) = true) (o : szB (xs.length + 1) = true) (n : ∀ st', MS B (l ++ (k, xs ++ [d]) :: r) st' → HS cf ss ρ st' Q E) : HS cf (.ex (.meth .append (.var i) [a]) :: ss) ρ st Q E := by
  refine HS_ex (d := .non) (st1 := st.set k (.lst (xs ++ [d]))) ?_ (n _ (m.set hb))
  rw [ev_meth, E_var hi, kMeth_ok, rcv_a, if_pos rfl, Es1 h, kMeth2_ok, sp_app m.get (by have := szB_ok o; omega) nd]
  rfl
theorem HM_set {i : Nat} {b : Mn.E} {z : Int} (m : MS B (l ++ (k, xs) :: r) st) (h : evE cf a ρ st = .ok d st) (nd : notl d = true) (hi : ρ[i]? = some (some (.lr k))) (he : evE cf b ρ st = .ok (.int z) st) (o : ixB xs z = true) (hb : ∀ n j, belows n (xs.set j d) = true) (n : ∀ j st', L2.ixN xs.length z = some j → MS B (l ++ (k, xs.set j d) :: r) st' → HS cf ss ρ st' Q E) : HS cf (.asg (.sb (.var i) b) a :: ss) ρ st Q E := by
  obtain ⟨j, hj⟩ : ∃ j, L2.ixN xs.length z = some j := by
    unfold ixB L2.atI at o
    cases e : L2.ixN xs.length z with
    | none => rw [e] at o; cases o
    | some j => exact ⟨j, rfl⟩
  exact HS_asg h (T_sb nd (E_var hi) he m.get hj) (n j _ hj (m.set fun n => hb n j))
/-- the list with another item -/
def setI {α : Type} (xs : List α) (i : Int) (x : α) : List α := match L2.ixN xs.length i with
  | some j => xs.set j x
  | none => xs
theorem setI_map {α : Type} {f : α → D} {xs : List α} {i : Int} {x : α} {j : Nat} (h : L2.ixN (xs.map f).length i = some j) : (xs.map f).set j (f x) = (setI xs i x).map f := by
  rw [List.length_map] at h
  unfold setI
  rw [h, List.map_set]
theorem ixB_map {α : Type} {f : α → D} {xs : List α} {i : Int} (h : ixB xs i = true) : ixB (xs.map f) i = true := by
  unfold ixB at h ⊢
  rw [atI_map, Option.isSome_map]
  exact h
theorem HM_setE {α : Type} {e : α → D} [Bl e] {x : α} {xs : List α} {i : Nat} {b : Mn.E} {z : Int} (m : MS B (l ++ (k, xs.map e) :: r) st) (h : evE cf a ρ st = .ok (e x) st) (nd : notl (e x) = true) (hi : ρ[i]? = some (some (.lr k))) (hb : evE cf b ρ st = .ok (.int z) st) (o : ixB xs z = true)
    (n : ∀ st', MS B (l ++ (k, (setI xs z x).map e) :: r) st' → HS cf ss ρ st' Q E) : HS cf (.asg (.sb (.var i) b) a :: ss) ρ st Q E :=
  HM_set m h nd hi hb (ixB_map o) (fun n j => by rw [← List.map_set]; exact belows_map _ _) fun j st' hj m' => n st' (by rw [← setI_map hj]; exact m')
theorem HM_appE {α : Type} {e : α → D} [Bl e] {x : α} {xs : List α} {i : Nat} (m : MS B (l ++ (k, xs.map e) :: r) st) (hi : ρ[i]? = some (some (.lr k))) (h : evE cf a ρ st = .ok (e x) st) (nd : notl (e x) = true) (o : szB (xs.length + 1) = true) (n : ∀ st', MS B (l ++ (k, (xs ++ [x]).map e) :: r) st' → HS cf ss ρ st' Q E) :
    HS cf (.ex (.meth .append (.var i) [a]) :: ss) ρ st Q E := HM_app m hi h nd (fun n => by rw [show xs.map e ++ [e x] = (xs ++ [x]).map e by simp]; exact belows_map _ _) (by rw [List.length_map]; exact o) fun st' m' => n st' (by rw [List.map_append]; exact m')
theorem HM_aug {xs : List Int} {i : Nat} {p : Pr} {b : Mn.E} {z y w : Int} (m : MS B (l ++ (k, xs.map eI) :: r) st) (hi : ρ[i]? = some (some (.lr k))) (hb : evE cf b ρ st = .ok (.int z) st) (h : evE cf a ρ st = .ok (.int y) st) (o : ixB xs z = true) (s : semI p (getI xs z) y = some (.int w))
    (n : ∀ st', MS B (l ++ (k, (setI xs z w).map eI) :: r) st' → HS cf ss ρ st' Q E) : HS cf (.augS (.var i) b p a :: ss) ρ st Q E := by
  have o' := o
  unfold ixB L2.atI at o'
  cases e : L2.ixN xs.length z with
  | none => rw [e] at o'; cases o'
  | some j =>
    rw [e] at o'
    have hx : xs[j]? = some (getI xs z) := by
      unfold getI L2.atI
      rw [e]
      cases q : xs[j]? with
      | none => simp [q] at o'
      | some x => simp [q]
    have e' : L2.ixN (xs.map eI).length z = some j := by rw [List.length_map]; exact e
    refine HS_augSet (E_var hi) hb m.get e' (by simp [hx]) h s rfl (n _ ?_)
    have := setI_map (f := eI) (x := w) e'
    rw [← this]
    exact m.set fun n => by rw [← List.map_set]; exact belows_map _ _
theorem MS.retE {α : Type} {e : α → D} [Bl e] {xs : List α} (m : MS B (l ++ (k, xs.map e) :: r) st) : QF B.length (.ok (.tl (xs.map e)) B) (.ret (.lr k)) ρ st := m.retL (belows_map _ _)
end
/-! ### the script's state -/
section
variable {s s' : S2} {B : Sto} {cs : List (Nat × List D)}
theorem ss_get (h : 0 < st.length) : (ss st s)[0]? = some (.lst [.int s.1, .int s.2]) := by
  unfold ss
  rw [List.getElem?_set_self h]
theorem MS.upS (m : MS (ss B s) cs (ss st s)) (h : 0 < B.length) : MS (ss B s') cs (ss st s') := by
  have len := m.len
  rw [ss_len, ss_len] at len
  have wup : ∀ st : Sto, 0 < st.length → Wf (ss st s) → Wf (ss st s') := fun st h w => by
    unfold Wf at w ⊢
    rw [List.all_eq_true] at w ⊢
    intro o ho
    rw [ss_len] at w ⊢
    unfold ss at ho w
    obtain ⟨j, hj⟩ := List.mem_iff_getElem?.mp ho
    by_cases z : j = 0
    · subst z
      rw [List.getElem?_set_self h] at hj
      cases hj
      simp [Ob.below, belows, below]
    · rw [List.getElem?_set_ne (Ne.symm z)] at hj
      exact w o (List.mem_iff_getElem?.mpr ⟨j, by rw [List.getElem?_set_ne (Ne.symm z)]; exact hj⟩)
  refine ⟨wup B h m.wf, wup st (by omega) m.wfs, by rw [ss_len, ss_len]; exact len, fun j hj => ?_, m.nd, fun p hp => by have := m.own p hp; rw [ss_len] at this ⊢; exact this, fun p hp => ?_⟩
  · rw [ss_len] at hj
    have := m.fr j (by rw [ss_len]; exact hj)
    unfold ss at this ⊢
    by_cases z : j = 0
    · subst z
      rw [List.getElem?_set_self (by omega), List.getElem?_set_self h]
    · rw [List.getElem?_set_ne (Ne.symm z), List.getElem?_set_ne (Ne.symm z)] at this ⊢
      exact this
  · have o := m.own p hp
    rw [ss_len] at o
    have := m.at_ p hp
    unfold ss at this ⊢
    rw [List.getElem?_set_ne (by omega)] at this ⊢
    exact this
theorem MS.eqS (m : MS (ss B s) cs st) (h : 0 < B.length) : st = ss st s := by
  have h0 := m.fr 0 (by rw [ss_len]; exact h)
  rw [ss_get h] at h0
  apply List.ext_getElem?
  intro j
  unfold ss
  by_cases z : j = 0
  · subst z
    rw [h0, List.getElem?_set_self (List.getElem?_eq_some_iff.mp h0).1]
  · rw [List.getElem?_set_ne (Ne.symm z)]
/-- [f(x) for x in xs], drawing on the state -/
def mapS {α β : Type} (f : α → S2 → β × S2) : List α → S2 → List β × S2
  | [], s => ([], s)
  | x :: xs, s => ((f x s).1 :: (mapS f xs (f x s).2).1, (mapS f xs (f x s).2).2)
def okS {α β : Type} (f : α → S2 → β × S2) (ok : α → S2 → Bool) : List α → S2 → Bool
  | [], _ => true
  | x :: xs, s => ok x s && okS f ok xs (f x s).2
theorem turns_S {α β : Type} {e : α → D} {e2 : β → D} {sv : Sv} {body : D → List D → Sto → Out (List D)} (f : α → S2 → β × S2) (ok : α → S2 → Bool) : ∀ (k i : Nat) (zs : List α) (acc : List D) (s : S2), zs.length = k → (∀ s j z, zs[j]? = some z → sv.item (ss st s) (i + j) = some (e z)) → acc.length ≤ i → okS f ok zs s = true →
    (∀ z s, ok z s = true → ∀ acc : List D, acc.length < i + k → body (e z) acc (ss st s) = .ok (acc ++ [e2 (f z s).1]) (ss st (f z s).2)) → (∀ s, sv.ends (ss st s) (i + k) = true) → turns sv body k i acc (ss st s) = .ok (acc ++ (mapS f zs s).1.map e2) (ss st (mapS f zs s).2)
  | 0, i, zs, acc, s, hl, _, _, _, _, he => by
    have : zs = [] := List.eq_nil_of_length_eq_zero hl
    subst this
    rw [turns, if_pos (show sv.ends (ss st s) i = true from he s)]
    simp [mapS]
  | k + 1, i, [], acc, s, hl, _, _, _, _, _ => by simp at hl
  | k + 1, i, z :: zs, acc, s, hl, hi, ha, ho, hb, he => by
    have e1 := hi s 0 z rfl
    have e2' := hb z s (a1 ho) acc (by omega)
    have ek : i + (k + 1) = i + 1 + k := by omega
    rw [turns, show sv.item (ss st s) i = some (e z) from e1]
    show (body (e z) acc (ss st s)).bind _ = _
    rw [e2']
    show turns sv body k (i + 1) (acc ++ [e2 (f z s).1]) (ss st (f z s).2) = _
    rw [turns_S (e := e) (e2 := e2) f ok k (i + 1) zs _ _ (by simpa using hl) (fun s j y hj => by
      have := hi s (j + 1) y (by simpa using hj)
      rw [show i + 1 + j = i + (j + 1) by omega]
      exact this) (by simp; omega) (a2 ho) (fun y s h acc h2 => hb y s h acc (by omega)) (fun s => by rw [← ek]; exact he s)]
    simp [mapS]
theorem E_compS {α β : Type} {e : α → D} {e2 : β → D} {elt : Mn.E} {tg : Tg} {src : Src} {own : List Nat} {xs : List α} {f : α → S2 → β × S2} {cf : Cf} (ok : α → S2 → Bool) (o : szB xs.length = true) (h : SrcP cf src ρ (ss st s) (ss st s) (xs.map e) AnyS) (ho : okS f ok xs s = true)
    (k : ∀ x s, ok x s = true → ∃ ρ', evTg cf tg (e x) (wipe ρ own) (ss st s) = .ok ρ' (ss st s) ∧ evE cf elt ρ' (ss st s) = .ok (e2 (f x s).1) (ss st (f x s).2)) (nl : ∀ b, notl (e2 b) = true) :
    evE cf (.comp elt tg src [] own) ρ (ss st s) = .ok (.tl ((mapS f xs s).1.map e2)) (ss st (mapS f xs s).2) := by
  obtain ⟨sv, n, h, w⟩ := h
  have w := fun s' : S2 => w (ss st s') trivial
  have hl : xs.length = n := by simpa using (w s).len
  rw [ev_comp, h, kComp_ok]
  unfold compB
  rw [turns_S (e := e) (e2 := e2) f ok n 0 xs [] s hl (fun s j z hz => by
    have hj : j < xs.length := (List.getElem?_eq_some_iff.mp hz).1
    rw [Nat.zero_add, (w s).item j (by omega)]
    simp [hz]) (Nat.le_refl _) ho (fun z s hz acc ha => by
    obtain ⟨ρ', k1, k2⟩ := k z s hz
    have hs : acc.length < sizeLine := Nat.lt_of_lt_of_le ha (by have := szB_ok o; omega)
    simp [turnB, k1, k2, hs, mat_notl (nl _)]) (fun s => by rw [Nat.zero_add]; exact (w s).ends)]
  rfl
end
end Wk
/-! Wk5: the rest that the printed walks name. -/
namespace Wk
open Mn PySem
variable {cf : Cf} {ρ ρ1 : Rho} {st st1 st2 st3 : Sto} {a b c : Mn.E} {es : List Mn.E} {d d1 d2 d3 : D} {ds : List D}
section
variable {α : Type} {e : α → D}
def Ex.all (m : Ex α) (p : α → Bool) : Bool := match m with
  | .ok a => p a
  | .ex _ _ => true
theorem Ex.all_ok {m : Ex α} {p : α → Bool} {v : α} (h : Ex.all m p = true) (k : m = .ok v) : p v = true := by subst k; exact h
def Ex.exs (m : Ex α) (p : Nat → List D → Bool) : Bool := match m with
  | .ok _ => true
  | .ex c ds => p c ds
theorem Ex.exs_ok {m : Ex α} {p : Nat → List D → Bool} {c : Nat} {ds : List D} (h : Ex.exs m p = true) (k : m = .ex c ds) : p c ds = true := by subst k; exact h
theorem q_nxX {n : Nat} (h : st.length = n) : QF n (outX eU st (.ok ())) .nx ρ st := q_nx h
theorem q_law {t : Bool} : QF 0 (.ok (eB t) []) (.ret (eB t)) ρ st := by
  show retn 0 (.bl t) st = _
  unfold retn
  have : clean 0 st = true := by simp [clean]
  rw [if_pos this]
  rfl
theorem E_frzL {xs : List α} (h : evE cf a ρ st = .ok (.tl (xs.map e)) st1) : evE cf (.frz a) ρ st = .ok (eL e xs) st1 := by rw [E_frz h]; rfl
def tryB (e : α → D) [Un e] (p : List D) : Bool := match p with
  | [d] => Un.is e d
  | _ => false
theorem tryB_ok [Un e] {p : List D} (h : tryB e p = true) : ∃ d, p = [d] ∧ d = e (Un.un e d) := by
  match p, h with
  | [d], h => exact ⟨d, rfl, Un.ok d h⟩
theorem E_lenP (h : evE cf a ρ st = .ok (.tup ds) st1) : evE cf (.prim .len [a]) ρ st = .ok (.int (ds.length : Int)) st1 := E_p1 h (sp_lenT ds)
end
section
variable {B : Sto} {cs l r : List (Nat × List D)} {k : Nat} {xs : List D} {ss' : List S} {Q : Kt} {E : Et} {s : S2}
theorem MS.exX {α : Type} {e : α → D} {n : Nat} (m : MS B cs st) : EF B.length (outX e B (.ex n [])) n [] st := m.ex
theorem MS.retS (m : MS (ss B s) cs (ss st s)) (h0 : 0 < B.length) (h : below B.length d = true) : QF B.length (.ok d (ss B s)) (.ret d) ρ (ss st s) := by
  have := MS.ret (ρ := ρ) m (d := d) (by rw [ss_len]; exact h)
  rwa [ss_len] at this
theorem MS.retES {α : Type} {e : α → D} [Bl e] {xs : List α} (m : MS (ss B s) (l ++ (k, xs.map e) :: r) (ss st s)) (h0 : 0 < B.length) : QF B.length (.ok (.tl (xs.map e)) (ss B s)) (.ret (.lr k)) ρ (ss st s) := by
  have := MS.retE (ρ := ρ) m
  rwa [ss_len] at this
theorem HM_newE {α : Type} {e : α → D} [Bl e] {xs : List α} {i : Nat} (m : MS B cs st) (h : evE cf a ρ st = .ok (.tl (xs.map e)) st) (n : ∀ k st', MS B ((k, xs.map e) :: cs) st' → HS cf ss' (ρ.set i (some (.lr k))) st' Q E) : HS cf (.asg (.nm i) a :: ss') ρ st Q E :=
  HM_new m h (fun _ => belows_map _ _) n
theorem HM_newES {α : Type} {e : α → D} [Bl e] {xs : List α} {i : Nat} (h0 : 0 < B.length) (m : MS (ss B s) cs (ss st s)) (h : evE cf a ρ (ss st s) = .ok (.tl (xs.map e)) (ss st s)) (n : ∀ k st', MS (ss B s) ((k, xs.map e) :: cs) (ss st' s) → HS cf ss' (ρ.set i (some (.lr k))) (ss st' s) Q E) : HS cf (.asg (.nm i) a :: ss') ρ (ss st s) Q E :=
  HM_newE m h fun k st' m' => by
    have e := m'.eqS h0
    rw [e] at m' ⊢
    exact n k st' m'
theorem HM_setES {α : Type} {e : α → D} [Bl e] {x : α} {xs : List α} {i : Nat} {b : Mn.E} {z : Int} (h0 : 0 < B.length) (m : MS (ss B s) (l ++ (k, xs.map e) :: r) (ss st s)) (h : evE cf a ρ (ss st s) = .ok (e x) (ss st s)) (nd : notl (e x) = true) (hi : ρ[i]? = some (some (.lr k))) (hb : evE cf b ρ (ss st s) = .ok (.int z) (ss st s)) (o : ixB xs z = true)
    (n : ∀ st', MS (ss B s) (l ++ (k, (setI xs z x).map e) :: r) (ss st' s) → HS cf ss' ρ (ss st' s) Q E) : HS cf (.asg (.sb (.var i) b) a :: ss') ρ (ss st s) Q E :=
  HM_setE m h nd hi hb o fun st' m' => by
    have e := m'.eqS h0
    rw [e] at m' ⊢
    exact n st' m'
theorem HM_appES {α : Type} {e : α → D} [Bl e] {x : α} {xs : List α} {i : Nat} (h0 : 0 < B.length) (m : MS (ss B s) (l ++ (k, xs.map e) :: r) (ss st s)) (hi : ρ[i]? = some (some (.lr k))) (h : evE cf a ρ (ss st s) = .ok (e x) (ss st s)) (nd : notl (e x) = true) (o : szB (xs.length + 1) = true) (n : ∀ st', MS (ss B s) (l ++ (k, (xs ++ [x]).map e) :: r) (ss st' s) → HS cf ss' ρ (ss st' s) Q E) :
    HS cf (.ex (.meth .append (.var i) [a]) :: ss') ρ (ss st s) Q E :=
  HM_appE m hi h nd o fun st' m' => by
    have e := m'.eqS h0
    rw [e] at m' ⊢
    exact n st' m'
theorem HM_augS {xs : List Int} {i : Nat} {p : Pr} {b : Mn.E} {z y w : Int} (h0 : 0 < B.length) (m : MS (ss B s) (l ++ (k, xs.map eI) :: r) (ss st s)) (hi : ρ[i]? = some (some (.lr k))) (hb : evE cf b ρ (ss st s) = .ok (.int z) (ss st s)) (h : evE cf a ρ (ss st s) = .ok (.int y) (ss st s)) (o : ixB xs z = true) (q : semI p (getI xs z) y = some (.int w))
    (n : ∀ st', MS (ss B s) (l ++ (k, (setI xs z w).map eI) :: r) (ss st' s) → HS cf ss' ρ (ss st' s) Q E) : HS cf (.augS (.var i) b p a :: ss') ρ (ss st s) Q E :=
  HM_aug m hi hb h o q fun st' m' => by
    have e := m'.eqS h0
    rw [e] at m' ⊢
    exact n st' m'
end
/-! ### defs whose specs are written here -/
section
variable {T : List Fn} {wf k g : Nat}
def fWhole : Fn := ⟨1, 1, [.ret (.and (.prim (.inst [.int]) [.var 0]) (.not (.prim (.inst [.bool]) [.var 0])))]⟩
end
end Wk
def V.l_is_whole (d : Mn.D) : Bool := Wk.isTy [.int] d && !Wk.isTy [.bool] d
def O.l_is_whole (d : Mn.D) : Bool := Mn.notl d && Wk.tyB d
namespace Wk
open Mn PySem
section
variable {st : Sto} {T : List Fn} {wf k g : Nat}
theorem whole_w {d : D} (hT : T[g]? = some fWhole) (h : O.l_is_whole d = true) : callF T wf (k + 1) g [eD d] st = .ok (eB (V.l_is_whole d)) st := by
  have o := a2 h
  refine call_HS (f := fWhole) hT rfl ?_
  exact HS_ret (E_and (E_instD o (E_var rfl)) fun _ => E_not (E_instD o (E_var rfl))) (q_ret rfl)
end
end Wk
/-! Wk6: defs that all laws share: odd, honest, same, the draws. -/
open Wk Mn PySem
namespace Wk
abbrev oddS : List Nat := [97, 32, 119, 111, 114, 100, 32, 116, 104, 97, 116, 32, 110, 111, 116, 104, 105, 110, 103, 32, 101, 108, 115, 101, 32, 105, 115]
mutual
def oddD : D → Bool
  | .str s => s == oddS
  | .tup xs => oddDs xs
  | .il xs => oddDs xs
  | _ => false
def oddDs : List D → Bool
  | [] => false
  | d :: ds => oddD d || oddDs ds
end
mutual
/-- the law's sameness -/
def sameD : D → D → Bool
  | a, .tup ys => (match a with
    | .tup xs => sameDs xs ys
    | _ => false)
  | a, .bl b => (match a with
    | .bl c => c == b
    | _ => false)
  | a, .str s => (match a with
    | .str r => r == s
    | _ => false)
  | a, .non => isNon a
  | a, .int i => (match a with
    | .int j => decide (j = i)
    | _ => false)
  | _, _ => false
def sameDs : List D → List D → Bool
  | [], [] => true
  | x :: xs, y :: ys => sameD x y && sameDs xs ys
  | _, _ => false
end
mutual
/-- short all through -/
def szD : D → Bool
  | .tup xs => szB xs.length && szDs xs
  | .il xs => szB xs.length && szDs xs
  | _ => true
def szDs : List D → Bool
  | [] => true
  | d :: ds => szD d && szDs ds
end
end Wk
def V.l_odd (d : D) : Bool := oddD d
def O.l_odd (d : D) : Bool := pdB d && szD d
def V.l_honest (d : D) : D := bif oddD d then .str [111, 100, 100] else d
def O.l_honest (d : D) : Bool := pdB d && szD d
def V.l_same (a b : D) : Bool := sameD a b
def O.l_same (a b : D) : Bool := pdB a && pdB b && szD a
namespace Wk
variable {T : List Fn} {wf k g g1 : Nat} {st : Sto}
theorem pd_notl {n : Nat} {d : D} (h : pd n d = true) : notl d = true := by
  cases d <;> first | rfl | (cases n <;> simp [pd] at h)
theorem pds_mem {n : Nat} : ∀ {ds : List D}, pds n ds = true → ∀ d ∈ ds, pd n d = true
  | x :: xs, h, d, hd => by
    simp only [pds, Bool.and_eq_true] at h
    rcases List.mem_cons.mp hd with rfl | z
    · exact h.1
    · exact pds_mem h.2 d z
theorem szDs_mem : ∀ {ds : List D}, szDs ds = true → ∀ d ∈ ds, szD d = true
  | x :: xs, h, d, hd => by
    simp only [szDs, Bool.and_eq_true] at h
    rcases List.mem_cons.mp hd with rfl | z
    · exact h.1
    · exact szDs_mem h.2 d z
theorem oddDs_len : ∀ xs : List D, decide (((xs.filter oddD).length : Int) > 0) = oddDs xs
  | [] => rfl
  | x :: xs => by
    have := oddDs_len xs
    cases h : oddD x with
    | true => simp [oddDs, h]
    | false => rw [List.filter_cons_of_neg (by simp [h]), this, oddDs, h, Bool.false_or]
def fOdd (o : Nat) : Fn := ⟨1, 2, [.ifS (.prim .eq [.var 0, .cst (.str oddS)]) [.ret (.cst (.bl true))] [], .ret (.and (.prim (.inst [.tuple, .list]) [.var 0]) (.prim .gt [.prim .len [.comp (.var 1) (.nm 1) (.ex (.var 0)) [.call o [.var 1]] [1]], .cst (.int 0)]))]⟩
theorem odd_gen (hT : T[g]? = some (fOdd g)) : ∀ (n k : Nat) (d : D), pd n d = true → n ≤ 16 → szD d = true → n ≤ k → callF T wf k g [d] st = .ok (.bl (oddD d)) st := by
  intro n
  induction n with
  | zero => intro k d h; simp [pd] at h
  | succ n ih =>
    intro k d h h16 hz hk
    obtain ⟨k, rfl⟩ : ∃ k', k = k' + 1 := ⟨k - 1, by omega⟩
    refine call_HS (f := fOdd g) hT rfl ?_
    have hp : pdB d = true := pd_up h (by omega)
    have seqs : ∀ xs : List D, (d = .tup xs ∨ d = .il xs) → HS ⟨callF T wf k, wf, T.length⟩ (fOdd g).body [some d, none] st (QF st.length (.ok (.bl (oddD d)) st)) (EF st.length (.ok (.bl (oddD d)) st)) := fun xs hd => by
      have hx : pds n xs = true := by rcases hd with rfl | rfl <;> simpa [pd] using h
      have hzx : szB xs.length = true ∧ szDs xs = true := by rcases hd with rfl | rfl <;> simpa [szD] using hz
      have e0 : eqP d (.str oddS) = false := by rcases hd with rfl | rfl <;> rfl
      have sq : sqD d = true ∧ itD d = xs ∧ tyB d = true ∧ isTy [.tuple, .list] d = true ∧ oddD d = oddDs xs := by rcases hd with rfl | rfl <;> simp [sqD, itD, tyB, tyOf, isTy, subTy, oddD]
      obtain ⟨q1, q2, q3, q4, q5⟩ := sq
      refine HS_if (E_eqDD hp (by decide) (E_var rfl) E_cst) (fun hc => by rw [e0] at hc; cases hc) fun _ => ?_
      refine HS_ret (E_and (E_instD q3 (E_var rfl)) fun _ => E_gt (E_len (e := eD) sF (E_compF (e := eD) (e2 := eD) (f := id) (P := oddD) (by rw [q2]; exact hzx.1) (S_seq (v_D q1) (E_var rfl)) trivial (fun y hm => ⟨_, T_nm (pd_notl (pds_mem hx y (q2 ▸ hm))), E_call (Es_cons (E_var rfl) Es_nil) (mlc (pd_notl (pds_mem hx y (q2 ▸ hm))) ml0) (ih k y (pds_mem hx y (q2 ▸ hm)) (by omega) (szDs_mem hzx.2 y (q2 ▸ hm)) (by omega)), fun _ => E_var rfl⟩) fun y hm => pd_notl (pds_mem hx y (q2 ▸ hm)))) E_cst) ?_
      rw [q4, q5, q2, Bool.true_and, List.map_id, oddDs_len]
      exact q_ret rfl
    have scal : isTy [.tuple, .list] d = false → tyB d = true → oddD d = eqP d (.str oddS) → HS ⟨callF T wf k, wf, T.length⟩ (fOdd g).body [some d, none] st (QF st.length (.ok (.bl (oddD d)) st)) (EF st.length (.ok (.bl (oddD d)) st)) := fun h1 h2 h3 => by
      refine HS_if (E_eqDD hp (by decide) (E_var rfl) E_cst) (fun hc => ?_) fun hc => ?_
      · rw [h3, hc]
        exact HS_ret E_cst (q_ret rfl)
      · refine HS_ret (E_and (y := false) (E_instD h2 (E_var rfl)) fun z => by rw [h1] at z; cases z) ?_
        rw [h1, h3, hc]
        exact q_ret rfl
    cases d with
    | tup xs => exact seqs xs (.inl rfl)
    | il xs => exact seqs xs (.inr rfl)
    | non => exact scal rfl rfl rfl
    | bl b => exact scal rfl rfl rfl
    | int i => exact scal rfl rfl rfl
    | str s => exact scal rfl rfl rfl
    | tl xs => simp [pd] at h
    | kl xs => simp [pd] at h
    | lr xs => simp [pd] at h
    | fn xs => simp [pd] at h
theorem odd_w {d : D} (hT : T[g]? = some (fOdd g)) (h : O.l_odd d = true) : callF T wf (k + 17) g [d] st = .ok (eB (V.l_odd d)) st := odd_gen hT 16 _ d (a1 h) (by decide) (a2 h) (by omega)
def fHonest (o : Nat) : Fn := ⟨1, 1, [.ret (.ite (.call o [.var 0]) (.cst (.str [111, 100, 100])) (.var 0))]⟩
theorem honest_w {d : D} (hT : T[g]? = some (fHonest g1)) (h1 : T[g1]? = some (fOdd g1)) (h : O.l_honest d = true) : callF T wf (k + 18) g [d] st = .ok (eD (V.l_honest d)) st := by
  refine call_HS (f := fHonest g1) hT rfl ?_
  exact HS_ret (E_ite (e := eD) (E_call (Es_cons (E_var rfl) Es_nil) (mlc (pd_notl (a1 h)) ml0) (odd_w h1 h)) (fun _ => E_cst) fun _ => E_var rfl) (q_ret rfl)
/-! ### the same -/
theorem sameDs_all : ∀ xs ys : List D, sameDs xs ys = (decide ((xs.length : Int) = ys.length) && (rI 0 (ys.length : Int)).all fun i => decide ((xs.length : Int) = ys.length) && sameD (getI xs i) (getI ys i)) := by
  have key : ∀ xs ys : List D, xs.length = ys.length → (sameDs xs ys = true ↔ ∀ i, i < ys.length → sameD (xs.getD i .non) (ys.getD i .non) = true) := by
    intro xs
    induction xs with
    | nil => intro ys h; cases ys with
      | nil => simp [sameDs]
      | cons _ _ => simp at h
    | cons x xs ih => intro ys h; cases ys with
      | nil => simp at h
      | cons y ys =>
        have h' : xs.length = ys.length := by simpa using h
        simp only [sameDs, Bool.and_eq_true, ih ys h']
        constructor
        · rintro ⟨a, b⟩ i hi
          cases i with
          | zero => simpa using a
          | succ i => simpa using b i (by simpa using hi)
        · intro k
          exact ⟨by simpa using k 0 (by simp), fun i hi => by simpa using k (i + 1) (by simpa using hi)⟩
  have gi : ∀ (xs : List D) (i : Nat), getI xs (i : Int) = xs.getD i .non := fun xs i => by
    unfold getI
    rw [atI_get']
    rfl
  intro xs ys
  by_cases h : xs.length = ys.length
  · have h' : ((xs.length : Int) = ys.length) := by omega
    rw [Bool.eq_iff_iff, key xs ys h]
    simp only [h', decide_true, Bool.true_and, List.all_eq_true]
    constructor
    · intro k i hi
      simp only [rI, List.mem_map, List.mem_range] at hi
      obtain ⟨j, hj, rfl⟩ := hi
      rw [Int.zero_add, gi, gi]
      exact k j (by omega)
    · intro k i hi
      have := k (i : Int) (by simp only [rI, List.mem_map, List.mem_range]; exact ⟨i, by omega, by omega⟩)
      rwa [gi, gi] at this
  · have h' : ¬ ((xs.length : Int) = ys.length) := by omega
    simp only [h', decide_false, Bool.false_and]
    have : ∀ xs ys : List D, xs.length ≠ ys.length → sameDs xs ys = false := by
      intro xs
      induction xs with
      | nil => intro ys h; cases ys with
        | nil => simp at h
        | cons _ _ => rfl
      | cons x xs ih => intro ys h; cases ys with
        | nil => rfl
        | cons y ys =>
          simp only [sameDs]
          rw [ih ys (by simpa using h), Bool.and_false]
    exact this xs ys h
def sTup (s : Nat) : S := .ifS (.prim (.inst [.tuple]) [.var 1]) [.ret (.and (.prim (.inst [.tuple]) [.var 0]) (.and (.prim .eq [.prim .len [.var 0], .prim .len [.var 1]]) (.prim .all [.comp (.call s [.prim .ix [.var 0, .var 2], .prim .ix [.var 1, .var 2]]) (.nm 2) (.rng [.prim .len [.var 1]]) [] [2]])))] []
def sBl : S := .ifS (.prim (.inst [.bool]) [.var 1]) [.ret (.and (.prim (.inst [.bool]) [.var 0]) (.prim .eq [.var 0, .var 1]))] []
def sStr : S := .ifS (.prim (.inst [.str]) [.var 1]) [.ret (.and (.prim (.inst [.str]) [.var 0]) (.prim .eq [.var 0, .var 1]))] []
def sNon : S := .ifS (.prim .isN [.var 1, .cst (.non)]) [.ret (.prim .isN [.var 0, .cst (.non)])] []
def sInt (w : Nat) : S := .ret (.and (.call w [.var 0]) (.prim .eq [.var 0, .var 1]))
def sInt2 : S := .ret (.and (.prim (.inst [.int]) [.var 0]) (.and (.not (.prim (.inst [.bool]) [.var 0])) (.prim .eq [.var 0, .var 1])))
/-- the four orders in which the laws' texts ask -/
def sameB (v s w : Nat) : List S := match v with
  | 0 => [sBl, sTup s, sStr, sNon, sInt w]
  | 1 => [sTup s, sBl, sStr, sNon, sInt w]
  | _ => [sTup s, sNon, sBl, sStr, sInt2]
def fSame (v s w : Nat) : Fn := ⟨2, 3, sameB v s w⟩
theorem ty_of_pd {n : Nat} {d : D} (h : pd n d = true) : tyB d = true := by
  cases d <;> first | rfl | (cases n <;> simp [pd] at h)
theorem getI_mem {xs : List D} {i : Int} (h : i ∈ rI 0 (xs.length : Int)) : getI xs i ∈ xs ∧ ixB xs i = true := by
  simp only [rI, List.mem_map, List.mem_range] at h
  obtain ⟨j, hj, rfl⟩ := h
  have hj' : j < xs.length := by omega
  rw [Int.zero_add]
  unfold getI ixB
  rw [atI_get', List.getElem?_eq_getElem hj']
  exact ⟨List.getElem_mem hj', rfl⟩
section
variable {ρ : Rho} {ss : List S} {a b : D} {K : Nat} {x : Option D}
/-- a clause that does not bear -/
theorem st_skip {ts : List Ty} {r : E} {Q : Kt} {E : Et} (o : tyB b = true) (h : isTy ts b = false) (k : HS ⟨callF T wf K, wf, T.length⟩ ss [some a, some b, none] st Q E) : HS ⟨callF T wf K, wf, T.length⟩ (.ifS (.prim (.inst ts) [.var 1]) [.ret r] [] :: ss) [some a, some b, none] st Q E :=
  HS_if (E_instD o (E_var rfl)) (fun z => by rw [h] at z; cases z) fun _ => k
theorem st_hit {ts : List Ty} {r : E} {Q : Kt} {E : Et} {t : Bool} (o : tyB b = true) (h : isTy ts b = true) (k : evE ⟨callF T wf K, wf, T.length⟩ r [some a, some b, none] st = .ok (.bl t) st) (q : Q (.ret (.bl t)) [some a, some b, none] st) : HS ⟨callF T wf K, wf, T.length⟩ (.ifS (.prim (.inst ts) [.var 1]) [.ret r] [] :: ss) [some a, some b, none] st Q E :=
  HS_if (E_instD o (E_var rfl)) (fun _ => HS_ret k q) fun z => by rw [h] at z; cases z
theorem st_skipN {r : E} {Q : Kt} {E : Et} (h : isNon b = false) (k : HS ⟨callF T wf K, wf, T.length⟩ ss [some a, some b, none] st Q E) : HS ⟨callF T wf K, wf, T.length⟩ (.ifS (.prim .isN [.var 1, .cst .non]) [.ret r] [] :: ss) [some a, some b, none] st Q E :=
  HS_if (E_isND (E_var rfl)) (fun z => by rw [h] at z; cases z) fun _ => k
end
theorem same_gen {v w : Nat} (hT : T[g]? = some (fSame v g w)) (hW : v < 2 → T[w]? = some fWhole) : ∀ (n k : Nat) (a b : D), pd 16 a = true → pd n b = true → n ≤ 16 → szD a = true → n < k → callF T wf k g [a, b] st = .ok (.bl (sameD a b)) st := by
  intro n
  induction n with
  | zero => intro k a b _ h; simp [pd] at h
  | succ n ih =>
    intro k a b ha hb h16 hz hk
    obtain ⟨k, rfl⟩ : ∃ k', k = k' + 1 := ⟨k - 1, by omega⟩
    obtain ⟨k, rfl⟩ : ∃ k', k = k' + 1 := ⟨k - 1, by omega⟩
    refine call_HS (f := fSame v g w) hT rfl ?_
    have pa : pdB a = true := ha
    have pb : pdB b = true := pd_up hb h16
    have ta := ty_of_pd ha
    have tb := ty_of_pd hb
    have eq1 : ∀ {cf : Cf}, evE cf (.prim .eq [.var 0, .var 1]) [some a, some b, none] st = .ok (.bl (eqP a b)) st := E_eqDD pa pb (E_var rfl) (E_var rfl)
    have go : ∀ (t : Bool), sameD a b = t → (∀ Q E, Q (.ret (.bl t)) [some a, some b, none] st → HS ⟨callF T wf (k + 1), wf, T.length⟩ (sameB v g w) [some a, some b, none] st Q E) → HS ⟨callF T wf (k + 1), wf, T.length⟩ (fSame v g w).body [some a, some b, none] st (QF st.length (.ok (.bl (sameD a b)) st)) (EF st.length (.ok (.bl (sameD a b)) st)) := fun t ht hh => hh _ _ (by rw [ht]; exact q_ret rfl)
    have q0 : ∀ ts c, evE c (.prim (.inst ts) [.var 0]) [some a, some b, none] st = .ok (.bl (isTy ts a)) st := fun ts c => E_instD ta (E_var rfl)
    have hwh : v < 2 → evE ⟨callF T wf (k + 1), wf, T.length⟩ (.call w [.var 0]) [some a, some b, none] st = .ok (.bl (V.l_is_whole a)) st := fun hv => E_call (Es_cons (E_var rfl) Es_nil) (mlc (pd_notl ha) ml0) (whole_w (hW hv) (by unfold O.l_is_whole; rw [pd_notl ha, ta]; rfl))
    have end3 : ∀ {Q E} (t : Bool), isNon b = false → isTy [.bool] b = false → isTy [.str] b = false → isTy [.tuple] b = false → sameD a b = t → (V.l_is_whole a && eqP a b) = t → Q (.ret (.bl t)) [some a, some b, none] st → HS ⟨callF T wf (k + 1), wf, T.length⟩ (sameB v g w) [some a, some b, none] st Q E := fun {Q E} t n1 n2 n3 n4 _ ht q => by
      match v, hwh with
      | 0, hwh => exact st_skip tb n2 (st_skip tb n4 (st_skip tb n3 (st_skipN n1 (HS_ret (E_and (hwh (by decide)) fun _ => eq1) (by rw [ht]; exact q)))))
      | 1, hwh => exact st_skip tb n4 (st_skip tb n2 (st_skip tb n3 (st_skipN n1 (HS_ret (E_and (hwh (by decide)) fun _ => eq1) (by rw [ht]; exact q)))))
      | v + 2, _ => exact st_skip tb n4 (st_skipN n1 (st_skip tb n2 (st_skip tb n3 (HS_ret (E_and (q0 _ _) fun _ => E_and (E_not (q0 _ _)) fun _ => eq1) (by rw [← Bool.and_assoc]; rw [show (isTy [.int] a && !isTy [.bool] a) = V.l_is_whole a from rfl, ht]; exact q)))))
    cases b with
    | non =>
      refine go (isNon a) (by cases a <;> rfl) ?_
      intro Q E q
      exact by
        have hn : ∀ {cf : Cf}, evE cf (.prim .isN [.var 0, .cst .non]) [some a, some .non, none] st = .ok (.bl (isNon a)) st := E_isND (E_var rfl)
        have hit : ∀ {ss : List S}, HS ⟨callF T wf (k + 1), wf, T.length⟩ (sNon :: ss) [some a, some .non, none] st Q E := HS_if (E_isND (E_var rfl)) (fun _ => HS_ret hn q) fun z => by cases z
        match v with
        | 0 => exact st_skip tb rfl (st_skip tb rfl (st_skip tb rfl hit))
        | 1 => exact st_skip tb rfl (st_skip tb rfl (st_skip tb rfl hit))
        | v + 2 => exact st_skip tb rfl hit
    | bl c =>
      exact go _ rfl fun Q E q => by
        have hh : ∀ {cf : Cf}, evE cf (.and (.prim (.inst [.bool]) [.var 0]) (.prim .eq [.var 0, .var 1])) [some a, some (.bl c), none] st = .ok (.bl (isTy [.bool] a && eqP a (.bl c))) st := E_and (q0 _ _) fun _ => eq1
        have e : (isTy [.bool] a && eqP a (.bl c)) = sameD a (.bl c) := by cases a <;> first | rfl | (simp [isTy, tyOf, subTy, sameD]; done) | simp [isTy, tyOf, subTy, sameD, eqP]
        rw [← e] at q
        match v with
        | 0 => exact st_hit tb rfl hh q
        | 1 => exact st_skip tb rfl (st_hit tb rfl hh q)
        | v + 2 => exact st_skip tb rfl (st_skipN rfl (st_hit tb rfl hh q))
    | str c =>
      exact go _ rfl fun Q E q => by
        have hh : ∀ {cf : Cf}, evE cf (.and (.prim (.inst [.str]) [.var 0]) (.prim .eq [.var 0, .var 1])) [some a, some (.str c), none] st = .ok (.bl (isTy [.str] a && eqP a (.str c))) st := E_and (q0 _ _) fun _ => eq1
        have e : (isTy [.str] a && eqP a (.str c)) = sameD a (.str c) := by cases a <;> first | rfl | (simp [isTy, tyOf, subTy, sameD]; done) | simp [isTy, tyOf, subTy, sameD, eqP]
        rw [← e] at q
        match v with
        | 0 => exact st_skip tb rfl (st_skip tb rfl (st_hit tb rfl hh q))
        | 1 => exact st_skip tb rfl (st_skip tb rfl (st_hit tb rfl hh q))
        | v + 2 => exact st_skip tb rfl (st_skipN rfl (st_skip tb rfl (st_hit tb rfl hh q)))
    | int c =>
      have e : (V.l_is_whole a && eqP a (.int c)) = sameD a (.int c) := by
        cases a <;> first | rfl | (simp [V.l_is_whole, isTy, tyOf, subTy, sameD]; done) | (simp [V.l_is_whole, isTy, tyOf, subTy, sameD, eqP]; rename_i x; by_cases hx : x = c <;> simp [hx])
      exact go _ rfl fun Q E q => end3 _ rfl rfl rfl rfl rfl e q
    | il ys =>
      have e : (V.l_is_whole a && eqP a (.il ys)) = sameD a (.il ys) := by
        cases a <;> first | rfl | (simp [V.l_is_whole, isTy, tyOf, subTy, sameD]; done) | simp [V.l_is_whole, isTy, tyOf, subTy, sameD, eqP]
      exact go _ rfl fun Q E q => end3 _ rfl rfl rfl rfl rfl e q
    | tup ys =>
      exact go _ rfl fun Q E q => by
        have hy : pds n ys = true := by simpa [pd] using hb
        have hh : ∃ t, evE ⟨callF T wf (k + 1), wf, T.length⟩ (.and (.prim (.inst [.tuple]) [.var 0]) (.and (.prim .eq [.prim .len [.var 0], .prim .len [.var 1]]) (.prim .all [.comp (.call g [.prim .ix [.var 0, .var 2], .prim .ix [.var 1, .var 2]]) (.nm 2) (.rng [.prim .len [.var 1]]) [] [2]]))) [some a, some (.tup ys), none] st = .ok (.bl t) st ∧ t = sameD a (.tup ys) := by
          cases a with
          | tup xs =>
            have hx : pds 15 xs = true := by simpa [pd] using ha
            have hzx : szB xs.length = true ∧ szDs xs = true := by simpa [szD] using hz
            refine ⟨isTy [.tuple] (.tup xs) && (decide ((xs.length : Int) = ys.length) && (rI 0 (ys.length : Int)).all fun i => decide ((xs.length : Int) = ys.length) && sameD (getI xs i) (getI ys i)), E_and (q0 _ _) fun _ => E_and (E_eqI (E_len (e := eD) (xs := xs) (by simp [seqOf, List.map_id']) (E_var rfl)) (E_len (e := eD) (xs := ys) (by simp [seqOf, List.map_id']) (E_var rfl))) fun hl => ?_, ?_⟩
            · have hl' : (xs.length : Int) = ys.length := of_decide_eq_true hl
              have hsz : ys.length ≤ 16777216 := by have := szB_ok hzx.1; unfold sizeLine at this; omega
              have hlen : (rI 0 (ys.length : Int)).length = ys.length := by simp [rI]
              have hm : ∀ i ∈ rI 0 (ys.length : Int), getI xs i ∈ xs ∧ ixB xs i = true ∧ getI ys i ∈ ys ∧ ixB ys i = true := fun i hi => ⟨(getI_mem (by rw [hl']; exact hi)).1, (getI_mem (by rw [hl']; exact hi)).2, (getI_mem hi).1, (getI_mem hi).2⟩
              exact E_all (f := fun i => decide ((xs.length : Int) = ys.length) && sameD (getI xs i) (getI ys i)) (zs := rI 0 (ys.length : Int)) lF (E_comp (e := eI) (e2 := eB) (by rw [hlen]; exact Nat.ble_eq_true_of_le hsz) (S_rng1 (by unfold rgB inR; simp; omega) (E_len (e := eD) (xs := ys) (by simp [seqOf, List.map_id']) (E_var rfl))) trivial (fun i hi => ⟨_, T_nm rfl, by
                obtain ⟨m1, m2, m3, m4⟩ := hm i hi
                rw [hl, Bool.true_and]
                exact E_call (Es_cons (E_ix (e := eD) (xs := xs) (by simp [seqOf, List.map_id']) m2 (E_var rfl) (E_var rfl)) (Es_cons (E_ix (e := eD) (xs := ys) (by simp [seqOf, List.map_id']) m4 (E_var rfl) (E_var rfl)) Es_nil)) (mlc (pd_notl (pds_mem hx _ m1)) (mlc (pd_notl (pds_mem hy _ m3)) ml0)) (ih (k + 1) _ _ (pd_up (pds_mem hx _ m1) (by decide)) (pds_mem hy _ m3) (by omega) (szDs_mem hzx.2 _ m1) (by omega))⟩) (fun _ _ => rfl))
            · rw [show isTy [.tuple] (.tup xs) = true from rfl, Bool.true_and, sameD, ← sameDs_all]
          | _ => exact ⟨_, E_and (y := false) (q0 _ _) (fun z => by cases z), rfl⟩
        obtain ⟨t, hh, e⟩ := hh
        rw [← e] at q
        match v with
        | 0 => exact st_skip tb rfl (st_hit tb rfl hh q)
        | 1 => exact st_hit tb rfl hh q
        | v + 2 => exact st_hit tb rfl hh q
    | tl xs => simp [pd] at hb
    | kl xs => simp [pd] at hb
    | lr xs => simp [pd] at hb
    | fn xs => simp [pd] at hb
theorem same_w {a b : D} {v : Nat} (hT : T[g]? = some (fSame v g g1)) (h1 : T[g1]? = some fWhole) (h : O.l_same a b = true) : callF T wf (k + 18) g [a, b] st = .ok (eB (V.l_same a b)) st :=
  same_gen hT (fun _ => h1) 16 _ a b (a1 (a1 h)) (a2 (a1 h)) (by decide) (a2 h) (by omega)
end Wk
namespace Wk
variable {cf : Cf} {ρ : Rho} {st st1 : Sto} {α : Type} {e : α → D} {a b c : Mn.E}
def Ex.mapE (e : α → D) : Ex α → Ex D
  | .ok a => .ok (e a)
  | .ex c p => .ex c p
theorem X_D {m : Ex α} (h : evE cf a ρ st = outX e st1 m) : evE cf a ρ st = outX eD st1 (m.mapE e) := by cases m <;> exact h
theorem E_callF {T : List Fn} {wf n N : Nat} {es : List Mn.E} {ds : List D} {g : Nat} {R : Out D} (h : evEs ⟨callF T wf n, wf, N⟩ es ρ st = .ok ds st1) (k : mats ds st1 = (ds, st1)) (r : callF T wf n g ds st1 = R) : evE ⟨callF T wf n, wf, N⟩ (.call g es) ρ st = R := E_call h k r
theorem E_callFX {T : List Fn} {wf n N : Nat} {es : List Mn.E} {ds : List D} {g : Nat} {m : Ex α} (h : evEs ⟨callF T wf n, wf, N⟩ es ρ st = .ok ds st1) (k : mats ds st1 = (ds, st1)) (r : callF T wf n g ds st1 = outX e st1 m) : evE ⟨callF T wf n, wf, N⟩ (.call g es) ρ st = outX e st1 m := E_call h k r
theorem E_callFE {T : List Fn} {wf n N : Nat} {es : List Mn.E} {ds : List D} {g : Nat} {R : Out D} (ds' : List D) (h : evEs ⟨callF T wf n, wf, N⟩ es ρ st = .ok ds st1) (e : ds = ds') (k : mats ds' st1 = (ds', st1)) (r : callF T wf n g ds' st1 = R) : evE ⟨callF T wf n, wf, N⟩ (.call g es) ρ st = R := E_call (e ▸ h) k r
theorem E_callE {es : List Mn.E} {ds : List D} {g : Nat} {R : Out D} (ds' : List D) (h : evEs cf es ρ st = .ok ds st1) (e : ds = ds') (k : mats ds' st1 = (ds', st1)) (r : cf.call g ds' st1 = R) : evE cf (.call g es) ρ st = R := E_call (e ▸ h) k r
theorem X_ite {t : Bool} {x y : Ex α} (h : evE cf c ρ st = .ok (.bl t) st1) (k : t = true → evE cf a ρ st1 = outX e st1 x) (l : t = false → evE cf b ρ st1 = outX e st1 y) : evE cf (.ite c a b) ρ st = outX e st1 (bif t then x else y) := by
  cases t with
  | true => rw [ev_ite, h]; exact k rfl
  | false => rw [ev_ite, h]; exact l rfl
end Wk
/-! ### draws -/
def V.l_take (s : S2) (m : Int) : Int × S2 := bif decide (s.1 > 0) then (s.1.fmod m, (s.1.fdiv m, s.2)) else ((((s.2 * 48271 + 11).fmod 2147483647).fdiv 7).fmod m, (s.1, (s.2 * 48271 + 11).fmod 2147483647))
def O.l_take (s : S2) (m : Int) : Bool := decide (0 < m) && fdB m && fitB s.2 48271
namespace Wk
variable {T : List Fn} {wf k g g1 : Nat} {st : Sto}
def fTake : Fn := ⟨2, 3, [.ifS (.prim .gt [.prim .ix [.var 0, .cst (.int 0)], .cst (.int 0)]) [.asg (.nm 2) (.prim .mod [.prim .toInt [.prim .ix [.var 0, .cst (.int 0)]], .var 1]), .asg (.sb (.var 0) (.cst (.int 0))) (.prim .fdiv [.prim .ix [.var 0, .cst (.int 0)], .var 1]), .ret (.var 2)] [], .asg (.sb (.var 0) (.cst (.int 1))) (.prim .mod [.prim .toInt [.prim .add [.prim .mul [.prim .ix [.var 0, .cst (.int 1)], .cst (.int 48271)], .cst (.int 11)]], .cst (.int 2147483647)]), .ret (.prim .mod [.prim .toInt [.prim .fdiv [.prim .ix [.var 0, .cst (.int 1)], .cst (.int 7)]], .var 1])]⟩
theorem HS_st {cf : Cf} {ss : List S} {ρ : Rho} {s1 s2 : Sto} {Q : Kt} {E : Et} (e : s1 = s2) (k : HS cf ss ρ s2 Q E) : HS cf ss ρ s1 Q E := e ▸ k
theorem take_w {s : S2} {a_m : Int} (hT : T[g]? = some fTake) (h0 : 0 < st.length) (h : O.l_take s a_m = true) : callF T wf (k + 1) g [.lr 0, eI a_m] (ss st s) = outS eI st (V.l_take s a_m) := by
  refine call_HS (f := fTake) hT rfl ?_
  rw [show (ss st s).length = st.length from ss_len s]
  have o1 : fdB a_m = true := a2 (a1 h)
  have om : mdB a_m = true := a1 o1
  have gt : ∀ s : S2, (ss st s)[0]? = some (.lst ([s.1, s.2].map eI)) := fun s => ss_get h0
  have ix0 : ∀ {cf ρ} {s : S2}, ρ[0]? = some (some (.lr 0)) → evE cf (.prim .ix [.var 0, .cst (.int 0)]) ρ (ss st s) = .ok (.int s.1) (ss st s) := fun {cf ρ s} hr => E_ix (e := eI) (xs := [s.1, s.2]) (sR (gt s)) rfl (E_var hr) E_cst
  have ix1 : ∀ {cf ρ} {s : S2}, ρ[0]? = some (some (.lr 0)) → evE cf (.prim .ix [.var 0, .cst (.int 1)]) ρ (ss st s) = .ok (.int s.2) (ss st s) := fun {cf ρ s} hr => E_ix (e := eI) (xs := [s.1, s.2]) (sR (gt s)) rfl (E_var hr) E_cst
  have up : ∀ (s : S2) (xs : List D) (x y : Int), xs = [.int x, .int y] → (ss st s).set 0 (.lst xs) = ss st (x, y) := fun s xs x y e => by subst e; simp [ss]
  refine HS_ifV (Q := fun b => QF st.length (outS eI st (bif b then (s.1.fmod a_m, (s.1.fdiv a_m, s.2)) else ((((s.2 * 48271 + 11).fmod 2147483647).fdiv 7).fmod a_m, (s.1, (s.2 * 48271 + 11).fmod 2147483647))))) (E := fun b => EF st.length (outS eI st (bif b then (s.1.fmod a_m, (s.1.fdiv a_m, s.2)) else ((((s.2 * 48271 + 11).fmod 2147483647).fdiv 7).fmod a_m, (s.1, (s.2 * 48271 + 11).fmod 2147483647))))) (E_gt (ix0 rfl) E_cst) (fun _ => ?_) (fun _ => ?_)
  · refine HS_asg (E_mod om (E_toInt (ix0 rfl)) (E_var rfl)) (T_nm rfl) ?_
    refine HS_asg (E_fdiv o1 (ix0 rfl) (E_var rfl)) (T_sb rfl (E_var rfl) E_cst (gt s) (j := 0) rfl) ?_
    refine HS_st (up s _ (s.1.fdiv a_m) s.2 rfl) ?_
    exact HS_ret (E_var rfl) (q_ret (by rw [ss_len]))
  · refine HS_asg (E_mod (by decide) (E_toInt (E_add (E_mul (a2 h) (ix1 rfl) E_cst) E_cst)) E_cst) (T_sb rfl (E_var rfl) E_cst (gt s) (j := 1) rfl) ?_
    refine HS_st (up s _ s.1 ((s.2 * 48271 + 11).fmod 2147483647) rfl) ?_
    exact HS_ret (E_mod om (E_toInt (E_fdiv (by decide) (ix1 (s := (s.1, (s.2 * 48271 + 11).fmod 2147483647)) rfl) E_cst)) (E_var rfl)) (q_ret (by rw [ss_len]))
end Wk
/-! Lb1: defs that many laws share: wholes, powers, choices, the state. -/
namespace Lb
open Mn PySem
variable {T : List Fn} {wf k g : Nat} {st : Sto}
theorem fin_retS {n : Nat} {ρ : Rho} {d : D} (h : st.length = n) : fin n (.ok (.ret d, ρ) st) = .ok d st := fin_retL (Nat.le_of_eq h)
/-! ### an int that is no bool -/
def fWhole : Fn := ⟨1, 1, [.ret (.and (.prim (.inst [.int]) [.var 0]) (.not (.prim (.inst [.bool]) [.var 0])))]⟩
theorem whole_i (hT : T[g]? = some fWhole) {a : Int} : callF T wf (k + 1) g [.int a] st = .ok (.bl true) st := by
  rw [call_def hT rfl]
  simp [fWhole, subTy, fin_ret]
theorem whole_b (hT : T[g]? = some fWhole) {a : Bool} : callF T wf (k + 1) g [.bl a] st = .ok (.bl false) st := by
  rw [call_def hT rfl]
  simp [fWhole, subTy, fin_ret]
theorem whole_n (hT : T[g]? = some fWhole) : callF T wf (k + 1) g [.non] st = .ok (.bl false) st := by
  rw [call_def hT rfl]
  simp [fWhole, subTy, fin_ret]
theorem whole_s (hT : T[g]? = some fWhole) {s : List Nat} : callF T wf (k + 1) g [.str s] st = .ok (.bl false) st := by
  rw [call_def hT rfl]
  simp [fWhole, subTy, fin_ret]
theorem whole_t (hT : T[g]? = some fWhole) {xs : List D} : callF T wf (k + 1) g [.tup xs] st = .ok (.bl false) st := by
  rw [call_def hT rfl]
  simp [fWhole, subTy, fin_ret]
/-! ### powers -/
/-- total = 1; for _ in range(e): total = total * a -/
def fPow : Fn := ⟨2, 4, [.asg (.nm 2) (.cst (.int 1)), .for (.nm 3) (.rng [.var 1]) [.asg (.nm 2) (.prim .mul [.var 2, .var 0])], .ret (.var 2)]⟩
theorem sm_pow {n : Nat} {a : Int} (h : sm n a) : ∀ e : Nat, sm (n * e + 1) (a ^ e)
  | 0 => by simp [sm]
  | e + 1 => by
    rw [Int.pow_succ]
    exact sm_mono (sm_mul (sm_pow h e) h) (by rw [Nat.mul_succ]; omega)
theorem pow_ok (hT : T[g]? = some fPow) {a : Int} {e n : Nat} (ha : sm n a) (hn : n * e + n + 1 ≤ 134217728) (he : e < 2 ^ 60) : callF T wf (k + 1) g [.int a, .int e] st = .ok (.int (a ^ e)) st := by
  rw [call_def hT rfl]
  obtain ⟨w, h1⟩ := for_rng (cf := ⟨callF T wf k, wf, T.length⟩) (t := .nm 3) (b := [.asg (.nm 2) (.prim .mul [.var 2, .var 0])]) (fun i w => [some (.int a), some (.int e), some (.int (a ^ i)), w]) (st := st) (k := e) none rfl
    (fun j w hj => ⟨some (.int j), by
      have hf : fits (a ^ j) a := fits_sm (sm_pow ha j) ha (by
        have : n * j ≤ n * e := Nat.mul_le_mul_left _ (by omega)
        omega)
      simp [hf, Int.pow_succ]⟩)
  simp [fPow, rngN he] at h1 ⊢
  simp [h1, fin_ret]
/-! ### choices: n (n-1) .. / 1 2 .. as the loops reckon it -/
def choL (n : Int) : Nat → Int
  | 0 => 1
  | j + 1 => (choL n j * (n - j)).fdiv (j + 1)
theorem sm_fdiv {n : Nat} {a b : Int} (h : sm n a) (hb : 1 ≤ b) : sm n (a.fdiv b) := by
  unfold sm at *
  refine Nat.lt_of_le_of_lt ?_ h
  rcases Int.le_total 0 a with h0 | h0
  · have h1 : 0 ≤ a.fdiv b := Int.fdiv_nonneg h0 (by omega)
    have h2 : a.fdiv b ≤ a := by
      rw [Int.fdiv_eq_ediv_of_nonneg a (by omega : (0 : Int) ≤ b)]
      exact Int.ediv_le_self b h0
    omega
  · have h1 : a.fdiv b ≤ 0 := by
      rw [Int.fdiv_eq_ediv_of_nonneg a (by omega : (0 : Int) ≤ b)]
      exact Int.ediv_nonpos_of_nonpos_of_neg h0 (by omega)
    have h2 : a ≤ a.fdiv b := by
      rw [Int.fdiv_eq_ediv_of_nonneg a (by omega : (0 : Int) ≤ b)]
      rw [Int.le_ediv_iff_mul_le (by omega)]
      have : a * b ≤ a * 1 := Int.mul_le_mul_of_nonpos_left h0 hb
      omega
    omega
theorem sm_choL {n : Int} {m : Nat} (h : ∀ j : Nat, (j : Int) ≤ n → sm m (n - j)) : ∀ j : Nat, (j : Int) ≤ n → sm (m * j + 1) (choL n j)
  | 0, _ => by simp [choL, sm]
  | j + 1, hj => by
    have := sm_choL h j (by omega)
    exact sm_mono (sm_fdiv (sm_mul this (h j (by omega))) (by omega)) (by rw [Nat.mul_succ]; omega)
theorem log2_small {n : Nat} (h : n < 2 ^ 62) : n.log2 < 9000 := by
  by_cases h0 : n = 0
  · subst h0; decide
  · exact Nat.lt_of_lt_of_le ((Nat.log2_lt h0).mpr h) (by decide)
/-- the loop that both texts have -/
theorem cho_loop {cf : Cf} {n : Int} {e m : Nat} (hs : ∀ j : Nat, j < e → sm m (n - j)) (hc : ∀ j : Nat, j < e → sm (m * j + 1) (choL n j)) (hm : m * e + m + 1 ≤ 134217728) (he : e < 2 ^ 60) :
    ∃ w, forB cf (.nm 3) [.asg (.nm 2) (.prim .fdiv [.prim .mul [.var 2, .prim .sub [.var 0, .var 3]], .prim .add [.var 3, .cst (.int 1)]])] (.rng 0 1) e 0 [some (.int n), some (.int e), some (.int 1), none] st = .ok (.nx, [some (.int n), some (.int e), some (.int (choL n e)), w]) st :=
  for_rng (fun i w => [some (.int n), some (.int e), some (.int (choL n i)), w]) none rfl
    (fun j w hj => ⟨some (.int j), by
      have hf : fits (choL n j) (n - j) := fits_sm (hc j hj) (hs j hj) (by
        have : m * j ≤ m * e := Nat.mul_le_mul_left _ (by omega)
        omega)
      have h1 : ((j : Int) + 1) ≠ 0 := by omega
      have h2 : ((j : Int) + 1).natAbs.log2 < 9000 := log2_small (by omega)
      simp [hf, choL, h1, h2]⟩)
def fCho : Fn := ⟨2, 4, [.ifS (.prim .gt [.var 1, .var 0]) [.ret (.cst (.int 0))] [], .asg (.nm 2) (.cst (.int 1)), .for (.nm 3) (.rng [.var 1]) [.asg (.nm 2) (.prim .fdiv [.prim .mul [.var 2, .prim .sub [.var 0, .var 3]], .prim .add [.var 3, .cst (.int 1)]])], .ret (.var 2)]⟩
/-- n below 2^m -/
theorem cho_ok (hT : T[g]? = some fCho) {n : Int} {e m : Nat} (he : (e : Int) ≤ n) (hn : n < 2 ^ m) (hm : m ≤ 60) (hb : m * e + m + 1 ≤ 134217728) : callF T wf (k + 1) g [.int n, .int e] st = .ok (.int (choL n e)) st := by
  rw [call_def hT rfl]
  have hp : (2 : Int) ^ m ≤ 2 ^ 60 := by
    have : (2 : Nat) ^ m ≤ 2 ^ 60 := Nat.pow_le_pow_right (by decide) hm
    exact_mod_cast this
  have hs : ∀ j : Nat, (j : Int) ≤ n → sm m (n - j) := fun j hj => by
    unfold sm
    have : ((2 : Nat) ^ m : Int) = (2 : Int) ^ m := by norm_cast
    have h2 : ((n - j).natAbs : Int) < ((2 ^ m : Nat) : Int) := by
      push_cast
      omega
    exact_mod_cast h2
  obtain ⟨w, h1⟩ := cho_loop (cf := ⟨callF T wf k, wf, T.length⟩) (st := st) (n := n) (e := e) (m := m) (fun j hj => hs j (by omega)) (fun j hj => sm_choL hs j (by omega)) hb (by omega)
  have h0 : ¬ n < (e : Int) := by omega
  simp [fCho, h0, rngN (n := e) (by omega)] at h1 ⊢
  simp [h1, fin_ret]
end Lb
/-! Lb2: the script's state, what is drawn from it. -/
namespace Lb
open Mn PySem
variable {T : List Fn} {wf k g : Nat} {st : Sto}
theorem ixR0 {n : Nat} {x : D} {xs : List D} (h : st[n]? = some (.lst (x :: xs))) : semP .ix [.lr n, .int 0] st = some (x, st) := sp_ixR (i := 0) h rfl
theorem ixR1 {n : Nat} {x y : D} {xs : List D} (h : st[n]? = some (.lst (x :: y :: xs))) : semP .ix [.lr n, .int 1] st = some (y, st) := sp_ixR (i := 1) h rfl
theorem set0 {n : Nat} {x d : D} {xs : List D} (h : st[n]? = some (.lst (x :: xs))) (hd : notl d = true) : setD (.lr n) (.int 0) d st = some (st.set n (.lst (d :: xs))) := setD_eq (i := 0) h (by simp) hd
theorem set1 {n : Nat} {x y d : D} {xs : List D} (h : st[n]? = some (.lst (x :: y :: xs))) (hd : notl d = true) : setD (.lr n) (.int 1) d st = some (st.set n (.lst (x :: d :: xs))) := setD_eq (i := 1) h (by simp) hd
theorem cut_all {xs : List D} {n : Nat} (h : xs.length ≤ n) : cut xs none (some (n : Int)) = xs := by
  have e : min n xs.length = xs.length := by omega
  simp [cut, HT.sIx, e, show ¬ ((n : Int) < 0) by omega]
def fState : Fn := ⟨1, 4, [.asg (.nm 1) (.cst (.int 0)), .asg (.nm 2) (.cst (.int 1)), .for (.nm 3) (.ex (.prim (.sl false true) [.var 0, .cst (.int 63)])) [.asg (.nm 1) (.prim .add [.prim .mul [.var 1, .cst (.int 1000003)], .prim .abs [.var 3]]), .asg (.nm 2) (.prim .mod [.prim .toInt [.prim .add [.prim .mul [.var 2, .cst (.int 48271)], .var 3]], .cst (.int 2147483647)])], .ret (.lstE [.var 1, .var 2])]⟩
theorem state_ok (hT : T[g]? = some fState) {ns : List Int} (hl : ns.length ≤ 63) (hb : ∀ z ∈ ns, Builtin.Int.intBits z ≤ 1048576) :
    ∃ s t : Int, callF T wf (k + 1) g [.kl (ns.map D.int)] st = .ok (.tl [.int s, .int t]) st ∧ 0 ≤ s ∧ 0 ≤ t ∧ t < 2147483647 := by
  rw [call_def hT rfl]
  have hbz : ∀ z ∈ ns, sm 1048577 z := fun z hz => by
    have h1 := hb z hz
    unfold Builtin.Int.intBits at h1
    unfold sm
    split at h1
    · rename_i h0
      have : z = 0 := by simpa using h0
      subst this
      exact Nat.pos_of_ne_zero (by simp)
    · rename_i h0
      have h2 : z.natAbs ≠ 0 := by
        intro q
        have : z = 0 := by omega
        simp [this] at h0
      exact Nat.lt_of_lt_of_le ((Nat.log2_lt h2).mp (Nat.lt_of_lt_of_le (Nat.lt_succ_self _) h1)) (Nat.pow_le_pow_right (by decide) (by decide))
  have e63 : cut (ns.map D.int) none (some 63) = ns.map D.int := cut_all (n := 63) (by simpa using hl)
  obtain ⟨ρ', st', h1, s, t, w, h2, h3, h4, h5, h6⟩ := for_inv (cf := ⟨callF T wf k, wf, T.length⟩) (t := .nm 3) (b := [.asg (.nm 1) (.prim .add [.prim .mul [.var 1, .cst (.int 1000003)], .prim .abs [.var 3]]), .asg (.nm 2) (.prim .mod [.prim .toInt [.prim .add [.prim .mul [.var 2, .cst (.int 48271)], .var 3]], .cst (.int 2147483647)])])
    (sv := .fix (ns.map D.int)) (k := ns.length) (i := 0) (ρ := [some (.kl (ns.map D.int)), some (.int 0), some (.int 1), none]) (st := st)
    (fun i ρ s' => ∃ s t w, ρ = [some (.kl (ns.map D.int)), some (.int s), some (.int t), w] ∧ s' = st ∧ (0 ≤ s ∧ sm (1048600 + 21 * i) s) ∧ 0 ≤ t ∧ t < 2147483647) ⟨0, 1, none, rfl, rfl, ⟨by decide, Nat.pos_of_ne_zero (by simp)⟩, by decide, by decide⟩
    (fun j ρ s' _ hj ⟨s, t, w, hρ, hs, ⟨q1, q2⟩, q3, q4⟩ => by
      subst hρ hs
      have hj' : j < ns.length := by omega
      have hz := hbz ns[j] (List.getElem_mem hj')
      have f1 : fits s 1000003 := fits_sm q2 (sm_lit (n := 20) (by decide)) (by omega)
      have f2 : fits t 48271 := fits_sm (n := 31) (sm_lit (by omega)) (sm_lit (n := 16) (by decide)) (by decide)
      refine ⟨.int ns[j], [some (.kl (ns.map D.int)), some (.int (s * 1000003 + (ns[j].natAbs : Int))), some (.int ((t * 48271 + ns[j]).fmod 2147483647)), some (.int ns[j])], s', by simp [hj'], .inl (by simp [f1, f2]), _, _, _, rfl, rfl, ⟨by omega, ?_⟩, ?_, ?_⟩
      · refine sm_mono (sm_add (n := 1048600 + 21 * j + 20) (sm_mul q2 (sm_lit (n := 20) (by decide))) ?_) (by omega)
        refine sm_mono (n := 1048577) ?_ (by omega)
        unfold sm at *
        simpa using hz
      · exact Int.fmod_nonneg_of_pos _ (by decide)
      · exact Int.fmod_lt_of_pos _ (by decide))
    (fun _ _ _ => by simp)
  subst h2 h3
  refine ⟨s, t, ?_, h4.1, h5, h6⟩
  have hsl : semP (.sl false true) [.kl (ns.map D.int), .int 63] st' = some (.tl (ns.map D.int), st') := by
    show semSl (.kl (ns.map D.int)) none (some 63) st' = _
    simp [semSl, lstOf, e63]
  simp [fState, hsl] at h1 ⊢
  simp [h1, fin_ret]
def fTake : Fn := ⟨2, 3, [.ifS (.prim .gt [.prim .ix [.var 0, .cst (.int 0)], .cst (.int 0)]) [.asg (.nm 2) (.prim .mod [.prim .toInt [.prim .ix [.var 0, .cst (.int 0)]], .var 1]), .asg (.sb (.var 0) (.cst (.int 0))) (.prim .fdiv [.prim .ix [.var 0, .cst (.int 0)], .var 1]), .ret (.var 2)] [], .asg (.sb (.var 0) (.cst (.int 1))) (.prim .mod [.prim .toInt [.prim .add [.prim .mul [.prim .ix [.var 0, .cst (.int 1)], .cst (.int 48271)], .cst (.int 11)]], .cst (.int 2147483647)]), .ret (.prim .mod [.prim .toInt [.prim .fdiv [.prim .ix [.var 0, .cst (.int 1)], .cst (.int 7)]], .var 1])]⟩
/-- the state at n -/
def StOk (st : Sto) (n : Nat) : Prop := ∃ s t : Int, st[n]? = some (.lst [.int s, .int t]) ∧ 0 ≤ s ∧ 0 ≤ t ∧ t < 2147483647
theorem take_ok (hT : T[g]? = some fTake) {n : Nat} {m : Int} (h : StOk st n) (h1 : 1 ≤ m) (h2 : m < 2 ^ 62) :
    ∃ (v s t : Int), callF T wf (k + 1) g [.lr n, .int m] st = .ok (.int v) (st.set n (.lst [.int s, .int t])) ∧ (0 ≤ v ∧ v < m) ∧ StOk (st.set n (.lst [.int s, .int t])) n := by
  obtain ⟨s, t, e, q1, q2, q3⟩ := h
  have hn : n < st.length := (List.getElem?_eq_some_iff.mp e).1
  have hm : m ≠ 0 := by omega
  have hml : m.natAbs.log2 < 9000 := log2_small (by omega)
  by_cases hs : 0 < s
  · refine ⟨s.fmod m, s.fdiv m, t, ?_, ⟨Int.fmod_nonneg_of_pos _ (by omega), Int.fmod_lt_of_pos _ (by omega)⟩, s.fdiv m, t, ?_, Int.fdiv_nonneg (by omega) (by omega), q2, q3⟩
    · rw [call_def hT rfl]
      simp [fTake, ixR0 e, hs, hm, hml, set0 e, fin_retS]
    · rw [List.getElem?_set_self hn]
  · have f2 : fits t 48271 := fits_sm (n := 31) (sm_lit (by omega)) (sm_lit (n := 16) (by decide)) (by decide)
    refine ⟨(((t * 48271 + 11).fmod 2147483647).fdiv 7).fmod m, s, (t * 48271 + 11).fmod 2147483647, ?_, ⟨Int.fmod_nonneg_of_pos _ (by omega), Int.fmod_lt_of_pos _ (by omega)⟩, s, _, by rw [List.getElem?_set_self hn], q1, Int.fmod_nonneg_of_pos _ (by decide), Int.fmod_lt_of_pos _ (by decide)⟩
    rw [call_def hT rfl]
    have e2 : (st.set n (.lst [.int s, .int ((t * 48271 + 11).fmod 2147483647)]))[n]? = some (.lst [.int s, .int ((t * 48271 + 11).fmod 2147483647)]) := by rw [List.getElem?_set_self hn]
    have l7 : Nat.log2 7 < 9000 := by decide
    simp [fTake, ixR0 e, ixR1 e, hs, hm, hml, f2, set1 e, ixR1 e2, l7, fin_retS]
end Lb
/-! Wk7: from the walk of a law's last def to its promise. -/
open Wk Mn PySem
namespace Wk
theorem law_plain {T : List Fn} {k g h nl : Nat} {body : List S} {V O : S2 → Bool} (hT : T[g]? = some ⟨1, nl + 2, .asg (.nm 1) (.call h [.var 0]) :: body⟩) (hS : T[h]? = some Lb.fState)
    (w : ∀ wf, Big wf → ∀ (st : Sto) (s : S2) (w0 : Option D), (∀ s, Wf (ss st s)) → 0 < st.length → O s = true → HS ⟨callF T wf (k + 1), wf, T.length⟩ body (w0 :: some (.lr 0) :: List.replicate nl none) (ss st s) (QF 0 (.ok (eB (V s)) [])) (EF 0 (.ok (eB (V s)) [])))
    (m : ∀ s : S2, 0 ≤ s.1 → 0 ≤ s.2 → s.2 < 2147483647 → V s = true ∧ O s = true) : Mn.Plain T (k + 2) g := fun ns h1 h2 => by
  obtain ⟨wf, hwf⟩ := big_ex
  obtain ⟨s, t, e, a, b, c⟩ := Lb.state_ok (wf := wf) (k := k) (st := []) hS h1 h2
  obtain ⟨hv, ho⟩ := m (s, t) a b c
  refine ⟨wf, [], ?_⟩
  have : callF T wf (k + 2) g [.kl (ns.map D.int)] [] = .ok (eB (V (s, t))) [] := by
    refine call_HS hT rfl ?_
    refine HS_asg (E_call (Es_cons (E_var rfl) Es_nil) (mlc rfl ml0) e) (show evTg _ _ _ _ _ = .ok ((some (.kl (ns.map D.int)) :: some (.lr 0) :: List.replicate nl none)) (ss [.lst []] (s, t)) from ?_) ?_
    · rw [ev_nm]
      rfl
    · exact w wf hwf [.lst []] (s, t) _ (fun s => rfl) (by decide) ho
  rw [hv] at this
  exact this
end Wk
open Wk Mn
def S_1 : List Nat := [49]
def S_2 : List Nat := [50]
def S_3 : List Nat := [51]
def S_a_20word_20that_20nothing_20else_20is : List Nat := [97, 32, 119, 111, 114, 100, 32, 116, 104, 97, 116, 32, 110, 111, 116, 104, 105, 110, 103, 32, 101, 108, 115, 101, 32, 105, 115]
def S_malformed : List Nat := [109, 97, 108, 102, 111, 114, 109, 101, 100]
def S_odd : List Nat := [111, 100, 100]
def S_told : List Nat := [116, 111, 108, 100]
def V.l_number_r3 (b_k : Int) (b_row : List Int) (b_c : Int) : (List Int) := (List.map (fun (y2 : Int) => ((getI b_row y2) + (bif (decide (y2 > (0 : Int))) then (b_c * (getI b_row (y2 - (1 : Int)))) else (0 : Int)))) (rI (0 : Int) (b_k + (1 : Int))))
def O.l_number_r3 (b_k : Int) (b_row : List Int) (b_c : Int) : Bool := (rgB (0 : Int) (b_k + (1 : Int)) && (szB (List.length (rI (0 : Int) (b_k + (1 : Int)))) && ((List.all (rI (0 : Int) (b_k + (1 : Int))) (fun (y2 : Int) => (ixB b_row y2 && (imp (decide (y2 > (0 : Int))) (ixB b_row (y2 - (1 : Int)) && (fitB b_c (getI b_row (y2 - (1 : Int))))))))) && true)))
def V.l_number_l2 (b_q : Int) (b_k : Int) (b_x : Int) (q : (List Int)) (x : Int) : (List Int) := (V.l_number_r3 b_k q (bif (decide (x < b_x)) then (-1 : Int) else (b_q - (1 : Int))))
def O.l_number_l2 (b_q : Int) (b_k : Int) (b_x : Int) (q : (List Int)) (x : Int) : Bool := (O.l_number_r3 b_k q (bif (decide (x < b_x)) then (-1 : Int) else (b_q - (1 : Int))))
def V.l_number_r1 (b_n : Int) (b_q : Int) (b_k : Int) (b_x : Int) (b_row : List Int) : Int := (getI (List.foldl (V.l_number_l2 b_q b_k b_x) b_row (rI (0 : Int) b_n)) b_k)
def O.l_number_r1 (b_n : Int) (b_q : Int) (b_k : Int) (b_x : Int) (b_row : List Int) : Bool := (rgB (0 : Int) b_n && ((okF (V.l_number_l2 b_q b_k b_x) (O.l_number_l2 b_q b_k b_x) (rI (0 : Int) b_n) b_row) && (ixB (List.foldl (V.l_number_l2 b_q b_k b_x) b_row (rI (0 : Int) b_n)) b_k)))
def V.l_number (a_n : Int) (a_q : Int) (a_k : Int) (a_x : Int) : Int := (V.l_number_r1 a_n a_q a_k a_x ([(1 : Int)] ++ (repL a_k [(0 : Int)])))
def O.l_number (a_n : Int) (a_q : Int) (a_k : Int) (a_x : Int) : Bool := (rpB (List.length [(0 : Int)]) a_k && (szB (List.length [(1 : Int)] + List.length (repL a_k [(0 : Int)])) && (O.l_number_r1 a_n a_q a_k a_x ([(1 : Int)] ++ (repL a_k [(0 : Int)])))))
def V.is_integer (a_value : D) : Bool := ((isTy [.int] a_value) && (!(isTy [.bool] a_value)))
def O.is_integer (a_value : D) : Bool := (notl a_value && (tyB a_value && (imp (isTy [.int] a_value) (tyB a_value))))
def V.is_between (a_x : D) (a_low : Int) (a_most : Int) : Bool := ((V.is_integer a_x) && ((decide (a_low ≤ (Un.un eI a_x))) && (decide ((Un.un eI a_x) ≤ a_most))))
def O.is_between (a_x : D) (a_low : Int) (a_most : Int) : Bool := (notl a_x && (notl a_x && ((O.is_integer a_x) && (imp (V.is_integer a_x) (Un.is eI a_x)))))
def V.raised_to_j2 (b_e : Int) (b_found : Int) (b_base : Int) : Int × Int × Int := (bif (decide ((Int.fdiv b_e (2 : Int)) > (0 : Int))) then ((Int.fdiv b_e (2 : Int)), b_found, (b_base * b_base)) else ((Int.fdiv b_e (2 : Int)), b_found, b_base))
def O.raised_to_j2 (b_e : Int) (b_found : Int) (b_base : Int) : Bool := (bif (decide ((Int.fdiv b_e (2 : Int)) > (0 : Int))) then (fitB b_base b_base && true) else true)
def V.raised_to_l1  (q : Int × Int × Int) : Int × Int × Int := (V.raised_to_j2 q.1 (bif (decide ((Int.fmod q.1 (2 : Int)) = (1 : Int))) then (q.2.1 * q.2.2) else q.2.1) q.2.2)
def O.raised_to_l1  (q : Int × Int × Int) : Bool := ((imp (decide ((Int.fmod q.1 (2 : Int)) = (1 : Int))) (fitB q.2.1 q.2.2)) && (O.raised_to_j2 q.1 (bif (decide ((Int.fmod q.1 (2 : Int)) = (1 : Int))) then (q.2.1 * q.2.2) else q.2.1) q.2.2))
def V.raised_to_c1  (q : Int × Int × Int) : Bool := (decide (q.1 > (0 : Int)))
def O.raised_to_c1  (q : Int × Int × Int) : Bool := true
def V.raised_to_r3 (b_found : Int) : Int := b_found
def O.raised_to_r3 (b_found : Int) : Bool := true
def V.raised_to (a_a : Int) (a_e : Int) : Int := (V.raised_to_r3 ((whV (V.raised_to_c1) (V.raised_to_l1) (Int.toNat a_e + 1) (a_e, (1 : Int), a_a)).2.1))
def O.raised_to (a_a : Int) (a_e : Int) : Bool := (wfB (Int.toNat a_e + 1) && ((whO (V.raised_to_c1) (O.raised_to_c1) (V.raised_to_l1) (O.raised_to_l1) (Int.toNat a_e + 1) (a_e, (1 : Int), a_a)) && (O.raised_to_r3 ((whV (V.raised_to_c1) (V.raised_to_l1) (Int.toNat a_e + 1) (a_e, (1 : Int), a_a)).2.1))))
def V.chosen_of_l2 (b_n : Int) (q : Int) (x : Int) : Int := (Int.fdiv (q * (b_n - x)) (x + (1 : Int)))
def O.chosen_of_l2 (b_n : Int) (q : Int) (x : Int) : Bool := (fitB q (b_n - x) && (fdB (x + (1 : Int)) && true))
def V.chosen_of_r1 (b_n : Int) (b_k : Int) : Int := (List.foldl (V.chosen_of_l2 b_n) (1 : Int) (rI (0 : Int) b_k))
def O.chosen_of_r1 (b_n : Int) (b_k : Int) : Bool := (rgB (0 : Int) b_k && ((okF (V.chosen_of_l2 b_n) (O.chosen_of_l2 b_n) (rI (0 : Int) b_k) (1 : Int)) && true))
def V.chosen_of (a_n : Int) (a_k : Int) : Int := (bif (decide (a_k > a_n)) then (0 : Int) else (V.chosen_of_r1 a_n a_k))
def O.chosen_of (a_n : Int) (a_k : Int) : Bool := (bif (decide (a_k > a_n)) then true else (O.chosen_of_r1 a_n a_k))
def V.number_of_l1 (b_n : Int) (b_q : Int) (b_k : Int) (b_x : Int) (q : Int) (x : Int) : Int := (q + ((((bif (decide ((Int.fmod x (2 : Int)) = (0 : Int))) then (1 : Int) else (-1 : Int)) * (V.raised_to (b_q - (1 : Int)) (b_k - x))) * (V.chosen_of b_x x)) * (V.chosen_of (b_n - b_x) (b_k - x))))
def O.number_of_l1 (b_n : Int) (b_q : Int) (b_k : Int) (b_x : Int) (q : Int) (x : Int) : Bool := ((O.raised_to (b_q - (1 : Int)) (b_k - x)) && (fitB (bif (decide ((Int.fmod x (2 : Int)) = (0 : Int))) then (1 : Int) else (-1 : Int)) (V.raised_to (b_q - (1 : Int)) (b_k - x)) && ((O.chosen_of b_x x) && (fitB ((bif (decide ((Int.fmod x (2 : Int)) = (0 : Int))) then (1 : Int) else (-1 : Int)) * (V.raised_to (b_q - (1 : Int)) (b_k - x))) (V.chosen_of b_x x) && ((O.chosen_of (b_n - b_x) (b_k - x)) && (fitB (((bif (decide ((Int.fmod x (2 : Int)) = (0 : Int))) then (1 : Int) else (-1 : Int)) * (V.raised_to (b_q - (1 : Int)) (b_k - x))) * (V.chosen_of b_x x)) (V.chosen_of (b_n - b_x) (b_k - x)) && true))))))
def V.number_of (a_n : Int) (a_q : Int) (a_k : Int) (a_x : Int) : Int := (List.foldl (V.number_of_l1 a_n a_q a_k a_x) (0 : Int) (rI (0 : Int) (a_k + (1 : Int))))
def O.number_of (a_n : Int) (a_q : Int) (a_k : Int) (a_x : Int) : Bool := (rgB (0 : Int) (a_k + (1 : Int)) && ((okF (V.number_of_l1 a_n a_q a_k a_x) (O.number_of_l1 a_n a_q a_k a_x) (rI (0 : Int) (a_k + (1 : Int))) (0 : Int)) && true))
def V.krawtchouk_number_r1 (b_n : D) (b_q : D) (b_k : D) (b_x : D) : Ex Int := (bif ((!(V.is_between b_k (0 : Int) (Un.un eI b_n))) || (!(V.is_between b_x (0 : Int) (Un.un eI b_n)))) then (.ex 1 []) else (.ok (V.number_of (Un.un eI b_n) (Un.un eI b_q) (Un.un eI b_k) (Un.un eI b_x))))
def O.krawtchouk_number_r1 (b_n : D) (b_q : D) (b_k : D) (b_x : D) : Bool := (Un.is eI b_n && (notl b_k && ((O.is_between b_k (0 : Int) (Un.un eI b_n)) && ((imp (!(!(V.is_between b_k (0 : Int) (Un.un eI b_n)))) (Un.is eI b_n && (notl b_x && (O.is_between b_x (0 : Int) (Un.un eI b_n))))) && (bif ((!(V.is_between b_k (0 : Int) (Un.un eI b_n))) || (!(V.is_between b_x (0 : Int) (Un.un eI b_n)))) then true else (Un.is eI b_n && (Un.is eI b_q && (Un.is eI b_k && (Un.is eI b_x && (O.number_of (Un.un eI b_n) (Un.un eI b_q) (Un.un eI b_k) (Un.un eI b_x)))))))))))
def V.krawtchouk_number (a_n : D) (a_q : D) (a_k : D) (a_x : D) : Ex Int := (bif ((!(V.is_between a_n (1 : Int) (48 : Int))) || (!(V.is_between a_q (2 : Int) (16 : Int)))) then (.ex 1 []) else (V.krawtchouk_number_r1 a_n a_q a_k a_x))
def O.krawtchouk_number (a_n : D) (a_q : D) (a_k : D) (a_x : D) : Bool := (notl a_n && (notl a_q && (notl a_k && (notl a_x && (notl a_n && ((O.is_between a_n (1 : Int) (48 : Int)) && ((imp (!(!(V.is_between a_n (1 : Int) (48 : Int)))) (notl a_q && (O.is_between a_q (2 : Int) (16 : Int)))) && (bif ((!(V.is_between a_n (1 : Int) (48 : Int))) || (!(V.is_between a_q (2 : Int) (16 : Int)))) then true else (O.krawtchouk_number_r1 a_n a_q a_k a_x)))))))))
def V.table_of (a_n : Int) (a_q : Int) : List (List Int) := (List.map (fun (y1 : Int) => (List.map (fun (y4 : Int) => (V.number_of a_n a_q y4 y1)) (rI (0 : Int) (a_n + (1 : Int))))) (rI (0 : Int) (a_n + (1 : Int))))
def O.table_of (a_n : Int) (a_q : Int) : Bool := (rgB (0 : Int) (a_n + (1 : Int)) && (szB (List.length (rI (0 : Int) (a_n + (1 : Int)))) && (List.all (rI (0 : Int) (a_n + (1 : Int))) (fun (y1 : Int) => (rgB (0 : Int) (a_n + (1 : Int)) && (szB (List.length (rI (0 : Int) (a_n + (1 : Int)))) && (List.all (rI (0 : Int) (a_n + (1 : Int))) (fun (y4 : Int) => (O.number_of a_n a_q y4 y1)))))))))
def V.krawtchouk_table (a_n : D) (a_q : D) : Ex (List (List Int)) := (bif ((!(V.is_between a_n (1 : Int) (24 : Int))) || (!(V.is_between a_q (2 : Int) (16 : Int)))) then (.ex 1 []) else (.ok (List.map (fun (y2 : List Int) => y2) (V.table_of (Un.un eI a_n) (Un.un eI a_q)))))
def O.krawtchouk_table (a_n : D) (a_q : D) : Bool := (notl a_n && (notl a_q && (notl a_n && ((O.is_between a_n (1 : Int) (24 : Int)) && ((imp (!(!(V.is_between a_n (1 : Int) (24 : Int)))) (notl a_q && (O.is_between a_q (2 : Int) (16 : Int)))) && (bif ((!(V.is_between a_n (1 : Int) (24 : Int))) || (!(V.is_between a_q (2 : Int) (16 : Int)))) then true else (Un.is eI a_n && (Un.is eI a_q && ((O.table_of (Un.un eI a_n) (Un.un eI a_q)) && (szB (List.length (V.table_of (Un.un eI a_n) (Un.un eI a_q)))))))))))))
def V.greatest_common_l1  (q : Int × Int) : Int × Int := (q.2, (Int.fmod q.1 q.2))
def O.greatest_common_l1  (q : Int × Int) : Bool := (mdB q.2 && true)
def V.greatest_common_c1  (q : Int × Int) : Bool := (!decide (q.2 = (0 : Int)))
def O.greatest_common_c1  (q : Int × Int) : Bool := true
def V.greatest_common_r2 (b_a : Int) : Int := b_a
def O.greatest_common_r2 (b_a : Int) : Bool := true
def V.greatest_common (a_a : Int) (a_b : Int) : Int := (V.greatest_common_r2 ((whV (V.greatest_common_c1) (V.greatest_common_l1) (Int.natAbs (Int.natAbs a_b : Int) + 1) ((Int.natAbs a_a : Int), (Int.natAbs a_b : Int))).1))
def O.greatest_common (a_a : Int) (a_b : Int) : Bool := (wfB (Int.natAbs (Int.natAbs a_b : Int) + 1) && ((whO (V.greatest_common_c1) (O.greatest_common_c1) (V.greatest_common_l1) (O.greatest_common_l1) (Int.natAbs (Int.natAbs a_b : Int) + 1) ((Int.natAbs a_a : Int), (Int.natAbs a_b : Int))) && (O.greatest_common_r2 ((whV (V.greatest_common_c1) (V.greatest_common_l1) (Int.natAbs (Int.natAbs a_b : Int) + 1) ((Int.natAbs a_a : Int), (Int.natAbs a_b : Int))).1))))
def V.lowest_j2 (b_n : Int) (b_d : Int) (b_g : Int) : Int × Int := ((Int.fdiv b_n b_g), (Int.fdiv b_d b_g))
def O.lowest_j2 (b_n : Int) (b_d : Int) (b_g : Int) : Bool := (fdB b_g && (fdB b_g))
def V.lowest_r1 (b_n : Int) (b_d : Int) (b_g : Int) : Int × Int := (V.lowest_j2 b_n b_d (bif (decide (b_d < (0 : Int))) then (-b_g) else b_g))
def O.lowest_r1 (b_n : Int) (b_d : Int) (b_g : Int) : Bool := (O.lowest_j2 b_n b_d (bif (decide (b_d < (0 : Int))) then (-b_g) else b_g))
def V.lowest (a_n : Int) (a_d : Int) : Int × Int := (V.lowest_r1 a_n a_d (V.greatest_common a_n a_d))
def O.lowest (a_n : Int) (a_d : Int) : Bool := ((O.greatest_common a_n a_d) && (O.lowest_r1 a_n a_d (V.greatest_common a_n a_d)))
def V.ratio_sum (a_a : Int × Int) (a_b : Int × Int) : Int × Int := (V.lowest ((a_a.1 * a_b.2) + (a_b.1 * a_a.2)) (a_a.2 * a_b.2))
def O.ratio_sum (a_a : Int × Int) (a_b : Int × Int) : Bool := (fitB a_a.1 a_b.2 && (fitB a_b.1 a_a.2 && (fitB a_a.2 a_b.2 && (O.lowest ((a_a.1 * a_b.2) + (a_b.1 * a_a.2)) (a_a.2 * a_b.2)))))
def V.ratio_product (a_a : Int × Int) (a_b : Int × Int) : Int × Int := (V.lowest (a_a.1 * a_b.1) (a_a.2 * a_b.2))
def O.ratio_product (a_a : Int × Int) (a_b : Int × Int) : Bool := (fitB a_a.1 a_b.1 && (fitB a_a.2 a_b.2 && (O.lowest (a_a.1 * a_b.1) (a_a.2 * a_b.2))))
def V.times_row_l3 (b_i : Int) (b_a : Int × Int) (q : (List (Int × Int))) (x : Int × (Int × Int)) : (List (Int × Int)) := setI q (b_i + x.1) (V.ratio_sum (getI q (b_i + x.1)) (V.ratio_product b_a x.2))
def O.times_row_l3 (b_i : Int) (b_a : Int × Int) (q : (List (Int × Int))) (x : Int × (Int × Int)) : Bool := (ixB q (b_i + x.1) && ((O.ratio_product b_a x.2) && ((O.ratio_sum (getI q (b_i + x.1)) (V.ratio_product b_a x.2)) && (ixB q (b_i + x.1) && true))))
def V.times_row_l2 (b_g : List (Int × Int)) (q : (List (Int × Int))) (x : Int × (Int × Int)) : (List (Int × Int)) := (List.foldl (V.times_row_l3 x.1 x.2) q (enumI b_g))
def O.times_row_l2 (b_g : List (Int × Int)) (q : (List (Int × Int))) (x : Int × (Int × Int)) : Bool := ((okF (V.times_row_l3 x.1 x.2) (O.times_row_l3 x.1 x.2) (enumI b_g) q) && true)
def V.times_row_r1 (b_f : List (Int × Int)) (b_g : List (Int × Int)) (b_found : List (Int × Int)) : List (Int × Int) := (List.foldl (V.times_row_l2 b_g) b_found (enumI b_f))
def O.times_row_r1 (b_f : List (Int × Int)) (b_g : List (Int × Int)) (b_found : List (Int × Int)) : Bool := ((okF (V.times_row_l2 b_g) (O.times_row_l2 b_g) (enumI b_f) b_found) && true)
def V.times_row (a_f : List (Int × Int)) (a_g : List (Int × Int)) : List (Int × Int) := (V.times_row_r1 a_f a_g (repL (((List.length a_f : Int) + (List.length a_g : Int)) - (1 : Int)) [((0 : Int), (1 : Int))]))
def O.times_row (a_f : List (Int × Int)) (a_g : List (Int × Int)) : Bool := (rpB (List.length [((0 : Int), (1 : Int))]) (((List.length a_f : Int) + (List.length a_g : Int)) - (1 : Int)) && (O.times_row_r1 a_f a_g (repL (((List.length a_f : Int) + (List.length a_g : Int)) - (1 : Int)) [((0 : Int), (1 : Int))])))
def V.ratio (a_n : D) (a_d : D) : Ex (Int × Int) := (bif ((!(V.is_integer a_n)) || ((!(V.is_integer a_d)) || (eqP a_d (eI (0 : Int))))) then (.ex 1 []) else (.ok (V.lowest (Un.un eI a_n) (Un.un eI a_d))))
def O.ratio (a_n : D) (a_d : D) : Bool := (notl a_n && (notl a_d && (notl a_n && ((O.is_integer a_n) && ((imp (!(!(V.is_integer a_n))) (notl a_d && ((O.is_integer a_d) && (imp (!(!(V.is_integer a_d))) (pdB a_d && (pdB (eI (0 : Int)))))))) && (bif ((!(V.is_integer a_n)) || ((!(V.is_integer a_d)) || (eqP a_d (eI (0 : Int))))) then true else (Un.is eI a_n && (Un.is eI a_d && (O.lowest (Un.un eI a_n) (Un.un eI a_d))))))))))
def V.chosen_row_l1 (b_sign : Int) (b_shift : Int) (q : (List (Int × Int))) (x : Int) : (List (Int × Int)) := (V.times_row q [(Ex.get (V.ratio (eI (b_shift - x)) (eI (x + (1 : Int))))), (Ex.get (V.ratio (eI b_sign) (eI (x + (1 : Int)))))])
def O.chosen_row_l1 (b_sign : Int) (b_shift : Int) (q : (List (Int × Int))) (x : Int) : Bool := ((O.ratio (eI (b_shift - x)) (eI (x + (1 : Int)))) && (Ex.isOk (V.ratio (eI (b_shift - x)) (eI (x + (1 : Int)))) && ((O.ratio (eI b_sign) (eI (x + (1 : Int)))) && (Ex.isOk (V.ratio (eI b_sign) (eI (x + (1 : Int)))) && ((O.times_row q [(Ex.get (V.ratio (eI (b_shift - x)) (eI (x + (1 : Int))))), (Ex.get (V.ratio (eI b_sign) (eI (x + (1 : Int)))))]) && true)))))
def V.chosen_row (a_sign : Int) (a_shift : Int) (a_k : Int) : List (Int × Int) := (List.foldl (V.chosen_row_l1 a_sign a_shift) [((1 : Int), (1 : Int))] (rI (0 : Int) a_k))
def O.chosen_row (a_sign : Int) (a_shift : Int) (a_k : Int) : Bool := (rgB (0 : Int) a_k && ((okF (V.chosen_row_l1 a_sign a_shift) (O.chosen_row_l1 a_sign a_shift) (rI (0 : Int) a_k) [((1 : Int), (1 : Int))]) && true))
def V.krawtchouk_row_l5 (b_c : Int × Int) (q : (List (Int × Int))) (x : Int × (Int × Int)) : (List (Int × Int)) := setI q x.1 (V.ratio_sum (getI q x.1) (V.ratio_product b_c x.2))
def O.krawtchouk_row_l5 (b_c : Int × Int) (q : (List (Int × Int))) (x : Int × (Int × Int)) : Bool := (ixB q x.1 && ((O.ratio_product b_c x.2) && ((O.ratio_sum (getI q x.1) (V.ratio_product b_c x.2)) && (ixB q x.1 && true))))
def V.krawtchouk_row_r4 (b_n : D) (b_k : D) (b_total : List (Int × Int)) (b_j : Int) (b_c : Int × Int) : (List (Int × Int)) := (List.foldl (V.krawtchouk_row_l5 b_c) b_total (enumI (V.times_row (V.chosen_row (1 : Int) (0 : Int) b_j) (V.chosen_row (-1 : Int) (Un.un eI b_n) ((Un.un eI b_k) - b_j)))))
def O.krawtchouk_row_r4 (b_n : D) (b_k : D) (b_total : List (Int × Int)) (b_j : Int) (b_c : Int × Int) : Bool := ((O.chosen_row (1 : Int) (0 : Int) b_j) && (Un.is eI b_n && (Un.is eI b_k && ((O.chosen_row (-1 : Int) (Un.un eI b_n) ((Un.un eI b_k) - b_j)) && ((O.times_row (V.chosen_row (1 : Int) (0 : Int) b_j) (V.chosen_row (-1 : Int) (Un.un eI b_n) ((Un.un eI b_k) - b_j))) && ((okF (V.krawtchouk_row_l5 b_c) (O.krawtchouk_row_l5 b_c) (enumI (V.times_row (V.chosen_row (1 : Int) (0 : Int) b_j) (V.chosen_row (-1 : Int) (Un.un eI b_n) ((Un.un eI b_k) - b_j)))) b_total) && true))))))
def V.krawtchouk_row_l3 (b_n : D) (b_q : D) (b_k : D) (q : (List (Int × Int))) (x : Int) : (List (Int × Int)) := (V.krawtchouk_row_r4 b_n b_k q x (((V.raised_to ((Un.un eI b_q) - (1 : Int)) ((Un.un eI b_k) - x)) * (bif (decide ((Int.fmod x (2 : Int)) = (0 : Int))) then (1 : Int) else (-1 : Int))), (1 : Int)))
def O.krawtchouk_row_l3 (b_n : D) (b_q : D) (b_k : D) (q : (List (Int × Int))) (x : Int) : Bool := (Un.is eI b_q && (Un.is eI b_k && ((O.raised_to ((Un.un eI b_q) - (1 : Int)) ((Un.un eI b_k) - x)) && (fitB (V.raised_to ((Un.un eI b_q) - (1 : Int)) ((Un.un eI b_k) - x)) (bif (decide ((Int.fmod x (2 : Int)) = (0 : Int))) then (1 : Int) else (-1 : Int)) && (O.krawtchouk_row_r4 b_n b_k q x (((V.raised_to ((Un.un eI b_q) - (1 : Int)) ((Un.un eI b_k) - x)) * (bif (decide ((Int.fmod x (2 : Int)) = (0 : Int))) then (1 : Int) else (-1 : Int))), (1 : Int)))))))
def V.krawtchouk_row_r2 (b_n : D) (b_q : D) (b_k : D) (b_total : List (Int × Int)) : Ex (List (Int × Int)) := (.ok (List.foldl (V.krawtchouk_row_l3 b_n b_q b_k) b_total (rI (0 : Int) ((Un.un eI b_k) + (1 : Int)))))
def O.krawtchouk_row_r2 (b_n : D) (b_q : D) (b_k : D) (b_total : List (Int × Int)) : Bool := (Un.is eI b_k && (rgB (0 : Int) ((Un.un eI b_k) + (1 : Int)) && ((okF (V.krawtchouk_row_l3 b_n b_q b_k) (O.krawtchouk_row_l3 b_n b_q b_k) (rI (0 : Int) ((Un.un eI b_k) + (1 : Int))) b_total) && true)))
def V.krawtchouk_row_r1 (b_n : D) (b_q : D) (b_k : D) : Ex (List (Int × Int)) := (V.krawtchouk_row_r2 b_n b_q b_k (repL ((Un.un eI b_k) + (1 : Int)) [((0 : Int), (1 : Int))]))
def O.krawtchouk_row_r1 (b_n : D) (b_q : D) (b_k : D) : Bool := (Un.is eI b_k && (rpB (List.length [((0 : Int), (1 : Int))]) ((Un.un eI b_k) + (1 : Int)) && (O.krawtchouk_row_r2 b_n b_q b_k (repL ((Un.un eI b_k) + (1 : Int)) [((0 : Int), (1 : Int))]))))
def V.krawtchouk_row (a_n : D) (a_q : D) (a_k : D) : Ex (List (Int × Int)) := (bif ((!(V.is_between a_n (1 : Int) (24 : Int))) || ((!(V.is_between a_q (2 : Int) (16 : Int))) || (!(V.is_between a_k (0 : Int) (Un.un eI a_n))))) then (.ex 1 []) else (V.krawtchouk_row_r1 a_n a_q a_k))
def O.krawtchouk_row (a_n : D) (a_q : D) (a_k : D) : Bool := (notl a_n && (notl a_q && (notl a_k && (notl a_n && ((O.is_between a_n (1 : Int) (24 : Int)) && ((imp (!(!(V.is_between a_n (1 : Int) (24 : Int)))) (notl a_q && ((O.is_between a_q (2 : Int) (16 : Int)) && (imp (!(!(V.is_between a_q (2 : Int) (16 : Int)))) (Un.is eI a_n && (notl a_k && (O.is_between a_k (0 : Int) (Un.un eI a_n)))))))) && (bif ((!(V.is_between a_n (1 : Int) (24 : Int))) || ((!(V.is_between a_q (2 : Int) (16 : Int))) || (!(V.is_between a_k (0 : Int) (Un.un eI a_n))))) then true else (O.krawtchouk_row_r1 a_n a_q a_k))))))))
def V.l_told_k04_t1 (b_which : Int) (b_n : D) (b_q : D) (b_k : D) (b_x : D) : Ex ((List Nat) × D) := (bif (decide (b_which = (0 : Int))) then (Ex.bind (Ex.bind (V.krawtchouk_number b_n b_q b_k b_x) (fun z1 => (.ok (V.l_honest (eI z1))))) (fun z4 => (.ok (S_told, z4)))) else (Ex.bind (Ex.bind (bif (decide (b_which = (1 : Int))) then (Ex.mapE (eT (eT eI)) (V.krawtchouk_table b_n b_q)) else (Ex.mapE (eT (eP2 eI eI)) (V.krawtchouk_row b_n b_q b_k))) (fun z8 => (.ok (V.l_honest z8)))) (fun z11 => (.ok (S_told, z11)))))
def O.l_told_k04_t1 (b_which : Int) (b_n : D) (b_q : D) (b_k : D) (b_x : D) : Bool := (bif (decide (b_which = (0 : Int))) then (notl b_n && (notl b_q && (notl b_k && (notl b_x && ((O.krawtchouk_number b_n b_q b_k b_x) && ((Ex.all (V.krawtchouk_number b_n b_q b_k b_x) (fun z1 => (O.l_honest (eI z1)))) && (Ex.all (Ex.bind (V.krawtchouk_number b_n b_q b_k b_x) (fun z1 => (.ok (V.l_honest (eI z1))))) (fun z4 => (notl z4))))))))) else ((imp (decide (b_which = (1 : Int))) (notl b_n && (notl b_q && (O.krawtchouk_table b_n b_q)))) && ((imp (!(decide (b_which = (1 : Int)))) (notl b_n && (notl b_q && (notl b_k && (O.krawtchouk_row b_n b_q b_k))))) && ((Ex.all (bif (decide (b_which = (1 : Int))) then (Ex.mapE (eT (eT eI)) (V.krawtchouk_table b_n b_q)) else (Ex.mapE (eT (eP2 eI eI)) (V.krawtchouk_row b_n b_q b_k))) (fun z8 => (notl z8 && (O.l_honest z8)))) && (Ex.all (Ex.bind (bif (decide (b_which = (1 : Int))) then (Ex.mapE (eT (eT eI)) (V.krawtchouk_table b_n b_q)) else (Ex.mapE (eT (eP2 eI eI)) (V.krawtchouk_row b_n b_q b_k))) (fun z8 => (.ok (V.l_honest z8)))) (fun z11 => (notl z11)))))))
def V.l_told_k04 (a_which : Int) (a_n : D) (a_q : D) (a_k : D) (a_x : D) : (List Nat) × D := (Ex.els (V.l_told_k04_t1 a_which a_n a_q a_k a_x) (fun c p => (bif Nat.beq c 1 then (S_malformed, (.non : D)) else default)))
def O.l_told_k04 (a_which : Int) (a_n : D) (a_q : D) (a_k : D) (a_x : D) : Bool := (notl a_n && (notl a_q && (notl a_k && (notl a_x && ((O.l_told_k04_t1 a_which a_n a_q a_k a_x) && (Ex.exs (V.l_told_k04_t1 a_which a_n a_q a_k a_x) (fun c p => (bif Nat.beq c 1 then true else false))))))))
def V.l_chosen_l1 (b_n : Int) (q : Int) (x : Int) : Int := (Int.fdiv (q * (b_n - x)) (x + (1 : Int)))
def O.l_chosen_l1 (b_n : Int) (q : Int) (x : Int) : Bool := (fitB q (b_n - x) && (fdB (x + (1 : Int)) && true))
def V.l_chosen (a_n : Int) (a_k : Int) : Int := (List.foldl (V.l_chosen_l1 a_n) (1 : Int) (rI (0 : Int) a_k))
def O.l_chosen (a_n : Int) (a_k : Int) : Bool := (rgB (0 : Int) a_k && ((okF (V.l_chosen_l1 a_n) (O.l_chosen_l1 a_n) (rI (0 : Int) a_k) (1 : Int)) && true))
def V.l_power_l1 (b_q : Int) (q : Int) (x : Int) : Int := (q * b_q)
def O.l_power_l1 (b_q : Int) (q : Int) (x : Int) : Bool := (fitB q b_q && true)
def V.l_power (a_q : Int) (a_n : Int) : Int := (List.foldl (V.l_power_l1 a_q) (1 : Int) (rI (0 : Int) a_n))
def O.l_power (a_q : Int) (a_n : Int) : Bool := (rgB (0 : Int) a_n && ((okF (V.l_power_l1 a_q) (O.l_power_l1 a_q) (rI (0 : Int) a_n) (1 : Int)) && true))
def V.l_common_l1  (q : Int × Int) : Int × Int := (q.2, (Int.fmod q.1 q.2))
def O.l_common_l1  (q : Int × Int) : Bool := (mdB q.2 && true)
def V.l_common_c1  (q : Int × Int) : Bool := (!decide (q.2 = (0 : Int)))
def O.l_common_c1  (q : Int × Int) : Bool := true
def V.l_common_r2 (b_a : Int) : Int := (Int.natAbs b_a : Int)
def O.l_common_r2 (b_a : Int) : Bool := true
def V.l_common (a_a : Int) (a_b : Int) : Int := (V.l_common_r2 ((whV (V.l_common_c1) (V.l_common_l1) (Int.natAbs a_b + 1) (a_a, a_b)).1))
def O.l_common (a_a : Int) (a_b : Int) : Bool := (wfB (Int.natAbs a_b + 1) && ((whO (V.l_common_c1) (O.l_common_c1) (V.l_common_l1) (O.l_common_l1) (Int.natAbs a_b + 1) (a_a, a_b)) && (O.l_common_r2 ((whV (V.l_common_c1) (V.l_common_l1) (Int.natAbs a_b + 1) (a_a, a_b)).1))))
def V.l_is_ratio (a_value : D) : Bool := (bif ((!(isTy [.tuple] a_value)) || ((!decide ((List.length (itD a_value) : Int) = (2 : Int))) || ((!(V.l_is_whole (getI (itD a_value) (0 : Int)))) || (!(V.l_is_whole (getI (itD a_value) (1 : Int))))))) then false else ((decide ((Un.un eI (getI (itD a_value) (1 : Int))) > (0 : Int))) && (decide ((V.l_common (Un.un eI (getI (itD a_value) (0 : Int))) (Un.un eI (getI (itD a_value) (1 : Int)))) = (1 : Int)))))
def O.l_is_ratio (a_value : D) : Bool := (notl a_value && (tyB a_value && ((imp (!(!(isTy [.tuple] a_value))) (sqD a_value && (imp (!(!decide ((List.length (itD a_value) : Int) = (2 : Int)))) (sqD a_value && (ixB (itD a_value) (0 : Int) && (notl (getI (itD a_value) (0 : Int)) && ((O.l_is_whole (getI (itD a_value) (0 : Int))) && (imp (!(!(V.l_is_whole (getI (itD a_value) (0 : Int))))) (sqD a_value && (ixB (itD a_value) (1 : Int) && (notl (getI (itD a_value) (1 : Int)) && (O.l_is_whole (getI (itD a_value) (1 : Int)))))))))))))) && (bif ((!(isTy [.tuple] a_value)) || ((!decide ((List.length (itD a_value) : Int) = (2 : Int))) || ((!(V.l_is_whole (getI (itD a_value) (0 : Int)))) || (!(V.l_is_whole (getI (itD a_value) (1 : Int))))))) then true else (sqD a_value && (ixB (itD a_value) (1 : Int) && (Un.is eI (getI (itD a_value) (1 : Int)) && (imp (decide ((Un.un eI (getI (itD a_value) (1 : Int))) > (0 : Int))) (sqD a_value && (ixB (itD a_value) (0 : Int) && (Un.is eI (getI (itD a_value) (0 : Int)) && (sqD a_value && (ixB (itD a_value) (1 : Int) && (Un.is eI (getI (itD a_value) (1 : Int)) && (O.l_common (Un.un eI (getI (itD a_value) (0 : Int))) (Un.un eI (getI (itD a_value) (1 : Int))))))))))))))))))
def V.l_is_row_of (a_row : D) (a_degree : Int) : Bool := ((isTy [.tuple] a_row) && ((decide ((List.length (itD a_row) : Int) = (a_degree + (1 : Int)))) && ((List.all (itD a_row) ((fun (y1 : D) => (V.l_is_ratio y1)))) && (!eqP (getI (itD (getI (itD a_row) (-1 : Int))) (0 : Int)) (eI (0 : Int))))))
def O.l_is_row_of (a_row : D) (a_degree : Int) : Bool := (notl a_row && (tyB a_row && (imp (isTy [.tuple] a_row) (sqD a_row && (imp (decide ((List.length (itD a_row) : Int) = (a_degree + (1 : Int)))) (sqD a_row && (szB (List.length (itD a_row)) && ((List.all (itD a_row) (fun (y1 : D) => (notl y1 && (notl y1 && (O.l_is_ratio y1))))) && (imp (List.all (itD a_row) ((fun (y1 : D) => (V.l_is_ratio y1)))) (sqD a_row && (ixB (itD a_row) (-1 : Int) && (sqD (getI (itD a_row) (-1 : Int)) && (ixB (itD (getI (itD a_row) (-1 : Int))) (0 : Int) && (pdB (getI (itD (getI (itD a_row) (-1 : Int))) (0 : Int)) && (pdB (eI (0 : Int)))))))))))))))))
def V.l_ratio (a_n : Int) (a_d : Int) : Int × Int := (bif (decide (a_d > (0 : Int))) then ((Int.fdiv a_n (V.l_common a_n a_d)), (Int.fdiv a_d (V.l_common a_n a_d))) else ((Int.fdiv (-a_n) (V.l_common a_n a_d)), (Int.fdiv (-a_d) (V.l_common a_n a_d))))
def O.l_ratio (a_n : Int) (a_d : Int) : Bool := ((O.l_common a_n a_d) && ((imp (decide (a_d > (0 : Int))) (fdB (V.l_common a_n a_d) && (fdB (V.l_common a_n a_d)))) && (imp (!(decide (a_d > (0 : Int)))) (fdB (V.l_common a_n a_d) && (fdB (V.l_common a_n a_d))))))
def V.l_plus (a_a : Int × Int) (a_b : Int × Int) : Int × Int := (bif ((decide (a_a.2 = (1 : Int))) && (decide (a_b.2 = (1 : Int)))) then ((a_a.1 + a_b.1), (1 : Int)) else (V.l_ratio ((a_a.1 * a_b.2) + (a_b.1 * a_a.2)) (a_a.2 * a_b.2)))
def O.l_plus (a_a : Int × Int) (a_b : Int × Int) : Bool := (bif ((decide (a_a.2 = (1 : Int))) && (decide (a_b.2 = (1 : Int)))) then true else (fitB a_a.1 a_b.2 && (fitB a_b.1 a_a.2 && (fitB a_a.2 a_b.2 && (O.l_ratio ((a_a.1 * a_b.2) + (a_b.1 * a_a.2)) (a_a.2 * a_b.2))))))
def V.l_times (a_a : Int × Int) (a_b : Int × Int) : Int × Int := (bif ((decide (a_a.2 = (1 : Int))) && (decide (a_b.2 = (1 : Int)))) then ((a_a.1 * a_b.1), (1 : Int)) else (V.l_ratio (a_a.1 * a_b.1) (a_a.2 * a_b.2)))
def O.l_times (a_a : Int × Int) (a_b : Int × Int) : Bool := (bif ((decide (a_a.2 = (1 : Int))) && (decide (a_b.2 = (1 : Int)))) then (fitB a_a.1 a_b.1) else (fitB a_a.1 a_b.1 && (fitB a_a.2 a_b.2 && (O.l_ratio (a_a.1 * a_b.1) (a_a.2 * a_b.2)))))
def V.l_value_l1 (b_x : Int) (q : (Int × Int)) (x : Int × Int) : (Int × Int) := (V.l_plus (V.l_times q (b_x, (1 : Int))) x)
def O.l_value_l1 (b_x : Int) (q : (Int × Int)) (x : Int × Int) : Bool := ((O.l_times q (b_x, (1 : Int))) && ((O.l_plus (V.l_times q (b_x, (1 : Int))) x) && true))
def V.l_value (a_row : List (Int × Int)) (a_x : Int) : Int × Int := (List.foldl (V.l_value_l1 a_x) ((0 : Int), (1 : Int)) (List.reverse a_row))
def O.l_value (a_row : List (Int × Int)) (a_x : Int) : Bool := ((okF (V.l_value_l1 a_x) (O.l_value_l1 a_x) (List.reverse a_row) ((0 : Int), (1 : Int))) && true)
def V.law_k04_r6 (b_k : Int) (b_due : Int) (b_n : Int) (b_q : Int) (b_x : Int) (sv : S2) : Stp S2 Bool := (bif ((decide ((1 : Int) ≤ b_k)) && (decide (b_k ≤ (b_n - (1 : Int))))) then (bif (!decide (((b_k + (1 : Int)) * (V.l_number b_n b_q (b_k + (1 : Int)) b_x)) = ((((b_k + ((b_q - (1 : Int)) * (b_n - b_k))) - (b_q * b_x)) * b_due) - (((b_q - (1 : Int)) * ((b_n - b_k) + (1 : Int))) * (V.l_number b_n b_q (b_k - (1 : Int)) b_x))))) then (.rt false) else (.nx sv)) else (.nx sv))
def O.law_k04_r6 (b_k : Int) (b_due : Int) (b_n : Int) (b_q : Int) (b_x : Int) (sv : S2) : Bool := (bif ((decide ((1 : Int) ≤ b_k)) && (decide (b_k ≤ (b_n - (1 : Int))))) then ((O.l_number b_n b_q (b_k + (1 : Int)) b_x) && (fitB (b_k + (1 : Int)) (V.l_number b_n b_q (b_k + (1 : Int)) b_x) && (fitB (b_q - (1 : Int)) (b_n - b_k) && (fitB b_q b_x && (fitB ((b_k + ((b_q - (1 : Int)) * (b_n - b_k))) - (b_q * b_x)) b_due && (fitB (b_q - (1 : Int)) ((b_n - b_k) + (1 : Int)) && ((O.l_number b_n b_q (b_k - (1 : Int)) b_x) && (fitB ((b_q - (1 : Int)) * ((b_n - b_k) + (1 : Int))) (V.l_number b_n b_q (b_k - (1 : Int)) b_x) && (bif (!decide (((b_k + (1 : Int)) * (V.l_number b_n b_q (b_k + (1 : Int)) b_x)) = ((((b_k + ((b_q - (1 : Int)) * (b_n - b_k))) - (b_q * b_x)) * b_due) - (((b_q - (1 : Int)) * ((b_n - b_k) + (1 : Int))) * (V.l_number b_n b_q (b_k - (1 : Int)) b_x))))) then true else true))))))))) else true)
def V.law_k04_r5 (b_k : Int) (b_due : Int) (b_n : Int) (b_q : Int) (b_x : Int) (sv : S2) : Stp S2 Bool := (bif (!decide ((((V.l_chosen b_n b_x) * (V.l_power (b_q - (1 : Int)) b_x)) * b_due) = (((V.l_chosen b_n b_k) * (V.l_power (b_q - (1 : Int)) b_k)) * (V.l_number b_n b_q b_x b_k)))) then (.rt false) else (V.law_k04_r6 b_k b_due b_n b_q b_x sv))
def O.law_k04_r5 (b_k : Int) (b_due : Int) (b_n : Int) (b_q : Int) (b_x : Int) (sv : S2) : Bool := ((O.l_chosen b_n b_x) && ((O.l_power (b_q - (1 : Int)) b_x) && (fitB (V.l_chosen b_n b_x) (V.l_power (b_q - (1 : Int)) b_x) && (fitB ((V.l_chosen b_n b_x) * (V.l_power (b_q - (1 : Int)) b_x)) b_due && ((O.l_chosen b_n b_k) && ((O.l_power (b_q - (1 : Int)) b_k) && (fitB (V.l_chosen b_n b_k) (V.l_power (b_q - (1 : Int)) b_k) && ((O.l_number b_n b_q b_x b_k) && (fitB ((V.l_chosen b_n b_k) * (V.l_power (b_q - (1 : Int)) b_k)) (V.l_number b_n b_q b_x b_k) && (bif (!decide ((((V.l_chosen b_n b_x) * (V.l_power (b_q - (1 : Int)) b_x)) * b_due) = (((V.l_chosen b_n b_k) * (V.l_power (b_q - (1 : Int)) b_k)) * (V.l_number b_n b_q b_x b_k)))) then true else (O.law_k04_r6 b_k b_due b_n b_q b_x sv)))))))))))
def V.law_k04_r4 (b_k : Int) (b_due : Int) (b_n : Int) (b_q : Int) (b_x : Int) (sv : S2) : Stp S2 Bool := (bif (!(V.l_same ((eP2 eS eD) (V.l_told_k04 (0 : Int) (eI b_n) (eI b_q) (eI b_k) (eI b_x))) ((eP2 eS eI) (S_told, b_due)))) then (.rt false) else (V.law_k04_r5 b_k b_due b_n b_q b_x sv))
def O.law_k04_r4 (b_k : Int) (b_due : Int) (b_n : Int) (b_q : Int) (b_x : Int) (sv : S2) : Bool := ((O.l_told_k04 (0 : Int) (eI b_n) (eI b_q) (eI b_k) (eI b_x)) && ((O.l_same ((eP2 eS eD) (V.l_told_k04 (0 : Int) (eI b_n) (eI b_q) (eI b_k) (eI b_x))) ((eP2 eS eI) (S_told, b_due))) && (bif (!(V.l_same ((eP2 eS eD) (V.l_told_k04 (0 : Int) (eI b_n) (eI b_q) (eI b_k) (eI b_x))) ((eP2 eS eI) (S_told, b_due)))) then true else (O.law_k04_r5 b_k b_due b_n b_q b_x sv))))
def V.law_k04_r3 (b_k : Int) (b_n : Int) (b_q : Int) (b_x : Int) (sv : S2) : Stp S2 Bool := (V.law_k04_r4 b_k (V.l_number b_n b_q b_k b_x) b_n b_q b_x sv)
def O.law_k04_r3 (b_k : Int) (b_n : Int) (b_q : Int) (b_x : Int) (sv : S2) : Bool := ((O.l_number b_n b_q b_k b_x) && (O.law_k04_r4 b_k (V.l_number b_n b_q b_k b_x) b_n b_q b_x sv))
def V.law_k04_r2 (b_n : Int) (b_q : Int) (sv : S2) : Stp S2 Bool := (V.law_k04_r3 ((V.l_take sv (b_n + (1 : Int))).1) b_n b_q ((V.l_take ((V.l_take sv (b_n + (1 : Int))).2) (b_n + (1 : Int))).1) ((V.l_take ((V.l_take sv (b_n + (1 : Int))).2) (b_n + (1 : Int))).2))
def O.law_k04_r2 (b_n : Int) (b_q : Int) (sv : S2) : Bool := ((O.l_take sv (b_n + (1 : Int))) && ((O.l_take ((V.l_take sv (b_n + (1 : Int))).2) (b_n + (1 : Int))) && (O.law_k04_r3 ((V.l_take sv (b_n + (1 : Int))).1) b_n b_q ((V.l_take ((V.l_take sv (b_n + (1 : Int))).2) (b_n + (1 : Int))).1) ((V.l_take ((V.l_take sv (b_n + (1 : Int))).2) (b_n + (1 : Int))).2))))
def V.law_k04_l1  (q : S2) (x : Int) : Stp S2 Bool := (V.law_k04_r2 ((1 : Int) + (V.l_take q (48 : Int)).1) ((2 : Int) + (V.l_take ((V.l_take q (48 : Int)).2) (15 : Int)).1) ((V.l_take ((V.l_take q (48 : Int)).2) (15 : Int)).2))
def O.law_k04_l1  (q : S2) (x : Int) : Bool := ((O.l_take q (48 : Int)) && ((O.l_take ((V.l_take q (48 : Int)).2) (15 : Int)) && (O.law_k04_r2 ((1 : Int) + (V.l_take q (48 : Int)).1) ((2 : Int) + (V.l_take ((V.l_take q (48 : Int)).2) (15 : Int)).1) ((V.l_take ((V.l_take q (48 : Int)).2) (15 : Int)).2))))
def V.law_k04_l16  (q : S2) (x : D) : Stp S2 Bool := (bif (!((V.l_told_k04 (0 : Int) x (.int 2 : D) (.int 0 : D) (.int 0 : D)).1 == S_malformed)) then (.rt false) else (.nx q))
def O.law_k04_l16  (q : S2) (x : D) : Bool := (notl x && (notl x && ((O.l_told_k04 (0 : Int) x (.int 2 : D) (.int 0 : D) (.int 0 : D)) && (pdB (eS ((V.l_told_k04 (0 : Int) x (.int 2 : D) (.int 0 : D) (.int 0 : D)).1)) && (pdB (eS S_malformed) && (bif (!((V.l_told_k04 (0 : Int) x (.int 2 : D) (.int 0 : D) (.int 0 : D)).1 == S_malformed)) then true else true))))))
def V.law_k04_l18  (q : S2) (x : D) : Stp S2 Bool := (bif ((!((V.l_told_k04 (1 : Int) x (.int 2 : D) (.non : D) (.non : D)).1 == S_malformed)) || (!((V.l_told_k04 (2 : Int) x (.int 2 : D) (.int 0 : D) (.non : D)).1 == S_malformed))) then (.rt false) else (.nx q))
def O.law_k04_l18  (q : S2) (x : D) : Bool := (notl x && (notl x && ((O.l_told_k04 (1 : Int) x (.int 2 : D) (.non : D) (.non : D)) && (pdB (eS ((V.l_told_k04 (1 : Int) x (.int 2 : D) (.non : D) (.non : D)).1)) && (pdB (eS S_malformed) && ((imp (!(!((V.l_told_k04 (1 : Int) x (.int 2 : D) (.non : D) (.non : D)).1 == S_malformed))) (notl x && ((O.l_told_k04 (2 : Int) x (.int 2 : D) (.int 0 : D) (.non : D)) && (pdB (eS ((V.l_told_k04 (2 : Int) x (.int 2 : D) (.int 0 : D) (.non : D)).1)) && (pdB (eS S_malformed)))))) && (bif ((!((V.l_told_k04 (1 : Int) x (.int 2 : D) (.non : D) (.non : D)).1 == S_malformed)) || (!((V.l_told_k04 (2 : Int) x (.int 2 : D) (.int 0 : D) (.non : D)).1 == S_malformed))) then true else true)))))))
def V.law_k04_l20  (q : S2) (x : D) : Stp S2 Bool := (bif (!((List.map (fun (y18 : Int) => (V.l_told_k04 y18 (.int 3 : D) x (.int 1 : D) (.int 1 : D)).1) (rI (0 : Int) (3 : Int))) == (repL (3 : Int) [S_malformed]))) then (.rt false) else (.nx q))
def O.law_k04_l20  (q : S2) (x : D) : Bool := (notl x && (rgB (0 : Int) (3 : Int) && (szB (List.length (rI (0 : Int) (3 : Int))) && ((List.all (rI (0 : Int) (3 : Int)) (fun (y18 : Int) => (notl x && (O.l_told_k04 y18 (.int 3 : D) x (.int 1 : D) (.int 1 : D))))) && (rpB (List.length [S_malformed]) (3 : Int) && (pdB ((eL eS) (List.map (fun (y18 : Int) => (V.l_told_k04 y18 (.int 3 : D) x (.int 1 : D) (.int 1 : D)).1) (rI (0 : Int) (3 : Int)))) && (pdB ((eL eS) (repL (3 : Int) [S_malformed])) && (bif (!((List.map (fun (y18 : Int) => (V.l_told_k04 y18 (.int 3 : D) x (.int 1 : D) (.int 1 : D)).1) (rI (0 : Int) (3 : Int))) == (repL (3 : Int) [S_malformed]))) then true else true))))))))
def V.law_k04_l22 (b_n : Int) (b_q : Int) (q : S2) (x : D) : Stp S2 Bool := (bif ((!((V.l_told_k04 (0 : Int) (eI b_n) (eI b_q) x (.int 0 : D)).1 == S_malformed)) || ((!((V.l_told_k04 (0 : Int) (eI b_n) (eI b_q) (.int 0 : D) x).1 == S_malformed)) || (!((V.l_told_k04 (2 : Int) (eI b_n) (eI b_q) x (.non : D)).1 == S_malformed)))) then (.rt false) else (.nx q))
def O.law_k04_l22 (b_n : Int) (b_q : Int) (q : S2) (x : D) : Bool := (notl x && (notl x && ((O.l_told_k04 (0 : Int) (eI b_n) (eI b_q) x (.int 0 : D)) && (pdB (eS ((V.l_told_k04 (0 : Int) (eI b_n) (eI b_q) x (.int 0 : D)).1)) && (pdB (eS S_malformed) && ((imp (!(!((V.l_told_k04 (0 : Int) (eI b_n) (eI b_q) x (.int 0 : D)).1 == S_malformed))) (notl x && ((O.l_told_k04 (0 : Int) (eI b_n) (eI b_q) (.int 0 : D) x) && (pdB (eS ((V.l_told_k04 (0 : Int) (eI b_n) (eI b_q) (.int 0 : D) x).1)) && (pdB (eS S_malformed) && (imp (!(!((V.l_told_k04 (0 : Int) (eI b_n) (eI b_q) (.int 0 : D) x).1 == S_malformed))) (notl x && ((O.l_told_k04 (2 : Int) (eI b_n) (eI b_q) x (.non : D)) && (pdB (eS ((V.l_told_k04 (2 : Int) (eI b_n) (eI b_q) x (.non : D)).1)) && (pdB (eS S_malformed))))))))))) && (bif ((!((V.l_told_k04 (0 : Int) (eI b_n) (eI b_q) x (.int 0 : D)).1 == S_malformed)) || ((!((V.l_told_k04 (0 : Int) (eI b_n) (eI b_q) (.int 0 : D) x).1 == S_malformed)) || (!((V.l_told_k04 (2 : Int) (eI b_n) (eI b_q) x (.non : D)).1 == S_malformed)))) then true else true)))))))
def V.law_k04_r21 (b_n : Int) (b_q : Int) (sv : S2) : Bool := (Stp.els (forR (V.law_k04_l22 b_n b_q) [(eI (-1 : Int)), (eI (b_n + (1 : Int))), (.non : D), (.bl true : D), (.str S_1 : D)] sv) (fun q => true))
def O.law_k04_r21 (b_n : Int) (b_q : Int) (sv : S2) : Bool := ((okR (V.law_k04_l22 b_n b_q) (O.law_k04_l22 b_n b_q) [(eI (-1 : Int)), (eI (b_n + (1 : Int))), (.non : D), (.bl true : D), (.str S_1 : D)] sv) && (Stp.all (forR (V.law_k04_l22 b_n b_q) [(eI (-1 : Int)), (eI (b_n + (1 : Int))), (.non : D), (.bl true : D), (.str S_1 : D)] sv) (fun q => true)))
def V.law_k04_r19 (b_n : Int) (b_q : Int) (sv : S2) : Bool := (Stp.els (forR (V.law_k04_l20) [(.int 1 : D), (.int 17 : D), (.int 0 : D), (.non : D), (.bl true : D), (.str S_2 : D)] sv) (fun q => (V.law_k04_r21 b_n b_q q)))
def O.law_k04_r19 (b_n : Int) (b_q : Int) (sv : S2) : Bool := ((okR (V.law_k04_l20) (O.law_k04_l20) [(.int 1 : D), (.int 17 : D), (.int 0 : D), (.non : D), (.bl true : D), (.str S_2 : D)] sv) && (Stp.all (forR (V.law_k04_l20) [(.int 1 : D), (.int 17 : D), (.int 0 : D), (.non : D), (.bl true : D), (.str S_2 : D)] sv) (fun q => (O.law_k04_r21 b_n b_q q))))
def V.law_k04_r17 (b_n : Int) (b_q : Int) (sv : S2) : Bool := (Stp.els (forR (V.law_k04_l18) [(.int 0 : D), (.int 25 : D), (eI (-1 : Int)), (.non : D), (.bl true : D), (.str S_3 : D)] sv) (fun q => (V.law_k04_r19 b_n b_q q)))
def O.law_k04_r17 (b_n : Int) (b_q : Int) (sv : S2) : Bool := ((okR (V.law_k04_l18) (O.law_k04_l18) [(.int 0 : D), (.int 25 : D), (eI (-1 : Int)), (.non : D), (.bl true : D), (.str S_3 : D)] sv) && (Stp.all (forR (V.law_k04_l18) [(.int 0 : D), (.int 25 : D), (eI (-1 : Int)), (.non : D), (.bl true : D), (.str S_3 : D)] sv) (fun q => (O.law_k04_r19 b_n b_q q))))
def V.law_k04_r15 (b_n : Int) (b_q : Int) (sv : S2) : Bool := (Stp.els (forR (V.law_k04_l16) [(.int 0 : D), (.int 49 : D), (eI (-1 : Int)), (.non : D), (.bl true : D), (.str S_3 : D)] sv) (fun q => (V.law_k04_r17 b_n b_q q)))
def O.law_k04_r15 (b_n : Int) (b_q : Int) (sv : S2) : Bool := ((okR (V.law_k04_l16) (O.law_k04_l16) [(.int 0 : D), (.int 49 : D), (eI (-1 : Int)), (.non : D), (.bl true : D), (.str S_3 : D)] sv) && (Stp.all (forR (V.law_k04_l16) [(.int 0 : D), (.int 49 : D), (eI (-1 : Int)), (.non : D), (.bl true : D), (.str S_3 : D)] sv) (fun q => (O.law_k04_r17 b_n b_q q))))
def V.law_k04_r14 (b_table : List (List Int)) (b_k : Int) (b_told : (List Nat) × D) (b_n : Int) (b_q : Int) (sv : S2) : Bool := (bif ((!(b_told.1 == S_told)) || ((!(V.l_is_row_of b_told.2 b_k)) || (!(List.all (rI (0 : Int) (b_n + (1 : Int))) ((fun (y12 : Int) => (((V.l_value (Un.un (eT (eP2 eI eI)) b_told.2) y12) == ((getI (getI b_table y12) b_k), (1 : Int)))))))))) then false else (V.law_k04_r15 b_n b_q sv))
def O.law_k04_r14 (b_table : List (List Int)) (b_k : Int) (b_told : (List Nat) × D) (b_n : Int) (b_q : Int) (sv : S2) : Bool := (pdB (eS b_told.1) && (pdB (eS S_told) && ((imp (!(!(b_told.1 == S_told))) (notl b_told.2 && ((O.l_is_row_of b_told.2 b_k) && (imp (!(!(V.l_is_row_of b_told.2 b_k))) (rgB (0 : Int) (b_n + (1 : Int)) && (szB (List.length (rI (0 : Int) (b_n + (1 : Int)))) && (List.all (rI (0 : Int) (b_n + (1 : Int))) (fun (y12 : Int) => (Un.is (eT (eP2 eI eI)) b_told.2 && ((O.l_value (Un.un (eT (eP2 eI eI)) b_told.2) y12) && (ixB b_table y12 && (ixB (getI b_table y12) b_k)))))))))))) && (bif ((!(b_told.1 == S_told)) || ((!(V.l_is_row_of b_told.2 b_k)) || (!(List.all (rI (0 : Int) (b_n + (1 : Int))) ((fun (y12 : Int) => (((V.l_value (Un.un (eT (eP2 eI eI)) b_told.2) y12) == ((getI (getI b_table y12) b_k), (1 : Int)))))))))) then true else (O.law_k04_r15 b_n b_q sv)))))
def V.law_k04_r13 (b_table : List (List Int)) (b_k : Int) (b_n : Int) (b_q : Int) (sv : S2) : Bool := (V.law_k04_r14 b_table b_k (V.l_told_k04 (2 : Int) (eI b_n) (eI b_q) (eI b_k) (.non : D)) b_n b_q sv)
def O.law_k04_r13 (b_table : List (List Int)) (b_k : Int) (b_n : Int) (b_q : Int) (sv : S2) : Bool := ((O.l_told_k04 (2 : Int) (eI b_n) (eI b_q) (eI b_k) (.non : D)) && (O.law_k04_r14 b_table b_k (V.l_told_k04 (2 : Int) (eI b_n) (eI b_q) (eI b_k) (.non : D)) b_n b_q sv))
def V.law_k04_r12 (b_table : List (List Int)) (b_n : Int) (b_q : Int) (sv : S2) : Bool := (V.law_k04_r13 b_table ((V.l_take sv (b_n + (1 : Int))).1) b_n b_q ((V.l_take sv (b_n + (1 : Int))).2))
def O.law_k04_r12 (b_table : List (List Int)) (b_n : Int) (b_q : Int) (sv : S2) : Bool := ((O.l_take sv (b_n + (1 : Int))) && (O.law_k04_r13 b_table ((V.l_take sv (b_n + (1 : Int))).1) b_n b_q ((V.l_take sv (b_n + (1 : Int))).2)))
def V.law_k04_r11 (b_table : List (List Int)) (b_n : Int) (b_q : Int) (b_i : Int) (b_j : Int) (sv : S2) : Bool := (bif (!decide ((List.sum (List.map (fun (y8 : Int) => ((getI (getI b_table b_i) y8) * (getI (getI b_table y8) b_j))) (rI (0 : Int) (b_n + (1 : Int))))) = (bif (decide (b_i = b_j)) then (V.l_power b_q b_n) else (0 : Int)))) then false else (V.law_k04_r12 b_table b_n b_q sv))
def O.law_k04_r11 (b_table : List (List Int)) (b_n : Int) (b_q : Int) (b_i : Int) (b_j : Int) (sv : S2) : Bool := (rgB (0 : Int) (b_n + (1 : Int)) && (szB (List.length (rI (0 : Int) (b_n + (1 : Int)))) && ((List.all (rI (0 : Int) (b_n + (1 : Int))) (fun (y8 : Int) => (ixB b_table b_i && (ixB (getI b_table b_i) y8 && (ixB b_table y8 && (ixB (getI b_table y8) b_j && (fitB (getI (getI b_table b_i) y8) (getI (getI b_table y8) b_j)))))))) && ((imp (decide (b_i = b_j)) (O.l_power b_q b_n)) && (bif (!decide ((List.sum (List.map (fun (y8 : Int) => ((getI (getI b_table b_i) y8) * (getI (getI b_table y8) b_j))) (rI (0 : Int) (b_n + (1 : Int))))) = (bif (decide (b_i = b_j)) then (V.l_power b_q b_n) else (0 : Int)))) then true else (O.law_k04_r12 b_table b_n b_q sv))))))
def V.law_k04_r10 (b_table : List (List Int)) (b_n : Int) (b_q : Int) (sv : S2) : Bool := (V.law_k04_r11 b_table b_n b_q ((V.l_take sv (b_n + (1 : Int))).1) ((V.l_take ((V.l_take sv (b_n + (1 : Int))).2) (b_n + (1 : Int))).1) ((V.l_take ((V.l_take sv (b_n + (1 : Int))).2) (b_n + (1 : Int))).2))
def O.law_k04_r10 (b_table : List (List Int)) (b_n : Int) (b_q : Int) (sv : S2) : Bool := ((O.l_take sv (b_n + (1 : Int))) && ((O.l_take ((V.l_take sv (b_n + (1 : Int))).2) (b_n + (1 : Int))) && (O.law_k04_r11 b_table b_n b_q ((V.l_take sv (b_n + (1 : Int))).1) ((V.l_take ((V.l_take sv (b_n + (1 : Int))).2) (b_n + (1 : Int))).1) ((V.l_take ((V.l_take sv (b_n + (1 : Int))).2) (b_n + (1 : Int))).2))))
def V.law_k04_r9 (b_table : List (List Int)) (b_n : Int) (b_q : Int) (sv : S2) : Bool := (bif (!(V.l_same ((eP2 eS eD) (V.l_told_k04 (1 : Int) (eI b_n) (eI b_q) (.non : D) (.non : D))) ((eP2 eS (eT (eT eI))) (S_told, b_table)))) then false else (V.law_k04_r10 b_table b_n b_q sv))
def O.law_k04_r9 (b_table : List (List Int)) (b_n : Int) (b_q : Int) (sv : S2) : Bool := ((O.l_told_k04 (1 : Int) (eI b_n) (eI b_q) (.non : D) (.non : D)) && ((O.l_same ((eP2 eS eD) (V.l_told_k04 (1 : Int) (eI b_n) (eI b_q) (.non : D) (.non : D))) ((eP2 eS (eT (eT eI))) (S_told, b_table))) && (bif (!(V.l_same ((eP2 eS eD) (V.l_told_k04 (1 : Int) (eI b_n) (eI b_q) (.non : D) (.non : D))) ((eP2 eS (eT (eT eI))) (S_told, b_table)))) then true else (O.law_k04_r10 b_table b_n b_q sv))))
def V.law_k04_r8 (b_n : Int) (b_q : Int) (sv : S2) : Bool := (V.law_k04_r9 (List.map (fun (y2 : Int) => (List.map (fun (y5 : Int) => (V.l_number b_n b_q y5 y2)) (rI (0 : Int) (b_n + (1 : Int))))) (rI (0 : Int) (b_n + (1 : Int)))) b_n b_q sv)
def O.law_k04_r8 (b_n : Int) (b_q : Int) (sv : S2) : Bool := (rgB (0 : Int) (b_n + (1 : Int)) && (szB (List.length (rI (0 : Int) (b_n + (1 : Int)))) && ((List.all (rI (0 : Int) (b_n + (1 : Int))) (fun (y2 : Int) => (rgB (0 : Int) (b_n + (1 : Int)) && (szB (List.length (rI (0 : Int) (b_n + (1 : Int)))) && (List.all (rI (0 : Int) (b_n + (1 : Int))) (fun (y5 : Int) => (O.l_number b_n b_q y5 y2))))))) && (O.law_k04_r9 (List.map (fun (y2 : Int) => (List.map (fun (y5 : Int) => (V.l_number b_n b_q y5 y2)) (rI (0 : Int) (b_n + (1 : Int))))) (rI (0 : Int) (b_n + (1 : Int)))) b_n b_q sv))))
def V.law_k04_r7 (sv : S2) : Bool := (V.law_k04_r8 ((1 : Int) + (V.l_take ((V.l_take sv (3 : Int)).2) (getI [(6 : Int), (12 : Int), (24 : Int)] ((V.l_take sv (3 : Int)).1))).1) ((2 : Int) + (V.l_take ((V.l_take ((V.l_take sv (3 : Int)).2) (getI [(6 : Int), (12 : Int), (24 : Int)] ((V.l_take sv (3 : Int)).1))).2) (15 : Int)).1) ((V.l_take ((V.l_take ((V.l_take sv (3 : Int)).2) (getI [(6 : Int), (12 : Int), (24 : Int)] ((V.l_take sv (3 : Int)).1))).2) (15 : Int)).2))
def O.law_k04_r7 (sv : S2) : Bool := ((O.l_take sv (3 : Int)) && (ixB [(6 : Int), (12 : Int), (24 : Int)] ((V.l_take sv (3 : Int)).1) && ((O.l_take ((V.l_take sv (3 : Int)).2) (getI [(6 : Int), (12 : Int), (24 : Int)] ((V.l_take sv (3 : Int)).1))) && ((O.l_take ((V.l_take ((V.l_take sv (3 : Int)).2) (getI [(6 : Int), (12 : Int), (24 : Int)] ((V.l_take sv (3 : Int)).1))).2) (15 : Int)) && (O.law_k04_r8 ((1 : Int) + (V.l_take ((V.l_take sv (3 : Int)).2) (getI [(6 : Int), (12 : Int), (24 : Int)] ((V.l_take sv (3 : Int)).1))).1) ((2 : Int) + (V.l_take ((V.l_take ((V.l_take sv (3 : Int)).2) (getI [(6 : Int), (12 : Int), (24 : Int)] ((V.l_take sv (3 : Int)).1))).2) (15 : Int)).1) ((V.l_take ((V.l_take ((V.l_take sv (3 : Int)).2) (getI [(6 : Int), (12 : Int), (24 : Int)] ((V.l_take sv (3 : Int)).1))).2) (15 : Int)).2))))))
def V.law_k04 (s : S2) : Bool := (Stp.els (forR (V.law_k04_l1) (rI (0 : Int) (4 : Int)) s) (fun q => (V.law_k04_r7 q)))
def O.law_k04 (s : S2) : Bool := (rgB (0 : Int) (4 : Int) && ((okR (V.law_k04_l1) (O.law_k04_l1) (rI (0 : Int) (4 : Int)) s) && (Stp.all (forR (V.law_k04_l1) (rI (0 : Int) (4 : Int)) s) (fun q => (O.law_k04_r7 q)))))
namespace Gk04
open Wk Mn
/-- _law_take(state, m) -/
def f17 : Mn.Fn := ⟨2, 3, [.ifS (.prim .gt [.prim .ix [.var 0, .cst (.int 0)], .cst (.int 0)]) [.asg (.nm 2) (.prim .mod [.prim .toInt [.prim .ix [.var 0, .cst (.int 0)]], .var 1]), .asg (.sb (.var 0) (.cst (.int 0))) (.prim .fdiv [.prim .ix [.var 0, .cst (.int 0)], .var 1]), .ret (.var 2)] [], .asg (.sb (.var 0) (.cst (.int 1))) (.prim .mod [.prim .toInt [.prim .add [.prim .mul [.prim .ix [.var 0, .cst (.int 1)], .cst (.int 48271)], .cst (.int 11)]], .cst (.int 2147483647)]), .ret (.prim .mod [.prim .toInt [.prim .fdiv [.prim .ix [.var 0, .cst (.int 1)], .cst (.int 7)]], .var 1])]⟩
abbrev I_27_2 (st : Sto) (b_q : Int) (b_k : Int) (b_x : Int) : Rp ((List Int)) := fun q rr sx => ∃ w0 w5 w6 w7 : Option D, rr = [w0, some (eI b_q), some (eI b_k), some (eI b_x), some ((eL eI) q), w5, w6, w7] ∧ st = sx
def f27_r3 : List Mn.S := [.asg (.nm 4) (.frz (.comp (.prim .add [.prim .ix [.var 4, .var 7], .ite (.prim .gt [.var 7, .cst (.int 0)]) (.prim .mul [.var 6, .prim .ix [.var 4, .prim .sub [.var 7, .cst (.int 1)]]]) (.cst (.int 0))]) (.nm 7) (.rng [.prim .add [.var 2, .cst (.int 1)]]) [] [7]))]
def f27_b2 : List Mn.S := (.asg (.nm 6) (.ite (.prim .lt [.var 5, .var 3]) (.prim .neg [.cst (.int 1)]) (.prim .sub [.var 1, .cst (.int 1)]))) :: f27_r3
def f27_r1 : List Mn.S := [.for (.nm 5) (.rng [.var 0]) f27_b2, .ret (.prim .ix [.var 4, .var 2])]
/-- _law_number(n, q, k, x); n=0 q=1 k=2 x=3 row=4 turn=5 c=6 i=7 -/
def f27 : Mn.Fn := ⟨4, 8, (.asg (.nm 4) (.frz (.prim .add [.lstE [.cst (.int 1)], .prim .mul [.lstE [.cst (.int 0)], .var 2]]))) :: f27_r1⟩
/-- _law_is_whole(value) -/
def f20 : Mn.Fn := ⟨1, 1, [.ret (.and (.prim (.inst [.int]) [.var 0]) (.not (.prim (.inst [.bool]) [.var 0])))]⟩
/-- _law_same(one, two) -/
def f21 : Mn.Fn := ⟨2, 3, [.ifS (.prim (.inst [.bool]) [.var 1]) [.ret (.and (.prim (.inst [.bool]) [.var 0]) (.prim .eq [.var 0, .var 1]))] [], .ifS (.prim (.inst [.tuple]) [.var 1]) [.ret (.and (.prim (.inst [.tuple]) [.var 0]) (.and (.prim .eq [.prim .len [.var 0], .prim .len [.var 1]]) (.prim .all [.comp (.call 21 [.prim .ix [.var 0, .var 2], .prim .ix [.var 1, .var 2]]) (.nm 2) (.rng [.prim .len [.var 1]]) [] [2]])))] [], .ifS (.prim (.inst [.str]) [.var 1]) [.ret (.and (.prim (.inst [.str]) [.var 0]) (.prim .eq [.var 0, .var 1]))] [], .ifS (.prim .isN [.var 1, .cst (.non)]) [.ret (.prim .isN [.var 0, .cst (.non)])] [], .ret (.and (.call 20 [.var 0]) (.prim .eq [.var 0, .var 1]))]⟩
/-- _law_odd(value) -/
def f18 : Mn.Fn := ⟨1, 2, [.ifS (.prim .eq [.var 0, .cst (.str S_a_20word_20that_20nothing_20else_20is)]) [.ret (.cst (.bl true))] [], .ret (.and (.prim (.inst [.tuple, .list]) [.var 0]) (.prim .gt [.prim .len [.comp (.var 1) (.nm 1) (.ex (.var 0)) [.call 18 [.var 1]] [1]], .cst (.int 0)]))]⟩
/-- _law_honest(value) -/
def f19 : Mn.Fn := ⟨1, 1, [.ret (.ite (.call 18 [.var 0]) (.cst (.str S_odd)) (.var 0))]⟩
/-- is_integer(value); value=0 -/
def f0 : Mn.Fn := ⟨1, 1, [.ret (.and (.prim (.inst [.int]) [.var 0]) (.not (.prim (.inst [.bool]) [.var 0])))]⟩
/-- is_between(x, low, most); x=0 low=1 most=2 -/
def f8 : Mn.Fn := ⟨3, 3, [.ret (.and (.call 0 [.var 0]) (.chain .le .le (.var 1) (.var 0) (.var 2)))]⟩
abbrev I_1_1 (st : Sto) : Rp (Int × Int × Int) := fun q rr sx => ∃ w0 : Option D, rr = [w0, some (eI q.1), some (eI q.2.1), some (eI q.2.2)] ∧ st = sx
def f1_j2 : List Mn.S := [.aug 1 .fdiv (.cst (.int 2)), .ifS (.prim .gt [.var 1, .cst (.int 0)]) [.asg (.nm 3) (.prim .mul [.var 3, .var 3])] []]
def f1_b1 : List Mn.S := (.ifS (.prim .eq [.prim .mod [.var 1, .cst (.int 2)], .cst (.int 1)]) [.asg (.nm 2) (.prim .mul [.var 2, .var 3])] []) :: f1_j2
def f1_r3 : List Mn.S := [.ret (.var 2)]
/-- raised_to(a, e); a=0 e=1 found=2 base=3 -/
def f1 : Mn.Fn := ⟨2, 4, (.asg (.tp [.nm 2, .nm 3]) (.tupE [.cst (.int 1), .var 0])) :: (.whl (.prim .gt [.var 1, .cst (.int 0)]) f1_b1) :: f1_r3⟩
abbrev I_3_2 (st : Sto) (b_n : Int) : Rp (Int) := fun q rr sx => ∃ w1 w3 : Option D, rr = [some (eI b_n), w1, some (eI q), w3] ∧ st = sx
def f3_b2 : List Mn.S := [.asg (.nm 2) (.prim .fdiv [.prim .mul [.var 2, .prim .sub [.var 0, .var 3]], .prim .add [.var 3, .cst (.int 1)]])]
def f3_r1 : List Mn.S := [.asg (.nm 2) (.cst (.int 1)), .for (.nm 3) (.rng [.var 1]) f3_b2, .ret (.var 2)]
/-- chosen_of(n, k); n=0 k=1 found=2 j=3 -/
def f3 : Mn.Fn := ⟨2, 4, (.ifS (.prim .gt [.var 1, .var 0]) [.ret (.cst (.int 0))] []) :: f3_r1⟩
abbrev I_9_1 (st : Sto) (b_n : Int) (b_q : Int) (b_k : Int) (b_x : Int) : Rp (Int) := fun q rr sx => ∃ w5 w6 : Option D, rr = [some (eI b_n), some (eI b_q), some (eI b_k), some (eI b_x), some (eI q), w5, w6] ∧ st = sx
def f9_b1 : List Mn.S := [.asg (.nm 6) (.ite (.prim .eq [.prim .mod [.var 5, .cst (.int 2)], .cst (.int 0)]) (.cst (.int 1)) (.prim .neg [.cst (.int 1)])), .aug 4 .add (.prim .mul [.prim .mul [.prim .mul [.var 6, .call 1 [.prim .sub [.var 1, .cst (.int 1)], .prim .sub [.var 2, .var 5]]], .call 3 [.var 3, .var 5]], .call 3 [.prim .sub [.var 0, .var 3], .prim .sub [.var 2, .var 5]]])]
/-- number_of(n, q, k, x); n=0 q=1 k=2 x=3 total=4 j=5 sign=6 -/
def f9 : Mn.Fn := ⟨4, 7, [.asg (.nm 4) (.cst (.int 0)), .for (.nm 5) (.rng [.prim .add [.var 2, .cst (.int 1)]]) f9_b1, .ret (.var 4)]⟩
def f10_r1 : List Mn.S := [.ifS (.or (.not (.call 8 [.var 2, .cst (.int 0), .var 0])) (.not (.call 8 [.var 3, .cst (.int 0), .var 0]))) [.rse 1 []] [], .ret (.call 9 [.var 0, .var 1, .var 2, .var 3])]
/-- krawtchouk_number(n, q, k, x); n=0 q=1 k=2 x=3 -/
def f10 : Mn.Fn := ⟨4, 4, (.ifS (.or (.not (.call 8 [.var 0, .cst (.int 1), .cst (.int 48)])) (.not (.call 8 [.var 1, .cst (.int 2), .cst (.int 16)]))) [.rse 1 []] []) :: f10_r1⟩
/-- table_of(n, q); n=0 q=1 x=2 k=3 -/
def f11 : Mn.Fn := ⟨2, 4, [.ret (.comp (.frz (.comp (.call 9 [.var 0, .var 1, .var 3, .var 2]) (.nm 3) (.rng [.prim .add [.var 0, .cst (.int 1)]]) [] [3])) (.nm 2) (.rng [.prim .add [.var 0, .cst (.int 1)]]) [] [2])]⟩
/-- krawtchouk_table(n, q); n=0 q=1 row=2 -/
def f12 : Mn.Fn := ⟨2, 3, [.ifS (.or (.not (.call 8 [.var 0, .cst (.int 1), .cst (.int 24)])) (.not (.call 8 [.var 1, .cst (.int 2), .cst (.int 16)]))) [.rse 1 []] [], .ret (.prim .tuple [.comp (.prim .tuple [.var 2]) (.nm 2) (.ex (.call 11 [.var 0, .var 1])) [] [2]])]⟩
abbrev I_2_1 (st : Sto) : Rp (Int × Int) := fun q rr sx => rr = [some (eI q.1), some (eI q.2)] ∧ st = sx
def f2_b1 : List Mn.S := [.asg (.tp [.nm 0, .nm 1]) (.tupE [.var 1, .prim .mod [.var 0, .var 1]])]
def f2_r2 : List Mn.S := [.ret (.var 0)]
/-- greatest_common(a, b); a=0 b=1 -/
def f2 : Mn.Fn := ⟨2, 2, (.asg (.tp [.nm 0, .nm 1]) (.tupE [.prim .abs [.var 0], .prim .abs [.var 1]])) :: (.whl (.prim .ne [.var 1, .cst (.int 0)]) f2_b1) :: f2_r2⟩
def f4_j2 : List Mn.S := [.ret (.tupE [.prim .fdiv [.var 0, .var 2], .prim .fdiv [.var 1, .var 2]])]
def f4_r1 : List Mn.S := (.ifS (.prim .lt [.var 1, .cst (.int 0)]) [.asg (.nm 2) (.prim .neg [.var 2])] []) :: f4_j2
/-- lowest(n, d); n=0 d=1 g=2 -/
def f4 : Mn.Fn := ⟨2, 3, (.asg (.nm 2) (.call 2 [.var 0, .var 1])) :: f4_r1⟩
/-- ratio_sum(a, b); a=0 b=1 -/
def f6 : Mn.Fn := ⟨2, 2, [.ret (.call 4 [.prim .add [.prim .mul [.prim .ix [.var 0, .cst (.int 0)], .prim .ix [.var 1, .cst (.int 1)]], .prim .mul [.prim .ix [.var 1, .cst (.int 0)], .prim .ix [.var 0, .cst (.int 1)]]], .prim .mul [.prim .ix [.var 0, .cst (.int 1)], .prim .ix [.var 1, .cst (.int 1)]]])]⟩
/-- ratio_product(a, b); a=0 b=1 -/
def f7 : Mn.Fn := ⟨2, 2, [.ret (.call 4 [.prim .mul [.prim .ix [.var 0, .cst (.int 0)], .prim .ix [.var 1, .cst (.int 0)]], .prim .mul [.prim .ix [.var 0, .cst (.int 1)], .prim .ix [.var 1, .cst (.int 1)]]])]⟩
abbrev I_13_2 (st : Sto) (b_g : List (Int × Int)) : Rp ((List (Int × Int))) := fun q rr sx => ∃ w0 w3 w4 w5 w6 : Option D, ∃ k_found : Nat, ∃ sy : Sto, rr = [w0, some ((eL (eP2 eI eI)) b_g), some (.lr k_found), w3, w4, w5, w6] ∧ sy = sx ∧ MS st [(k_found, List.map (eP2 eI eI) q)] sx
abbrev I_13_3 (st : Sto) (b_g : List (Int × Int)) (b_i : Int) (b_a : Int × Int) : Rp ((List (Int × Int))) := fun q rr sx => ∃ w0 w5 w6 : Option D, ∃ k_found : Nat, ∃ sy : Sto, rr = [w0, some ((eL (eP2 eI eI)) b_g), some (.lr k_found), some (eI b_i), some ((eP2 eI eI) b_a), w5, w6] ∧ sy = sx ∧ MS st [(k_found, List.map (eP2 eI eI) q)] sx
def f13_b3 : List Mn.S := [.asg (.sb (.var 2) (.prim .add [.var 3, .var 5])) (.call 6 [.prim .ix [.var 2, .prim .add [.var 3, .var 5]], .call 7 [.var 4, .var 6]])]
def f13_b2 : List Mn.S := [.for (.tp [.nm 5, .nm 6]) (.enu (.var 1)) f13_b3]
def f13_r1 : List Mn.S := [.for (.tp [.nm 3, .nm 4]) (.enu (.var 0)) f13_b2, .ret (.var 2)]
/-- times_row(f, g); f=0 g=1 found=2 i=3 a=4 j=5 b=6 -/
def f13 : Mn.Fn := ⟨2, 7, (.asg (.nm 2) (.prim .mul [.lstE [.cst (.tup [.int 0, .int 1])], .prim .sub [.prim .add [.prim .len [.var 0], .prim .len [.var 1]], .cst (.int 1)]])) :: f13_r1⟩
/-- ratio(n, d); n=0 d=1 -/
def f5 : Mn.Fn := ⟨2, 2, [.ifS (.or (.not (.call 0 [.var 0])) (.or (.not (.call 0 [.var 1])) (.prim .eq [.var 1, .cst (.int 0)]))) [.rse 1 []] [], .ret (.call 4 [.var 0, .var 1])]⟩
abbrev I_14_1 (st : Sto) (b_sign : Int) (b_shift : Int) : Rp ((List (Int × Int))) := fun q rr sx => ∃ w2 w4 : Option D, rr = [some (eI b_sign), some (eI b_shift), w2, some ((eL (eP2 eI eI)) q), w4] ∧ st = sx
def f14_b1 : List Mn.S := [.asg (.nm 3) (.frz (.call 13 [.var 3, .frz (.lstE [.call 5 [.prim .sub [.var 1, .var 4], .prim .add [.var 4, .cst (.int 1)]], .call 5 [.var 0, .prim .add [.var 4, .cst (.int 1)]]])]))]
/-- chosen_row(sign, shift, k); sign=0 shift=1 k=2 found=3 i=4 -/
def f14 : Mn.Fn := ⟨3, 5, [.asg (.nm 3) (.frz (.lstE [.tupE [.cst (.int 1), .cst (.int 1)]])), .for (.nm 4) (.rng [.var 2]) f14_b1, .ret (.var 3)]⟩
abbrev I_15_3 (st : Sto) (b_n : D) (b_q : D) (b_k : D) : Rp ((List (Int × Int))) := fun q rr sx => ∃ w4 w5 w6 w7 : Option D, ∃ k_total : Nat, ∃ sy : Sto, rr = [some (eD b_n), some (eD b_q), some (eD b_k), some (.lr k_total), w4, w5, w6, w7] ∧ sy = sx ∧ MS st [(k_total, List.map (eP2 eI eI) q)] sx
abbrev I_15_5 (st : Sto) (b_n : D) (b_q : D) (b_k : D) (b_j : Int) (b_c : Int × Int) : Rp ((List (Int × Int))) := fun q rr sx => ∃ w6 w7 : Option D, ∃ k_total : Nat, ∃ sy : Sto, rr = [some (eD b_n), some (eD b_q), some (eD b_k), some (.lr k_total), some (eI b_j), some ((eP2 eI eI) b_c), w6, w7] ∧ sy = sx ∧ MS st [(k_total, List.map (eP2 eI eI) q)] sx
def f15_b5 : List Mn.S := [.asg (.sb (.var 3) (.var 6)) (.call 6 [.prim .ix [.var 3, .var 6], .call 7 [.var 5, .var 7]])]
def f15_r4 : List Mn.S := [.for (.tp [.nm 6, .nm 7]) (.enu (.call 13 [.call 14 [.cst (.int 1), .cst (.int 0), .var 4], .call 14 [.prim .neg [.cst (.int 1)], .var 0, .prim .sub [.var 2, .var 4]]])) f15_b5]
def f15_b3 : List Mn.S := (.asg (.nm 5) (.tupE [.prim .mul [.call 1 [.prim .sub [.var 1, .cst (.int 1)], .prim .sub [.var 2, .var 4]], .ite (.prim .eq [.prim .mod [.var 4, .cst (.int 2)], .cst (.int 0)]) (.cst (.int 1)) (.prim .neg [.cst (.int 1)])], .cst (.int 1)])) :: f15_r4
def f15_r2 : List Mn.S := [.for (.nm 4) (.rng [.prim .add [.var 2, .cst (.int 1)]]) f15_b3, .ret (.prim .tuple [.var 3])]
def f15_r1 : List Mn.S := (.asg (.nm 3) (.prim .mul [.lstE [.cst (.tup [.int 0, .int 1])], .prim .add [.var 2, .cst (.int 1)]])) :: f15_r2
/-- krawtchouk_row(n, q, k); n=0 q=1 k=2 total=3 j=4 c=5 i=6 a=7 -/
def f15 : Mn.Fn := ⟨3, 8, (.ifS (.or (.not (.call 8 [.var 0, .cst (.int 1), .cst (.int 24)])) (.or (.not (.call 8 [.var 1, .cst (.int 2), .cst (.int 16)])) (.not (.call 8 [.var 2, .cst (.int 0), .var 0])))) [.rse 1 []] []) :: f15_r1⟩
def f30_t1 : List Mn.S := [.ifS (.prim .eq [.var 0, .cst (.int 0)]) [.ret (.tupE [.cst (.str S_told), .call 19 [.call 10 [.var 1, .var 2, .var 3, .var 4]]])] [], .ret (.tupE [.cst (.str S_told), .call 19 [.ite (.prim .eq [.var 0, .cst (.int 1)]) (.call 12 [.var 1, .var 2]) (.call 15 [.var 1, .var 2, .var 3])]])]
/-- _law_told(which, n, q, k, x); which=0 n=1 q=2 k=3 x=4 -/
def f30 : Mn.Fn := ⟨5, 5, [.tryS f30_t1 [(1, .tup [some (.str S_malformed), some (.non)])]]⟩
abbrev I_31_1 (st : Sto) (b_n : Int) : Rp (Int) := fun q rr sx => ∃ w1 w3 : Option D, rr = [some (eI b_n), w1, some (eI q), w3] ∧ st = sx
def f31_b1 : List Mn.S := [.asg (.nm 2) (.prim .fdiv [.prim .mul [.var 2, .prim .sub [.var 0, .var 3]], .prim .add [.var 3, .cst (.int 1)]])]
/-- _law_chosen(n, k); n=0 k=1 total=2 i=3 -/
def f31 : Mn.Fn := ⟨2, 4, [.asg (.nm 2) (.cst (.int 1)), .for (.nm 3) (.rng [.var 1]) f31_b1, .ret (.var 2)]⟩
abbrev I_32_1 (st : Sto) (b_q : Int) : Rp (Int) := fun q rr sx => ∃ w1 w3 : Option D, rr = [some (eI b_q), w1, some (eI q), w3] ∧ st = sx
def f32_b1 : List Mn.S := [.asg (.nm 2) (.prim .mul [.var 2, .var 0])]
/-- _law_power(q, n); q=0 n=1 total=2 turn=3 -/
def f32 : Mn.Fn := ⟨2, 4, [.asg (.nm 2) (.cst (.int 1)), .for (.nm 3) (.rng [.var 1]) f32_b1, .ret (.var 2)]⟩
abbrev I_22_1 (st : Sto) : Rp (Int × Int) := fun q rr sx => rr = [some (eI q.1), some (eI q.2)] ∧ st = sx
def f22_b1 : List Mn.S := [.asg (.tp [.nm 0, .nm 1]) (.tupE [.var 1, .prim .mod [.prim .toInt [.var 0], .var 1]])]
def f22_r2 : List Mn.S := [.ret (.prim .abs [.var 0])]
/-- _law_common(a, b); a=0 b=1 -/
def f22 : Mn.Fn := ⟨2, 2, (.whl (.prim .ne [.var 1, .cst (.int 0)]) f22_b1) :: f22_r2⟩
/-- _law_is_ratio(value); value=0 -/
def f26 : Mn.Fn := ⟨1, 1, [.ifS (.or (.not (.prim (.inst [.tuple]) [.var 0])) (.or (.prim .ne [.prim .len [.var 0], .cst (.int 2)]) (.or (.not (.call 20 [.prim .ix [.var 0, .cst (.int 0)]])) (.not (.call 20 [.prim .ix [.var 0, .cst (.int 1)]]))))) [.ret (.cst (.bl false))] [], .ret (.and (.prim .gt [.prim .ix [.var 0, .cst (.int 1)], .cst (.int 0)]) (.prim .eq [.call 22 [.prim .ix [.var 0, .cst (.int 0)], .prim .ix [.var 0, .cst (.int 1)]], .cst (.int 1)]))]⟩
/-- _law_is_row_of(row, degree); row=0 degree=1 c=2 -/
def f29 : Mn.Fn := ⟨2, 3, [.ret (.and (.prim (.inst [.tuple]) [.var 0]) (.and (.prim .eq [.prim .len [.var 0], .prim .add [.var 1, .cst (.int 1)]]) (.and (.prim .all [.comp (.call 26 [.var 2]) (.nm 2) (.ex (.var 0)) [] [2]]) (.prim .ne [.prim .ix [.prim .ix [.var 0, .prim .neg [.cst (.int 1)]], .cst (.int 0)], .cst (.int 0)]))))]⟩
/-- _law_ratio(n, d); n=0 d=1 g=2 -/
def f23 : Mn.Fn := ⟨2, 3, [.asg (.nm 2) (.call 22 [.var 0, .var 1]), .ret (.ite (.prim .gt [.var 1, .cst (.int 0)]) (.tupE [.prim .fdiv [.var 0, .var 2], .prim .fdiv [.var 1, .var 2]]) (.tupE [.prim .fdiv [.prim .neg [.var 0], .var 2], .prim .fdiv [.prim .neg [.var 1], .var 2]]))]⟩
/-- _law_plus(a, b); a=0 b=1 -/
def f24 : Mn.Fn := ⟨2, 2, [.ifS (.and (.prim .eq [.prim .ix [.var 0, .cst (.int 1)], .cst (.int 1)]) (.prim .eq [.prim .ix [.var 1, .cst (.int 1)], .cst (.int 1)])) [.ret (.tupE [.prim .add [.prim .ix [.var 0, .cst (.int 0)], .prim .ix [.var 1, .cst (.int 0)]], .cst (.int 1)])] [], .ret (.call 23 [.prim .add [.prim .mul [.prim .ix [.var 0, .cst (.int 0)], .prim .ix [.var 1, .cst (.int 1)]], .prim .mul [.prim .ix [.var 1, .cst (.int 0)], .prim .ix [.var 0, .cst (.int 1)]]], .prim .mul [.prim .ix [.var 0, .cst (.int 1)], .prim .ix [.var 1, .cst (.int 1)]]])]⟩
/-- _law_times(a, b); a=0 b=1 -/
def f25 : Mn.Fn := ⟨2, 2, [.ifS (.and (.prim .eq [.prim .ix [.var 0, .cst (.int 1)], .cst (.int 1)]) (.prim .eq [.prim .ix [.var 1, .cst (.int 1)], .cst (.int 1)])) [.ret (.tupE [.prim .mul [.prim .ix [.var 0, .cst (.int 0)], .prim .ix [.var 1, .cst (.int 0)]], .cst (.int 1)])] [], .ret (.call 23 [.prim .mul [.prim .ix [.var 0, .cst (.int 0)], .prim .ix [.var 1, .cst (.int 0)]], .prim .mul [.prim .ix [.var 0, .cst (.int 1)], .prim .ix [.var 1, .cst (.int 1)]]])]⟩
abbrev I_28_1 (st : Sto) (b_x : Int) : Rp ((Int × Int)) := fun q rr sx => ∃ w0 w3 : Option D, rr = [w0, some (eI b_x), some ((eP2 eI eI) q), w3] ∧ st = sx
def f28_b1 : List Mn.S := [.asg (.nm 2) (.call 24 [.call 25 [.var 2, .tupE [.var 1, .cst (.int 1)]], .var 3])]
/-- _law_value(row, x); row=0 x=1 total=2 c=3 -/
def f28 : Mn.Fn := ⟨2, 4, [.asg (.nm 2) (.tupE [.cst (.int 0), .cst (.int 1)]), .for (.nm 3) (.ex (.prim .rev [.var 0])) f28_b1, .ret (.var 2)]⟩
abbrev I_33_1 (st : Sto) : Rp (S2) := fun q rr sx => ∃ w0 w2 w3 w4 w5 w6 w7 w8 w9 w10 w11 w12 w13 w14 : Option D, rr = [w0, some (.lr 0), w2, w3, w4, w5, w6, w7, w8, w9, w10, w11, w12, w13, w14] ∧ ss st q = sx
def f33_r6 : List Mn.S := [.ifS (.chain .le .le (.cst (.int 1)) (.var 4) (.prim .sub [.var 8, .cst (.int 1)])) [.ifS (.prim .ne [.prim .mul [.prim .add [.var 4, .cst (.int 1)], .call 27 [.var 8, .var 9, .prim .add [.var 4, .cst (.int 1)], .var 12]], .prim .sub [.prim .mul [.prim .sub [.prim .add [.var 4, .prim .mul [.prim .sub [.var 9, .cst (.int 1)], .prim .sub [.var 8, .var 4]]], .prim .mul [.var 9, .var 12]], .var 7], .prim .mul [.prim .mul [.prim .sub [.var 9, .cst (.int 1)], .prim .add [.prim .sub [.var 8, .var 4], .cst (.int 1)]], .call 27 [.var 8, .var 9, .prim .sub [.var 4, .cst (.int 1)], .var 12]]]]) [.ret (.cst (.bl false))] []] []]
def f33_r5 : List Mn.S := (.ifS (.prim .ne [.prim .mul [.prim .mul [.call 31 [.var 8, .var 12], .call 32 [.prim .sub [.var 9, .cst (.int 1)], .var 12]], .var 7], .prim .mul [.prim .mul [.call 31 [.var 8, .var 4], .call 32 [.prim .sub [.var 9, .cst (.int 1)], .var 4]], .call 27 [.var 8, .var 9, .var 12, .var 4]]]) [.ret (.cst (.bl false))] []) :: f33_r6
def f33_r4 : List Mn.S := (.ifS (.not (.call 21 [.call 30 [.cst (.int 0), .var 8, .var 9, .var 4, .var 12], .tupE [.cst (.str S_told), .var 7]])) [.ret (.cst (.bl false))] []) :: f33_r5
def f33_r3 : List Mn.S := (.asg (.nm 7) (.call 27 [.var 8, .var 9, .var 4, .var 12])) :: f33_r4
def f33_r2 : List Mn.S := (.asg (.tp [.nm 4, .nm 12]) (.tupE [.call 17 [.var 1, .prim .add [.var 8, .cst (.int 1)]], .call 17 [.var 1, .prim .add [.var 8, .cst (.int 1)]]])) :: f33_r3
def f33_b1 : List Mn.S := (.asg (.tp [.nm 8, .nm 9]) (.tupE [.prim .add [.cst (.int 1), .call 17 [.var 1, .cst (.int 48)]], .prim .add [.cst (.int 2), .call 17 [.var 1, .cst (.int 15)]]])) :: f33_r2
abbrev I_33_16 (st : Sto) (b_n : Int) (b_q : Int) : Rp (S2) := fun q rr sx => ∃ w0 w2 w3 w4 w5 w6 w7 w10 w11 w12 w13 w14 : Option D, rr = [w0, some (.lr 0), w2, w3, w4, w5, w6, w7, some (eI b_n), some (eI b_q), w10, w11, w12, w13, w14] ∧ ss st q = sx
def f33_b16 : List Mn.S := [.ifS (.prim .ne [.prim .ix [.call 30 [.cst (.int 0), .var 6, .cst (.int 2), .cst (.int 0), .cst (.int 0)], .cst (.int 0)], .cst (.str S_malformed)]) [.ret (.cst (.bl false))] []]
abbrev I_33_18 (st : Sto) (b_n : Int) (b_q : Int) : Rp (S2) := fun q rr sx => ∃ w0 w2 w3 w4 w5 w6 w7 w10 w11 w12 w13 w14 : Option D, rr = [w0, some (.lr 0), w2, w3, w4, w5, w6, w7, some (eI b_n), some (eI b_q), w10, w11, w12, w13, w14] ∧ ss st q = sx
def f33_b18 : List Mn.S := [.ifS (.or (.prim .ne [.prim .ix [.call 30 [.cst (.int 1), .var 6, .cst (.int 2), .cst (.non), .cst (.non)], .cst (.int 0)], .cst (.str S_malformed)]) (.prim .ne [.prim .ix [.call 30 [.cst (.int 2), .var 6, .cst (.int 2), .cst (.int 0), .cst (.non)], .cst (.int 0)], .cst (.str S_malformed)])) [.ret (.cst (.bl false))] []]
abbrev I_33_20 (st : Sto) (b_n : Int) (b_q : Int) : Rp (S2) := fun q rr sx => ∃ w0 w2 w3 w4 w5 w6 w7 w10 w11 w12 w13 w14 : Option D, rr = [w0, some (.lr 0), w2, w3, w4, w5, w6, w7, some (eI b_n), some (eI b_q), w10, w11, w12, w13, w14] ∧ ss st q = sx
def f33_b20 : List Mn.S := [.ifS (.prim .ne [.frz (.comp (.prim .ix [.call 30 [.var 14, .cst (.int 3), .var 6, .cst (.int 1), .cst (.int 1)], .cst (.int 0)]) (.nm 14) (.rng [.cst (.int 3)]) [] [14]), .frz (.prim .mul [.lstE [.cst (.str S_malformed)], .cst (.int 3)])]) [.ret (.cst (.bl false))] []]
abbrev I_33_22 (st : Sto) (b_n : Int) (b_q : Int) : Rp (S2) := fun q rr sx => ∃ w0 w2 w3 w4 w5 w6 w7 w10 w11 w12 w13 w14 : Option D, rr = [w0, some (.lr 0), w2, w3, w4, w5, w6, w7, some (eI b_n), some (eI b_q), w10, w11, w12, w13, w14] ∧ ss st q = sx
def f33_b22 : List Mn.S := [.ifS (.or (.prim .ne [.prim .ix [.call 30 [.cst (.int 0), .var 8, .var 9, .var 6, .cst (.int 0)], .cst (.int 0)], .cst (.str S_malformed)]) (.or (.prim .ne [.prim .ix [.call 30 [.cst (.int 0), .var 8, .var 9, .cst (.int 0), .var 6], .cst (.int 0)], .cst (.str S_malformed)]) (.prim .ne [.prim .ix [.call 30 [.cst (.int 2), .var 8, .var 9, .var 6, .cst (.non)], .cst (.int 0)], .cst (.str S_malformed)]))) [.ret (.cst (.bl false))] []]
def f33_r21 : List Mn.S := [.for (.nm 6) (.ex (.lstE [.prim .neg [.cst (.int 1)], .prim .add [.var 8, .cst (.int 1)], .cst (.non), .cst (.bl true), .cst (.str S_1)])) f33_b22, .ret (.cst (.bl true))]
def f33_r19 : List Mn.S := (.for (.nm 6) (.ex (.lstE [.cst (.int 1), .cst (.int 17), .cst (.int 0), .cst (.non), .cst (.bl true), .cst (.str S_2)])) f33_b20) :: f33_r21
def f33_r17 : List Mn.S := (.for (.nm 6) (.ex (.lstE [.cst (.int 0), .cst (.int 25), .prim .neg [.cst (.int 1)], .cst (.non), .cst (.bl true), .cst (.str S_3)])) f33_b18) :: f33_r19
def f33_r15 : List Mn.S := (.for (.nm 6) (.ex (.lstE [.cst (.int 0), .cst (.int 49), .prim .neg [.cst (.int 1)], .cst (.non), .cst (.bl true), .cst (.str S_3)])) f33_b16) :: f33_r17
def f33_r14 : List Mn.S := (.ifS (.or (.prim .ne [.prim .ix [.var 5, .cst (.int 0)], .cst (.str S_told)]) (.or (.not (.call 29 [.prim .ix [.var 5, .cst (.int 1)], .var 4])) (.not (.prim .all [.comp (.prim .eq [.call 28 [.prim .ix [.var 5, .cst (.int 1)], .var 12], .tupE [.prim .ix [.prim .ix [.var 3, .var 12], .var 4], .cst (.int 1)]]) (.nm 12) (.rng [.prim .add [.var 8, .cst (.int 1)]]) [] [12]])))) [.ret (.cst (.bl false))] []) :: f33_r15
def f33_r13 : List Mn.S := (.asg (.nm 5) (.call 30 [.cst (.int 2), .var 8, .var 9, .var 4, .cst (.non)])) :: f33_r14
def f33_r12 : List Mn.S := (.asg (.nm 4) (.call 17 [.var 1, .prim .add [.var 8, .cst (.int 1)]])) :: f33_r13
def f33_r11 : List Mn.S := (.ifS (.prim .ne [.prim .sum [.comp (.prim .mul [.prim .ix [.prim .ix [.var 3, .var 10], .var 13], .prim .ix [.prim .ix [.var 3, .var 13], .var 11]]) (.nm 13) (.rng [.prim .add [.var 8, .cst (.int 1)]]) [] [13]], .ite (.prim .eq [.var 10, .var 11]) (.call 32 [.var 9, .var 8]) (.cst (.int 0))]) [.ret (.cst (.bl false))] []) :: f33_r12
def f33_r10 : List Mn.S := (.asg (.tp [.nm 10, .nm 11]) (.tupE [.call 17 [.var 1, .prim .add [.var 8, .cst (.int 1)]], .call 17 [.var 1, .prim .add [.var 8, .cst (.int 1)]]])) :: f33_r11
def f33_r9 : List Mn.S := (.ifS (.not (.call 21 [.call 30 [.cst (.int 1), .var 8, .var 9, .cst (.non), .cst (.non)], .tupE [.cst (.str S_told), .var 3]])) [.ret (.cst (.bl false))] []) :: f33_r10
def f33_r8 : List Mn.S := (.asg (.nm 3) (.prim .tuple [.comp (.prim .tuple [.comp (.call 27 [.var 8, .var 9, .var 4, .var 12]) (.nm 4) (.rng [.prim .add [.var 8, .cst (.int 1)]]) [] [4]]) (.nm 12) (.rng [.prim .add [.var 8, .cst (.int 1)]]) [] [12]])) :: f33_r9
def f33_r7 : List Mn.S := (.asg (.tp [.nm 8, .nm 9]) (.tupE [.prim .add [.cst (.int 1), .call 17 [.var 1, .prim .ix [.lstE [.cst (.int 6), .cst (.int 12), .cst (.int 24)], .call 17 [.var 1, .cst (.int 3)]]]], .prim .add [.cst (.int 2), .call 17 [.var 1, .cst (.int 15)]]])) :: f33_r8
def f33_law : List Mn.S := (.for (.nm 2) (.rng [.cst (.int 4)]) f33_b1) :: f33_r7
def f33 : Mn.Fn := ⟨1, 15, .asg (.nm 1) (.call 16 [.var 0]) :: f33_law⟩
/-- _law_state(script) -/
def f16 : Mn.Fn := ⟨1, 4, [.asg (.nm 1) (.cst (.int 0)), .asg (.nm 2) (.cst (.int 1)), .for (.nm 3) (.ex (.prim (.sl false true) [.var 0, .cst (.int 63)])) [.asg (.nm 1) (.prim .add [.prim .mul [.var 1, .cst (.int 1000003)], .prim .abs [.var 3]]), .asg (.nm 2) (.prim .mod [.prim .toInt [.prim .add [.prim .mul [.var 2, .cst (.int 48271)], .var 3]], .cst (.int 2147483647)])], .ret (.lstE [.var 1, .var 2])]⟩
def N0 : List PySem.Str := ((["value"] : List PySem.Str))
def N1 : List PySem.Str := ((["a", "e", "found", "base"] : List PySem.Str))
def N2 : List PySem.Str := ((["a", "b"] : List PySem.Str))
def N3 : List PySem.Str := ((["n", "k", "found", "j"] : List PySem.Str))
def N4 : List PySem.Str := ((["n", "d", "g"] : List PySem.Str))
def N5 : List PySem.Str := ((["n", "d"] : List PySem.Str))
def N6 : List PySem.Str := ((["a", "b"] : List PySem.Str))
def N7 : List PySem.Str := ((["a", "b"] : List PySem.Str))
def N8 : List PySem.Str := ((["x", "low", "most"] : List PySem.Str))
def N9 : List PySem.Str := ((["n", "q", "k", "x", "total", "j", "sign"] : List PySem.Str))
def N10 : List PySem.Str := ((["n", "q", "k", "x"] : List PySem.Str))
def N11 : List PySem.Str := ((["n", "q", "x", "k"] : List PySem.Str))
def N12 : List PySem.Str := ((["n", "q", "row"] : List PySem.Str))
def N13 : List PySem.Str := ((["f", "g", "found", "i", "a", "j", "b"] : List PySem.Str))
def N14 : List PySem.Str := ((["sign", "shift", "k", "found", "i"] : List PySem.Str))
def N15 : List PySem.Str := ((["n", "q", "k", "total", "j", "c", "i", "a"] : List PySem.Str))
def N16 : List PySem.Str := ((["script", "seed", "total", "cell"] : List PySem.Str))
def N17 : List PySem.Str := ((["state", "m", "value"] : List PySem.Str))
def N18 : List PySem.Str := ((["value", "item"] : List PySem.Str))
def N19 : List PySem.Str := ((["value"] : List PySem.Str))
def N20 : List PySem.Str := ((["value"] : List PySem.Str))
def N21 : List PySem.Str := ((["one", "two", "k"] : List PySem.Str))
def N22 : List PySem.Str := ((["a", "b"] : List PySem.Str))
def N23 : List PySem.Str := ((["n", "d", "g"] : List PySem.Str))
def N24 : List PySem.Str := ((["a", "b"] : List PySem.Str))
def N25 : List PySem.Str := ((["a", "b"] : List PySem.Str))
def N26 : List PySem.Str := ((["value"] : List PySem.Str))
def N27 : List PySem.Str := ((["n", "q", "k", "x", "row", "turn", "c", "i"] : List PySem.Str))
def N28 : List PySem.Str := ((["row", "x", "total", "c"] : List PySem.Str))
def N29 : List PySem.Str := ((["row", "degree", "c"] : List PySem.Str))
def N30 : List PySem.Str := ((["which", "n", "q", "k", "x"] : List PySem.Str))
def N31 : List PySem.Str := ((["n", "k", "total", "i"] : List PySem.Str))
def N32 : List PySem.Str := ((["q", "n", "total", "turn"] : List PySem.Str))
def N33 : List PySem.Str := ((["script", "state", "turn", "table", "k", "told", "bad", "due", "n", "q", "i", "j", "x", "t", "which"] : List PySem.Str))
def T : List Mn.Fn := ([f0, f1, f2, f3, f4, f5, f6, f7, f8, f9, f10, f11, f12, f13, f14, f15, f16, f17, f18, f19, f20, f21, f22, f23, f24] ++ [f25, f26, f27, f28, f29, f30, f31, f32, f33])
abbrev NN : List (List PySem.Str) := ([N0, N1, N2, N3, N4, N5, N6, N7, N8, N9, N10, N11, N12, N13, N14, N15, N16, N17, N18, N19, N20, N21, N22, N23, N24] ++ [N25, N26, N27, N28, N29, N30, N31, N32, N33])
abbrev md : Mn.Md := ⟨((["is_integer", "raised_to", "greatest_common", "chosen_of", "lowest", "ratio", "ratio_sum", "ratio_product", "is_between", "number_of", "krawtchouk_number", "table_of", "krawtchouk_table", "times_row", "chosen_row", "krawtchouk_row", "_law_state", "_law_take", "_law_odd", "_law_honest", "_law_is_whole", "_law_same", "_law_common", "_law_ratio", "_law_plus"] : List PySem.Str) ++ (["_law_times", "_law_is_ratio", "_law_number", "_law_value", "_law_is_row_of", "_law_told", "_law_chosen", "_law_power", "law"] : List PySem.Str)), [("MOST_N", .int 48), ("MOST_TABLE", .int 24), ("MOST_Q", .int 16), ("ZERO", .tup [.int 0, .int 1])], [("Malformed", 1, none)], ((["abs", "all", "bool", "enumerate", "int", "isinstance", "len", "list", "range", "str", "sum", "tuple"] : List PySem.Str))⟩
variable {wf k : Nat} {st : Sto} (hwf : Big wf)
include hwf
theorem w_27_r3 {b_q : Int} {b_k : Int} {b_x : Int} {b_row : List Int} {b_turn : Int} {b_c : Int} {w0 w7 : Option D} (h : (O.l_number_r3 b_k b_row b_c) = true) : HS ⟨callF T wf (k + 0), wf, T.length⟩ f27_r3 [w0, some (eI b_q), some (eI b_k), some (eI b_x), some ((eL eI) b_row), some (eI b_turn), some (eI b_c), w7] st (QL (I_27_2 st b_q b_k b_x) (V.l_number_r3 b_k b_row b_c)) (EN) := by
  refine HS_asg (E_frzL (e := eI) (xs := (List.map (fun (y2 : Int) => ((getI b_row y2) + (bif (decide (y2 > (0 : Int))) then (b_c * (getI b_row (y2 - (1 : Int)))) else (0 : Int)))) (rI (0 : Int) (b_k + (1 : Int))))) (E_comp (e := eI) (e2 := eI) (f := (fun (y2 : Int) => ((getI b_row y2) + (bif (decide (y2 > (0 : Int))) then (b_c * (getI b_row (y2 - (1 : Int)))) else (0 : Int))))) (a1 (a2 h)) (S_rng1 (a1 h) (E_add (E_var rfl) (E_cst))) (trivial) (fun y2 hm3 => ⟨_, T_nm (Nl.nl (e := eI) y2), E_add (E_ix (e := eI) sL (a1 (List.all_eq_true.mp (a1 (a2 (a2 h))) y2 hm3)) (E_var rfl) (E_var rfl)) (E_ite (e := eI) (E_gt (E_var rfl) (E_cst)) (fun hc5 => E_mul (a2 (i1 (a2 (List.all_eq_true.mp (a1 (a2 (a2 h))) y2 hm3)) hc5)) (E_var rfl) (E_ix (e := eI) sL (a1 (i1 (a2 (List.all_eq_true.mp (a1 (a2 (a2 h))) y2 hm3)) hc5)) (E_var rfl) (E_sub (E_var rfl) (E_cst)))) (fun hc5 => E_cst))⟩) (fun _ _ => Nl.nl (e := eI) _))) (T_nm (Nl.nl (e := (eL eI)) (List.map (fun (y2 : Int) => ((getI b_row y2) + (bif (decide (y2 > (0 : Int))) then (b_c * (getI b_row (y2 - (1 : Int)))) else (0 : Int)))) (rI (0 : Int) (b_k + (1 : Int)))))) ?_
  have h := (a2 (a2 (a2 h)))
  exact HS_nil ⟨.inl rfl, _, _, _, _, rfl, rfl⟩
theorem w_27_l2 {b_q : Int} {b_k : Int} {b_x : Int} {q : (List Int)} {x : Int} {rr : Rho} {sx : Sto} (h : (O.l_number_l2 b_q b_k b_x q x) = true) (hI : (I_27_2 st b_q b_k b_x) q rr sx) : Holds (kBody ⟨callF T wf (k + 0), wf, T.length⟩ f27_b2 (evTg ⟨callF T wf (k + 0), wf, T.length⟩ (.nm 5) (eI x) rr sx)) (QL (I_27_2 st b_q b_k b_x) (V.l_number_l2 b_q b_k b_x q x)) (EN) := by
  obtain ⟨w0, w5, w6, w7, e1, e2⟩ := hI
  subst e1 e2
  refine HB (T_nm (Nl.nl (e := eI) x)) ?_
  refine HS_asg (E_ite (e := eI) (E_lt (E_var rfl) (E_var rfl)) (fun hc1 => E_neg (E_cst)) (fun hc1 => E_sub (E_var rfl) (E_cst))) (T_nm (Nl.nl (e := eI) (bif (decide (x < b_x)) then (-1 : Int) else (b_q - (1 : Int))))) ?_
  exact w_27_r3 hwf h
theorem w_27_r1 {b_n : Int} {b_q : Int} {b_k : Int} {b_x : Int} {b_row : List Int} {w5 w6 w7 : Option D} (h : (O.l_number_r1 b_n b_q b_k b_x b_row) = true) : HS ⟨callF T wf (k + 0), wf, T.length⟩ f27_r1 [some (eI b_n), some (eI b_q), some (eI b_k), some (eI b_x), some ((eL eI) b_row), w5, w6, w7] st (QF st.length (.ok (eI (V.l_number_r1 b_n b_q b_k b_x b_row)) st)) (EF st.length (.ok (eI (V.l_number_r1 b_n b_q b_k b_x b_row)) st)) := by
  refine HS_for (I := (I_27_2 st b_q b_k b_x)) (step := (V.l_number_l2 b_q b_k b_x)) (ok := (O.l_number_l2 b_q b_k b_x)) (xs := (rI (0 : Int) b_n)) (s0 := b_row) (e := eI) (S_rng1 (a1 h) (E_var rfl)) (fun _ _ _ _ => trivial) ⟨_, _, _, _, rfl, rfl⟩ (a1 (a2 h)) (fun q x rr sx h hI => w_27_l2 hwf h hI) ?_
  rintro rr sx ⟨w0, w5, w6, w7, e1, e2⟩
  subst e1 e2
  have h := (a2 (a2 h))
  exact HS_ret (E_ix (e := eI) sL h (E_var rfl) (E_var rfl)) (q_ret rfl)
theorem w_27 {a_n : Int} {a_q : Int} {a_k : Int} {a_x : Int} (h : O.l_number a_n a_q a_k a_x = true) : callF T wf (k + 1) 27 [eI a_n, eI a_q, eI a_k, eI a_x] st = .ok (eI (V.l_number a_n a_q a_k a_x)) st := by
  refine call_HS (f := f27) rfl rfl ?_
  have h := h
  show HS _ _ [some (eI a_n), some (eI a_q), some (eI a_k), some (eI a_x), none, none, none, none] _ (QF st.length (.ok (eI (V.l_number a_n a_q a_k a_x)) st)) (EF st.length (.ok (eI (V.l_number a_n a_q a_k a_x)) st))
  refine HS_asg (E_frzL (e := eI) (xs := ([(1 : Int)] ++ (repL a_k [(0 : Int)]))) (E_addL (e := eI) (a1 (a2 h)) rF rF (by nofun) (by nofun) (by nofun) (E_lst (Es_cons (E_cst) (Es_nil)) (mlc (Nl.nl (e := eI) (1 : Int)) (ml0))) (E_mulL (e := eI) (a1 h) (E_lst (Es_cons (E_cst) (Es_nil)) (mlc (Nl.nl (e := eI) (0 : Int)) (ml0))) (E_var rfl)))) (T_nm (Nl.nl (e := (eL eI)) ([(1 : Int)] ++ (repL a_k [(0 : Int)])))) ?_
  have h := (a2 (a2 h))
  exact w_27_r1 hwf h
theorem w_0 {a_value : D} (h : O.is_integer a_value = true) : callF T wf (k + 1) 0 [eD a_value] st = .ok (eB (V.is_integer a_value)) st := by
  refine call_HS (f := f0) rfl rfl ?_
  have hh := h
  have h := (a2 h)
  show HS _ _ [some (eD a_value)] _ (QF st.length (.ok (eB (V.is_integer a_value)) st)) (EF st.length (.ok (eB (V.is_integer a_value)) st))
  exact HS_ret (E_and (E_instD (a1 h) (E_var rfl)) (fun hc1 => E_not (E_instD (i1 (a2 h) hc1) (E_var rfl)))) (q_ret rfl)
theorem w_8 {a_x : D} {a_low : Int} {a_most : Int} (h : O.is_between a_x a_low a_most = true) : callF T wf (k + 2) 8 [eD a_x, eI a_low, eI a_most] st = .ok (eB (V.is_between a_x a_low a_most)) st := by
  refine call_HS (f := f8) rfl rfl ?_
  have hh := h
  have h := (a2 h)
  show HS _ _ [some (eD a_x), some (eI a_low), some (eI a_most)] _ (QF st.length (.ok (eB (V.is_between a_x a_low a_most)) st)) (EF st.length (.ok (eB (V.is_between a_x a_low a_most)) st))
  exact HS_ret (E_and (E_callF (Es_cons (E_var rfl) (Es_nil)) (mlc (a1 h) (ml0)) (w_0 hwf (a_value := a_x) (a1 (a2 h)))) (fun hc2 => E_chain (p := .le) (q := .le) sI_le sp_le (E_var rfl) (E_un (e := eI) (i1 (a2 (a2 h)) hc2) (E_var rfl)) (fun hc1 => E_var rfl))) (q_ret rfl)
theorem w_1_j2 {b_e : Int} {b_found : Int} {b_base : Int} {w0 : Option D} (h : (O.raised_to_j2 b_e b_found b_base) = true) : HS ⟨callF T wf (k + 0), wf, T.length⟩ f1_j2 [w0, some (eI b_e), some (eI b_found), some (eI b_base)] st (QL (I_1_1 st) (V.raised_to_j2 b_e b_found b_base)) (EN) := by
  refine HS_aug rfl (E_cst) (sI_fdiv (by decide)) ?_
  refine HS_ifV (Q := fun b => QL (I_1_1 st) (bif b then ((Int.fdiv b_e (2 : Int)), b_found, (b_base * b_base)) else ((Int.fdiv b_e (2 : Int)), b_found, b_base))) (E := fun b => EN) (E_gt (E_var rfl) (E_cst)) (fun hc => ?_) (fun hc => ?_)
  · show HS _ _ _ _ (QL (I_1_1 st) ((Int.fdiv b_e (2 : Int)), b_found, (b_base * b_base))) (EN)
    have h := c1 h hc
    refine HS_asg (E_mul (a1 h) (E_var rfl) (E_var rfl)) (T_nm (Nl.nl (e := eI) (b_base * b_base))) ?_
    have h := (a2 h)
    exact HS_nil ⟨.inl rfl, _, rfl, rfl⟩
  · show HS _ _ _ _ (QL (I_1_1 st) ((Int.fdiv b_e (2 : Int)), b_found, b_base)) (EN)
    have h := c0 h hc
    exact HS_nil ⟨.inl rfl, _, rfl, rfl⟩
theorem w_1_l1c  {q : Int × Int × Int} {rr : Rho} {sx : Sto} (h : (O.raised_to_c1 q) = true) (hI : (I_1_1 st) q rr sx) : evE ⟨callF T wf (k + 0), wf, T.length⟩ (.prim .gt [.var 1, .cst (.int 0)]) rr sx = .ok (.bl (V.raised_to_c1 q)) sx := by
  obtain ⟨w0, e1, e2⟩ := hI
  subst e1 e2
  exact E_gt (E_var rfl) (E_cst)
theorem w_1_l1  {q : Int × Int × Int} {rr : Rho} {sx : Sto} (h : (O.raised_to_l1 q) = true) (hI : (I_1_1 st) q rr sx) : HS ⟨callF T wf (k + 0), wf, T.length⟩ f1_b1 rr sx (QL (I_1_1 st) (V.raised_to_l1 q)) (EN) := by
  obtain ⟨w0, e1, e2⟩ := hI
  subst e1 e2
  refine HS_ifV (Q := fun bb => QL (I_1_1 st) (V.raised_to_j2 q.1 (bif bb then (q.2.1 * q.2.2) else q.2.1) q.2.2)) (E := fun bb => EN) (E_eqI (E_mod (by decide) (E_var rfl) (E_cst)) (E_cst)) (fun hc => ?_) (fun hc => ?_)
  · have hq := i1 (a1 h) hc
    refine HS_asg (E_mul hq (E_var rfl) (E_var rfl)) (T_nm (Nl.nl (e := eI) (q.2.1 * q.2.2))) ?_
    have h := jt (P := fun (zz : Int) => (O.raised_to_j2 q.1 zz q.2.2) = true) hc (a2 h)
    exact w_1_j2 hwf h
  · have h := jf (P := fun (zz : Int) => (O.raised_to_j2 q.1 zz q.2.2) = true) hc (a2 h)
    exact w_1_j2 hwf h
theorem w_1_r3 {b_found : Int} {w0 w1 w3 : Option D} (h : (O.raised_to_r3 b_found) = true) : HS ⟨callF T wf (k + 0), wf, T.length⟩ f1_r3 [w0, w1, some (eI b_found), w3] st (QF st.length (.ok (eI (V.raised_to_r3 b_found)) st)) (EF st.length (.ok (eI (V.raised_to_r3 b_found)) st)) := by
  exact HS_ret (E_var rfl) (q_ret rfl)
theorem w_1 {a_a : Int} {a_e : Int} (h : O.raised_to a_a a_e = true) : callF T wf (k + 1) 1 [eI a_a, eI a_e] st = .ok (eI (V.raised_to a_a a_e)) st := by
  refine call_HS (f := f1) rfl rfl ?_
  have h := h
  show HS _ _ [some (eI a_a), some (eI a_e), none, none] _ (QF st.length (.ok (eI (V.raised_to a_a a_e)) st)) (EF st.length (.ok (eI (V.raised_to a_a a_e)) st))
  refine HS_asg (E_tup (Es_cons (E_cst) (Es_cons (E_var rfl) (Es_nil))) (mlc (Nl.nl (e := eI) (1 : Int)) (mlc (Nl.nl (e := eI) a_a) (ml0)))) (T_tp rfl rfl (Ts_cons (T_nm (Nl.nl (e := eI) (1 : Int))) (Ts_cons (T_nm (Nl.nl (e := eI) a_a)) (Ts_nil)))) ?_
  refine HS_while (I := (I_1_1 st)) (cv := V.raised_to_c1) (oc := O.raised_to_c1) (step := (V.raised_to_l1)) (ok := (O.raised_to_l1)) (n := Int.toNat a_e + 1) (s0 := (a_e, (1 : Int), a_a)) (hwf _ (a1 h)) ⟨_, rfl, rfl⟩ (a1 (a2 h)) (fun q rr sx h hI => w_1_l1c hwf h hI) (fun q rr sx h1 h2 h hI => w_1_l1 hwf h hI) ?_
  rintro rr sx ⟨w0, e1, e2⟩
  subst e1 e2
  have h := (a2 (a2 h))
  exact w_1_r3 hwf h
theorem w_3_l2 {b_n : Int} {q : Int} {x : Int} {rr : Rho} {sx : Sto} (h : (O.chosen_of_l2 b_n q x) = true) (hI : (I_3_2 st b_n) q rr sx) : Holds (kBody ⟨callF T wf (k + 0), wf, T.length⟩ f3_b2 (evTg ⟨callF T wf (k + 0), wf, T.length⟩ (.nm 3) (eI x) rr sx)) (QL (I_3_2 st b_n) (V.chosen_of_l2 b_n q x)) (EN) := by
  obtain ⟨w1, w3, e1, e2⟩ := hI
  subst e1 e2
  refine HB (T_nm (Nl.nl (e := eI) x)) ?_
  refine HS_asg (E_fdiv (a1 (a2 h)) (E_mul (a1 h) (E_var rfl) (E_sub (E_var rfl) (E_var rfl))) (E_add (E_var rfl) (E_cst))) (T_nm (Nl.nl (e := eI) (Int.fdiv (q * (b_n - x)) (x + (1 : Int))))) ?_
  have h := (a2 (a2 h))
  exact HS_nil ⟨.inl rfl, _, _, rfl, rfl⟩
theorem w_3_r1 {b_n : Int} {b_k : Int} {w2 w3 : Option D} (h : (O.chosen_of_r1 b_n b_k) = true) : HS ⟨callF T wf (k + 0), wf, T.length⟩ f3_r1 [some (eI b_n), some (eI b_k), w2, w3] st (QF st.length (.ok (eI (V.chosen_of_r1 b_n b_k)) st)) (EF st.length (.ok (eI (V.chosen_of_r1 b_n b_k)) st)) := by
  refine HS_asg (E_cst) (T_nm (Nl.nl (e := eI) (1 : Int))) ?_
  refine HS_for (I := (I_3_2 st b_n)) (step := (V.chosen_of_l2 b_n)) (ok := (O.chosen_of_l2 b_n)) (xs := (rI (0 : Int) b_k)) (s0 := (1 : Int)) (e := eI) (S_rng1 (a1 h) (E_var rfl)) (fun _ _ _ _ => trivial) ⟨_, _, rfl, rfl⟩ (a1 (a2 h)) (fun q x rr sx h hI => w_3_l2 hwf h hI) ?_
  rintro rr sx ⟨w1, w3, e1, e2⟩
  subst e1 e2
  have h := (a2 (a2 h))
  exact HS_ret (E_var rfl) (q_ret rfl)
theorem w_3 {a_n : Int} {a_k : Int} (h : O.chosen_of a_n a_k = true) : callF T wf (k + 1) 3 [eI a_n, eI a_k] st = .ok (eI (V.chosen_of a_n a_k)) st := by
  refine call_HS (f := f3) rfl rfl ?_
  have h := h
  show HS _ _ [some (eI a_n), some (eI a_k), none, none] _ (QF st.length (.ok (eI (V.chosen_of a_n a_k)) st)) (EF st.length (.ok (eI (V.chosen_of a_n a_k)) st))
  refine HS_ifV (Q := fun b => QF st.length (.ok (eI (bif b then (0 : Int) else (V.chosen_of_r1 a_n a_k))) st)) (E := fun b => EF st.length (.ok (eI (bif b then (0 : Int) else (V.chosen_of_r1 a_n a_k))) st)) (E_gt (E_var rfl) (E_var rfl)) (fun hc => ?_) (fun hc => ?_)
  · show HS _ _ _ _ (QF st.length (.ok (eI (0 : Int)) st)) (EF st.length (.ok (eI (0 : Int)) st))
    have h := c1 h hc
    exact HS_ret (E_cst) (q_ret rfl)
  · show HS _ _ _ _ (QF st.length (.ok (eI (V.chosen_of_r1 a_n a_k)) st)) (EF st.length (.ok (eI (V.chosen_of_r1 a_n a_k)) st))
    have h := c0 h hc
    exact w_3_r1 hwf h
theorem w_9_l1 {b_n : Int} {b_q : Int} {b_k : Int} {b_x : Int} {q : Int} {x : Int} {rr : Rho} {sx : Sto} (h : (O.number_of_l1 b_n b_q b_k b_x q x) = true) (hI : (I_9_1 st b_n b_q b_k b_x) q rr sx) : Holds (kBody ⟨callF T wf (k + 1), wf, T.length⟩ f9_b1 (evTg ⟨callF T wf (k + 1), wf, T.length⟩ (.nm 5) (eI x) rr sx)) (QL (I_9_1 st b_n b_q b_k b_x) (V.number_of_l1 b_n b_q b_k b_x q x)) (EN) := by
  obtain ⟨w5, w6, e1, e2⟩ := hI
  subst e1 e2
  refine HB (T_nm (Nl.nl (e := eI) x)) ?_
  refine HS_asg (E_ite (e := eI) (E_eqI (E_mod (by decide) (E_var rfl) (E_cst)) (E_cst)) (fun hc1 => E_cst) (fun hc1 => E_neg (E_cst))) (T_nm (Nl.nl (e := eI) (bif (decide ((Int.fmod x (2 : Int)) = (0 : Int))) then (1 : Int) else (-1 : Int)))) ?_
  refine HS_aug rfl (E_mul (a1 (a2 (a2 (a2 (a2 (a2 h)))))) (E_mul (a1 (a2 (a2 (a2 h)))) (E_mul (a1 (a2 h)) (E_var rfl) (E_callF (Es_cons (E_sub (E_var rfl) (E_cst)) (Es_cons (E_sub (E_var rfl) (E_var rfl)) (Es_nil))) (mlc (Nl.nl (e := eI) (b_q - (1 : Int))) (mlc (Nl.nl (e := eI) (b_k - x)) (ml0))) (w_1 hwf (a1 h)))) (E_callF (Es_cons (E_var rfl) (Es_cons (E_var rfl) (Es_nil))) (mlc (Nl.nl (e := eI) b_x) (mlc (Nl.nl (e := eI) x) (ml0))) (w_3 hwf (a1 (a2 (a2 h)))))) (E_callF (Es_cons (E_sub (E_var rfl) (E_var rfl)) (Es_cons (E_sub (E_var rfl) (E_var rfl)) (Es_nil))) (mlc (Nl.nl (e := eI) (b_n - b_x)) (mlc (Nl.nl (e := eI) (b_k - x)) (ml0))) (w_3 hwf (a1 (a2 (a2 (a2 (a2 h)))))))) sI_add ?_
  have h := (a2 (a2 (a2 (a2 (a2 (a2 h))))))
  exact HS_nil ⟨.inl rfl, _, _, rfl, rfl⟩
theorem w_9 {a_n : Int} {a_q : Int} {a_k : Int} {a_x : Int} (h : O.number_of a_n a_q a_k a_x = true) : callF T wf (k + 2) 9 [eI a_n, eI a_q, eI a_k, eI a_x] st = .ok (eI (V.number_of a_n a_q a_k a_x)) st := by
  refine call_HS (f := f9) rfl rfl ?_
  have h := h
  show HS _ _ [some (eI a_n), some (eI a_q), some (eI a_k), some (eI a_x), none, none, none] _ (QF st.length (.ok (eI (V.number_of a_n a_q a_k a_x)) st)) (EF st.length (.ok (eI (V.number_of a_n a_q a_k a_x)) st))
  refine HS_asg (E_cst) (T_nm (Nl.nl (e := eI) (0 : Int))) ?_
  refine HS_for (I := (I_9_1 st a_n a_q a_k a_x)) (step := (V.number_of_l1 a_n a_q a_k a_x)) (ok := (O.number_of_l1 a_n a_q a_k a_x)) (xs := (rI (0 : Int) (a_k + (1 : Int)))) (s0 := (0 : Int)) (e := eI) (S_rng1 (a1 h) (E_add (E_var rfl) (E_cst))) (fun _ _ _ _ => trivial) ⟨_, _, rfl, rfl⟩ (a1 (a2 h)) (fun q x rr sx h hI => w_9_l1 hwf h hI) ?_
  rintro rr sx ⟨w5, w6, e1, e2⟩
  subst e1 e2
  have h := (a2 (a2 h))
  exact HS_ret (E_var rfl) (q_ret rfl)
theorem w_10_r1 {b_n : D} {b_q : D} {b_k : D} {b_x : D} (h : (O.krawtchouk_number_r1 b_n b_q b_k b_x) = true) : HS ⟨callF T wf (k + 2), wf, T.length⟩ f10_r1 [some (eD b_n), some (eD b_q), some (eD b_k), some (eD b_x)] st (QF st.length (outX eI st (V.krawtchouk_number_r1 b_n b_q b_k b_x))) (EF st.length (outX eI st (V.krawtchouk_number_r1 b_n b_q b_k b_x))) := by
  refine HS_ifV (Q := fun b => QF st.length (outX eI st (bif b then (.ex 1 []) else (.ok (V.number_of (Un.un eI b_n) (Un.un eI b_q) (Un.un eI b_k) (Un.un eI b_x)))))) (E := fun b => EF st.length (outX eI st (bif b then (.ex 1 []) else (.ok (V.number_of (Un.un eI b_n) (Un.un eI b_q) (Un.un eI b_k) (Un.un eI b_x)))))) (E_or (E_not (E_callF (Es_cons (E_var rfl) (Es_cons (E_cst) (Es_cons (E_un (e := eI) (a1 h) (E_var rfl)) (Es_nil)))) (mlc (a1 (a2 h)) (mlc (Nl.nl (e := eI) (0 : Int)) (mlc (Nl.nl (e := eI) (Un.un eI b_n)) (ml0)))) (w_8 hwf (a_x := b_k) (a1 (a2 (a2 h)))))) (fun hc2 => E_not (E_callF (Es_cons (E_var rfl) (Es_cons (E_cst) (Es_cons (E_un (e := eI) (a1 (i0 (a1 (a2 (a2 (a2 h)))) hc2)) (E_var rfl)) (Es_nil)))) (mlc (a1 (a2 (i0 (a1 (a2 (a2 (a2 h)))) hc2))) (mlc (Nl.nl (e := eI) (0 : Int)) (mlc (Nl.nl (e := eI) (Un.un eI b_n)) (ml0)))) (w_8 hwf (a_x := b_x) (a2 (a2 (i0 (a1 (a2 (a2 (a2 h)))) hc2))))))) (fun hc => ?_) (fun hc => ?_)
  · show HS _ _ _ _ (QF st.length (outX eI st (.ex 1 []))) (EF st.length (outX eI st (.ex 1 [])))
    have h := c1 (a2 (a2 (a2 (a2 h)))) hc
    exact HS_rse (Es_nil) rfl (q_exX rfl)
  · show HS _ _ _ _ (QF st.length (outX eI st (.ok (V.number_of (Un.un eI b_n) (Un.un eI b_q) (Un.un eI b_k) (Un.un eI b_x))))) (EF st.length (outX eI st (.ok (V.number_of (Un.un eI b_n) (Un.un eI b_q) (Un.un eI b_k) (Un.un eI b_x)))))
    have h := c0 (a2 (a2 (a2 (a2 h)))) hc
    exact HS_ret (E_callF (Es_cons (E_un (e := eI) (a1 h) (E_var rfl)) (Es_cons (E_un (e := eI) (a1 (a2 h)) (E_var rfl)) (Es_cons (E_un (e := eI) (a1 (a2 (a2 h))) (E_var rfl)) (Es_cons (E_un (e := eI) (a1 (a2 (a2 (a2 h)))) (E_var rfl)) (Es_nil))))) (mlc (Nl.nl (e := eI) (Un.un eI b_n)) (mlc (Nl.nl (e := eI) (Un.un eI b_q)) (mlc (Nl.nl (e := eI) (Un.un eI b_k)) (mlc (Nl.nl (e := eI) (Un.un eI b_x)) (ml0))))) (w_9 hwf (a2 (a2 (a2 (a2 h)))))) (q_ok rfl)
theorem w_10 {a_n : D} {a_q : D} {a_k : D} {a_x : D} (h : O.krawtchouk_number a_n a_q a_k a_x = true) : callF T wf (k + 3) 10 [eD a_n, eD a_q, eD a_k, eD a_x] st = outX eI st (V.krawtchouk_number a_n a_q a_k a_x) := by
  refine call_HS (f := f10) rfl rfl ?_
  have hh := h
  have h := (a2 (a2 (a2 (a2 h))))
  show HS _ _ [some (eD a_n), some (eD a_q), some (eD a_k), some (eD a_x)] _ (QF st.length (outX eI st (V.krawtchouk_number a_n a_q a_k a_x))) (EF st.length (outX eI st (V.krawtchouk_number a_n a_q a_k a_x)))
  refine HS_ifV (Q := fun b => QF st.length (outX eI st (bif b then (.ex 1 []) else (V.krawtchouk_number_r1 a_n a_q a_k a_x)))) (E := fun b => EF st.length (outX eI st (bif b then (.ex 1 []) else (V.krawtchouk_number_r1 a_n a_q a_k a_x)))) (E_or (E_not (E_callF (Es_cons (E_var rfl) (Es_cons (E_cst) (Es_cons (E_cst) (Es_nil)))) (mlc (a1 h) (mlc (Nl.nl (e := eI) (1 : Int)) (mlc (Nl.nl (e := eI) (48 : Int)) (ml0)))) (w_8 hwf (a_x := a_n) (a1 (a2 h))))) (fun hc1 => E_not (E_callF (Es_cons (E_var rfl) (Es_cons (E_cst) (Es_cons (E_cst) (Es_nil)))) (mlc (a1 (i0 (a1 (a2 (a2 h))) hc1)) (mlc (Nl.nl (e := eI) (2 : Int)) (mlc (Nl.nl (e := eI) (16 : Int)) (ml0)))) (w_8 hwf (a_x := a_q) (a2 (i0 (a1 (a2 (a2 h))) hc1)))))) (fun hc => ?_) (fun hc => ?_)
  · show HS _ _ _ _ (QF st.length (outX eI st (.ex 1 []))) (EF st.length (outX eI st (.ex 1 [])))
    have h := c1 (a2 (a2 (a2 h))) hc
    exact HS_rse (Es_nil) rfl (q_exX rfl)
  · show HS _ _ _ _ (QF st.length (outX eI st (V.krawtchouk_number_r1 a_n a_q a_k a_x))) (EF st.length (outX eI st (V.krawtchouk_number_r1 a_n a_q a_k a_x)))
    have h := c0 (a2 (a2 (a2 h))) hc
    exact w_10_r1 hwf h
theorem w_11 {a_n : Int} {a_q : Int} (h : O.table_of a_n a_q = true) : callF T wf (k + 3) 11 [eI a_n, eI a_q] st = .ok (.tl (List.map (eL eI) (V.table_of a_n a_q))) st := by
  refine call_HS (f := f11) rfl rfl ?_
  have h := h
  show HS _ _ [some (eI a_n), some (eI a_q), none, none] _ (QF st.length (.ok (.tl (List.map (eL eI) (V.table_of a_n a_q))) st)) (EF st.length (.ok (.tl (List.map (eL eI) (V.table_of a_n a_q))) st))
  exact HS_ret (E_comp (e := eI) (e2 := (eL eI)) (f := (fun (y1 : Int) => (List.map (fun (y4 : Int) => (V.number_of a_n a_q y4 y1)) (rI (0 : Int) (a_n + (1 : Int)))))) (a1 (a2 h)) (S_rng1 (a1 h) (E_add (E_var rfl) (E_cst))) (trivial) (fun y1 hm2 => ⟨_, T_nm (Nl.nl (e := eI) y1), E_frzL (e := eI) (xs := (List.map (fun (y4 : Int) => (V.number_of a_n a_q y4 y1)) (rI (0 : Int) (a_n + (1 : Int))))) (E_comp (e := eI) (e2 := eI) (f := (fun (y4 : Int) => (V.number_of a_n a_q y4 y1))) (a1 (a2 (List.all_eq_true.mp (a2 (a2 h)) y1 hm2))) (S_rng1 (a1 (List.all_eq_true.mp (a2 (a2 h)) y1 hm2)) (E_add (E_var rfl) (E_cst))) (trivial) (fun y4 hm5 => ⟨_, T_nm (Nl.nl (e := eI) y4), E_callF (Es_cons (E_var rfl) (Es_cons (E_var rfl) (Es_cons (E_var rfl) (Es_cons (E_var rfl) (Es_nil))))) (mlc (Nl.nl (e := eI) a_n) (mlc (Nl.nl (e := eI) a_q) (mlc (Nl.nl (e := eI) y4) (mlc (Nl.nl (e := eI) y1) (ml0))))) (w_9 hwf (List.all_eq_true.mp (a2 (a2 (List.all_eq_true.mp (a2 (a2 h)) y1 hm2))) y4 hm5))⟩) (fun _ _ => Nl.nl (e := eI) _))⟩) (fun _ _ => Nl.nl (e := (eL eI)) _)) (q_ret rfl)
theorem w_12 {a_n : D} {a_q : D} (h : O.krawtchouk_table a_n a_q = true) : callF T wf (k + 4) 12 [eD a_n, eD a_q] st = outX (eT (eT eI)) st (V.krawtchouk_table a_n a_q) := by
  refine call_HS (f := f12) rfl rfl ?_
  have hh := h
  have h := (a2 (a2 h))
  show HS _ _ [some (eD a_n), some (eD a_q), none] _ (QF st.length (outX (eT (eT eI)) st (V.krawtchouk_table a_n a_q))) (EF st.length (outX (eT (eT eI)) st (V.krawtchouk_table a_n a_q)))
  refine HS_ifV (Q := fun b => QF st.length (outX (eT (eT eI)) st (bif b then (.ex 1 []) else (.ok (List.map (fun (y2 : List Int) => y2) (V.table_of (Un.un eI a_n) (Un.un eI a_q))))))) (E := fun b => EF st.length (outX (eT (eT eI)) st (bif b then (.ex 1 []) else (.ok (List.map (fun (y2 : List Int) => y2) (V.table_of (Un.un eI a_n) (Un.un eI a_q))))))) (E_or (E_not (E_callF (Es_cons (E_var rfl) (Es_cons (E_cst) (Es_cons (E_cst) (Es_nil)))) (mlc (a1 h) (mlc (Nl.nl (e := eI) (1 : Int)) (mlc (Nl.nl (e := eI) (24 : Int)) (ml0)))) (w_8 hwf (a_x := a_n) (a1 (a2 h))))) (fun hc1 => E_not (E_callF (Es_cons (E_var rfl) (Es_cons (E_cst) (Es_cons (E_cst) (Es_nil)))) (mlc (a1 (i0 (a1 (a2 (a2 h))) hc1)) (mlc (Nl.nl (e := eI) (2 : Int)) (mlc (Nl.nl (e := eI) (16 : Int)) (ml0)))) (w_8 hwf (a_x := a_q) (a2 (i0 (a1 (a2 (a2 h))) hc1)))))) (fun hc => ?_) (fun hc => ?_)
  · show HS _ _ _ _ (QF st.length (outX (eT (eT eI)) st (.ex 1 []))) (EF st.length (outX (eT (eT eI)) st (.ex 1 [])))
    have h := c1 (a2 (a2 (a2 h))) hc
    exact HS_rse (Es_nil) rfl (q_exX rfl)
  · show HS _ _ _ _ (QF st.length (outX (eT (eT eI)) st (.ok (List.map (fun (y2 : List Int) => y2) (V.table_of (Un.un eI a_n) (Un.un eI a_q)))))) (EF st.length (outX (eT (eT eI)) st (.ok (List.map (fun (y2 : List Int) => y2) (V.table_of (Un.un eI a_n) (Un.un eI a_q))))))
    have h := c0 (a2 (a2 (a2 h))) hc
    exact HS_ret (E_tuple (e := (eT eI)) sF (E_comp (e := (eL eI)) (e2 := (eT eI)) (f := (fun (y2 : List Int) => y2)) (a2 (a2 (a2 h))) (S_seq v_F (E_callF (Es_cons (E_un (e := eI) (a1 h) (E_var rfl)) (Es_cons (E_un (e := eI) (a1 (a2 h)) (E_var rfl)) (Es_nil))) (mlc (Nl.nl (e := eI) (Un.un eI a_n)) (mlc (Nl.nl (e := eI) (Un.un eI a_q)) (ml0))) (w_11 hwf (a1 (a2 (a2 h)))))) (trivial) (fun y2 hm3 => ⟨_, T_nm (Nl.nl (e := (eL eI)) y2), E_tuple (e := eI) sL (E_var rfl)⟩) (fun _ _ => Nl.nl (e := (eT eI)) _))) (q_ok rfl)
theorem w_2_l1c  {q : Int × Int} {rr : Rho} {sx : Sto} (h : (O.greatest_common_c1 q) = true) (hI : (I_2_1 st) q rr sx) : evE ⟨callF T wf (k + 0), wf, T.length⟩ (.prim .ne [.var 1, .cst (.int 0)]) rr sx = .ok (.bl (V.greatest_common_c1 q)) sx := by
  obtain ⟨e1, e2⟩ := hI
  subst e1 e2
  exact E_neI (E_var rfl) (E_cst)
theorem w_2_l1  {q : Int × Int} {rr : Rho} {sx : Sto} (h : (O.greatest_common_l1 q) = true) (hI : (I_2_1 st) q rr sx) : HS ⟨callF T wf (k + 0), wf, T.length⟩ f2_b1 rr sx (QL (I_2_1 st) (V.greatest_common_l1 q)) (EN) := by
  obtain ⟨e1, e2⟩ := hI
  subst e1 e2
  refine HS_asg (E_tup (Es_cons (E_var rfl) (Es_cons (E_mod (a1 h) (E_var rfl) (E_var rfl)) (Es_nil))) (mlc (Nl.nl (e := eI) q.2) (mlc (Nl.nl (e := eI) (Int.fmod q.1 q.2)) (ml0)))) (T_tp rfl rfl (Ts_cons (T_nm (Nl.nl (e := eI) q.2)) (Ts_cons (T_nm (Nl.nl (e := eI) (Int.fmod q.1 q.2))) (Ts_nil)))) ?_
  have h := (a2 h)
  exact HS_nil ⟨.inl rfl, rfl, rfl⟩
theorem w_2_r2 {b_a : Int} {w1 : Option D} (h : (O.greatest_common_r2 b_a) = true) : HS ⟨callF T wf (k + 0), wf, T.length⟩ f2_r2 [some (eI b_a), w1] st (QF st.length (.ok (eI (V.greatest_common_r2 b_a)) st)) (EF st.length (.ok (eI (V.greatest_common_r2 b_a)) st)) := by
  exact HS_ret (E_var rfl) (q_ret rfl)
theorem w_2 {a_a : Int} {a_b : Int} (h : O.greatest_common a_a a_b = true) : callF T wf (k + 1) 2 [eI a_a, eI a_b] st = .ok (eI (V.greatest_common a_a a_b)) st := by
  refine call_HS (f := f2) rfl rfl ?_
  have h := h
  show HS _ _ [some (eI a_a), some (eI a_b)] _ (QF st.length (.ok (eI (V.greatest_common a_a a_b)) st)) (EF st.length (.ok (eI (V.greatest_common a_a a_b)) st))
  refine HS_asg (E_tup (Es_cons (E_abs (E_var rfl)) (Es_cons (E_abs (E_var rfl)) (Es_nil))) (mlc (Nl.nl (e := eI) (Int.natAbs a_a : Int)) (mlc (Nl.nl (e := eI) (Int.natAbs a_b : Int)) (ml0)))) (T_tp rfl rfl (Ts_cons (T_nm (Nl.nl (e := eI) (Int.natAbs a_a : Int))) (Ts_cons (T_nm (Nl.nl (e := eI) (Int.natAbs a_b : Int))) (Ts_nil)))) ?_
  refine HS_while (I := (I_2_1 st)) (cv := V.greatest_common_c1) (oc := O.greatest_common_c1) (step := (V.greatest_common_l1)) (ok := (O.greatest_common_l1)) (n := Int.natAbs (Int.natAbs a_b : Int) + 1) (s0 := ((Int.natAbs a_a : Int), (Int.natAbs a_b : Int))) (hwf _ (a1 h)) ⟨rfl, rfl⟩ (a1 (a2 h)) (fun q rr sx h hI => w_2_l1c hwf h hI) (fun q rr sx h1 h2 h hI => w_2_l1 hwf h hI) ?_
  rintro rr sx ⟨e1, e2⟩
  subst e1 e2
  have h := (a2 (a2 h))
  exact w_2_r2 hwf h
theorem w_4_j2 {b_n : Int} {b_d : Int} {b_g : Int} (h : (O.lowest_j2 b_n b_d b_g) = true) : HS ⟨callF T wf (k + 1), wf, T.length⟩ f4_j2 [some (eI b_n), some (eI b_d), some (eI b_g)] st (QF st.length (.ok ((eP2 eI eI) (V.lowest_j2 b_n b_d b_g)) st)) (EF st.length (.ok ((eP2 eI eI) (V.lowest_j2 b_n b_d b_g)) st)) := by
  exact HS_ret (E_tup (Es_cons (E_fdiv (a1 h) (E_var rfl) (E_var rfl)) (Es_cons (E_fdiv (a2 h) (E_var rfl) (E_var rfl)) (Es_nil))) (mlc (Nl.nl (e := eI) (Int.fdiv b_n b_g)) (mlc (Nl.nl (e := eI) (Int.fdiv b_d b_g)) (ml0)))) (q_ret rfl)
theorem w_4_r1 {b_n : Int} {b_d : Int} {b_g : Int} (h : (O.lowest_r1 b_n b_d b_g) = true) : HS ⟨callF T wf (k + 1), wf, T.length⟩ f4_r1 [some (eI b_n), some (eI b_d), some (eI b_g)] st (QF st.length (.ok ((eP2 eI eI) (V.lowest_r1 b_n b_d b_g)) st)) (EF st.length (.ok ((eP2 eI eI) (V.lowest_r1 b_n b_d b_g)) st)) := by
  refine HS_ifV (Q := fun bb => QF st.length (.ok ((eP2 eI eI) (V.lowest_j2 b_n b_d (bif bb then (-b_g) else b_g))) st)) (E := fun bb => EF st.length (.ok ((eP2 eI eI) (V.lowest_j2 b_n b_d (bif bb then (-b_g) else b_g))) st)) (E_lt (E_var rfl) (E_cst)) (fun hc => ?_) (fun hc => ?_)
  · refine HS_asg (E_neg (E_var rfl)) (T_nm (Nl.nl (e := eI) (-b_g))) ?_
    have h := jt (P := fun (zz : Int) => (O.lowest_j2 b_n b_d zz) = true) hc h
    exact w_4_j2 hwf h
  · have h := jf (P := fun (zz : Int) => (O.lowest_j2 b_n b_d zz) = true) hc h
    exact w_4_j2 hwf h
theorem w_4 {a_n : Int} {a_d : Int} (h : O.lowest a_n a_d = true) : callF T wf (k + 2) 4 [eI a_n, eI a_d] st = .ok ((eP2 eI eI) (V.lowest a_n a_d)) st := by
  refine call_HS (f := f4) rfl rfl ?_
  have h := h
  show HS _ _ [some (eI a_n), some (eI a_d), none] _ (QF st.length (.ok ((eP2 eI eI) (V.lowest a_n a_d)) st)) (EF st.length (.ok ((eP2 eI eI) (V.lowest a_n a_d)) st))
  refine HS_asg (E_callF (Es_cons (E_var rfl) (Es_cons (E_var rfl) (Es_nil))) (mlc (Nl.nl (e := eI) a_n) (mlc (Nl.nl (e := eI) a_d) (ml0))) (w_2 hwf (a1 h))) (T_nm (Nl.nl (e := eI) (V.greatest_common a_n a_d))) ?_
  have h := (a2 h)
  exact w_4_r1 hwf h
theorem w_6 {a_a : Int × Int} {a_b : Int × Int} (h : O.ratio_sum a_a a_b = true) : callF T wf (k + 3) 6 [(eP2 eI eI) a_a, (eP2 eI eI) a_b] st = .ok ((eP2 eI eI) (V.ratio_sum a_a a_b)) st := by
  refine call_HS (f := f6) rfl rfl ?_
  have h := h
  show HS _ _ [some ((eP2 eI eI) a_a), some ((eP2 eI eI) a_b)] _ (QF st.length (.ok ((eP2 eI eI) (V.ratio_sum a_a a_b)) st)) (EF st.length (.ok ((eP2 eI eI) (V.ratio_sum a_a a_b)) st))
  exact HS_ret (E_callF (Es_cons (E_add (E_mul (a1 h) (E_c0 (E_var rfl)) (E_c1 (E_var rfl))) (E_mul (a1 (a2 h)) (E_c0 (E_var rfl)) (E_c1 (E_var rfl)))) (Es_cons (E_mul (a1 (a2 (a2 h))) (E_c1 (E_var rfl)) (E_c1 (E_var rfl))) (Es_nil))) (mlc (Nl.nl (e := eI) ((a_a.1 * a_b.2) + (a_b.1 * a_a.2))) (mlc (Nl.nl (e := eI) (a_a.2 * a_b.2)) (ml0))) (w_4 hwf (a2 (a2 (a2 h))))) (q_ret rfl)
theorem w_7 {a_a : Int × Int} {a_b : Int × Int} (h : O.ratio_product a_a a_b = true) : callF T wf (k + 3) 7 [(eP2 eI eI) a_a, (eP2 eI eI) a_b] st = .ok ((eP2 eI eI) (V.ratio_product a_a a_b)) st := by
  refine call_HS (f := f7) rfl rfl ?_
  have h := h
  show HS _ _ [some ((eP2 eI eI) a_a), some ((eP2 eI eI) a_b)] _ (QF st.length (.ok ((eP2 eI eI) (V.ratio_product a_a a_b)) st)) (EF st.length (.ok ((eP2 eI eI) (V.ratio_product a_a a_b)) st))
  exact HS_ret (E_callF (Es_cons (E_mul (a1 h) (E_c0 (E_var rfl)) (E_c0 (E_var rfl))) (Es_cons (E_mul (a1 (a2 h)) (E_c1 (E_var rfl)) (E_c1 (E_var rfl))) (Es_nil))) (mlc (Nl.nl (e := eI) (a_a.1 * a_b.1)) (mlc (Nl.nl (e := eI) (a_a.2 * a_b.2)) (ml0))) (w_4 hwf (a2 (a2 h)))) (q_ret rfl)
theorem w_13_l3 {b_g : List (Int × Int)} {b_i : Int} {b_a : Int × Int} {q : (List (Int × Int))} {x : Int × (Int × Int)} {rr : Rho} {sx : Sto} (h : (O.times_row_l3 b_i b_a q x) = true) (hI : (I_13_3 st b_g b_i b_a) q rr sx) : Holds (kBody ⟨callF T wf (k + 3), wf, T.length⟩ f13_b3 (evTg ⟨callF T wf (k + 3), wf, T.length⟩ (.tp [.nm 5, .nm 6]) ((eP2 eI (eP2 eI eI)) x) rr sx)) (QL (I_13_3 st b_g b_i b_a) (V.times_row_l3 b_i b_a q x)) (EN) := by
  obtain ⟨w0, w5, w6, k_found, sy, e1, e2, m⟩ := hI
  subst e1 e2
  refine HB (T_tp rfl rfl (Ts_cons (T_nm (Nl.nl (e := eI) x.1)) (Ts_cons (T_nm (Nl.nl (e := (eP2 eI eI)) x.2)) (Ts_nil)))) ?_
  refine HM_setE (l := []) m (e := (eP2 eI eI)) (E_callF (Es_cons (E_ix (e := (eP2 eI eI)) (sR (MS.get (l := []) m)) (a1 h) (E_var rfl) (E_add (E_var rfl) (E_var rfl))) (Es_cons (E_callF (Es_cons (E_var rfl) (Es_cons (E_var rfl) (Es_nil))) (mlc (Nl.nl (e := (eP2 eI eI)) b_a) (mlc (Nl.nl (e := (eP2 eI eI)) x.2) (ml0))) (w_7 hwf (a_a := b_a) (a_b := x.2) (a1 (a2 h)))) (Es_nil))) (mlc (Nl.nl (e := (eP2 eI eI)) (getI q (b_i + x.1))) (mlc (Nl.nl (e := (eP2 eI eI)) (V.ratio_product b_a x.2)) (ml0))) (w_6 hwf (a_a := (getI q (b_i + x.1))) (a_b := (V.ratio_product b_a x.2)) (a1 (a2 (a2 h))))) (Nl.nl (e := (eP2 eI eI)) (V.ratio_sum (getI q (b_i + x.1)) (V.ratio_product b_a x.2))) rfl (E_add (E_var rfl) (E_var rfl)) (a1 (a2 (a2 (a2 h)))) (fun sx m => ?_)
  have h := (a2 (a2 (a2 (a2 h))))
  exact HS_nil ⟨.inl rfl, _, _, _, _, _, rfl, rfl, m⟩
theorem w_13_l2 {b_g : List (Int × Int)} {q : (List (Int × Int))} {x : Int × (Int × Int)} {rr : Rho} {sx : Sto} (h : (O.times_row_l2 b_g q x) = true) (hI : (I_13_2 st b_g) q rr sx) : Holds (kBody ⟨callF T wf (k + 3), wf, T.length⟩ f13_b2 (evTg ⟨callF T wf (k + 3), wf, T.length⟩ (.tp [.nm 3, .nm 4]) ((eP2 eI (eP2 eI eI)) x) rr sx)) (QL (I_13_2 st b_g) (V.times_row_l2 b_g q x)) (EN) := by
  obtain ⟨w0, w3, w4, w5, w6, k_found, sy, e1, e2, m⟩ := hI
  subst e1 e2
  refine HB (T_tp rfl rfl (Ts_cons (T_nm (Nl.nl (e := eI) x.1)) (Ts_cons (T_nm (Nl.nl (e := (eP2 eI eI)) x.2)) (Ts_nil)))) ?_
  refine HS_for (I := (I_13_3 st b_g x.1 x.2)) (step := (V.times_row_l3 x.1 x.2)) (ok := (O.times_row_l3 x.1 x.2)) (xs := (enumI b_g)) (s0 := q) (e := (eP2 eI (eP2 eI eI))) (S_enu (e := (eP2 eI eI)) v_L (E_var rfl)) (fun _ _ _ _ => trivial) ⟨_, _, _, _, _, rfl, rfl, m⟩ (a1 h) (fun q x rr sx h hI => w_13_l3 hwf h hI) ?_
  rintro rr sx ⟨w0, w5, w6, k_found, sy, e1, e2, m⟩
  subst e1 e2
  have h := (a2 h)
  exact HS_nil ⟨.inl rfl, _, _, _, _, _, _, _, rfl, rfl, m⟩
theorem w_13_r1 {b_f : List (Int × Int)} {b_g : List (Int × Int)} {b_found : List (Int × Int)} {w3 w4 w5 w6 : Option D} {k_found : Nat} {sx : Sto} (m : MS st [(k_found, List.map (eP2 eI eI) b_found)] sx) (h : (O.times_row_r1 b_f b_g b_found) = true) : HS ⟨callF T wf (k + 3), wf, T.length⟩ f13_r1 [some ((eL (eP2 eI eI)) b_f), some ((eL (eP2 eI eI)) b_g), some (.lr k_found), w3, w4, w5, w6] sx (QF st.length (.ok (.tl (List.map (eP2 eI eI) (V.times_row_r1 b_f b_g b_found))) st)) (EF st.length (.ok (.tl (List.map (eP2 eI eI) (V.times_row_r1 b_f b_g b_found))) st)) := by
  refine HS_for (I := (I_13_2 st b_g)) (step := (V.times_row_l2 b_g)) (ok := (O.times_row_l2 b_g)) (xs := (enumI b_f)) (s0 := b_found) (e := (eP2 eI (eP2 eI eI))) (S_enu (e := (eP2 eI eI)) v_L (E_var rfl)) (fun _ _ _ _ => trivial) ⟨_, _, _, _, _, _, _, rfl, rfl, m⟩ (a1 h) (fun q x rr sx h hI => w_13_l2 hwf h hI) ?_
  rintro rr sx ⟨w0, w3, w4, w5, w6, k_found, sy, e1, e2, m⟩
  subst e1 e2
  have h := (a2 h)
  exact HS_ret (E_var rfl) (m.retE (l := []))
theorem w_13 {a_f : List (Int × Int)} {a_g : List (Int × Int)} (hB : Wf st) (h : O.times_row a_f a_g = true) : callF T wf (k + 4) 13 [(eL (eP2 eI eI)) a_f, (eL (eP2 eI eI)) a_g] st = .ok (.tl (List.map (eP2 eI eI) (V.times_row a_f a_g))) st := by
  refine call_HS (f := f13) rfl rfl ?_
  have m := MS.nil hB
  have h := h
  show HS _ _ [some ((eL (eP2 eI eI)) a_f), some ((eL (eP2 eI eI)) a_g), none, none, none, none, none] _ (QF st.length (.ok (.tl (List.map (eP2 eI eI) (V.times_row a_f a_g))) st)) (EF st.length (.ok (.tl (List.map (eP2 eI eI) (V.times_row a_f a_g))) st))
  refine HM_newE (e := (eP2 eI eI)) m (E_mulL (e := (eP2 eI eI)) (a1 h) (E_lst (Es_cons (E_cst) (Es_nil)) (mlc (Nl.nl (e := (eP2 eI eI)) ((0 : Int), (1 : Int))) (ml0))) (E_sub (E_add (E_len (e := (eP2 eI eI)) sL (E_var rfl)) (E_len (e := (eP2 eI eI)) sL (E_var rfl))) (E_cst))) (fun k_found sx m => ?_)
  have h := (a2 h)
  exact w_13_r1 hwf m h
theorem w_5 {a_n : D} {a_d : D} (h : O.ratio a_n a_d = true) : callF T wf (k + 3) 5 [eD a_n, eD a_d] st = outX (eP2 eI eI) st (V.ratio a_n a_d) := by
  refine call_HS (f := f5) rfl rfl ?_
  have hh := h
  have h := (a2 (a2 h))
  show HS _ _ [some (eD a_n), some (eD a_d)] _ (QF st.length (outX (eP2 eI eI) st (V.ratio a_n a_d))) (EF st.length (outX (eP2 eI eI) st (V.ratio a_n a_d)))
  refine HS_ifV (Q := fun b => QF st.length (outX (eP2 eI eI) st (bif b then (.ex 1 []) else (.ok (V.lowest (Un.un eI a_n) (Un.un eI a_d)))))) (E := fun b => EF st.length (outX (eP2 eI eI) st (bif b then (.ex 1 []) else (.ok (V.lowest (Un.un eI a_n) (Un.un eI a_d)))))) (E_or (E_not (E_callF (Es_cons (E_var rfl) (Es_nil)) (mlc (a1 h) (ml0)) (w_0 hwf (a_value := a_n) (a1 (a2 h))))) (fun hc2 => E_or (E_not (E_callF (Es_cons (E_var rfl) (Es_nil)) (mlc (a1 (i0 (a1 (a2 (a2 h))) hc2)) (ml0)) (w_0 hwf (a_value := a_d) (a1 (a2 (i0 (a1 (a2 (a2 h))) hc2)))))) (fun hc1 => E_eqDD (a1 (i0 (a2 (a2 (i0 (a1 (a2 (a2 h))) hc2))) hc1)) (a2 (i0 (a2 (a2 (i0 (a1 (a2 (a2 h))) hc2))) hc1)) (E_var rfl) (E_cst)))) (fun hc => ?_) (fun hc => ?_)
  · show HS _ _ _ _ (QF st.length (outX (eP2 eI eI) st (.ex 1 []))) (EF st.length (outX (eP2 eI eI) st (.ex 1 [])))
    have h := c1 (a2 (a2 (a2 h))) hc
    exact HS_rse (Es_nil) rfl (q_exX rfl)
  · show HS _ _ _ _ (QF st.length (outX (eP2 eI eI) st (.ok (V.lowest (Un.un eI a_n) (Un.un eI a_d))))) (EF st.length (outX (eP2 eI eI) st (.ok (V.lowest (Un.un eI a_n) (Un.un eI a_d)))))
    have h := c0 (a2 (a2 (a2 h))) hc
    exact HS_ret (E_callF (Es_cons (E_un (e := eI) (a1 h) (E_var rfl)) (Es_cons (E_un (e := eI) (a1 (a2 h)) (E_var rfl)) (Es_nil))) (mlc (Nl.nl (e := eI) (Un.un eI a_n)) (mlc (Nl.nl (e := eI) (Un.un eI a_d)) (ml0))) (w_4 hwf (a2 (a2 h)))) (q_ok rfl)
theorem w_14_l1 {b_sign : Int} {b_shift : Int} {q : (List (Int × Int))} {x : Int} {rr : Rho} {sx : Sto} (hB : Wf st) (h : (O.chosen_row_l1 b_sign b_shift q x) = true) (hI : (I_14_1 st b_sign b_shift) q rr sx) : Holds (kBody ⟨callF T wf (k + 4), wf, T.length⟩ f14_b1 (evTg ⟨callF T wf (k + 4), wf, T.length⟩ (.nm 4) (eI x) rr sx)) (QL (I_14_1 st b_sign b_shift) (V.chosen_row_l1 b_sign b_shift q x)) (EN) := by
  obtain ⟨w2, w4, e1, e2⟩ := hI
  subst e1 e2
  refine HB (T_nm (Nl.nl (e := eI) x)) ?_
  refine HS_asg (E_frzL (e := (eP2 eI eI)) (xs := (V.times_row q [(Ex.get (V.ratio (eI (b_shift - x)) (eI (x + (1 : Int))))), (Ex.get (V.ratio (eI b_sign) (eI (x + (1 : Int)))))])) (E_callF (Es_cons (E_var rfl) (Es_cons (E_frzL (e := (eP2 eI eI)) (xs := [(Ex.get (V.ratio (eI (b_shift - x)) (eI (x + (1 : Int))))), (Ex.get (V.ratio (eI b_sign) (eI (x + (1 : Int)))))]) (E_lst (Es_cons (E_get (a1 (a2 h)) (E_callFX (Es_cons (E_sub (E_var rfl) (E_var rfl)) (Es_cons (E_add (E_var rfl) (E_cst)) (Es_nil))) (mlc (Nl.nl (e := eI) (b_shift - x)) (mlc (Nl.nl (e := eI) (x + (1 : Int))) (ml0))) (w_5 hwf (a_n := (eI (b_shift - x))) (a_d := (eI (x + (1 : Int)))) (a1 h)))) (Es_cons (E_get (a1 (a2 (a2 (a2 h)))) (E_callFX (Es_cons (E_var rfl) (Es_cons (E_add (E_var rfl) (E_cst)) (Es_nil))) (mlc (Nl.nl (e := eI) b_sign) (mlc (Nl.nl (e := eI) (x + (1 : Int))) (ml0))) (w_5 hwf (a_n := (eI b_sign)) (a_d := (eI (x + (1 : Int)))) (a1 (a2 (a2 h)))))) (Es_nil))) (mlc (Nl.nl (e := (eP2 eI eI)) (Ex.get (V.ratio (eI (b_shift - x)) (eI (x + (1 : Int)))))) (mlc (Nl.nl (e := (eP2 eI eI)) (Ex.get (V.ratio (eI b_sign) (eI (x + (1 : Int)))))) (ml0))))) (Es_nil))) (mlc (Nl.nl (e := (eL (eP2 eI eI))) q) (mlc (Nl.nl (e := (eL (eP2 eI eI))) [(Ex.get (V.ratio (eI (b_shift - x)) (eI (x + (1 : Int))))), (Ex.get (V.ratio (eI b_sign) (eI (x + (1 : Int)))))]) (ml0))) (w_13 hwf hB (a_f := q) (a_g := [(Ex.get (V.ratio (eI (b_shift - x)) (eI (x + (1 : Int))))), (Ex.get (V.ratio (eI b_sign) (eI (x + (1 : Int)))))]) (a1 (a2 (a2 (a2 (a2 h)))))))) (T_nm (Nl.nl (e := (eL (eP2 eI eI))) (V.times_row q [(Ex.get (V.ratio (eI (b_shift - x)) (eI (x + (1 : Int))))), (Ex.get (V.ratio (eI b_sign) (eI (x + (1 : Int)))))]))) ?_
  have h := (a2 (a2 (a2 (a2 (a2 h)))))
  exact HS_nil ⟨.inl rfl, _, _, rfl, rfl⟩
theorem w_14 {a_sign : Int} {a_shift : Int} {a_k : Int} (hB : Wf st) (h : O.chosen_row a_sign a_shift a_k = true) : callF T wf (k + 5) 14 [eI a_sign, eI a_shift, eI a_k] st = .ok ((eL (eP2 eI eI)) (V.chosen_row a_sign a_shift a_k)) st := by
  refine call_HS (f := f14) rfl rfl ?_
  have h := h
  show HS _ _ [some (eI a_sign), some (eI a_shift), some (eI a_k), none, none] _ (QF st.length (.ok ((eL (eP2 eI eI)) (V.chosen_row a_sign a_shift a_k)) st)) (EF st.length (.ok ((eL (eP2 eI eI)) (V.chosen_row a_sign a_shift a_k)) st))
  refine HS_asg (E_frzL (e := (eP2 eI eI)) (xs := [((1 : Int), (1 : Int))]) (E_lst (Es_cons (E_tup (Es_cons (E_cst) (Es_cons (E_cst) (Es_nil))) (mlc (Nl.nl (e := eI) (1 : Int)) (mlc (Nl.nl (e := eI) (1 : Int)) (ml0)))) (Es_nil)) (mlc (Nl.nl (e := (eP2 eI eI)) ((1 : Int), (1 : Int))) (ml0)))) (T_nm (Nl.nl (e := (eL (eP2 eI eI))) [((1 : Int), (1 : Int))])) ?_
  refine HS_for (I := (I_14_1 st a_sign a_shift)) (step := (V.chosen_row_l1 a_sign a_shift)) (ok := (O.chosen_row_l1 a_sign a_shift)) (xs := (rI (0 : Int) a_k)) (s0 := [((1 : Int), (1 : Int))]) (e := eI) (S_rng1 (a1 h) (E_var rfl)) (fun _ _ _ _ => trivial) ⟨_, _, rfl, rfl⟩ (a1 (a2 h)) (fun q x rr sx h hI => w_14_l1 hwf hB h hI) ?_
  rintro rr sx ⟨w2, w4, e1, e2⟩
  subst e1 e2
  have h := (a2 (a2 h))
  exact HS_ret (E_var rfl) (q_ret rfl)
theorem w_15_l5 {b_n : D} {b_q : D} {b_k : D} {b_j : Int} {b_c : Int × Int} {q : (List (Int × Int))} {x : Int × (Int × Int)} {rr : Rho} {sx : Sto} (h : (O.krawtchouk_row_l5 b_c q x) = true) (hI : (I_15_5 st b_n b_q b_k b_j b_c) q rr sx) : Holds (kBody ⟨callF T wf (k + 5), wf, T.length⟩ f15_b5 (evTg ⟨callF T wf (k + 5), wf, T.length⟩ (.tp [.nm 6, .nm 7]) ((eP2 eI (eP2 eI eI)) x) rr sx)) (QL (I_15_5 st b_n b_q b_k b_j b_c) (V.krawtchouk_row_l5 b_c q x)) (EN) := by
  obtain ⟨w6, w7, k_total, sy, e1, e2, m⟩ := hI
  subst e1 e2
  refine HB (T_tp rfl rfl (Ts_cons (T_nm (Nl.nl (e := eI) x.1)) (Ts_cons (T_nm (Nl.nl (e := (eP2 eI eI)) x.2)) (Ts_nil)))) ?_
  refine HM_setE (l := []) m (e := (eP2 eI eI)) (E_callF (Es_cons (E_ix (e := (eP2 eI eI)) (sR (MS.get (l := []) m)) (a1 h) (E_var rfl) (E_var rfl)) (Es_cons (E_callF (Es_cons (E_var rfl) (Es_cons (E_var rfl) (Es_nil))) (mlc (Nl.nl (e := (eP2 eI eI)) b_c) (mlc (Nl.nl (e := (eP2 eI eI)) x.2) (ml0))) (w_7 hwf (a_a := b_c) (a_b := x.2) (a1 (a2 h)))) (Es_nil))) (mlc (Nl.nl (e := (eP2 eI eI)) (getI q x.1)) (mlc (Nl.nl (e := (eP2 eI eI)) (V.ratio_product b_c x.2)) (ml0))) (w_6 hwf (a_a := (getI q x.1)) (a_b := (V.ratio_product b_c x.2)) (a1 (a2 (a2 h))))) (Nl.nl (e := (eP2 eI eI)) (V.ratio_sum (getI q x.1) (V.ratio_product b_c x.2))) rfl (E_var rfl) (a1 (a2 (a2 (a2 h)))) (fun sx m => ?_)
  have h := (a2 (a2 (a2 (a2 h))))
  exact HS_nil ⟨.inl rfl, _, _, _, _, rfl, rfl, m⟩
theorem w_15_r4 {b_n : D} {b_q : D} {b_k : D} {b_total : List (Int × Int)} {b_j : Int} {b_c : Int × Int} {w6 w7 : Option D} {k_total : Nat} {sx : Sto} (m : MS st [(k_total, List.map (eP2 eI eI) b_total)] sx) (h : (O.krawtchouk_row_r4 b_n b_k b_total b_j b_c) = true) : HS ⟨callF T wf (k + 5), wf, T.length⟩ f15_r4 [some (eD b_n), some (eD b_q), some (eD b_k), some (.lr k_total), some (eI b_j), some ((eP2 eI eI) b_c), w6, w7] sx (QL (I_15_3 st b_n b_q b_k) (V.krawtchouk_row_r4 b_n b_k b_total b_j b_c)) (EN) := by
  refine HS_for (I := (I_15_5 st b_n b_q b_k b_j b_c)) (step := (V.krawtchouk_row_l5 b_c)) (ok := (O.krawtchouk_row_l5 b_c)) (xs := (enumI (V.times_row (V.chosen_row (1 : Int) (0 : Int) b_j) (V.chosen_row (-1 : Int) (Un.un eI b_n) ((Un.un eI b_k) - b_j))))) (s0 := b_total) (e := (eP2 eI (eP2 eI eI))) (S_enu (e := (eP2 eI eI)) v_F (E_callF (Es_cons (E_callF (Es_cons (E_cst) (Es_cons (E_cst) (Es_cons (E_var rfl) (Es_nil)))) (mlc (Nl.nl (e := eI) (1 : Int)) (mlc (Nl.nl (e := eI) (0 : Int)) (mlc (Nl.nl (e := eI) b_j) (ml0)))) (w_14 hwf m.wfs (a1 h))) (Es_cons (E_callF (Es_cons (E_neg (E_cst)) (Es_cons (E_un (e := eI) (a1 (a2 h)) (E_var rfl)) (Es_cons (E_sub (E_un (e := eI) (a1 (a2 (a2 h))) (E_var rfl)) (E_var rfl)) (Es_nil)))) (mlc (Nl.nl (e := eI) (-1 : Int)) (mlc (Nl.nl (e := eI) (Un.un eI b_n)) (mlc (Nl.nl (e := eI) ((Un.un eI b_k) - b_j)) (ml0)))) (w_14 hwf m.wfs (a1 (a2 (a2 (a2 h)))))) (Es_nil))) (mlc (Nl.nl (e := (eL (eP2 eI eI))) (V.chosen_row (1 : Int) (0 : Int) b_j)) (mlc (Nl.nl (e := (eL (eP2 eI eI))) (V.chosen_row (-1 : Int) (Un.un eI b_n) ((Un.un eI b_k) - b_j))) (ml0))) (w_13 hwf m.wfs (a_f := (V.chosen_row (1 : Int) (0 : Int) b_j)) (a_g := (V.chosen_row (-1 : Int) (Un.un eI b_n) ((Un.un eI b_k) - b_j))) (a1 (a2 (a2 (a2 (a2 h)))))))) (fun _ _ _ _ => trivial) ⟨_, _, _, _, rfl, rfl, m⟩ (a1 (a2 (a2 (a2 (a2 (a2 h)))))) (fun q x rr sx h hI => w_15_l5 hwf h hI) ?_
  rintro rr sx ⟨w6, w7, k_total, sy, e1, e2, m⟩
  subst e1 e2
  have h := (a2 (a2 (a2 (a2 (a2 (a2 h))))))
  exact HS_nil ⟨.inl rfl, _, _, _, _, _, _, rfl, rfl, m⟩
theorem w_15_l3 {b_n : D} {b_q : D} {b_k : D} {q : (List (Int × Int))} {x : Int} {rr : Rho} {sx : Sto} (h : (O.krawtchouk_row_l3 b_n b_q b_k q x) = true) (hI : (I_15_3 st b_n b_q b_k) q rr sx) : Holds (kBody ⟨callF T wf (k + 5), wf, T.length⟩ f15_b3 (evTg ⟨callF T wf (k + 5), wf, T.length⟩ (.nm 4) (eI x) rr sx)) (QL (I_15_3 st b_n b_q b_k) (V.krawtchouk_row_l3 b_n b_q b_k q x)) (EN) := by
  obtain ⟨w4, w5, w6, w7, k_total, sy, e1, e2, m⟩ := hI
  subst e1 e2
  refine HB (T_nm (Nl.nl (e := eI) x)) ?_
  refine HS_asg (E_tup (Es_cons (E_mul (a1 (a2 (a2 (a2 h)))) (E_callF (Es_cons (E_sub (E_un (e := eI) (a1 h) (E_var rfl)) (E_cst)) (Es_cons (E_sub (E_un (e := eI) (a1 (a2 h)) (E_var rfl)) (E_var rfl)) (Es_nil))) (mlc (Nl.nl (e := eI) ((Un.un eI b_q) - (1 : Int))) (mlc (Nl.nl (e := eI) ((Un.un eI b_k) - x)) (ml0))) (w_1 hwf (a1 (a2 (a2 h))))) (E_ite (e := eI) (E_eqI (E_mod (by decide) (E_var rfl) (E_cst)) (E_cst)) (fun hc3 => E_cst) (fun hc3 => E_neg (E_cst)))) (Es_cons (E_cst) (Es_nil))) (mlc (Nl.nl (e := eI) ((V.raised_to ((Un.un eI b_q) - (1 : Int)) ((Un.un eI b_k) - x)) * (bif (decide ((Int.fmod x (2 : Int)) = (0 : Int))) then (1 : Int) else (-1 : Int)))) (mlc (Nl.nl (e := eI) (1 : Int)) (ml0)))) (T_nm (Nl.nl (e := (eP2 eI eI)) (((V.raised_to ((Un.un eI b_q) - (1 : Int)) ((Un.un eI b_k) - x)) * (bif (decide ((Int.fmod x (2 : Int)) = (0 : Int))) then (1 : Int) else (-1 : Int))), (1 : Int)))) ?_
  have h := (a2 (a2 (a2 (a2 h))))
  exact w_15_r4 hwf m h
theorem w_15_r2 {b_n : D} {b_q : D} {b_k : D} {b_total : List (Int × Int)} {w4 w5 w6 w7 : Option D} {k_total : Nat} {sx : Sto} (m : MS st [(k_total, List.map (eP2 eI eI) b_total)] sx) (h : (O.krawtchouk_row_r2 b_n b_q b_k b_total) = true) : HS ⟨callF T wf (k + 5), wf, T.length⟩ f15_r2 [some (eD b_n), some (eD b_q), some (eD b_k), some (.lr k_total), w4, w5, w6, w7] sx (QF st.length (outX (eT (eP2 eI eI)) st (V.krawtchouk_row_r2 b_n b_q b_k b_total))) (EF st.length (outX (eT (eP2 eI eI)) st (V.krawtchouk_row_r2 b_n b_q b_k b_total))) := by
  refine HS_for (I := (I_15_3 st b_n b_q b_k)) (step := (V.krawtchouk_row_l3 b_n b_q b_k)) (ok := (O.krawtchouk_row_l3 b_n b_q b_k)) (xs := (rI (0 : Int) ((Un.un eI b_k) + (1 : Int)))) (s0 := b_total) (e := eI) (S_rng1 (a1 (a2 h)) (E_add (E_un (e := eI) (a1 h) (E_var rfl)) (E_cst))) (fun _ _ _ _ => trivial) ⟨_, _, _, _, _, _, rfl, rfl, m⟩ (a1 (a2 (a2 h))) (fun q x rr sx h hI => w_15_l3 hwf h hI) ?_
  rintro rr sx ⟨w4, w5, w6, w7, k_total, sy, e1, e2, m⟩
  subst e1 e2
  have h := (a2 (a2 (a2 h)))
  exact HS_ret (E_tuple (e := (eP2 eI eI)) (sR (MS.get (l := []) m)) (E_var rfl)) (m.ret (Bl.bl (e := (eT (eP2 eI eI))) _ _))
theorem w_15_r1 {b_n : D} {b_q : D} {b_k : D} {w3 w4 w5 w6 w7 : Option D} {sx : Sto} (m : MS st [] sx) (h : (O.krawtchouk_row_r1 b_n b_q b_k) = true) : HS ⟨callF T wf (k + 5), wf, T.length⟩ f15_r1 [some (eD b_n), some (eD b_q), some (eD b_k), w3, w4, w5, w6, w7] sx (QF st.length (outX (eT (eP2 eI eI)) st (V.krawtchouk_row_r1 b_n b_q b_k))) (EF st.length (outX (eT (eP2 eI eI)) st (V.krawtchouk_row_r1 b_n b_q b_k))) := by
  refine HM_newE (e := (eP2 eI eI)) m (E_mulL (e := (eP2 eI eI)) (a1 (a2 h)) (E_lst (Es_cons (E_cst) (Es_nil)) (mlc (Nl.nl (e := (eP2 eI eI)) ((0 : Int), (1 : Int))) (ml0))) (E_add (E_un (e := eI) (a1 h) (E_var rfl)) (E_cst))) (fun k_total sx m => ?_)
  have h := (a2 (a2 h))
  exact w_15_r2 hwf m h
theorem w_15 {a_n : D} {a_q : D} {a_k : D} (hB : Wf st) (h : O.krawtchouk_row a_n a_q a_k = true) : callF T wf (k + 6) 15 [eD a_n, eD a_q, eD a_k] st = outX (eT (eP2 eI eI)) st (V.krawtchouk_row a_n a_q a_k) := by
  refine call_HS (f := f15) rfl rfl ?_
  have m := MS.nil hB
  have hh := h
  have h := (a2 (a2 (a2 h)))
  show HS _ _ [some (eD a_n), some (eD a_q), some (eD a_k), none, none, none, none, none] _ (QF st.length (outX (eT (eP2 eI eI)) st (V.krawtchouk_row a_n a_q a_k))) (EF st.length (outX (eT (eP2 eI eI)) st (V.krawtchouk_row a_n a_q a_k)))
  refine HS_ifV (Q := fun b => QF st.length (outX (eT (eP2 eI eI)) st (bif b then (.ex 1 []) else (V.krawtchouk_row_r1 a_n a_q a_k)))) (E := fun b => EF st.length (outX (eT (eP2 eI eI)) st (bif b then (.ex 1 []) else (V.krawtchouk_row_r1 a_n a_q a_k)))) (E_or (E_not (E_callF (Es_cons (E_var rfl) (Es_cons (E_cst) (Es_cons (E_cst) (Es_nil)))) (mlc (a1 h) (mlc (Nl.nl (e := eI) (1 : Int)) (mlc (Nl.nl (e := eI) (24 : Int)) (ml0)))) (w_8 hwf (a_x := a_n) (a1 (a2 h))))) (fun hc2 => E_or (E_not (E_callF (Es_cons (E_var rfl) (Es_cons (E_cst) (Es_cons (E_cst) (Es_nil)))) (mlc (a1 (i0 (a1 (a2 (a2 h))) hc2)) (mlc (Nl.nl (e := eI) (2 : Int)) (mlc (Nl.nl (e := eI) (16 : Int)) (ml0)))) (w_8 hwf (a_x := a_q) (a1 (a2 (i0 (a1 (a2 (a2 h))) hc2)))))) (fun hc1 => E_not (E_callF (Es_cons (E_var rfl) (Es_cons (E_cst) (Es_cons (E_un (e := eI) (a1 (i0 (a2 (a2 (i0 (a1 (a2 (a2 h))) hc2))) hc1)) (E_var rfl)) (Es_nil)))) (mlc (a1 (a2 (i0 (a2 (a2 (i0 (a1 (a2 (a2 h))) hc2))) hc1))) (mlc (Nl.nl (e := eI) (0 : Int)) (mlc (Nl.nl (e := eI) (Un.un eI a_n)) (ml0)))) (w_8 hwf (a_x := a_k) (a2 (a2 (i0 (a2 (a2 (i0 (a1 (a2 (a2 h))) hc2))) hc1)))))))) (fun hc => ?_) (fun hc => ?_)
  · show HS _ _ _ _ (QF st.length (outX (eT (eP2 eI eI)) st (.ex 1 []))) (EF st.length (outX (eT (eP2 eI eI)) st (.ex 1 [])))
    have h := c1 (a2 (a2 (a2 h))) hc
    exact HS_rse (Es_nil) rfl (m.exX)
  · show HS _ _ _ _ (QF st.length (outX (eT (eP2 eI eI)) st (V.krawtchouk_row_r1 a_n a_q a_k))) (EF st.length (outX (eT (eP2 eI eI)) st (V.krawtchouk_row_r1 a_n a_q a_k)))
    have h := c0 (a2 (a2 (a2 h))) hc
    exact w_15_r1 hwf m h
theorem w_30_t1 {b_which : Int} {b_n : D} {b_q : D} {b_k : D} {b_x : D} (hB : Wf st) (h : (O.l_told_k04_t1 b_which b_n b_q b_k b_x) = true) : HS ⟨callF T wf (k + 18), wf, T.length⟩ f30_t1 [some (eI b_which), some (eD b_n), some (eD b_q), some (eD b_k), some (eD b_x)] st (QT (fun r => QF st.length (.ok ((eP2 eS eD) r) st)) (V.l_told_k04_t1 b_which b_n b_q b_k b_x)) (ET st (V.l_told_k04_t1 b_which b_n b_q b_k b_x)) := by
  refine HS_ifV (Q := fun b => QT (fun r => QF st.length (.ok ((eP2 eS eD) r) st)) (bif b then (Ex.bind (Ex.bind (V.krawtchouk_number b_n b_q b_k b_x) (fun z1 => (.ok (V.l_honest (eI z1))))) (fun z4 => (.ok (S_told, z4)))) else (Ex.bind (Ex.bind (bif (decide (b_which = (1 : Int))) then (Ex.mapE (eT (eT eI)) (V.krawtchouk_table b_n b_q)) else (Ex.mapE (eT (eP2 eI eI)) (V.krawtchouk_row b_n b_q b_k))) (fun z8 => (.ok (V.l_honest z8)))) (fun z11 => (.ok (S_told, z11)))))) (E := fun b => ET st (bif b then (Ex.bind (Ex.bind (V.krawtchouk_number b_n b_q b_k b_x) (fun z1 => (.ok (V.l_honest (eI z1))))) (fun z4 => (.ok (S_told, z4)))) else (Ex.bind (Ex.bind (bif (decide (b_which = (1 : Int))) then (Ex.mapE (eT (eT eI)) (V.krawtchouk_table b_n b_q)) else (Ex.mapE (eT (eP2 eI eI)) (V.krawtchouk_row b_n b_q b_k))) (fun z8 => (.ok (V.l_honest z8)))) (fun z11 => (.ok (S_told, z11)))))) (E_eqI (E_var rfl) (E_cst)) (fun hc => ?_) (fun hc => ?_)
  · show HS _ _ _ _ (QT (fun r => QF st.length (.ok ((eP2 eS eD) r) st)) (Ex.bind (Ex.bind (V.krawtchouk_number b_n b_q b_k b_x) (fun z1 => (.ok (V.l_honest (eI z1))))) (fun z4 => (.ok (S_told, z4))))) (ET st (Ex.bind (Ex.bind (V.krawtchouk_number b_n b_q b_k b_x) (fun z1 => (.ok (V.l_honest (eI z1))))) (fun z4 => (.ok (S_told, z4)))))
    have h := c1 h hc
    exact HS_retM (X_bind (e := eD) (X_bind (e := eI) (E_callFX (Es_cons (E_var rfl) (Es_cons (E_var rfl) (Es_cons (E_var rfl) (Es_cons (E_var rfl) (Es_nil))))) (mlc (a1 h) (mlc (a1 (a2 h)) (mlc (a1 (a2 (a2 h))) (mlc (a1 (a2 (a2 (a2 h)))) (ml0))))) (w_10 hwf (a_n := b_n) (a_q := b_q) (a_k := b_k) (a_x := b_x) (a1 (a2 (a2 (a2 (a2 h))))))) (fun z1 hv3 he2 => E_callF (Es_cons (he2) (Es_nil)) (mlc (Nl.nl (e := eI) z1) (ml0)) (honest_w (T := T) (wf := wf) (g := 19) (g1 := 18) rfl rfl (d := (eI z1)) (Ex.all_ok (v := z1) (a1 (a2 (a2 (a2 (a2 (a2 h)))))) hv3))) (fun c p he2 => X_call (X_here he2))) (fun z4 hv6 he5 => E_tup (Es_cons (E_cst) (Es_cons (he5) (Es_nil))) (mlc (Nl.nl (e := eS) S_told) (mlc (Ex.all_ok (v := z4) (a2 (a2 (a2 (a2 (a2 (a2 h)))))) hv6) (ml0)))) (fun c p he5 => X_tup (X_next (E_cst) (X_here he5)))) (fun v hv => by rw [hv]; exact ⟨⟨_, rfl⟩, q_ret rfl⟩) (fun c p hv => by rw [hv]; exact ⟨rfl, rfl⟩)
  · show HS _ _ _ _ (QT (fun r => QF st.length (.ok ((eP2 eS eD) r) st)) (Ex.bind (Ex.bind (bif (decide (b_which = (1 : Int))) then (Ex.mapE (eT (eT eI)) (V.krawtchouk_table b_n b_q)) else (Ex.mapE (eT (eP2 eI eI)) (V.krawtchouk_row b_n b_q b_k))) (fun z8 => (.ok (V.l_honest z8)))) (fun z11 => (.ok (S_told, z11))))) (ET st (Ex.bind (Ex.bind (bif (decide (b_which = (1 : Int))) then (Ex.mapE (eT (eT eI)) (V.krawtchouk_table b_n b_q)) else (Ex.mapE (eT (eP2 eI eI)) (V.krawtchouk_row b_n b_q b_k))) (fun z8 => (.ok (V.l_honest z8)))) (fun z11 => (.ok (S_told, z11)))))
    have h := c0 h hc
    exact HS_retM (X_bind (e := eD) (X_bind (e := eD) (X_ite (e := eD) (E_eqI (E_var rfl) (E_cst)) (fun hc7 => X_D (e := (eT (eT eI))) (E_callFX (Es_cons (E_var rfl) (Es_cons (E_var rfl) (Es_nil))) (mlc (a1 (i1 (a1 h) hc7)) (mlc (a1 (a2 (i1 (a1 h) hc7))) (ml0))) (w_12 hwf (a_n := b_n) (a_q := b_q) (a2 (a2 (i1 (a1 h) hc7)))))) (fun hc7 => X_D (e := (eT (eP2 eI eI))) (E_callFX (Es_cons (E_var rfl) (Es_cons (E_var rfl) (Es_cons (E_var rfl) (Es_nil)))) (mlc (a1 (i0 (a1 (a2 h)) hc7)) (mlc (a1 (a2 (i0 (a1 (a2 h)) hc7))) (mlc (a1 (a2 (a2 (i0 (a1 (a2 h)) hc7)))) (ml0)))) (w_15 hwf hB (a_n := b_n) (a_q := b_q) (a_k := b_k) (a2 (a2 (a2 (i0 (a1 (a2 h)) hc7)))))))) (fun z8 hv10 he9 => E_callF (Es_cons (he9) (Es_nil)) (mlc (a1 (Ex.all_ok (v := z8) (a1 (a2 (a2 h))) hv10)) (ml0)) (honest_w (T := T) (wf := wf) (g := 19) (g1 := 18) rfl rfl (d := z8) (a2 (Ex.all_ok (v := z8) (a1 (a2 (a2 h))) hv10)))) (fun c p he9 => X_call (X_here he9))) (fun z11 hv13 he12 => E_tup (Es_cons (E_cst) (Es_cons (he12) (Es_nil))) (mlc (Nl.nl (e := eS) S_told) (mlc (Ex.all_ok (v := z11) (a2 (a2 (a2 h))) hv13) (ml0)))) (fun c p he12 => X_tup (X_next (E_cst) (X_here he12)))) (fun v hv => by rw [hv]; exact ⟨⟨_, rfl⟩, q_ret rfl⟩) (fun c p hv => by rw [hv]; exact ⟨rfl, rfl⟩)
theorem w_30 {a_which : Int} {a_n : D} {a_q : D} {a_k : D} {a_x : D} (hB : Wf st) (h : O.l_told_k04 a_which a_n a_q a_k a_x = true) : callF T wf (k + 19) 30 [eI a_which, eD a_n, eD a_q, eD a_k, eD a_x] st = .ok ((eP2 eS eD) (V.l_told_k04 a_which a_n a_q a_k a_x)) st := by
  refine call_HS (f := f30) rfl rfl ?_
  have hh := h
  have h := (a2 (a2 (a2 (a2 h))))
  show HS _ _ [some (eI a_which), some (eD a_n), some (eD a_q), some (eD a_k), some (eD a_x)] _ (QF st.length (.ok ((eP2 eS eD) (V.l_told_k04 a_which a_n a_q a_k a_x)) st)) (EF st.length (.ok ((eP2 eS eD) (V.l_told_k04 a_which a_n a_q a_k a_x)) st))
  have hx := a2 h
  have h := a1 h
  refine HS_tryM (f := fun c p => (bif Nat.beq c 1 then (S_malformed, (.non : D)) else default)) (Q := fun r => QF st.length (.ok ((eP2 eS eD) r) st)) (E := fun r => EF st.length (.ok ((eP2 eS eD) r) st)) true (by exact w_30_t1 hwf hB h) (fun c p hm => ?_)
  have hx := Ex.exs_ok hx hm
  cases hb : Nat.beq c 1
  case true =>
    have hx := c1 hx hb
    have e := Nat.eq_of_beq_eq_true hb
    subst e
    exact ⟨_, rfl, q_ret rfl⟩
  have hx := c0 hx hb
  cases hx
theorem w_31_l1 {b_n : Int} {q : Int} {x : Int} {rr : Rho} {sx : Sto} (h : (O.l_chosen_l1 b_n q x) = true) (hI : (I_31_1 st b_n) q rr sx) : Holds (kBody ⟨callF T wf (k + 0), wf, T.length⟩ f31_b1 (evTg ⟨callF T wf (k + 0), wf, T.length⟩ (.nm 3) (eI x) rr sx)) (QL (I_31_1 st b_n) (V.l_chosen_l1 b_n q x)) (EN) := by
  obtain ⟨w1, w3, e1, e2⟩ := hI
  subst e1 e2
  refine HB (T_nm (Nl.nl (e := eI) x)) ?_
  refine HS_asg (E_fdiv (a1 (a2 h)) (E_mul (a1 h) (E_var rfl) (E_sub (E_var rfl) (E_var rfl))) (E_add (E_var rfl) (E_cst))) (T_nm (Nl.nl (e := eI) (Int.fdiv (q * (b_n - x)) (x + (1 : Int))))) ?_
  have h := (a2 (a2 h))
  exact HS_nil ⟨.inl rfl, _, _, rfl, rfl⟩
theorem w_31 {a_n : Int} {a_k : Int} (h : O.l_chosen a_n a_k = true) : callF T wf (k + 1) 31 [eI a_n, eI a_k] st = .ok (eI (V.l_chosen a_n a_k)) st := by
  refine call_HS (f := f31) rfl rfl ?_
  have h := h
  show HS _ _ [some (eI a_n), some (eI a_k), none, none] _ (QF st.length (.ok (eI (V.l_chosen a_n a_k)) st)) (EF st.length (.ok (eI (V.l_chosen a_n a_k)) st))
  refine HS_asg (E_cst) (T_nm (Nl.nl (e := eI) (1 : Int))) ?_
  refine HS_for (I := (I_31_1 st a_n)) (step := (V.l_chosen_l1 a_n)) (ok := (O.l_chosen_l1 a_n)) (xs := (rI (0 : Int) a_k)) (s0 := (1 : Int)) (e := eI) (S_rng1 (a1 h) (E_var rfl)) (fun _ _ _ _ => trivial) ⟨_, _, rfl, rfl⟩ (a1 (a2 h)) (fun q x rr sx h hI => w_31_l1 hwf h hI) ?_
  rintro rr sx ⟨w1, w3, e1, e2⟩
  subst e1 e2
  have h := (a2 (a2 h))
  exact HS_ret (E_var rfl) (q_ret rfl)
theorem w_32_l1 {b_q : Int} {q : Int} {x : Int} {rr : Rho} {sx : Sto} (h : (O.l_power_l1 b_q q x) = true) (hI : (I_32_1 st b_q) q rr sx) : Holds (kBody ⟨callF T wf (k + 0), wf, T.length⟩ f32_b1 (evTg ⟨callF T wf (k + 0), wf, T.length⟩ (.nm 3) (eI x) rr sx)) (QL (I_32_1 st b_q) (V.l_power_l1 b_q q x)) (EN) := by
  obtain ⟨w1, w3, e1, e2⟩ := hI
  subst e1 e2
  refine HB (T_nm (Nl.nl (e := eI) x)) ?_
  refine HS_asg (E_mul (a1 h) (E_var rfl) (E_var rfl)) (T_nm (Nl.nl (e := eI) (q * b_q))) ?_
  have h := (a2 h)
  exact HS_nil ⟨.inl rfl, _, _, rfl, rfl⟩
theorem w_32 {a_q : Int} {a_n : Int} (h : O.l_power a_q a_n = true) : callF T wf (k + 1) 32 [eI a_q, eI a_n] st = .ok (eI (V.l_power a_q a_n)) st := by
  refine call_HS (f := f32) rfl rfl ?_
  have h := h
  show HS _ _ [some (eI a_q), some (eI a_n), none, none] _ (QF st.length (.ok (eI (V.l_power a_q a_n)) st)) (EF st.length (.ok (eI (V.l_power a_q a_n)) st))
  refine HS_asg (E_cst) (T_nm (Nl.nl (e := eI) (1 : Int))) ?_
  refine HS_for (I := (I_32_1 st a_q)) (step := (V.l_power_l1 a_q)) (ok := (O.l_power_l1 a_q)) (xs := (rI (0 : Int) a_n)) (s0 := (1 : Int)) (e := eI) (S_rng1 (a1 h) (E_var rfl)) (fun _ _ _ _ => trivial) ⟨_, _, rfl, rfl⟩ (a1 (a2 h)) (fun q x rr sx h hI => w_32_l1 hwf h hI) ?_
  rintro rr sx ⟨w1, w3, e1, e2⟩
  subst e1 e2
  have h := (a2 (a2 h))
  exact HS_ret (E_var rfl) (q_ret rfl)
theorem w_22_l1c  {q : Int × Int} {rr : Rho} {sx : Sto} (h : (O.l_common_c1 q) = true) (hI : (I_22_1 st) q rr sx) : evE ⟨callF T wf (k + 0), wf, T.length⟩ (.prim .ne [.var 1, .cst (.int 0)]) rr sx = .ok (.bl (V.l_common_c1 q)) sx := by
  obtain ⟨e1, e2⟩ := hI
  subst e1 e2
  exact E_neI (E_var rfl) (E_cst)
theorem w_22_l1  {q : Int × Int} {rr : Rho} {sx : Sto} (h : (O.l_common_l1 q) = true) (hI : (I_22_1 st) q rr sx) : HS ⟨callF T wf (k + 0), wf, T.length⟩ f22_b1 rr sx (QL (I_22_1 st) (V.l_common_l1 q)) (EN) := by
  obtain ⟨e1, e2⟩ := hI
  subst e1 e2
  refine HS_asg (E_tup (Es_cons (E_var rfl) (Es_cons (E_mod (a1 h) (E_toInt (E_var rfl)) (E_var rfl)) (Es_nil))) (mlc (Nl.nl (e := eI) q.2) (mlc (Nl.nl (e := eI) (Int.fmod q.1 q.2)) (ml0)))) (T_tp rfl rfl (Ts_cons (T_nm (Nl.nl (e := eI) q.2)) (Ts_cons (T_nm (Nl.nl (e := eI) (Int.fmod q.1 q.2))) (Ts_nil)))) ?_
  have h := (a2 h)
  exact HS_nil ⟨.inl rfl, rfl, rfl⟩
theorem w_22_r2 {b_a : Int} {w1 : Option D} (h : (O.l_common_r2 b_a) = true) : HS ⟨callF T wf (k + 0), wf, T.length⟩ f22_r2 [some (eI b_a), w1] st (QF st.length (.ok (eI (V.l_common_r2 b_a)) st)) (EF st.length (.ok (eI (V.l_common_r2 b_a)) st)) := by
  exact HS_ret (E_abs (E_var rfl)) (q_ret rfl)
theorem w_22 {a_a : Int} {a_b : Int} (h : O.l_common a_a a_b = true) : callF T wf (k + 1) 22 [eI a_a, eI a_b] st = .ok (eI (V.l_common a_a a_b)) st := by
  refine call_HS (f := f22) rfl rfl ?_
  have h := h
  show HS _ _ [some (eI a_a), some (eI a_b)] _ (QF st.length (.ok (eI (V.l_common a_a a_b)) st)) (EF st.length (.ok (eI (V.l_common a_a a_b)) st))
  refine HS_while (I := (I_22_1 st)) (cv := V.l_common_c1) (oc := O.l_common_c1) (step := (V.l_common_l1)) (ok := (O.l_common_l1)) (n := Int.natAbs a_b + 1) (s0 := (a_a, a_b)) (hwf _ (a1 h)) ⟨rfl, rfl⟩ (a1 (a2 h)) (fun q rr sx h hI => w_22_l1c hwf h hI) (fun q rr sx h1 h2 h hI => w_22_l1 hwf h hI) ?_
  rintro rr sx ⟨e1, e2⟩
  subst e1 e2
  have h := (a2 (a2 h))
  exact w_22_r2 hwf h
theorem w_26 {a_value : D} (h : O.l_is_ratio a_value = true) : callF T wf (k + 2) 26 [eD a_value] st = .ok (eB (V.l_is_ratio a_value)) st := by
  refine call_HS (f := f26) rfl rfl ?_
  have hh := h
  have h := (a2 h)
  show HS _ _ [some (eD a_value)] _ (QF st.length (.ok (eB (V.l_is_ratio a_value)) st)) (EF st.length (.ok (eB (V.l_is_ratio a_value)) st))
  refine HS_ifV (Q := fun b => QF st.length (.ok (eB (bif b then false else ((decide ((Un.un eI (getI (itD a_value) (1 : Int))) > (0 : Int))) && (decide ((V.l_common (Un.un eI (getI (itD a_value) (0 : Int))) (Un.un eI (getI (itD a_value) (1 : Int)))) = (1 : Int)))))) st)) (E := fun b => EF st.length (.ok (eB (bif b then false else ((decide ((Un.un eI (getI (itD a_value) (1 : Int))) > (0 : Int))) && (decide ((V.l_common (Un.un eI (getI (itD a_value) (0 : Int))) (Un.un eI (getI (itD a_value) (1 : Int)))) = (1 : Int)))))) st)) (E_or (E_not (E_instD (a1 h) (E_var rfl))) (fun hc3 => E_or (E_neI (E_len (e := eD) (sD (a1 (i0 (a1 (a2 h)) hc3))) (E_var rfl)) (E_cst)) (fun hc2 => E_or (E_not (E_callF (Es_cons (E_ix (e := eD) (sD (a1 (i0 (a2 (i0 (a1 (a2 h)) hc3)) hc2))) (a1 (a2 (i0 (a2 (i0 (a1 (a2 h)) hc3)) hc2))) (E_var rfl) (E_cst)) (Es_nil)) (mlc (a1 (a2 (a2 (i0 (a2 (i0 (a1 (a2 h)) hc3)) hc2)))) (ml0)) (whole_w (T := T) (wf := wf) (g := 20) rfl (d := (getI (itD a_value) (0 : Int))) (a1 (a2 (a2 (a2 (i0 (a2 (i0 (a1 (a2 h)) hc3)) hc2)))))))) (fun hc1 => E_not (E_callF (Es_cons (E_ix (e := eD) (sD (a1 (i0 (a2 (a2 (a2 (a2 (i0 (a2 (i0 (a1 (a2 h)) hc3)) hc2))))) hc1))) (a1 (a2 (i0 (a2 (a2 (a2 (a2 (i0 (a2 (i0 (a1 (a2 h)) hc3)) hc2))))) hc1))) (E_var rfl) (E_cst)) (Es_nil)) (mlc (a1 (a2 (a2 (i0 (a2 (a2 (a2 (a2 (i0 (a2 (i0 (a1 (a2 h)) hc3)) hc2))))) hc1)))) (ml0)) (whole_w (T := T) (wf := wf) (g := 20) rfl (d := (getI (itD a_value) (1 : Int))) (a2 (a2 (a2 (i0 (a2 (a2 (a2 (a2 (i0 (a2 (i0 (a1 (a2 h)) hc3)) hc2))))) hc1)))))))))) (fun hc => ?_) (fun hc => ?_)
  · show HS _ _ _ _ (QF st.length (.ok (eB false) st)) (EF st.length (.ok (eB false) st))
    have h := c1 (a2 (a2 h)) hc
    exact HS_ret (E_cst) (q_ret rfl)
  · show HS _ _ _ _ (QF st.length (.ok (eB ((decide ((Un.un eI (getI (itD a_value) (1 : Int))) > (0 : Int))) && (decide ((V.l_common (Un.un eI (getI (itD a_value) (0 : Int))) (Un.un eI (getI (itD a_value) (1 : Int)))) = (1 : Int))))) st)) (EF st.length (.ok (eB ((decide ((Un.un eI (getI (itD a_value) (1 : Int))) > (0 : Int))) && (decide ((V.l_common (Un.un eI (getI (itD a_value) (0 : Int))) (Un.un eI (getI (itD a_value) (1 : Int)))) = (1 : Int))))) st))
    have h := c0 (a2 (a2 h)) hc
    exact HS_ret (E_and (E_gt (E_un (e := eI) (a1 (a2 (a2 h))) (E_ix (e := eD) (sD (a1 h)) (a1 (a2 h)) (E_var rfl) (E_cst))) (E_cst)) (fun hc4 => E_eqI (E_callF (Es_cons (E_un (e := eI) (a1 (a2 (a2 (i1 (a2 (a2 (a2 h))) hc4)))) (E_ix (e := eD) (sD (a1 (i1 (a2 (a2 (a2 h))) hc4))) (a1 (a2 (i1 (a2 (a2 (a2 h))) hc4))) (E_var rfl) (E_cst))) (Es_cons (E_un (e := eI) (a1 (a2 (a2 (a2 (a2 (a2 (i1 (a2 (a2 (a2 h))) hc4))))))) (E_ix (e := eD) (sD (a1 (a2 (a2 (a2 (i1 (a2 (a2 (a2 h))) hc4)))))) (a1 (a2 (a2 (a2 (a2 (i1 (a2 (a2 (a2 h))) hc4)))))) (E_var rfl) (E_cst))) (Es_nil))) (mlc (Nl.nl (e := eI) (Un.un eI (getI (itD a_value) (0 : Int)))) (mlc (Nl.nl (e := eI) (Un.un eI (getI (itD a_value) (1 : Int)))) (ml0))) (w_22 hwf (a2 (a2 (a2 (a2 (a2 (a2 (i1 (a2 (a2 (a2 h))) hc4))))))))) (E_cst))) (q_ret rfl)
theorem w_29 {a_row : D} {a_degree : Int} (h : O.l_is_row_of a_row a_degree = true) : callF T wf (k + 3) 29 [eD a_row, eI a_degree] st = .ok (eB (V.l_is_row_of a_row a_degree)) st := by
  refine call_HS (f := f29) rfl rfl ?_
  have hh := h
  have h := (a2 h)
  show HS _ _ [some (eD a_row), some (eI a_degree), none] _ (QF st.length (.ok (eB (V.l_is_row_of a_row a_degree)) st)) (EF st.length (.ok (eB (V.l_is_row_of a_row a_degree)) st))
  exact HS_ret (E_and (E_instD (a1 h) (E_var rfl)) (fun hc6 => E_and (E_eqI (E_len (e := eD) (sD (a1 (i1 (a2 h) hc6))) (E_var rfl)) (E_add (E_var rfl) (E_cst))) (fun hc5 => E_and (E_all (f := (fun (y1 : D) => (V.l_is_ratio y1))) (zs := (itD a_row)) lF (E_comp (e := eD) (e2 := eB) (f := (fun (y1 : D) => (V.l_is_ratio y1))) (a1 (a2 (i1 (a2 (i1 (a2 h) hc6)) hc5))) (S_seq (v_D (a1 (i1 (a2 (i1 (a2 h) hc6)) hc5))) (E_var rfl)) (trivial) (fun y1 hm2 => ⟨_, T_nm ((a1 (List.all_eq_true.mp (a1 (a2 (a2 (i1 (a2 (i1 (a2 h) hc6)) hc5)))) y1 hm2))), E_callF (Es_cons (E_var rfl) (Es_nil)) (mlc (a1 (a2 (List.all_eq_true.mp (a1 (a2 (a2 (i1 (a2 (i1 (a2 h) hc6)) hc5)))) y1 hm2))) (ml0)) (w_26 hwf (a_value := y1) (a2 (a2 (List.all_eq_true.mp (a1 (a2 (a2 (i1 (a2 (i1 (a2 h) hc6)) hc5)))) y1 hm2))))⟩) (fun _ _ => Nl.nl (e := eB) _))) (fun hc4 => E_neDD (a1 (a2 (a2 (a2 (a2 (i1 (a2 (a2 (a2 (i1 (a2 (i1 (a2 h) hc6)) hc5)))) hc4)))))) (a2 (a2 (a2 (a2 (a2 (i1 (a2 (a2 (a2 (i1 (a2 (i1 (a2 h) hc6)) hc5)))) hc4)))))) (E_ix (e := eD) (sD (a1 (a2 (a2 (i1 (a2 (a2 (a2 (i1 (a2 (i1 (a2 h) hc6)) hc5)))) hc4))))) (a1 (a2 (a2 (a2 (i1 (a2 (a2 (a2 (i1 (a2 (i1 (a2 h) hc6)) hc5)))) hc4))))) (E_ix (e := eD) (sD (a1 (i1 (a2 (a2 (a2 (i1 (a2 (i1 (a2 h) hc6)) hc5)))) hc4))) (a1 (a2 (i1 (a2 (a2 (a2 (i1 (a2 (i1 (a2 h) hc6)) hc5)))) hc4))) (E_var rfl) (E_neg (E_cst))) (E_cst)) (E_cst))))) (q_ret rfl)
theorem w_23 {a_n : Int} {a_d : Int} (h : O.l_ratio a_n a_d = true) : callF T wf (k + 2) 23 [eI a_n, eI a_d] st = .ok ((eP2 eI eI) (V.l_ratio a_n a_d)) st := by
  refine call_HS (f := f23) rfl rfl ?_
  have h := h
  show HS _ _ [some (eI a_n), some (eI a_d), none] _ (QF st.length (.ok ((eP2 eI eI) (V.l_ratio a_n a_d)) st)) (EF st.length (.ok ((eP2 eI eI) (V.l_ratio a_n a_d)) st))
  refine HS_asg (E_callF (Es_cons (E_var rfl) (Es_cons (E_var rfl) (Es_nil))) (mlc (Nl.nl (e := eI) a_n) (mlc (Nl.nl (e := eI) a_d) (ml0))) (w_22 hwf (a1 h))) (T_nm (Nl.nl (e := eI) (V.l_common a_n a_d))) ?_
  have h := (a2 h)
  exact HS_ret (E_ite (e := (eP2 eI eI)) (E_gt (E_var rfl) (E_cst)) (fun hc1 => E_tup (Es_cons (E_fdiv (a1 (i1 (a1 h) hc1)) (E_var rfl) (E_var rfl)) (Es_cons (E_fdiv (a2 (i1 (a1 h) hc1)) (E_var rfl) (E_var rfl)) (Es_nil))) (mlc (Nl.nl (e := eI) (Int.fdiv a_n (V.l_common a_n a_d))) (mlc (Nl.nl (e := eI) (Int.fdiv a_d (V.l_common a_n a_d))) (ml0)))) (fun hc1 => E_tup (Es_cons (E_fdiv (a1 (i0 (a2 h) hc1)) (E_neg (E_var rfl)) (E_var rfl)) (Es_cons (E_fdiv (a2 (i0 (a2 h) hc1)) (E_neg (E_var rfl)) (E_var rfl)) (Es_nil))) (mlc (Nl.nl (e := eI) (Int.fdiv (-a_n) (V.l_common a_n a_d))) (mlc (Nl.nl (e := eI) (Int.fdiv (-a_d) (V.l_common a_n a_d))) (ml0))))) (q_ret rfl)
theorem w_24 {a_a : Int × Int} {a_b : Int × Int} (h : O.l_plus a_a a_b = true) : callF T wf (k + 3) 24 [(eP2 eI eI) a_a, (eP2 eI eI) a_b] st = .ok ((eP2 eI eI) (V.l_plus a_a a_b)) st := by
  refine call_HS (f := f24) rfl rfl ?_
  have h := h
  show HS _ _ [some ((eP2 eI eI) a_a), some ((eP2 eI eI) a_b)] _ (QF st.length (.ok ((eP2 eI eI) (V.l_plus a_a a_b)) st)) (EF st.length (.ok ((eP2 eI eI) (V.l_plus a_a a_b)) st))
  refine HS_ifV (Q := fun b => QF st.length (.ok ((eP2 eI eI) (bif b then ((a_a.1 + a_b.1), (1 : Int)) else (V.l_ratio ((a_a.1 * a_b.2) + (a_b.1 * a_a.2)) (a_a.2 * a_b.2)))) st)) (E := fun b => EF st.length (.ok ((eP2 eI eI) (bif b then ((a_a.1 + a_b.1), (1 : Int)) else (V.l_ratio ((a_a.1 * a_b.2) + (a_b.1 * a_a.2)) (a_a.2 * a_b.2)))) st)) (E_and (E_eqI (E_c1 (E_var rfl)) (E_cst)) (fun hc1 => E_eqI (E_c1 (E_var rfl)) (E_cst))) (fun hc => ?_) (fun hc => ?_)
  · show HS _ _ _ _ (QF st.length (.ok ((eP2 eI eI) ((a_a.1 + a_b.1), (1 : Int))) st)) (EF st.length (.ok ((eP2 eI eI) ((a_a.1 + a_b.1), (1 : Int))) st))
    have h := c1 h hc
    exact HS_ret (E_tup (Es_cons (E_add (E_c0 (E_var rfl)) (E_c0 (E_var rfl))) (Es_cons (E_cst) (Es_nil))) (mlc (Nl.nl (e := eI) (a_a.1 + a_b.1)) (mlc (Nl.nl (e := eI) (1 : Int)) (ml0)))) (q_ret rfl)
  · show HS _ _ _ _ (QF st.length (.ok ((eP2 eI eI) (V.l_ratio ((a_a.1 * a_b.2) + (a_b.1 * a_a.2)) (a_a.2 * a_b.2))) st)) (EF st.length (.ok ((eP2 eI eI) (V.l_ratio ((a_a.1 * a_b.2) + (a_b.1 * a_a.2)) (a_a.2 * a_b.2))) st))
    have h := c0 h hc
    exact HS_ret (E_callF (Es_cons (E_add (E_mul (a1 h) (E_c0 (E_var rfl)) (E_c1 (E_var rfl))) (E_mul (a1 (a2 h)) (E_c0 (E_var rfl)) (E_c1 (E_var rfl)))) (Es_cons (E_mul (a1 (a2 (a2 h))) (E_c1 (E_var rfl)) (E_c1 (E_var rfl))) (Es_nil))) (mlc (Nl.nl (e := eI) ((a_a.1 * a_b.2) + (a_b.1 * a_a.2))) (mlc (Nl.nl (e := eI) (a_a.2 * a_b.2)) (ml0))) (w_23 hwf (a2 (a2 (a2 h))))) (q_ret rfl)
theorem w_25 {a_a : Int × Int} {a_b : Int × Int} (h : O.l_times a_a a_b = true) : callF T wf (k + 3) 25 [(eP2 eI eI) a_a, (eP2 eI eI) a_b] st = .ok ((eP2 eI eI) (V.l_times a_a a_b)) st := by
  refine call_HS (f := f25) rfl rfl ?_
  have h := h
  show HS _ _ [some ((eP2 eI eI) a_a), some ((eP2 eI eI) a_b)] _ (QF st.length (.ok ((eP2 eI eI) (V.l_times a_a a_b)) st)) (EF st.length (.ok ((eP2 eI eI) (V.l_times a_a a_b)) st))
  refine HS_ifV (Q := fun b => QF st.length (.ok ((eP2 eI eI) (bif b then ((a_a.1 * a_b.1), (1 : Int)) else (V.l_ratio (a_a.1 * a_b.1) (a_a.2 * a_b.2)))) st)) (E := fun b => EF st.length (.ok ((eP2 eI eI) (bif b then ((a_a.1 * a_b.1), (1 : Int)) else (V.l_ratio (a_a.1 * a_b.1) (a_a.2 * a_b.2)))) st)) (E_and (E_eqI (E_c1 (E_var rfl)) (E_cst)) (fun hc1 => E_eqI (E_c1 (E_var rfl)) (E_cst))) (fun hc => ?_) (fun hc => ?_)
  · show HS _ _ _ _ (QF st.length (.ok ((eP2 eI eI) ((a_a.1 * a_b.1), (1 : Int))) st)) (EF st.length (.ok ((eP2 eI eI) ((a_a.1 * a_b.1), (1 : Int))) st))
    have h := c1 h hc
    exact HS_ret (E_tup (Es_cons (E_mul h (E_c0 (E_var rfl)) (E_c0 (E_var rfl))) (Es_cons (E_cst) (Es_nil))) (mlc (Nl.nl (e := eI) (a_a.1 * a_b.1)) (mlc (Nl.nl (e := eI) (1 : Int)) (ml0)))) (q_ret rfl)
  · show HS _ _ _ _ (QF st.length (.ok ((eP2 eI eI) (V.l_ratio (a_a.1 * a_b.1) (a_a.2 * a_b.2))) st)) (EF st.length (.ok ((eP2 eI eI) (V.l_ratio (a_a.1 * a_b.1) (a_a.2 * a_b.2))) st))
    have h := c0 h hc
    exact HS_ret (E_callF (Es_cons (E_mul (a1 h) (E_c0 (E_var rfl)) (E_c0 (E_var rfl))) (Es_cons (E_mul (a1 (a2 h)) (E_c1 (E_var rfl)) (E_c1 (E_var rfl))) (Es_nil))) (mlc (Nl.nl (e := eI) (a_a.1 * a_b.1)) (mlc (Nl.nl (e := eI) (a_a.2 * a_b.2)) (ml0))) (w_23 hwf (a2 (a2 h)))) (q_ret rfl)
theorem w_28_l1 {b_x : Int} {q : (Int × Int)} {x : Int × Int} {rr : Rho} {sx : Sto} (h : (O.l_value_l1 b_x q x) = true) (hI : (I_28_1 st b_x) q rr sx) : Holds (kBody ⟨callF T wf (k + 3), wf, T.length⟩ f28_b1 (evTg ⟨callF T wf (k + 3), wf, T.length⟩ (.nm 3) ((eP2 eI eI) x) rr sx)) (QL (I_28_1 st b_x) (V.l_value_l1 b_x q x)) (EN) := by
  obtain ⟨w0, w3, e1, e2⟩ := hI
  subst e1 e2
  refine HB (T_nm (Nl.nl (e := (eP2 eI eI)) x)) ?_
  refine HS_asg (E_callF (Es_cons (E_callF (Es_cons (E_var rfl) (Es_cons (E_tup (Es_cons (E_var rfl) (Es_cons (E_cst) (Es_nil))) (mlc (Nl.nl (e := eI) b_x) (mlc (Nl.nl (e := eI) (1 : Int)) (ml0)))) (Es_nil))) (mlc (Nl.nl (e := (eP2 eI eI)) q) (mlc (Nl.nl (e := (eP2 eI eI)) (b_x, (1 : Int))) (ml0))) (w_25 hwf (a_a := q) (a_b := (b_x, (1 : Int))) (a1 h))) (Es_cons (E_var rfl) (Es_nil))) (mlc (Nl.nl (e := (eP2 eI eI)) (V.l_times q (b_x, (1 : Int)))) (mlc (Nl.nl (e := (eP2 eI eI)) x) (ml0))) (w_24 hwf (a_a := (V.l_times q (b_x, (1 : Int)))) (a_b := x) (a1 (a2 h)))) (T_nm (Nl.nl (e := (eP2 eI eI)) (V.l_plus (V.l_times q (b_x, (1 : Int))) x))) ?_
  have h := (a2 (a2 h))
  exact HS_nil ⟨.inl rfl, _, _, rfl, rfl⟩
theorem w_28 {a_row : List (Int × Int)} {a_x : Int} (h : O.l_value a_row a_x = true) : callF T wf (k + 4) 28 [(eT (eP2 eI eI)) a_row, eI a_x] st = .ok ((eP2 eI eI) (V.l_value a_row a_x)) st := by
  refine call_HS (f := f28) rfl rfl ?_
  have h := h
  show HS _ _ [some ((eT (eP2 eI eI)) a_row), some (eI a_x), none, none] _ (QF st.length (.ok ((eP2 eI eI) (V.l_value a_row a_x)) st)) (EF st.length (.ok ((eP2 eI eI) (V.l_value a_row a_x)) st))
  refine HS_asg (E_tup (Es_cons (E_cst) (Es_cons (E_cst) (Es_nil))) (mlc (Nl.nl (e := eI) (0 : Int)) (mlc (Nl.nl (e := eI) (1 : Int)) (ml0)))) (T_nm (Nl.nl (e := (eP2 eI eI)) ((0 : Int), (1 : Int)))) ?_
  refine HS_for (I := (I_28_1 st a_x)) (step := (V.l_value_l1 a_x)) (ok := (O.l_value_l1 a_x)) (xs := (List.reverse a_row)) (s0 := ((0 : Int), (1 : Int))) (e := (eP2 eI eI)) (S_seq v_T (E_revT (e := (eP2 eI eI)) (E_var rfl))) (fun _ _ _ _ => trivial) ⟨_, _, rfl, rfl⟩ (a1 h) (fun q x rr sx h hI => w_28_l1 hwf h hI) ?_
  rintro rr sx ⟨w0, w3, e1, e2⟩
  subst e1 e2
  have h := (a2 h)
  exact HS_ret (E_var rfl) (q_ret rfl)
theorem w_33_r6 {b_k : Int} {b_due : Int} {b_n : Int} {b_q : Int} {b_x : Int} {sv : S2} {w0 w2 w3 w5 w6 w10 w11 w13 w14 : Option D} (hB : ∀ s, Wf (ss st s)) (h0 : 0 < st.length) (h : (O.law_k04_r6 b_k b_due b_n b_q b_x sv) = true) : HS ⟨callF T wf (k + 19), wf, T.length⟩ f33_r6 [w0, some (.lr 0), w2, w3, some (eI b_k), w5, w6, some (eI b_due), some (eI b_n), some (eI b_q), w10, w11, some (eI b_x), w13, w14] (ss st sv) (QR (I_33_1 st) (fun r => QF 0 (.ok (eB r) [])) (V.law_k04_r6 b_k b_due b_n b_q b_x sv)) (ER (fun r => EF 0 (.ok (eB r) [])) (V.law_k04_r6 b_k b_due b_n b_q b_x sv)) := by
  refine HS_ifV (Q := fun b => QR (I_33_1 st) (fun r => QF 0 (.ok (eB r) [])) (bif b then (bif (!decide (((b_k + (1 : Int)) * (V.l_number b_n b_q (b_k + (1 : Int)) b_x)) = ((((b_k + ((b_q - (1 : Int)) * (b_n - b_k))) - (b_q * b_x)) * b_due) - (((b_q - (1 : Int)) * ((b_n - b_k) + (1 : Int))) * (V.l_number b_n b_q (b_k - (1 : Int)) b_x))))) then (.rt false) else (.nx sv)) else (.nx sv))) (E := fun b => ER (fun r => EF 0 (.ok (eB r) [])) (bif b then (bif (!decide (((b_k + (1 : Int)) * (V.l_number b_n b_q (b_k + (1 : Int)) b_x)) = ((((b_k + ((b_q - (1 : Int)) * (b_n - b_k))) - (b_q * b_x)) * b_due) - (((b_q - (1 : Int)) * ((b_n - b_k) + (1 : Int))) * (V.l_number b_n b_q (b_k - (1 : Int)) b_x))))) then (.rt false) else (.nx sv)) else (.nx sv))) (E_chain (p := .le) (q := .le) sI_le sp_le (E_cst) (E_var rfl) (fun hc1 => E_sub (E_var rfl) (E_cst))) (fun hc => ?_) (fun hc => ?_)
  · show HS _ _ _ _ (QR (I_33_1 st) (fun r => QF 0 (.ok (eB r) [])) (bif (!decide (((b_k + (1 : Int)) * (V.l_number b_n b_q (b_k + (1 : Int)) b_x)) = ((((b_k + ((b_q - (1 : Int)) * (b_n - b_k))) - (b_q * b_x)) * b_due) - (((b_q - (1 : Int)) * ((b_n - b_k) + (1 : Int))) * (V.l_number b_n b_q (b_k - (1 : Int)) b_x))))) then (.rt false) else (.nx sv))) (ER (fun r => EF 0 (.ok (eB r) [])) (bif (!decide (((b_k + (1 : Int)) * (V.l_number b_n b_q (b_k + (1 : Int)) b_x)) = ((((b_k + ((b_q - (1 : Int)) * (b_n - b_k))) - (b_q * b_x)) * b_due) - (((b_q - (1 : Int)) * ((b_n - b_k) + (1 : Int))) * (V.l_number b_n b_q (b_k - (1 : Int)) b_x))))) then (.rt false) else (.nx sv)))
    have h := c1 h hc
    refine HS_ifV (Q := fun b => QR (I_33_1 st) (fun r => QF 0 (.ok (eB r) [])) (bif b then (.rt false) else (.nx sv))) (E := fun b => ER (fun r => EF 0 (.ok (eB r) [])) (bif b then (.rt false) else (.nx sv))) (E_neI (E_mul (a1 (a2 h)) (E_add (E_var rfl) (E_cst)) (E_callF (Es_cons (E_var rfl) (Es_cons (E_var rfl) (Es_cons (E_add (E_var rfl) (E_cst)) (Es_cons (E_var rfl) (Es_nil))))) (mlc (Nl.nl (e := eI) b_n) (mlc (Nl.nl (e := eI) b_q) (mlc (Nl.nl (e := eI) (b_k + (1 : Int))) (mlc (Nl.nl (e := eI) b_x) (ml0))))) (w_27 hwf (a1 h)))) (E_sub (E_mul (a1 (a2 (a2 (a2 (a2 h))))) (E_sub (E_add (E_var rfl) (E_mul (a1 (a2 (a2 h))) (E_sub (E_var rfl) (E_cst)) (E_sub (E_var rfl) (E_var rfl)))) (E_mul (a1 (a2 (a2 (a2 h)))) (E_var rfl) (E_var rfl))) (E_var rfl)) (E_mul (a1 (a2 (a2 (a2 (a2 (a2 (a2 (a2 h)))))))) (E_mul (a1 (a2 (a2 (a2 (a2 (a2 h)))))) (E_sub (E_var rfl) (E_cst)) (E_add (E_sub (E_var rfl) (E_var rfl)) (E_cst))) (E_callF (Es_cons (E_var rfl) (Es_cons (E_var rfl) (Es_cons (E_sub (E_var rfl) (E_cst)) (Es_cons (E_var rfl) (Es_nil))))) (mlc (Nl.nl (e := eI) b_n) (mlc (Nl.nl (e := eI) b_q) (mlc (Nl.nl (e := eI) (b_k - (1 : Int))) (mlc (Nl.nl (e := eI) b_x) (ml0))))) (w_27 hwf (a1 (a2 (a2 (a2 (a2 (a2 (a2 h)))))))))))) (fun hc => ?_) (fun hc => ?_)
    · show HS _ _ _ _ (QR (I_33_1 st) (fun r => QF 0 (.ok (eB r) [])) (.rt false)) (ER (fun r => EF 0 (.ok (eB r) [])) (.rt false))
      have h := c1 (a2 (a2 (a2 (a2 (a2 (a2 (a2 (a2 h)))))))) hc
      exact HS_ret (E_cst) (⟨⟨_, rfl⟩, q_law⟩)
    · show HS _ _ _ _ (QR (I_33_1 st) (fun r => QF 0 (.ok (eB r) [])) (.nx sv)) (ER (fun r => EF 0 (.ok (eB r) [])) (.nx sv))
      have h := c0 (a2 (a2 (a2 (a2 (a2 (a2 (a2 (a2 h)))))))) hc
      exact HS_nil ⟨.inl rfl, _, _, _, _, _, _, _, _, _, _, _, _, _, _, rfl, rfl⟩
  · show HS _ _ _ _ (QR (I_33_1 st) (fun r => QF 0 (.ok (eB r) [])) (.nx sv)) (ER (fun r => EF 0 (.ok (eB r) [])) (.nx sv))
    have h := c0 h hc
    exact HS_nil ⟨.inl rfl, _, _, _, _, _, _, _, _, _, _, _, _, _, _, rfl, rfl⟩
theorem w_33_r5 {b_k : Int} {b_due : Int} {b_n : Int} {b_q : Int} {b_x : Int} {sv : S2} {w0 w2 w3 w5 w6 w10 w11 w13 w14 : Option D} (hB : ∀ s, Wf (ss st s)) (h0 : 0 < st.length) (h : (O.law_k04_r5 b_k b_due b_n b_q b_x sv) = true) : HS ⟨callF T wf (k + 19), wf, T.length⟩ f33_r5 [w0, some (.lr 0), w2, w3, some (eI b_k), w5, w6, some (eI b_due), some (eI b_n), some (eI b_q), w10, w11, some (eI b_x), w13, w14] (ss st sv) (QR (I_33_1 st) (fun r => QF 0 (.ok (eB r) [])) (V.law_k04_r5 b_k b_due b_n b_q b_x sv)) (ER (fun r => EF 0 (.ok (eB r) [])) (V.law_k04_r5 b_k b_due b_n b_q b_x sv)) := by
  refine HS_ifV (Q := fun b => QR (I_33_1 st) (fun r => QF 0 (.ok (eB r) [])) (bif b then (.rt false) else (V.law_k04_r6 b_k b_due b_n b_q b_x sv))) (E := fun b => ER (fun r => EF 0 (.ok (eB r) [])) (bif b then (.rt false) else (V.law_k04_r6 b_k b_due b_n b_q b_x sv))) (E_neI (E_mul (a1 (a2 (a2 (a2 h)))) (E_mul (a1 (a2 (a2 h))) (E_callF (Es_cons (E_var rfl) (Es_cons (E_var rfl) (Es_nil))) (mlc (Nl.nl (e := eI) b_n) (mlc (Nl.nl (e := eI) b_x) (ml0))) (w_31 hwf (a1 h))) (E_callF (Es_cons (E_sub (E_var rfl) (E_cst)) (Es_cons (E_var rfl) (Es_nil))) (mlc (Nl.nl (e := eI) (b_q - (1 : Int))) (mlc (Nl.nl (e := eI) b_x) (ml0))) (w_32 hwf (a1 (a2 h))))) (E_var rfl)) (E_mul (a1 (a2 (a2 (a2 (a2 (a2 (a2 (a2 (a2 h))))))))) (E_mul (a1 (a2 (a2 (a2 (a2 (a2 (a2 h))))))) (E_callF (Es_cons (E_var rfl) (Es_cons (E_var rfl) (Es_nil))) (mlc (Nl.nl (e := eI) b_n) (mlc (Nl.nl (e := eI) b_k) (ml0))) (w_31 hwf (a1 (a2 (a2 (a2 (a2 h))))))) (E_callF (Es_cons (E_sub (E_var rfl) (E_cst)) (Es_cons (E_var rfl) (Es_nil))) (mlc (Nl.nl (e := eI) (b_q - (1 : Int))) (mlc (Nl.nl (e := eI) b_k) (ml0))) (w_32 hwf (a1 (a2 (a2 (a2 (a2 (a2 h))))))))) (E_callF (Es_cons (E_var rfl) (Es_cons (E_var rfl) (Es_cons (E_var rfl) (Es_cons (E_var rfl) (Es_nil))))) (mlc (Nl.nl (e := eI) b_n) (mlc (Nl.nl (e := eI) b_q) (mlc (Nl.nl (e := eI) b_x) (mlc (Nl.nl (e := eI) b_k) (ml0))))) (w_27 hwf (a1 (a2 (a2 (a2 (a2 (a2 (a2 (a2 h)))))))))))) (fun hc => ?_) (fun hc => ?_)
  · show HS _ _ _ _ (QR (I_33_1 st) (fun r => QF 0 (.ok (eB r) [])) (.rt false)) (ER (fun r => EF 0 (.ok (eB r) [])) (.rt false))
    have h := c1 (a2 (a2 (a2 (a2 (a2 (a2 (a2 (a2 (a2 h))))))))) hc
    exact HS_ret (E_cst) (⟨⟨_, rfl⟩, q_law⟩)
  · show HS _ _ _ _ (QR (I_33_1 st) (fun r => QF 0 (.ok (eB r) [])) (V.law_k04_r6 b_k b_due b_n b_q b_x sv)) (ER (fun r => EF 0 (.ok (eB r) [])) (V.law_k04_r6 b_k b_due b_n b_q b_x sv))
    have h := c0 (a2 (a2 (a2 (a2 (a2 (a2 (a2 (a2 (a2 h))))))))) hc
    exact w_33_r6 hwf hB h0 h
theorem w_33_r4 {b_k : Int} {b_due : Int} {b_n : Int} {b_q : Int} {b_x : Int} {sv : S2} {w0 w2 w3 w5 w6 w10 w11 w13 w14 : Option D} (hB : ∀ s, Wf (ss st s)) (h0 : 0 < st.length) (h : (O.law_k04_r4 b_k b_due b_n b_q b_x sv) = true) : HS ⟨callF T wf (k + 19), wf, T.length⟩ f33_r4 [w0, some (.lr 0), w2, w3, some (eI b_k), w5, w6, some (eI b_due), some (eI b_n), some (eI b_q), w10, w11, some (eI b_x), w13, w14] (ss st sv) (QR (I_33_1 st) (fun r => QF 0 (.ok (eB r) [])) (V.law_k04_r4 b_k b_due b_n b_q b_x sv)) (ER (fun r => EF 0 (.ok (eB r) [])) (V.law_k04_r4 b_k b_due b_n b_q b_x sv)) := by
  refine HS_ifV (Q := fun b => QR (I_33_1 st) (fun r => QF 0 (.ok (eB r) [])) (bif b then (.rt false) else (V.law_k04_r5 b_k b_due b_n b_q b_x sv))) (E := fun b => ER (fun r => EF 0 (.ok (eB r) [])) (bif b then (.rt false) else (V.law_k04_r5 b_k b_due b_n b_q b_x sv))) (E_not (E_callFE [((eP2 eS eD) (V.l_told_k04 (0 : Int) (eI b_n) (eI b_q) (eI b_k) (eI b_x))), ((eP2 eS eI) (S_told, b_due))] (Es_cons (E_callF (Es_cons (E_cst) (Es_cons (E_var rfl) (Es_cons (E_var rfl) (Es_cons (E_var rfl) (Es_cons (E_var rfl) (Es_nil)))))) (mlc (Nl.nl (e := eI) (0 : Int)) (mlc (Nl.nl (e := eI) b_n) (mlc (Nl.nl (e := eI) b_q) (mlc (Nl.nl (e := eI) b_k) (mlc (Nl.nl (e := eI) b_x) (ml0)))))) (w_30 hwf (hB _) (a_n := (eI b_n)) (a_q := (eI b_q)) (a_k := (eI b_k)) (a_x := (eI b_x)) (a1 h))) (Es_cons (E_tup (Es_cons (E_cst) (Es_cons (E_var rfl) (Es_nil))) (mlc (Nl.nl (e := eS) S_told) (mlc (Nl.nl (e := eI) b_due) (ml0)))) (Es_nil))) rfl (mlc (Nl.nl (e := (eP2 eS eD)) (V.l_told_k04 (0 : Int) (eI b_n) (eI b_q) (eI b_k) (eI b_x))) (mlc (Nl.nl (e := (eP2 eS eI)) (S_told, b_due)) (ml0))) (same_w (T := T) (wf := wf) (g := 21) (v := 0) (g1 := 20) rfl rfl (a := ((eP2 eS eD) (V.l_told_k04 (0 : Int) (eI b_n) (eI b_q) (eI b_k) (eI b_x)))) (b := ((eP2 eS eI) (S_told, b_due))) (a1 (a2 h))))) (fun hc => ?_) (fun hc => ?_)
  · show HS _ _ _ _ (QR (I_33_1 st) (fun r => QF 0 (.ok (eB r) [])) (.rt false)) (ER (fun r => EF 0 (.ok (eB r) [])) (.rt false))
    have h := c1 (a2 (a2 h)) hc
    exact HS_ret (E_cst) (⟨⟨_, rfl⟩, q_law⟩)
  · show HS _ _ _ _ (QR (I_33_1 st) (fun r => QF 0 (.ok (eB r) [])) (V.law_k04_r5 b_k b_due b_n b_q b_x sv)) (ER (fun r => EF 0 (.ok (eB r) [])) (V.law_k04_r5 b_k b_due b_n b_q b_x sv))
    have h := c0 (a2 (a2 h)) hc
    exact w_33_r5 hwf hB h0 h
theorem w_33_r3 {b_k : Int} {b_n : Int} {b_q : Int} {b_x : Int} {sv : S2} {w0 w2 w3 w5 w6 w7 w10 w11 w13 w14 : Option D} (hB : ∀ s, Wf (ss st s)) (h0 : 0 < st.length) (h : (O.law_k04_r3 b_k b_n b_q b_x sv) = true) : HS ⟨callF T wf (k + 19), wf, T.length⟩ f33_r3 [w0, some (.lr 0), w2, w3, some (eI b_k), w5, w6, w7, some (eI b_n), some (eI b_q), w10, w11, some (eI b_x), w13, w14] (ss st sv) (QR (I_33_1 st) (fun r => QF 0 (.ok (eB r) [])) (V.law_k04_r3 b_k b_n b_q b_x sv)) (ER (fun r => EF 0 (.ok (eB r) [])) (V.law_k04_r3 b_k b_n b_q b_x sv)) := by
  refine HS_asg (E_callF (Es_cons (E_var rfl) (Es_cons (E_var rfl) (Es_cons (E_var rfl) (Es_cons (E_var rfl) (Es_nil))))) (mlc (Nl.nl (e := eI) b_n) (mlc (Nl.nl (e := eI) b_q) (mlc (Nl.nl (e := eI) b_k) (mlc (Nl.nl (e := eI) b_x) (ml0))))) (w_27 hwf (a1 h))) (T_nm (Nl.nl (e := eI) (V.l_number b_n b_q b_k b_x))) ?_
  have h := (a2 h)
  exact w_33_r4 hwf hB h0 h
theorem w_33_r2 {b_n : Int} {b_q : Int} {sv : S2} {w0 w2 w3 w4 w5 w6 w7 w10 w11 w12 w13 w14 : Option D} (hB : ∀ s, Wf (ss st s)) (h0 : 0 < st.length) (h : (O.law_k04_r2 b_n b_q sv) = true) : HS ⟨callF T wf (k + 19), wf, T.length⟩ f33_r2 [w0, some (.lr 0), w2, w3, w4, w5, w6, w7, some (eI b_n), some (eI b_q), w10, w11, w12, w13, w14] (ss st sv) (QR (I_33_1 st) (fun r => QF 0 (.ok (eB r) [])) (V.law_k04_r2 b_n b_q sv)) (ER (fun r => EF 0 (.ok (eB r) [])) (V.law_k04_r2 b_n b_q sv)) := by
  refine HS_asg (E_tup (Es_cons (E_callF (Es_cons (E_var rfl) (Es_cons (E_add (E_var rfl) (E_cst)) (Es_nil))) (mlc (rfl) (mlc (Nl.nl (e := eI) (b_n + (1 : Int))) (ml0))) (take_w (T := T) (wf := wf) (g := 17) rfl h0 (a_m := (b_n + (1 : Int))) (a1 h))) (Es_cons (E_callF (Es_cons (E_var rfl) (Es_cons (E_add (E_var rfl) (E_cst)) (Es_nil))) (mlc (rfl) (mlc (Nl.nl (e := eI) (b_n + (1 : Int))) (ml0))) (take_w (T := T) (wf := wf) (g := 17) rfl h0 (a_m := (b_n + (1 : Int))) (a1 (a2 h)))) (Es_nil))) (mlc (Nl.nl (e := eI) ((V.l_take sv (b_n + (1 : Int))).1)) (mlc (Nl.nl (e := eI) ((V.l_take ((V.l_take sv (b_n + (1 : Int))).2) (b_n + (1 : Int))).1)) (ml0)))) (T_tp rfl rfl (Ts_cons (T_nm (Nl.nl (e := eI) ((V.l_take sv (b_n + (1 : Int))).1))) (Ts_cons (T_nm (Nl.nl (e := eI) ((V.l_take ((V.l_take sv (b_n + (1 : Int))).2) (b_n + (1 : Int))).1))) (Ts_nil)))) ?_
  have h := (a2 (a2 h))
  exact w_33_r3 hwf hB h0 h
theorem w_33_l1  {q : S2} {x : Int} {rr : Rho} {sx : Sto} (hB : ∀ s, Wf (ss st s)) (h0 : 0 < st.length) (h : (O.law_k04_l1 q x) = true) (hI : (I_33_1 st) q rr sx) : Holds (kBody ⟨callF T wf (k + 19), wf, T.length⟩ f33_b1 (evTg ⟨callF T wf (k + 19), wf, T.length⟩ (.nm 2) (eI x) rr sx)) (QR (I_33_1 st) (fun r => QF 0 (.ok (eB r) [])) (V.law_k04_l1 q x)) (ER (fun r => EF 0 (.ok (eB r) [])) (V.law_k04_l1 q x)) := by
  obtain ⟨w0, w2, w3, w4, w5, w6, w7, w8, w9, w10, w11, w12, w13, w14, e1, e2⟩ := hI
  subst e1 e2
  refine HB (T_nm (Nl.nl (e := eI) x)) ?_
  refine HS_asg (E_tup (Es_cons (E_add (E_cst) (E_callF (Es_cons (E_var rfl) (Es_cons (E_cst) (Es_nil))) (mlc (rfl) (mlc (Nl.nl (e := eI) (48 : Int)) (ml0))) (take_w (T := T) (wf := wf) (g := 17) rfl h0 (a_m := (48 : Int)) (a1 h)))) (Es_cons (E_add (E_cst) (E_callF (Es_cons (E_var rfl) (Es_cons (E_cst) (Es_nil))) (mlc (rfl) (mlc (Nl.nl (e := eI) (15 : Int)) (ml0))) (take_w (T := T) (wf := wf) (g := 17) rfl h0 (a_m := (15 : Int)) (a1 (a2 h))))) (Es_nil))) (mlc (Nl.nl (e := eI) ((1 : Int) + (V.l_take q (48 : Int)).1)) (mlc (Nl.nl (e := eI) ((2 : Int) + (V.l_take ((V.l_take q (48 : Int)).2) (15 : Int)).1)) (ml0)))) (T_tp rfl rfl (Ts_cons (T_nm (Nl.nl (e := eI) ((1 : Int) + (V.l_take q (48 : Int)).1))) (Ts_cons (T_nm (Nl.nl (e := eI) ((2 : Int) + (V.l_take ((V.l_take q (48 : Int)).2) (15 : Int)).1))) (Ts_nil)))) ?_
  have h := (a2 (a2 h))
  exact w_33_r2 hwf hB h0 h
theorem w_33_l16 {b_n : Int} {b_q : Int} {q : S2} {x : D} {rr : Rho} {sx : Sto} (hB : ∀ s, Wf (ss st s)) (h0 : 0 < st.length) (h : (O.law_k04_l16 q x) = true) (hI : (I_33_16 st b_n b_q) q rr sx) : Holds (kBody ⟨callF T wf (k + 19), wf, T.length⟩ f33_b16 (evTg ⟨callF T wf (k + 19), wf, T.length⟩ (.nm 6) (eD x) rr sx)) (QR (I_33_16 st b_n b_q) (fun r => QF 0 (.ok (eB r) [])) (V.law_k04_l16 q x)) (ER (fun r => EF 0 (.ok (eB r) [])) (V.law_k04_l16 q x)) := by
  obtain ⟨w0, w2, w3, w4, w5, w6, w7, w10, w11, w12, w13, w14, e1, e2⟩ := hI
  subst e1 e2
  have hx := a1 h
  have h := a2 h
  refine HB (T_nm (hx)) ?_
  refine HS_ifV (Q := fun b => QR (I_33_16 st b_n b_q) (fun r => QF 0 (.ok (eB r) [])) (bif b then (.rt false) else (.nx q))) (E := fun b => ER (fun r => EF 0 (.ok (eB r) [])) (bif b then (.rt false) else (.nx q))) (E_neV (e := eS) (a1 (a2 (a2 h))) (a1 (a2 (a2 (a2 h)))) (E_c0 (E_callF (Es_cons (E_cst) (Es_cons (E_var rfl) (Es_cons (E_cst) (Es_cons (E_cst) (Es_cons (E_cst) (Es_nil)))))) (mlc (Nl.nl (e := eI) (0 : Int)) (mlc (a1 h) (mlc (rfl) (mlc (rfl) (mlc (rfl) (ml0)))))) (w_30 hwf (hB _) (a_n := x) (a_q := (.int 2 : D)) (a_k := (.int 0 : D)) (a_x := (.int 0 : D)) (a1 (a2 h))))) (E_cst)) (fun hc => ?_) (fun hc => ?_)
  · show HS _ _ _ _ (QR (I_33_16 st b_n b_q) (fun r => QF 0 (.ok (eB r) [])) (.rt false)) (ER (fun r => EF 0 (.ok (eB r) [])) (.rt false))
    have h := c1 (a2 (a2 (a2 (a2 h)))) hc
    exact HS_ret (E_cst) (⟨⟨_, rfl⟩, q_law⟩)
  · show HS _ _ _ _ (QR (I_33_16 st b_n b_q) (fun r => QF 0 (.ok (eB r) [])) (.nx q)) (ER (fun r => EF 0 (.ok (eB r) [])) (.nx q))
    have h := c0 (a2 (a2 (a2 (a2 h)))) hc
    exact HS_nil ⟨.inl rfl, _, _, _, _, _, _, _, _, _, _, _, _, rfl, rfl⟩
theorem w_33_l18 {b_n : Int} {b_q : Int} {q : S2} {x : D} {rr : Rho} {sx : Sto} (hB : ∀ s, Wf (ss st s)) (h0 : 0 < st.length) (h : (O.law_k04_l18 q x) = true) (hI : (I_33_18 st b_n b_q) q rr sx) : Holds (kBody ⟨callF T wf (k + 19), wf, T.length⟩ f33_b18 (evTg ⟨callF T wf (k + 19), wf, T.length⟩ (.nm 6) (eD x) rr sx)) (QR (I_33_18 st b_n b_q) (fun r => QF 0 (.ok (eB r) [])) (V.law_k04_l18 q x)) (ER (fun r => EF 0 (.ok (eB r) [])) (V.law_k04_l18 q x)) := by
  obtain ⟨w0, w2, w3, w4, w5, w6, w7, w10, w11, w12, w13, w14, e1, e2⟩ := hI
  subst e1 e2
  have hx := a1 h
  have h := a2 h
  refine HB (T_nm (hx)) ?_
  refine HS_ifV (Q := fun b => QR (I_33_18 st b_n b_q) (fun r => QF 0 (.ok (eB r) [])) (bif b then (.rt false) else (.nx q))) (E := fun b => ER (fun r => EF 0 (.ok (eB r) [])) (bif b then (.rt false) else (.nx q))) (E_or (E_neV (e := eS) (a1 (a2 (a2 h))) (a1 (a2 (a2 (a2 h)))) (E_c0 (E_callF (Es_cons (E_cst) (Es_cons (E_var rfl) (Es_cons (E_cst) (Es_cons (E_cst) (Es_cons (E_cst) (Es_nil)))))) (mlc (Nl.nl (e := eI) (1 : Int)) (mlc (a1 h) (mlc (rfl) (mlc (rfl) (mlc (rfl) (ml0)))))) (w_30 hwf (hB _) (a_n := x) (a_q := (.int 2 : D)) (a_k := (.non : D)) (a_x := (.non : D)) (a1 (a2 h))))) (E_cst)) (fun hc17 => E_neV (e := eS) (a1 (a2 (a2 (i0 (a1 (a2 (a2 (a2 (a2 h))))) hc17)))) (a2 (a2 (a2 (i0 (a1 (a2 (a2 (a2 (a2 h))))) hc17)))) (E_c0 (E_callF (Es_cons (E_cst) (Es_cons (E_var rfl) (Es_cons (E_cst) (Es_cons (E_cst) (Es_cons (E_cst) (Es_nil)))))) (mlc (Nl.nl (e := eI) (2 : Int)) (mlc (a1 (i0 (a1 (a2 (a2 (a2 (a2 h))))) hc17)) (mlc (rfl) (mlc (rfl) (mlc (rfl) (ml0)))))) (w_30 hwf (hB _) (a_n := x) (a_q := (.int 2 : D)) (a_k := (.int 0 : D)) (a_x := (.non : D)) (a1 (a2 (i0 (a1 (a2 (a2 (a2 (a2 h))))) hc17)))))) (E_cst))) (fun hc => ?_) (fun hc => ?_)
  · show HS _ _ _ _ (QR (I_33_18 st b_n b_q) (fun r => QF 0 (.ok (eB r) [])) (.rt false)) (ER (fun r => EF 0 (.ok (eB r) [])) (.rt false))
    have h := c1 (a2 (a2 (a2 (a2 (a2 h))))) hc
    exact HS_ret (E_cst) (⟨⟨_, rfl⟩, q_law⟩)
  · show HS _ _ _ _ (QR (I_33_18 st b_n b_q) (fun r => QF 0 (.ok (eB r) [])) (.nx q)) (ER (fun r => EF 0 (.ok (eB r) [])) (.nx q))
    have h := c0 (a2 (a2 (a2 (a2 (a2 h))))) hc
    exact HS_nil ⟨.inl rfl, _, _, _, _, _, _, _, _, _, _, _, _, rfl, rfl⟩
theorem w_33_l20 {b_n : Int} {b_q : Int} {q : S2} {x : D} {rr : Rho} {sx : Sto} (hB : ∀ s, Wf (ss st s)) (h0 : 0 < st.length) (h : (O.law_k04_l20 q x) = true) (hI : (I_33_20 st b_n b_q) q rr sx) : Holds (kBody ⟨callF T wf (k + 19), wf, T.length⟩ f33_b20 (evTg ⟨callF T wf (k + 19), wf, T.length⟩ (.nm 6) (eD x) rr sx)) (QR (I_33_20 st b_n b_q) (fun r => QF 0 (.ok (eB r) [])) (V.law_k04_l20 q x)) (ER (fun r => EF 0 (.ok (eB r) [])) (V.law_k04_l20 q x)) := by
  obtain ⟨w0, w2, w3, w4, w5, w6, w7, w10, w11, w12, w13, w14, e1, e2⟩ := hI
  subst e1 e2
  have hx := a1 h
  have h := a2 h
  refine HB (T_nm (hx)) ?_
  refine HS_ifV (Q := fun b => QR (I_33_20 st b_n b_q) (fun r => QF 0 (.ok (eB r) [])) (bif b then (.rt false) else (.nx q))) (E := fun b => ER (fun r => EF 0 (.ok (eB r) [])) (bif b then (.rt false) else (.nx q))) (E_neV (e := (eL eS)) (a1 (a2 (a2 (a2 (a2 h))))) (a1 (a2 (a2 (a2 (a2 (a2 h)))))) (E_frzL (e := eS) (xs := (List.map (fun (y18 : Int) => (V.l_told_k04 y18 (.int 3 : D) x (.int 1 : D) (.int 1 : D)).1) (rI (0 : Int) (3 : Int)))) (E_comp (e := eI) (e2 := eS) (f := (fun (y18 : Int) => (V.l_told_k04 y18 (.int 3 : D) x (.int 1 : D) (.int 1 : D)).1)) (a1 (a2 h)) (S_rng1 (a1 h) (E_cst)) (trivial) (fun y18 hm19 => ⟨_, T_nm (Nl.nl (e := eI) y18), E_c0 (E_callF (Es_cons (E_var rfl) (Es_cons (E_cst) (Es_cons (E_var rfl) (Es_cons (E_cst) (Es_cons (E_cst) (Es_nil)))))) (mlc (Nl.nl (e := eI) y18) (mlc (rfl) (mlc (a1 (List.all_eq_true.mp (a1 (a2 (a2 h))) y18 hm19)) (mlc (rfl) (mlc (rfl) (ml0)))))) (w_30 hwf (hB _) (a_n := (.int 3 : D)) (a_q := x) (a_k := (.int 1 : D)) (a_x := (.int 1 : D)) (a2 (List.all_eq_true.mp (a1 (a2 (a2 h))) y18 hm19))))⟩) (fun _ _ => Nl.nl (e := eS) _))) (E_frzL (e := eS) (xs := (repL (3 : Int) [S_malformed])) (E_mulL (e := eS) (a1 (a2 (a2 (a2 h)))) (E_lst (Es_cons (E_cst) (Es_nil)) (mlc (Nl.nl (e := eS) S_malformed) (ml0))) (E_cst)))) (fun hc => ?_) (fun hc => ?_)
  · show HS _ _ _ _ (QR (I_33_20 st b_n b_q) (fun r => QF 0 (.ok (eB r) [])) (.rt false)) (ER (fun r => EF 0 (.ok (eB r) [])) (.rt false))
    have h := c1 (a2 (a2 (a2 (a2 (a2 (a2 h)))))) hc
    exact HS_ret (E_cst) (⟨⟨_, rfl⟩, q_law⟩)
  · show HS _ _ _ _ (QR (I_33_20 st b_n b_q) (fun r => QF 0 (.ok (eB r) [])) (.nx q)) (ER (fun r => EF 0 (.ok (eB r) [])) (.nx q))
    have h := c0 (a2 (a2 (a2 (a2 (a2 (a2 h)))))) hc
    exact HS_nil ⟨.inl rfl, _, _, _, _, _, _, _, _, _, _, _, _, rfl, rfl⟩
theorem w_33_l22 {b_n : Int} {b_q : Int} {q : S2} {x : D} {rr : Rho} {sx : Sto} (hB : ∀ s, Wf (ss st s)) (h0 : 0 < st.length) (h : (O.law_k04_l22 b_n b_q q x) = true) (hI : (I_33_22 st b_n b_q) q rr sx) : Holds (kBody ⟨callF T wf (k + 19), wf, T.length⟩ f33_b22 (evTg ⟨callF T wf (k + 19), wf, T.length⟩ (.nm 6) (eD x) rr sx)) (QR (I_33_22 st b_n b_q) (fun r => QF 0 (.ok (eB r) [])) (V.law_k04_l22 b_n b_q q x)) (ER (fun r => EF 0 (.ok (eB r) [])) (V.law_k04_l22 b_n b_q q x)) := by
  obtain ⟨w0, w2, w3, w4, w5, w6, w7, w10, w11, w12, w13, w14, e1, e2⟩ := hI
  subst e1 e2
  have hx := a1 h
  have h := a2 h
  refine HB (T_nm (hx)) ?_
  refine HS_ifV (Q := fun b => QR (I_33_22 st b_n b_q) (fun r => QF 0 (.ok (eB r) [])) (bif b then (.rt false) else (.nx q))) (E := fun b => ER (fun r => EF 0 (.ok (eB r) [])) (bif b then (.rt false) else (.nx q))) (E_or (E_neV (e := eS) (a1 (a2 (a2 h))) (a1 (a2 (a2 (a2 h)))) (E_c0 (E_callF (Es_cons (E_cst) (Es_cons (E_var rfl) (Es_cons (E_var rfl) (Es_cons (E_var rfl) (Es_cons (E_cst) (Es_nil)))))) (mlc (Nl.nl (e := eI) (0 : Int)) (mlc (Nl.nl (e := eI) b_n) (mlc (Nl.nl (e := eI) b_q) (mlc (a1 h) (mlc (rfl) (ml0)))))) (w_30 hwf (hB _) (a_n := (eI b_n)) (a_q := (eI b_q)) (a_k := x) (a_x := (.int 0 : D)) (a1 (a2 h))))) (E_cst)) (fun hc22 => E_or (E_neV (e := eS) (a1 (a2 (a2 (i0 (a1 (a2 (a2 (a2 (a2 h))))) hc22)))) (a1 (a2 (a2 (a2 (i0 (a1 (a2 (a2 (a2 (a2 h))))) hc22))))) (E_c0 (E_callF (Es_cons (E_cst) (Es_cons (E_var rfl) (Es_cons (E_var rfl) (Es_cons (E_cst) (Es_cons (E_var rfl) (Es_nil)))))) (mlc (Nl.nl (e := eI) (0 : Int)) (mlc (Nl.nl (e := eI) b_n) (mlc (Nl.nl (e := eI) b_q) (mlc (rfl) (mlc (a1 (i0 (a1 (a2 (a2 (a2 (a2 h))))) hc22)) (ml0)))))) (w_30 hwf (hB _) (a_n := (eI b_n)) (a_q := (eI b_q)) (a_k := (.int 0 : D)) (a_x := x) (a1 (a2 (i0 (a1 (a2 (a2 (a2 (a2 h))))) hc22)))))) (E_cst)) (fun hc21 => E_neV (e := eS) (a1 (a2 (a2 (i0 (a2 (a2 (a2 (a2 (i0 (a1 (a2 (a2 (a2 (a2 h))))) hc22))))) hc21)))) (a2 (a2 (a2 (i0 (a2 (a2 (a2 (a2 (i0 (a1 (a2 (a2 (a2 (a2 h))))) hc22))))) hc21)))) (E_c0 (E_callF (Es_cons (E_cst) (Es_cons (E_var rfl) (Es_cons (E_var rfl) (Es_cons (E_var rfl) (Es_cons (E_cst) (Es_nil)))))) (mlc (Nl.nl (e := eI) (2 : Int)) (mlc (Nl.nl (e := eI) b_n) (mlc (Nl.nl (e := eI) b_q) (mlc (a1 (i0 (a2 (a2 (a2 (a2 (i0 (a1 (a2 (a2 (a2 (a2 h))))) hc22))))) hc21)) (mlc (rfl) (ml0)))))) (w_30 hwf (hB _) (a_n := (eI b_n)) (a_q := (eI b_q)) (a_k := x) (a_x := (.non : D)) (a1 (a2 (i0 (a2 (a2 (a2 (a2 (i0 (a1 (a2 (a2 (a2 (a2 h))))) hc22))))) hc21)))))) (E_cst)))) (fun hc => ?_) (fun hc => ?_)
  · show HS _ _ _ _ (QR (I_33_22 st b_n b_q) (fun r => QF 0 (.ok (eB r) [])) (.rt false)) (ER (fun r => EF 0 (.ok (eB r) [])) (.rt false))
    have h := c1 (a2 (a2 (a2 (a2 (a2 h))))) hc
    exact HS_ret (E_cst) (⟨⟨_, rfl⟩, q_law⟩)
  · show HS _ _ _ _ (QR (I_33_22 st b_n b_q) (fun r => QF 0 (.ok (eB r) [])) (.nx q)) (ER (fun r => EF 0 (.ok (eB r) [])) (.nx q))
    have h := c0 (a2 (a2 (a2 (a2 (a2 h))))) hc
    exact HS_nil ⟨.inl rfl, _, _, _, _, _, _, _, _, _, _, _, _, rfl, rfl⟩
theorem w_33_r21 {b_n : Int} {b_q : Int} {sv : S2} {w0 w2 w3 w4 w5 w6 w7 w10 w11 w12 w13 w14 : Option D} (hB : ∀ s, Wf (ss st s)) (h0 : 0 < st.length) (h : (O.law_k04_r21 b_n b_q sv) = true) : HS ⟨callF T wf (k + 19), wf, T.length⟩ f33_r21 [w0, some (.lr 0), w2, w3, w4, w5, w6, w7, some (eI b_n), some (eI b_q), w10, w11, w12, w13, w14] (ss st sv) (QF 0 (.ok (eB (V.law_k04_r21 b_n b_q sv)) [])) (EF 0 (.ok (eB (V.law_k04_r21 b_n b_q sv)) [])) := by
  refine HS_forR (I := (I_33_22 st b_n b_q)) (step := (V.law_k04_l22 b_n b_q)) (ok := (O.law_k04_l22 b_n b_q)) (xs := [(eI (-1 : Int)), (eI (b_n + (1 : Int))), (.non : D), (.bl true : D), (.str S_1 : D)]) (s0 := sv) (e := eD) (f := fun q => true) (g := fun q => true) (Q := fun r => QF 0 (.ok (eB r) [])) (E := fun r => EF 0 (.ok (eB r) [])) (S_seq v_F (E_lst (Es_cons (E_neg (E_cst)) (Es_cons (E_add (E_var rfl) (E_cst)) (Es_cons (E_cst) (Es_cons (E_cst) (Es_cons (E_cst) (Es_nil)))))) (mlc (Nl.nl (e := eI) (-1 : Int)) (mlc (Nl.nl (e := eI) (b_n + (1 : Int))) (mlc (rfl) (mlc (rfl) (mlc (rfl) (ml0)))))))) (fun _ _ _ _ => trivial) ⟨_, _, _, _, _, _, _, _, _, _, _, _, rfl, rfl⟩ (a1 h) (a2 h) (fun q x rr sx h hI => w_33_l22 hwf hB h0 h hI) ?_
  intro q
  intro rr sx h hI
  obtain ⟨w0, w2, w3, w4, w5, w6, w7, w10, w11, w12, w13, w14, e1, e2⟩ := hI
  subst e1 e2
  exact HS_ret (E_cst) (q_law)
theorem w_33_r19 {b_n : Int} {b_q : Int} {sv : S2} {w0 w2 w3 w4 w5 w6 w7 w10 w11 w12 w13 w14 : Option D} (hB : ∀ s, Wf (ss st s)) (h0 : 0 < st.length) (h : (O.law_k04_r19 b_n b_q sv) = true) : HS ⟨callF T wf (k + 19), wf, T.length⟩ f33_r19 [w0, some (.lr 0), w2, w3, w4, w5, w6, w7, some (eI b_n), some (eI b_q), w10, w11, w12, w13, w14] (ss st sv) (QF 0 (.ok (eB (V.law_k04_r19 b_n b_q sv)) [])) (EF 0 (.ok (eB (V.law_k04_r19 b_n b_q sv)) [])) := by
  refine HS_forR (I := (I_33_20 st b_n b_q)) (step := (V.law_k04_l20)) (ok := (O.law_k04_l20)) (xs := [(.int 1 : D), (.int 17 : D), (.int 0 : D), (.non : D), (.bl true : D), (.str S_2 : D)]) (s0 := sv) (e := eD) (f := fun q => (V.law_k04_r21 b_n b_q q)) (g := fun q => (O.law_k04_r21 b_n b_q q)) (Q := fun r => QF 0 (.ok (eB r) [])) (E := fun r => EF 0 (.ok (eB r) [])) (S_seq v_F (E_lst (Es_cons (E_cst) (Es_cons (E_cst) (Es_cons (E_cst) (Es_cons (E_cst) (Es_cons (E_cst) (Es_cons (E_cst) (Es_nil))))))) (mlc (rfl) (mlc (rfl) (mlc (rfl) (mlc (rfl) (mlc (rfl) (mlc (rfl) (ml0))))))))) (fun _ _ _ _ => trivial) ⟨_, _, _, _, _, _, _, _, _, _, _, _, rfl, rfl⟩ (a1 h) (a2 h) (fun q x rr sx h hI => w_33_l20 hwf hB h0 h hI) ?_
  intro q
  intro rr sx h hI
  obtain ⟨w0, w2, w3, w4, w5, w6, w7, w10, w11, w12, w13, w14, e1, e2⟩ := hI
  subst e1 e2
  exact w_33_r21 hwf hB h0 h
theorem w_33_r17 {b_n : Int} {b_q : Int} {sv : S2} {w0 w2 w3 w4 w5 w6 w7 w10 w11 w12 w13 w14 : Option D} (hB : ∀ s, Wf (ss st s)) (h0 : 0 < st.length) (h : (O.law_k04_r17 b_n b_q sv) = true) : HS ⟨callF T wf (k + 19), wf, T.length⟩ f33_r17 [w0, some (.lr 0), w2, w3, w4, w5, w6, w7, some (eI b_n), some (eI b_q), w10, w11, w12, w13, w14] (ss st sv) (QF 0 (.ok (eB (V.law_k04_r17 b_n b_q sv)) [])) (EF 0 (.ok (eB (V.law_k04_r17 b_n b_q sv)) [])) := by
  refine HS_forR (I := (I_33_18 st b_n b_q)) (step := (V.law_k04_l18)) (ok := (O.law_k04_l18)) (xs := [(.int 0 : D), (.int 25 : D), (eI (-1 : Int)), (.non : D), (.bl true : D), (.str S_3 : D)]) (s0 := sv) (e := eD) (f := fun q => (V.law_k04_r19 b_n b_q q)) (g := fun q => (O.law_k04_r19 b_n b_q q)) (Q := fun r => QF 0 (.ok (eB r) [])) (E := fun r => EF 0 (.ok (eB r) [])) (S_seq v_F (E_lst (Es_cons (E_cst) (Es_cons (E_cst) (Es_cons (E_neg (E_cst)) (Es_cons (E_cst) (Es_cons (E_cst) (Es_cons (E_cst) (Es_nil))))))) (mlc (rfl) (mlc (rfl) (mlc (Nl.nl (e := eI) (-1 : Int)) (mlc (rfl) (mlc (rfl) (mlc (rfl) (ml0))))))))) (fun _ _ _ _ => trivial) ⟨_, _, _, _, _, _, _, _, _, _, _, _, rfl, rfl⟩ (a1 h) (a2 h) (fun q x rr sx h hI => w_33_l18 hwf hB h0 h hI) ?_
  intro q
  intro rr sx h hI
  obtain ⟨w0, w2, w3, w4, w5, w6, w7, w10, w11, w12, w13, w14, e1, e2⟩ := hI
  subst e1 e2
  exact w_33_r19 hwf hB h0 h
theorem w_33_r15 {b_n : Int} {b_q : Int} {sv : S2} {w0 w2 w3 w4 w5 w6 w7 w10 w11 w12 w13 w14 : Option D} (hB : ∀ s, Wf (ss st s)) (h0 : 0 < st.length) (h : (O.law_k04_r15 b_n b_q sv) = true) : HS ⟨callF T wf (k + 19), wf, T.length⟩ f33_r15 [w0, some (.lr 0), w2, w3, w4, w5, w6, w7, some (eI b_n), some (eI b_q), w10, w11, w12, w13, w14] (ss st sv) (QF 0 (.ok (eB (V.law_k04_r15 b_n b_q sv)) [])) (EF 0 (.ok (eB (V.law_k04_r15 b_n b_q sv)) [])) := by
  refine HS_forR (I := (I_33_16 st b_n b_q)) (step := (V.law_k04_l16)) (ok := (O.law_k04_l16)) (xs := [(.int 0 : D), (.int 49 : D), (eI (-1 : Int)), (.non : D), (.bl true : D), (.str S_3 : D)]) (s0 := sv) (e := eD) (f := fun q => (V.law_k04_r17 b_n b_q q)) (g := fun q => (O.law_k04_r17 b_n b_q q)) (Q := fun r => QF 0 (.ok (eB r) [])) (E := fun r => EF 0 (.ok (eB r) [])) (S_seq v_F (E_lst (Es_cons (E_cst) (Es_cons (E_cst) (Es_cons (E_neg (E_cst)) (Es_cons (E_cst) (Es_cons (E_cst) (Es_cons (E_cst) (Es_nil))))))) (mlc (rfl) (mlc (rfl) (mlc (Nl.nl (e := eI) (-1 : Int)) (mlc (rfl) (mlc (rfl) (mlc (rfl) (ml0))))))))) (fun _ _ _ _ => trivial) ⟨_, _, _, _, _, _, _, _, _, _, _, _, rfl, rfl⟩ (a1 h) (a2 h) (fun q x rr sx h hI => w_33_l16 hwf hB h0 h hI) ?_
  intro q
  intro rr sx h hI
  obtain ⟨w0, w2, w3, w4, w5, w6, w7, w10, w11, w12, w13, w14, e1, e2⟩ := hI
  subst e1 e2
  exact w_33_r17 hwf hB h0 h
theorem w_33_r14 {b_table : List (List Int)} {b_k : Int} {b_told : (List Nat) × D} {b_n : Int} {b_q : Int} {sv : S2} {w0 w2 w6 w7 w10 w11 w12 w13 w14 : Option D} (hB : ∀ s, Wf (ss st s)) (h0 : 0 < st.length) (h : (O.law_k04_r14 b_table b_k b_told b_n b_q sv) = true) : HS ⟨callF T wf (k + 19), wf, T.length⟩ f33_r14 [w0, some (.lr 0), w2, some ((eT (eT eI)) b_table), some (eI b_k), some ((eP2 eS eD) b_told), w6, w7, some (eI b_n), some (eI b_q), w10, w11, w12, w13, w14] (ss st sv) (QF 0 (.ok (eB (V.law_k04_r14 b_table b_k b_told b_n b_q sv)) [])) (EF 0 (.ok (eB (V.law_k04_r14 b_table b_k b_told b_n b_q sv)) [])) := by
  refine HS_ifV (Q := fun b => QF 0 (.ok (eB (bif b then false else (V.law_k04_r15 b_n b_q sv))) [])) (E := fun b => EF 0 (.ok (eB (bif b then false else (V.law_k04_r15 b_n b_q sv))) [])) (E_or (E_neV (e := eS) (a1 h) (a1 (a2 h)) (E_c0 (E_var rfl)) (E_cst)) (fun hc16 => E_or (E_not (E_callF (Es_cons (E_c1 (E_var rfl)) (Es_cons (E_var rfl) (Es_nil))) (mlc (a1 (i0 (a1 (a2 (a2 h))) hc16)) (mlc (Nl.nl (e := eI) b_k) (ml0))) (w_29 hwf (a_row := b_told.2) (a1 (a2 (i0 (a1 (a2 (a2 h))) hc16)))))) (fun hc15 => E_not (E_all (f := (fun (y12 : Int) => (((V.l_value (Un.un (eT (eP2 eI eI)) b_told.2) y12) == ((getI (getI b_table y12) b_k), (1 : Int)))))) (zs := (rI (0 : Int) (b_n + (1 : Int)))) lF (E_comp (e := eI) (e2 := eB) (f := (fun (y12 : Int) => (((V.l_value (Un.un (eT (eP2 eI eI)) b_told.2) y12) == ((getI (getI b_table y12) b_k), (1 : Int)))))) (a1 (a2 (i0 (a2 (a2 (i0 (a1 (a2 (a2 h))) hc16))) hc15))) (S_rng1 (a1 (i0 (a2 (a2 (i0 (a1 (a2 (a2 h))) hc16))) hc15)) (E_add (E_var rfl) (E_cst))) (trivial) (fun y12 hm13 => ⟨_, T_nm (Nl.nl (e := eI) y12), E_eq (e := (eP2 eI eI)) (by decide) (E_callF (Es_cons (E_un (e := (eT (eP2 eI eI))) (a1 (List.all_eq_true.mp (a2 (a2 (i0 (a2 (a2 (i0 (a1 (a2 (a2 h))) hc16))) hc15))) y12 hm13)) (E_c1 (E_var rfl))) (Es_cons (E_var rfl) (Es_nil))) (mlc (Nl.nl (e := (eT (eP2 eI eI))) (Un.un (eT (eP2 eI eI)) b_told.2)) (mlc (Nl.nl (e := eI) y12) (ml0))) (w_28 hwf (a_row := (Un.un (eT (eP2 eI eI)) b_told.2)) (a1 (a2 (List.all_eq_true.mp (a2 (a2 (i0 (a2 (a2 (i0 (a1 (a2 (a2 h))) hc16))) hc15))) y12 hm13))))) (E_tup (Es_cons (E_ix (e := eI) sT (a2 (a2 (a2 (List.all_eq_true.mp (a2 (a2 (i0 (a2 (a2 (i0 (a1 (a2 (a2 h))) hc16))) hc15))) y12 hm13)))) (E_ix (e := (eT eI)) sT (a1 (a2 (a2 (List.all_eq_true.mp (a2 (a2 (i0 (a2 (a2 (i0 (a1 (a2 (a2 h))) hc16))) hc15))) y12 hm13)))) (E_var rfl) (E_var rfl)) (E_var rfl)) (Es_cons (E_cst) (Es_nil))) (mlc (Nl.nl (e := eI) (getI (getI b_table y12) b_k)) (mlc (Nl.nl (e := eI) (1 : Int)) (ml0))))⟩) (fun _ _ => Nl.nl (e := eB) _)))))) (fun hc => ?_) (fun hc => ?_)
  · show HS _ _ _ _ (QF 0 (.ok (eB false) [])) (EF 0 (.ok (eB false) []))
    have h := c1 (a2 (a2 (a2 h))) hc
    exact HS_ret (E_cst) (q_law)
  · show HS _ _ _ _ (QF 0 (.ok (eB (V.law_k04_r15 b_n b_q sv)) [])) (EF 0 (.ok (eB (V.law_k04_r15 b_n b_q sv)) []))
    have h := c0 (a2 (a2 (a2 h))) hc
    exact w_33_r15 hwf hB h0 h
theorem w_33_r13 {b_table : List (List Int)} {b_k : Int} {b_n : Int} {b_q : Int} {sv : S2} {w0 w2 w5 w6 w7 w10 w11 w12 w13 w14 : Option D} (hB : ∀ s, Wf (ss st s)) (h0 : 0 < st.length) (h : (O.law_k04_r13 b_table b_k b_n b_q sv) = true) : HS ⟨callF T wf (k + 19), wf, T.length⟩ f33_r13 [w0, some (.lr 0), w2, some ((eT (eT eI)) b_table), some (eI b_k), w5, w6, w7, some (eI b_n), some (eI b_q), w10, w11, w12, w13, w14] (ss st sv) (QF 0 (.ok (eB (V.law_k04_r13 b_table b_k b_n b_q sv)) [])) (EF 0 (.ok (eB (V.law_k04_r13 b_table b_k b_n b_q sv)) [])) := by
  refine HS_asg (E_callF (Es_cons (E_cst) (Es_cons (E_var rfl) (Es_cons (E_var rfl) (Es_cons (E_var rfl) (Es_cons (E_cst) (Es_nil)))))) (mlc (Nl.nl (e := eI) (2 : Int)) (mlc (Nl.nl (e := eI) b_n) (mlc (Nl.nl (e := eI) b_q) (mlc (Nl.nl (e := eI) b_k) (mlc (rfl) (ml0)))))) (w_30 hwf (hB _) (a_n := (eI b_n)) (a_q := (eI b_q)) (a_k := (eI b_k)) (a_x := (.non : D)) (a1 h))) (T_nm (Nl.nl (e := (eP2 eS eD)) (V.l_told_k04 (2 : Int) (eI b_n) (eI b_q) (eI b_k) (.non : D)))) ?_
  have h := (a2 h)
  exact w_33_r14 hwf hB h0 h
theorem w_33_r12 {b_table : List (List Int)} {b_n : Int} {b_q : Int} {sv : S2} {w0 w2 w4 w5 w6 w7 w10 w11 w12 w13 w14 : Option D} (hB : ∀ s, Wf (ss st s)) (h0 : 0 < st.length) (h : (O.law_k04_r12 b_table b_n b_q sv) = true) : HS ⟨callF T wf (k + 19), wf, T.length⟩ f33_r12 [w0, some (.lr 0), w2, some ((eT (eT eI)) b_table), w4, w5, w6, w7, some (eI b_n), some (eI b_q), w10, w11, w12, w13, w14] (ss st sv) (QF 0 (.ok (eB (V.law_k04_r12 b_table b_n b_q sv)) [])) (EF 0 (.ok (eB (V.law_k04_r12 b_table b_n b_q sv)) [])) := by
  refine HS_asg (E_callF (Es_cons (E_var rfl) (Es_cons (E_add (E_var rfl) (E_cst)) (Es_nil))) (mlc (rfl) (mlc (Nl.nl (e := eI) (b_n + (1 : Int))) (ml0))) (take_w (T := T) (wf := wf) (g := 17) rfl h0 (a_m := (b_n + (1 : Int))) (a1 h))) (T_nm (Nl.nl (e := eI) ((V.l_take sv (b_n + (1 : Int))).1))) ?_
  have h := (a2 h)
  exact w_33_r13 hwf hB h0 h
theorem w_33_r11 {b_table : List (List Int)} {b_n : Int} {b_q : Int} {b_i : Int} {b_j : Int} {sv : S2} {w0 w2 w4 w5 w6 w7 w12 w13 w14 : Option D} (hB : ∀ s, Wf (ss st s)) (h0 : 0 < st.length) (h : (O.law_k04_r11 b_table b_n b_q b_i b_j sv) = true) : HS ⟨callF T wf (k + 19), wf, T.length⟩ f33_r11 [w0, some (.lr 0), w2, some ((eT (eT eI)) b_table), w4, w5, w6, w7, some (eI b_n), some (eI b_q), some (eI b_i), some (eI b_j), w12, w13, w14] (ss st sv) (QF 0 (.ok (eB (V.law_k04_r11 b_table b_n b_q b_i b_j sv)) [])) (EF 0 (.ok (eB (V.law_k04_r11 b_table b_n b_q b_i b_j sv)) [])) := by
  refine HS_ifV (Q := fun b => QF 0 (.ok (eB (bif b then false else (V.law_k04_r12 b_table b_n b_q sv))) [])) (E := fun b => EF 0 (.ok (eB (bif b then false else (V.law_k04_r12 b_table b_n b_q sv))) [])) (E_neI (E_sum lF (E_comp (e := eI) (e2 := eI) (f := (fun (y8 : Int) => ((getI (getI b_table b_i) y8) * (getI (getI b_table y8) b_j)))) (a1 (a2 h)) (S_rng1 (a1 h) (E_add (E_var rfl) (E_cst))) (trivial) (fun y8 hm9 => ⟨_, T_nm (Nl.nl (e := eI) y8), E_mul (a2 (a2 (a2 (a2 (List.all_eq_true.mp (a1 (a2 (a2 h))) y8 hm9))))) (E_ix (e := eI) sT (a1 (a2 (List.all_eq_true.mp (a1 (a2 (a2 h))) y8 hm9))) (E_ix (e := (eT eI)) sT (a1 (List.all_eq_true.mp (a1 (a2 (a2 h))) y8 hm9)) (E_var rfl) (E_var rfl)) (E_var rfl)) (E_ix (e := eI) sT (a1 (a2 (a2 (a2 (List.all_eq_true.mp (a1 (a2 (a2 h))) y8 hm9))))) (E_ix (e := (eT eI)) sT (a1 (a2 (a2 (List.all_eq_true.mp (a1 (a2 (a2 h))) y8 hm9)))) (E_var rfl) (E_var rfl)) (E_var rfl))⟩) (fun _ _ => Nl.nl (e := eI) _))) (E_ite (e := eI) (E_eqI (E_var rfl) (E_var rfl)) (fun hc11 => E_callF (Es_cons (E_var rfl) (Es_cons (E_var rfl) (Es_nil))) (mlc (Nl.nl (e := eI) b_q) (mlc (Nl.nl (e := eI) b_n) (ml0))) (w_32 hwf (i1 (a1 (a2 (a2 (a2 h)))) hc11))) (fun hc11 => E_cst))) (fun hc => ?_) (fun hc => ?_)
  · show HS _ _ _ _ (QF 0 (.ok (eB false) [])) (EF 0 (.ok (eB false) []))
    have h := c1 (a2 (a2 (a2 (a2 h)))) hc
    exact HS_ret (E_cst) (q_law)
  · show HS _ _ _ _ (QF 0 (.ok (eB (V.law_k04_r12 b_table b_n b_q sv)) [])) (EF 0 (.ok (eB (V.law_k04_r12 b_table b_n b_q sv)) []))
    have h := c0 (a2 (a2 (a2 (a2 h)))) hc
    exact w_33_r12 hwf hB h0 h
theorem w_33_r10 {b_table : List (List Int)} {b_n : Int} {b_q : Int} {sv : S2} {w0 w2 w4 w5 w6 w7 w10 w11 w12 w13 w14 : Option D} (hB : ∀ s, Wf (ss st s)) (h0 : 0 < st.length) (h : (O.law_k04_r10 b_table b_n b_q sv) = true) : HS ⟨callF T wf (k + 19), wf, T.length⟩ f33_r10 [w0, some (.lr 0), w2, some ((eT (eT eI)) b_table), w4, w5, w6, w7, some (eI b_n), some (eI b_q), w10, w11, w12, w13, w14] (ss st sv) (QF 0 (.ok (eB (V.law_k04_r10 b_table b_n b_q sv)) [])) (EF 0 (.ok (eB (V.law_k04_r10 b_table b_n b_q sv)) [])) := by
  refine HS_asg (E_tup (Es_cons (E_callF (Es_cons (E_var rfl) (Es_cons (E_add (E_var rfl) (E_cst)) (Es_nil))) (mlc (rfl) (mlc (Nl.nl (e := eI) (b_n + (1 : Int))) (ml0))) (take_w (T := T) (wf := wf) (g := 17) rfl h0 (a_m := (b_n + (1 : Int))) (a1 h))) (Es_cons (E_callF (Es_cons (E_var rfl) (Es_cons (E_add (E_var rfl) (E_cst)) (Es_nil))) (mlc (rfl) (mlc (Nl.nl (e := eI) (b_n + (1 : Int))) (ml0))) (take_w (T := T) (wf := wf) (g := 17) rfl h0 (a_m := (b_n + (1 : Int))) (a1 (a2 h)))) (Es_nil))) (mlc (Nl.nl (e := eI) ((V.l_take sv (b_n + (1 : Int))).1)) (mlc (Nl.nl (e := eI) ((V.l_take ((V.l_take sv (b_n + (1 : Int))).2) (b_n + (1 : Int))).1)) (ml0)))) (T_tp rfl rfl (Ts_cons (T_nm (Nl.nl (e := eI) ((V.l_take sv (b_n + (1 : Int))).1))) (Ts_cons (T_nm (Nl.nl (e := eI) ((V.l_take ((V.l_take sv (b_n + (1 : Int))).2) (b_n + (1 : Int))).1))) (Ts_nil)))) ?_
  have h := (a2 (a2 h))
  exact w_33_r11 hwf hB h0 h
theorem w_33_r9 {b_table : List (List Int)} {b_n : Int} {b_q : Int} {sv : S2} {w0 w2 w4 w5 w6 w7 w10 w11 w12 w13 w14 : Option D} (hB : ∀ s, Wf (ss st s)) (h0 : 0 < st.length) (h : (O.law_k04_r9 b_table b_n b_q sv) = true) : HS ⟨callF T wf (k + 19), wf, T.length⟩ f33_r9 [w0, some (.lr 0), w2, some ((eT (eT eI)) b_table), w4, w5, w6, w7, some (eI b_n), some (eI b_q), w10, w11, w12, w13, w14] (ss st sv) (QF 0 (.ok (eB (V.law_k04_r9 b_table b_n b_q sv)) [])) (EF 0 (.ok (eB (V.law_k04_r9 b_table b_n b_q sv)) [])) := by
  refine HS_ifV (Q := fun b => QF 0 (.ok (eB (bif b then false else (V.law_k04_r10 b_table b_n b_q sv))) [])) (E := fun b => EF 0 (.ok (eB (bif b then false else (V.law_k04_r10 b_table b_n b_q sv))) [])) (E_not (E_callFE [((eP2 eS eD) (V.l_told_k04 (1 : Int) (eI b_n) (eI b_q) (.non : D) (.non : D))), ((eP2 eS (eT (eT eI))) (S_told, b_table))] (Es_cons (E_callF (Es_cons (E_cst) (Es_cons (E_var rfl) (Es_cons (E_var rfl) (Es_cons (E_cst) (Es_cons (E_cst) (Es_nil)))))) (mlc (Nl.nl (e := eI) (1 : Int)) (mlc (Nl.nl (e := eI) b_n) (mlc (Nl.nl (e := eI) b_q) (mlc (rfl) (mlc (rfl) (ml0)))))) (w_30 hwf (hB _) (a_n := (eI b_n)) (a_q := (eI b_q)) (a_k := (.non : D)) (a_x := (.non : D)) (a1 h))) (Es_cons (E_tup (Es_cons (E_cst) (Es_cons (E_var rfl) (Es_nil))) (mlc (Nl.nl (e := eS) S_told) (mlc (Nl.nl (e := (eT (eT eI))) b_table) (ml0)))) (Es_nil))) rfl (mlc (Nl.nl (e := (eP2 eS eD)) (V.l_told_k04 (1 : Int) (eI b_n) (eI b_q) (.non : D) (.non : D))) (mlc (Nl.nl (e := (eP2 eS (eT (eT eI)))) (S_told, b_table)) (ml0))) (same_w (T := T) (wf := wf) (g := 21) (v := 0) (g1 := 20) rfl rfl (a := ((eP2 eS eD) (V.l_told_k04 (1 : Int) (eI b_n) (eI b_q) (.non : D) (.non : D)))) (b := ((eP2 eS (eT (eT eI))) (S_told, b_table))) (a1 (a2 h))))) (fun hc => ?_) (fun hc => ?_)
  · show HS _ _ _ _ (QF 0 (.ok (eB false) [])) (EF 0 (.ok (eB false) []))
    have h := c1 (a2 (a2 h)) hc
    exact HS_ret (E_cst) (q_law)
  · show HS _ _ _ _ (QF 0 (.ok (eB (V.law_k04_r10 b_table b_n b_q sv)) [])) (EF 0 (.ok (eB (V.law_k04_r10 b_table b_n b_q sv)) []))
    have h := c0 (a2 (a2 h)) hc
    exact w_33_r10 hwf hB h0 h
theorem w_33_r8 {b_n : Int} {b_q : Int} {sv : S2} {w0 w2 w3 w4 w5 w6 w7 w10 w11 w12 w13 w14 : Option D} (hB : ∀ s, Wf (ss st s)) (h0 : 0 < st.length) (h : (O.law_k04_r8 b_n b_q sv) = true) : HS ⟨callF T wf (k + 19), wf, T.length⟩ f33_r8 [w0, some (.lr 0), w2, w3, w4, w5, w6, w7, some (eI b_n), some (eI b_q), w10, w11, w12, w13, w14] (ss st sv) (QF 0 (.ok (eB (V.law_k04_r8 b_n b_q sv)) [])) (EF 0 (.ok (eB (V.law_k04_r8 b_n b_q sv)) [])) := by
  refine HS_asg (E_tuple (e := (eT eI)) sF (E_comp (e := eI) (e2 := (eT eI)) (f := (fun (y2 : Int) => (List.map (fun (y5 : Int) => (V.l_number b_n b_q y5 y2)) (rI (0 : Int) (b_n + (1 : Int)))))) (a1 (a2 h)) (S_rng1 (a1 h) (E_add (E_var rfl) (E_cst))) (trivial) (fun y2 hm3 => ⟨_, T_nm (Nl.nl (e := eI) y2), E_tuple (e := eI) sF (E_comp (e := eI) (e2 := eI) (f := (fun (y5 : Int) => (V.l_number b_n b_q y5 y2))) (a1 (a2 (List.all_eq_true.mp (a1 (a2 (a2 h))) y2 hm3))) (S_rng1 (a1 (List.all_eq_true.mp (a1 (a2 (a2 h))) y2 hm3)) (E_add (E_var rfl) (E_cst))) (trivial) (fun y5 hm6 => ⟨_, T_nm (Nl.nl (e := eI) y5), E_callF (Es_cons (E_var rfl) (Es_cons (E_var rfl) (Es_cons (E_var rfl) (Es_cons (E_var rfl) (Es_nil))))) (mlc (Nl.nl (e := eI) b_n) (mlc (Nl.nl (e := eI) b_q) (mlc (Nl.nl (e := eI) y5) (mlc (Nl.nl (e := eI) y2) (ml0))))) (w_27 hwf (List.all_eq_true.mp (a2 (a2 (List.all_eq_true.mp (a1 (a2 (a2 h))) y2 hm3))) y5 hm6))⟩) (fun _ _ => Nl.nl (e := eI) _))⟩) (fun _ _ => Nl.nl (e := (eT eI)) _))) (T_nm (Nl.nl (e := (eT (eT eI))) (List.map (fun (y2 : Int) => (List.map (fun (y5 : Int) => (V.l_number b_n b_q y5 y2)) (rI (0 : Int) (b_n + (1 : Int))))) (rI (0 : Int) (b_n + (1 : Int)))))) ?_
  have h := (a2 (a2 (a2 h)))
  exact w_33_r9 hwf hB h0 h
theorem w_33_r7 {sv : S2} {w0 w2 w3 w4 w5 w6 w7 w8 w9 w10 w11 w12 w13 w14 : Option D} (hB : ∀ s, Wf (ss st s)) (h0 : 0 < st.length) (h : (O.law_k04_r7 sv) = true) : HS ⟨callF T wf (k + 19), wf, T.length⟩ f33_r7 [w0, some (.lr 0), w2, w3, w4, w5, w6, w7, w8, w9, w10, w11, w12, w13, w14] (ss st sv) (QF 0 (.ok (eB (V.law_k04_r7 sv)) [])) (EF 0 (.ok (eB (V.law_k04_r7 sv)) [])) := by
  refine HS_asg (E_tup (Es_cons (E_add (E_cst) (E_callF (Es_cons (E_var rfl) (Es_cons (E_ix (e := eI) sF (a1 (a2 h)) (E_lst (Es_cons (E_cst) (Es_cons (E_cst) (Es_cons (E_cst) (Es_nil)))) (mlc (Nl.nl (e := eI) (6 : Int)) (mlc (Nl.nl (e := eI) (12 : Int)) (mlc (Nl.nl (e := eI) (24 : Int)) (ml0))))) (E_callF (Es_cons (E_var rfl) (Es_cons (E_cst) (Es_nil))) (mlc (rfl) (mlc (Nl.nl (e := eI) (3 : Int)) (ml0))) (take_w (T := T) (wf := wf) (g := 17) rfl h0 (a_m := (3 : Int)) (a1 h)))) (Es_nil))) (mlc (rfl) (mlc (Nl.nl (e := eI) (getI [(6 : Int), (12 : Int), (24 : Int)] ((V.l_take sv (3 : Int)).1))) (ml0))) (take_w (T := T) (wf := wf) (g := 17) rfl h0 (a_m := (getI [(6 : Int), (12 : Int), (24 : Int)] ((V.l_take sv (3 : Int)).1))) (a1 (a2 (a2 h)))))) (Es_cons (E_add (E_cst) (E_callF (Es_cons (E_var rfl) (Es_cons (E_cst) (Es_nil))) (mlc (rfl) (mlc (Nl.nl (e := eI) (15 : Int)) (ml0))) (take_w (T := T) (wf := wf) (g := 17) rfl h0 (a_m := (15 : Int)) (a1 (a2 (a2 (a2 h))))))) (Es_nil))) (mlc (Nl.nl (e := eI) ((1 : Int) + (V.l_take ((V.l_take sv (3 : Int)).2) (getI [(6 : Int), (12 : Int), (24 : Int)] ((V.l_take sv (3 : Int)).1))).1)) (mlc (Nl.nl (e := eI) ((2 : Int) + (V.l_take ((V.l_take ((V.l_take sv (3 : Int)).2) (getI [(6 : Int), (12 : Int), (24 : Int)] ((V.l_take sv (3 : Int)).1))).2) (15 : Int)).1)) (ml0)))) (T_tp rfl rfl (Ts_cons (T_nm (Nl.nl (e := eI) ((1 : Int) + (V.l_take ((V.l_take sv (3 : Int)).2) (getI [(6 : Int), (12 : Int), (24 : Int)] ((V.l_take sv (3 : Int)).1))).1))) (Ts_cons (T_nm (Nl.nl (e := eI) ((2 : Int) + (V.l_take ((V.l_take ((V.l_take sv (3 : Int)).2) (getI [(6 : Int), (12 : Int), (24 : Int)] ((V.l_take sv (3 : Int)).1))).2) (15 : Int)).1))) (Ts_nil)))) ?_
  have h := (a2 (a2 (a2 (a2 h))))
  exact w_33_r8 hwf hB h0 h
theorem w_law {s : S2} {w0 : Option D} (hB : ∀ s, Wf (ss st s)) (h0 : 0 < st.length) (h : O.law_k04 s = true) : HS ⟨callF T wf (k + 19), wf, T.length⟩ f33_law [w0, some (.lr 0), none, none, none, none, none, none, none, none, none, none, none, none, none] (ss st s) (QF 0 (.ok (eB (V.law_k04 s)) [])) (EF 0 (.ok (eB (V.law_k04 s)) [])) := by
  refine HS_forR (I := (I_33_1 st)) (step := (V.law_k04_l1)) (ok := (O.law_k04_l1)) (xs := (rI (0 : Int) (4 : Int))) (s0 := s) (e := eI) (f := fun q => (V.law_k04_r7 q)) (g := fun q => (O.law_k04_r7 q)) (Q := fun r => QF 0 (.ok (eB r) [])) (E := fun r => EF 0 (.ok (eB r) [])) (S_rng1 (a1 h) (E_cst)) (fun _ _ _ _ => trivial) ⟨_, _, _, _, _, _, _, _, _, _, _, _, _, _, rfl, rfl⟩ (a1 (a2 h)) (a2 (a2 h)) (fun q x rr sx h hI => w_33_l1 hwf hB h0 h hI) ?_
  intro q
  intro rr sx h hI
  obtain ⟨w0, w2, w3, w4, w5, w6, w7, w8, w9, w10, w11, w12, w13, w14, e1, e2⟩ := hI
  subst e1 e2
  exact w_33_r7 hwf hB h0 h
end Gk04
/-! Ky1: choices and Krawtchouk numbers, plain. -/
namespace Ky
def ch : Nat → Nat → Nat
  | _, 0 => 1
  | 0, _ + 1 => 0
  | n + 1, k + 1 => ch n k + ch n (k + 1)
@[simp] theorem ch_zero (n : Nat) : ch n 0 = 1 := by cases n <;> rfl
theorem ch_ss (n k : Nat) : ch (n + 1) (k + 1) = ch n k + ch n (k + 1) := rfl
theorem ch_gt : ∀ {n k : Nat}, n < k → ch n k = 0
  | 0, k + 1, _ => rfl
  | n + 1, k + 1, h => by rw [ch_ss, ch_gt (by omega), ch_gt (by omega)]
theorem ch_mul : ∀ n k : Nat, (ch n k : Int) * ((n : Int) - k) = ch n (k + 1) * ((k : Int) + 1)
  | 0, 0 => by simp [ch]
  | 0, k + 1 => by simp [ch]
  | n + 1, 0 => by
    have h := ch_mul n 0
    simp only [ch_ss, ch_zero] at *
    push_cast at *
    grind
  | n + 1, k + 1 => by
    have h1 := ch_mul n k
    have h2 := ch_mul n (k + 1)
    simp only [ch_ss] at *
    push_cast at *
    grind
/-! ### rows -/
def stp (c : Int) (a : Nat → Int) : Nat → Int
  | 0 => a 0
  | i + 1 => a (i + 1) + c * a i
theorem stp_comm (c d : Int) (a : Nat → Int) : stp c (stp d a) = stp d (stp c a) := by
  funext i
  match i with
  | 0 => rfl
  | 1 => simp only [stp]; grind
  | i + 2 => simp only [stp]; grind
def it (c : Int) : Nat → (Nat → Int) → Nat → Int
  | 0, a => a
  | n + 1, a => stp c (it c n a)
theorem it_comm (c d : Int) : ∀ (n : Nat) (a : Nat → Int), stp d (it c n a) = it c n (stp d a)
  | 0, a => rfl
  | n + 1, a => by rw [it, stp_comm, it_comm c d n a, it]
def e0 : Nat → Int
  | 0 => 1
  | _ + 1 => 0
/-- the Krawtchouk number at k: x factors 1 - z, m factors 1 + p z -/
def K (p : Int) (x m : Nat) : Nat → Int := it p m (it (-1) x e0)
theorem K_m (p : Int) (x m : Nat) : K p x (m + 1) = stp p (K p x m) := rfl
theorem K_x (p : Int) (x m : Nat) : K p (x + 1) m = stp (-1) (K p x m) := by
  unfold K
  rw [it_comm]
  rfl
theorem K_0 (p : Int) : ∀ x m : Nat, K p x m 0 = 1
  | 0, 0 => rfl
  | 0, m + 1 => by rw [K_m]; exact K_0 p 0 m
  | x + 1, m => by rw [K_x]; exact K_0 p x m
theorem K_gt (p : Int) : ∀ x m k : Nat, x + m < k → K p x m k = 0
  | 0, 0, k + 1, _ => rfl
  | 0, m + 1, k + 1, h => by rw [K_m, stp, K_gt p 0 m (k + 1) (by omega), K_gt p 0 m k (by omega)]; omega
  | x + 1, m, k + 1, h => by rw [K_x, stp, K_gt p x m (k + 1) (by omega), K_gt p x m k (by omega)]; omega
/-! ### the two sides -/
def W (p : Int) : Nat → Nat → Nat → Int
  | 0, 0, 0 => 1
  | 0, _, _ => 0
  | n + 1, 0, 0 => W p n 0 0
  | n + 1, k + 1, 0 => W p n (k + 1) 0 + p * W p n k 0
  | n + 1, 0, x + 1 => W p n 0 (x + 1) + p * W p n 0 x
  | n + 1, k + 1, x + 1 => W p n (k + 1) (x + 1) + p * W p n k (x + 1) + p * W p n (k + 1) x - p * W p n k x
theorem W_symm (p : Int) : ∀ n k x : Nat, W p n k x = W p n x k
  | 0, 0, 0 => rfl
  | 0, 0, x + 1 => rfl
  | 0, k + 1, 0 => rfl
  | 0, k + 1, x + 1 => rfl
  | n + 1, 0, 0 => rfl
  | n + 1, k + 1, 0 => by simp only [W]; rw [W_symm p n (k + 1) 0, W_symm p n k 0]
  | n + 1, 0, x + 1 => by simp only [W]; rw [W_symm p n 0 (x + 1), W_symm p n 0 x]
  | n + 1, k + 1, x + 1 => by
    simp only [W]
    rw [W_symm p n (k + 1) (x + 1), W_symm p n k (x + 1), W_symm p n (k + 1) x, W_symm p n k x]
    omega
theorem W_gt (p : Int) : ∀ n k x : Nat, n < x → W p n k x = 0
  | 0, 0, x + 1, _ => rfl
  | 0, k + 1, x + 1, _ => rfl
  | n + 1, 0, x + 1, h => by simp only [W]; rw [W_gt p n 0 (x + 1) (by omega), W_gt p n 0 x (by omega)]; simp
  | n + 1, k + 1, x + 1, h => by
    simp only [W]
    rw [W_gt p n (k + 1) (x + 1) (by omega), W_gt p n k (x + 1) (by omega), W_gt p n (k + 1) x (by omega), W_gt p n k x (by omega)]; simp
theorem W_eq (p : Int) : ∀ n x k : Nat, x ≤ n → (ch n x : Int) * p ^ x * K p x (n - x) k = W p n k x
  | 0, 0, k, _ => by cases k <;> simp [W, K, it, e0]
  | n + 1, 0, k, _ => by
    have h : ∀ k, K p 0 n k = W p n k 0 := fun k => by
      have := W_eq p n 0 k (by omega)
      simpa using this
    cases k with
    | zero => simp only [W, ch_zero, Nat.sub_zero, K_m, stp]; rw [h]; simp
    | succ k => simp only [W, ch_zero, Nat.sub_zero, K_m, stp]; rw [h, h]; simp
  | n + 1, x + 1, k, h => by
    have hx : x ≤ n := by omega
    have e : n + 1 - (x + 1) = n - x := by omega
    rw [e, ch_ss]
    have h1 := fun k => W_eq p n x k hx
    have hB : ∀ k, (ch n (x + 1) : Int) * p ^ (x + 1) * K p (x + 1) (n - x) k = (match k with | 0 => W p n 0 (x + 1) | k + 1 => W p n (k + 1) (x + 1) + p * W p n k (x + 1)) := fun k => by
      by_cases hl : x + 1 ≤ n
      · have h2 := fun k => W_eq p n (x + 1) k hl
        have e2 : n - x = (n - (x + 1)) + 1 := by omega
        rw [e2, K_m]
        cases k with
        | zero => simp only [stp]; exact h2 0
        | succ k =>
          simp only [stp]
          rw [← h2 (k + 1), ← h2 k]
          grind
      · rw [ch_gt (by omega)]
        cases k with
        | zero => simp [W_gt p n 0 (x + 1) (by omega)]
        | succ k => simp [W_gt p n (k + 1) (x + 1) (by omega), W_gt p n k (x + 1) (by omega)]
    have hk := hB k
    cases k with
    | zero =>
      have h10 := h1 0
      simp only [W] at *
      rw [← hk, ← h10]
      simp only [K_0]
      push_cast
      grind
    | succ k =>
      have h10 := h1 k
      have h11 := h1 (k + 1)
      simp only [W] at *
      have hk' : W p n (k + 1) (x + 1) + p * W p n k (x + 1) = (ch n (x + 1) : Int) * p ^ (x + 1) * K p (x + 1) (n - x) (k + 1) := hk.symm
      rw [hk', ← h10, ← h11]
      simp only [K_x, stp]
      push_cast
      grind
/-- the one number by the other -/
theorem dual (p : Int) {n k x : Nat} (hk : k ≤ n) (hx : x ≤ n) : (ch n x : Int) * p ^ x * K p x (n - x) k = ch n k * p ^ k * K p k (n - k) x := by
  rw [W_eq p n x k hx, W_eq p n k x hk, W_symm]
end Ky
/-! Ky2: the recurrence of three, the square of the table, bounds, the written sum. -/
namespace Ky
def T3 (p : Int) (n x : Int) (a : Nat → Int) : Prop :=
  a 1 = (p * n - (p + 1) * x) * a 0 ∧ ∀ k : Nat, ((k : Int) + 2) * a (k + 2) = ((k : Int) + 1 + p * (n - (k + 1)) - (p + 1) * x) * a (k + 1) - p * (n - k) * a k
theorem T3_m {p n x : Int} {a : Nat → Int} (h : T3 p n x a) : T3 p (n + 1) x (stp p a) := by
  obtain ⟨h0, h1⟩ := h
  refine ⟨by simp only [stp]; grind, fun k => ?_⟩
  match k with
  | 0 =>
    have := h1 0
    simp only [stp]
    grind
  | k + 1 =>
    have e1 := h1 k
    have e2 := h1 (k + 1)
    simp only [stp]
    push_cast at *
    grind
theorem T3_x {p n x : Int} {a : Nat → Int} (h : T3 p n x a) : T3 p (n + 1) (x + 1) (stp (-1) a) := by
  obtain ⟨h0, h1⟩ := h
  refine ⟨by simp only [stp]; grind, fun k => ?_⟩
  match k with
  | 0 =>
    have := h1 0
    simp only [stp]
    grind
  | k + 1 =>
    have e1 := h1 k
    have e2 := h1 (k + 1)
    simp only [stp]
    push_cast at *
    grind
theorem T3_K (p : Int) : ∀ x m : Nat, T3 p ((x : Int) + m) x (K p x m)
  | 0, 0 => ⟨by simp [K, it, e0], fun k => by
      match k with
      | 0 => simp [K, it, e0]
      | k + 1 => simp [K, it, e0]⟩
  | 0, m + 1 => by
    have := T3_m (T3_K p 0 m)
    rw [K_m]
    have e : (((0 : Nat) : Int) + ((m + 1 : Nat) : Int)) = ((0 : Nat) : Int) + (m : Int) + 1 := by omega
    rw [e]
    exact this
  | x + 1, m => by
    have := T3_x (T3_K p x m)
    rw [K_x]
    have e : (((x + 1 : Nat) : Int) + (m : Int)) = (x : Int) + (m : Int) + 1 := by omega
    have e2 : ((x + 1 : Nat) : Int) = (x : Int) + 1 := by omega
    rw [e, e2]
    exact this
/-- for k from 1 on -/
theorem three (p : Int) {n k x : Nat} (hk : 1 ≤ k) (hx : x ≤ n) :
    ((k : Int) + 1) * K p x (n - x) (k + 1) = ((k : Int) + p * ((n : Int) - k) - (p + 1) * x) * K p x (n - x) k - p * ((n : Int) - k + 1) * K p x (n - x) (k - 1) := by
  obtain ⟨j, rfl⟩ : ∃ j, k = j + 1 := ⟨k - 1, by omega⟩
  have h := (T3_K p x (n - x)).2 j
  have e : ((x : Int) + ((n - x : Nat) : Int)) = n := by omega
  rw [e] at h
  push_cast
  push_cast at h
  rw [show j + 1 + 1 = j + 2 from rfl]
  grind
/-! ### sums -/
def sm (f : Nat → Int) : Nat → Int
  | 0 => 0
  | n + 1 => sm f n + f n
theorem sm_congr {f g : Nat → Int} : ∀ {n : Nat}, (∀ i, i < n → f i = g i) → sm f n = sm g n
  | 0, _ => rfl
  | n + 1, h => by rw [sm, sm, sm_congr fun i hi => h i (by omega), h n (by omega)]
theorem sm_add (f g : Nat → Int) : ∀ n, sm (fun i => f i + g i) n = sm f n + sm g n
  | 0 => rfl
  | n + 1 => by simp only [sm]; rw [sm_add f g n]; omega
theorem sm_mul (c : Int) (f : Nat → Int) : ∀ n, sm (fun i => c * f i) n = c * sm f n
  | 0 => by simp [sm]
  | n + 1 => by simp only [sm]; rw [sm_mul c f n]; grind
theorem sm_shift (f : Nat → Int) : ∀ n, sm f (n + 1) = f 0 + sm (fun i => f (i + 1)) n
  | 0 => by simp [sm]
  | n + 1 => by rw [sm, sm_shift f n, sm]; omega
/-- a row times P -/
theorem sm_stp (c : Int) (a P : Nat → Int) (n : Nat) (h : a n = 0) : sm (fun t => stp c a t * P t) (n + 1) = sm (fun t => a t * (P t + c * P (t + 1))) n := by
  rw [sm_shift]
  have e1 : sm (fun i => stp c a (i + 1) * P (i + 1)) n = sm (fun i => a (i + 1) * P (i + 1)) n + sm (fun i => a i * (c * P (i + 1))) n := by
    rw [← sm_add]
    exact sm_congr fun i _ => by simp only [stp]; grind
  have e2 : sm (fun t => a t * (P t + c * P (t + 1))) n = sm (fun t => a t * P t) n + sm (fun i => a i * (c * P (i + 1))) n := by
    rw [← sm_add]
    exact sm_congr fun i _ => by grind
  have e3 : a 0 * P 0 + sm (fun i => a (i + 1) * P (i + 1)) n = sm (fun t => a t * P t) (n + 1) := (sm_shift (fun t => a t * P t) n).symm
  rw [e1, e2]
  simp only [stp]
  have e4 : sm (fun t => a t * P t) (n + 1) = sm (fun t => a t * P t) n := by rw [sm, h]; simp
  omega
theorem square (p : Int) : ∀ i m j : Nat, sm (fun t => K p i m t * K p t (i + m - t) j) (i + m + 1) = if i = j then (p + 1) ^ (i + m) else 0
  | 0, 0, j => by cases j <;> simp [sm, K, it, e0]
  | 0, m + 1, j => by
    have ih := square p 0 m
    rw [K_m]
    have hz : K p 0 m (m + 1) = 0 := K_gt p 0 m (m + 1) (by omega)
    have e : 0 + (m + 1) + 1 = (m + 1) + 1 := by omega
    rw [e, sm_stp _ _ (fun t => K p t (0 + (m + 1) - t) j) _ hz]
    have key : sm (fun t => K p 0 m t * (K p t (0 + (m + 1) - t) j + p * K p (t + 1) (0 + (m + 1) - (t + 1)) j)) (m + 1) = sm (fun t => (p + 1) * (K p 0 m t * K p t (0 + m - t) j)) (m + 1) := sm_congr fun t ht => by
      have e1 : 0 + (m + 1) - t = (0 + m - t) + 1 := by omega
      have e2 : 0 + (m + 1) - (t + 1) = 0 + m - t := by omega
      rw [e1, e2, K_m, K_x]
      cases j with
      | zero => simp only [stp]; grind
      | succ j => simp only [stp]; grind
    rw [key, sm_mul]
    have := ih j
    rw [show (0 : Nat) + m + 1 = m + 1 by omega] at this
    rw [this]
    by_cases h : 0 = j
    · rw [if_pos h, if_pos h, show 0 + (m + 1) = (0 + m) + 1 by omega, Int.pow_succ]; grind
    · rw [if_neg h, if_neg h]; simp
  | i + 1, m, j => by
    have ih := square p i m
    rw [K_x]
    have hz : K p i m (i + m + 1) = 0 := K_gt p i m (i + m + 1) (by omega)
    have e : i + 1 + m + 1 = (i + m + 1) + 1 := by omega
    rw [e, sm_stp _ _ (fun t => K p t (i + 1 + m - t) j) _ hz]
    have key : sm (fun t => K p i m t * (K p t (i + 1 + m - t) j + -1 * K p (t + 1) (i + 1 + m - (t + 1)) j)) (i + m + 1) = sm (fun t => (match j with | 0 => 0 | j + 1 => (p + 1) * (K p i m t * K p t (i + m - t) j))) (i + m + 1) := sm_congr fun t ht => by
      have e1 : i + 1 + m - t = (i + m - t) + 1 := by omega
      have e2 : i + 1 + m - (t + 1) = i + m - t := by omega
      rw [e1, e2, K_m, K_x]
      cases j with
      | zero => simp only [stp]; grind
      | succ j => simp only [stp]; grind
    rw [key]
    cases j with
    | zero =>
      rw [if_neg (by omega)]
      have : ∀ n, sm (fun _ => 0) n = 0 := fun n => by induction n with
        | zero => rfl
        | succ n ih => rw [sm, ih]; rfl
      exact this _
    | succ j =>
      simp only
      rw [sm_mul, ih j]
      by_cases h : i = j
      · rw [if_pos h, if_pos (by omega), show i + 1 + m = (i + m) + 1 by omega, Int.pow_succ]; grind
      · rw [if_neg h, if_neg (by omega)]; simp
/-! ### bounds -/
theorem stp_le {c : Int} {a : Nat → Int} {M C : Nat} (hc : c.natAbs + 1 ≤ C) (h : ∀ k, (a k).natAbs ≤ M) : ∀ k, (stp c a k).natAbs ≤ C * M
  | 0 => Nat.le_trans (h 0) (Nat.le_mul_of_pos_left _ (by omega))
  | k + 1 => by
    simp only [stp]
    have h1 := h (k + 1)
    have h2 := h k
    have h3 : (c * a k).natAbs ≤ c.natAbs * M := by rw [Int.natAbs_mul]; exact Nat.mul_le_mul_left _ h2
    have h4 : (c.natAbs + 1) * M ≤ C * M := Nat.mul_le_mul_right _ hc
    have h5 : (c.natAbs + 1) * M = c.natAbs * M + M := Nat.succ_mul _ _
    have h6 := Int.natAbs_add_le (a (k + 1)) (c * a k)
    omega
theorem K_le {p : Int} {C : Nat} (hC : 2 ≤ C) (hc : p.natAbs + 1 ≤ C) : ∀ x m k : Nat, (K p x m k).natAbs ≤ C ^ (x + m)
  | 0, 0, k => by cases k <;> simp [K, it, e0]
  | 0, m + 1, k => by
    rw [K_m, show 0 + (m + 1) = (0 + m) + 1 by omega, Nat.pow_succ, Nat.mul_comm]
    exact stp_le hc (fun k => K_le hC hc 0 m k) k
  | x + 1, m, k => by
    rw [K_x, show x + 1 + m = (x + m) + 1 by omega, Nat.pow_succ, Nat.mul_comm]
    exact stp_le (c := -1) (by simpa using hC) (fun k => K_le hC hc x m k) k
theorem ch_le : ∀ n k : Nat, ch n k ≤ 2 ^ n
  | 0, 0 => by simp
  | 0, k + 1 => by simp [ch]
  | n + 1, 0 => by simp; exact Nat.one_le_two_pow
  | n + 1, k + 1 => by
    rw [ch_ss, Nat.pow_succ]
    have := ch_le n k
    have := ch_le n (k + 1)
    omega
end Ky
/-! Ky3: the typed defs that speak of whole numbers: powers, choices, Krawtchouk numbers. -/
open Wk Mn
namespace Ky
theorem bits_le {x : Int} {a : Nat} (h : x.natAbs < 2 ^ a) : PySem.Builtin.Int.intBits x ≤ a := by
  unfold PySem.Builtin.Int.intBits
  split
  · omega
  · rename_i h0
    have hz : x.natAbs ≠ 0 := by intro q; apply h0; simp; omega
    exact (Nat.log2_lt hz).mpr h
theorem fit_of {x y : Int} {a b : Nat} (h : x.natAbs < 2 ^ a) (k : y.natAbs < 2 ^ b) (l : a + b ≤ 134217728) : fitB x y = true := by
  unfold fitB
  exact Nat.ble_eq_true_of_le (Nat.le_trans (Nat.add_le_add (bits_le h) (bits_le k)) l)
theorem fd_of {y : Int} (h : y ≠ 0) (k : y.natAbs < 2 ^ 9000) : fdB y = true := by
  unfold fdB
  have hz : y.natAbs ≠ 0 := by omega
  simp only [Bool.and_eq_true, Bool.not_eq_true', decide_eq_false_iff_not]
  exact ⟨h, Nat.blt_eq.mpr ((Nat.log2_lt hz).mpr k)⟩
theorem small {n a : Nat} (h : n < 2 ^ 62) (k : 62 ≤ a) : n < 2 ^ a := Nat.lt_of_lt_of_le h (Nat.pow_le_pow_right (by decide) k)
theorem rg_of {n : Int} (h : 0 ≤ n) (k : n < 2 ^ 62) : rgB 0 n = true := by
  unfold rgB inR
  simp only [Bool.and_eq_true, decide_eq_true_eq]
  omega
theorem rI_nil : rI 0 0 = [] := rfl
theorem rI_nat (n : Nat) : rI 0 (n : Int) = (List.range n).map fun i => ((i : Nat) : Int) := by
  unfold rI
  have : ((n : Int) - 0).toNat = n := by omega
  rw [this]
  exact List.map_congr_left fun i _ => by omega
theorem rI_succ (n : Nat) : rI 0 ((n + 1 : Nat) : Int) = rI 0 (n : Int) ++ [(n : Int)] := by
  rw [rI_nat, rI_nat, List.range_succ, List.map_append]
  rfl
theorem rI_len (n : Nat) : (rI 0 (n : Int)).length = n := by simp [rI_nat]
theorem okF_append {σ α : Type} {f : σ → α → σ} {ok : σ → α → Bool} : ∀ (xs : List α) (x : α) (s : σ), okF f ok (xs ++ [x]) s = (okF f ok xs s && ok (xs.foldl f s) x)
  | [], x, s => by simp [okF]
  | y :: ys, x, s => by
    simp only [List.cons_append, okF, List.foldl_cons]
    rw [okF_append ys x, Bool.and_assoc]
theorem fold_rI {σ : Type} {f : σ → Int → σ} {ok : σ → Int → Bool} (I : Nat → σ → Prop) (s0 : σ) (h0 : I 0 s0) : ∀ n : Nat, (∀ i, i < n → ∀ s, I i s → I (i + 1) (f s (i : Int)) ∧ ok s (i : Int) = true) → I n ((rI 0 (n : Int)).foldl f s0) ∧ okF f ok (rI 0 (n : Int)) s0 = true
  | 0, _ => ⟨h0, rfl⟩
  | n + 1, hs => by
    obtain ⟨h1, h2⟩ := fold_rI I s0 h0 n fun i hi => hs i (by omega)
    obtain ⟨h3, h4⟩ := hs n (by omega) _ h1
    rw [rI_succ, List.foldl_append, okF_append, h2, h4]
    exact ⟨h3, rfl⟩
/-! ### powers -/
theorem pow_loop : ∀ (fuel e found base : Nat), e < fuel → 1 ≤ found → 1 ≤ base → found * base ^ e < 2 ^ 60000 →
    (whV V.raised_to_c1 V.raised_to_l1 fuel ((e : Int), (found : Int), (base : Int))).2.1 = ((found * base ^ e : Nat) : Int) ∧ whO V.raised_to_c1 O.raised_to_c1 V.raised_to_l1 O.raised_to_l1 fuel ((e : Int), (found : Int), (base : Int)) = true
  | fuel + 1, 0, found, base, _, _, _, _ => by
    simp only [whV, whO, V.raised_to_c1, O.raised_to_c1]
    simp
  | fuel + 1, e + 1, found, base, hf, h1, h2, hB => by
    have hc : V.raised_to_c1 (((e + 1 : Nat) : Int), (found : Int), (base : Int)) = true := by simp only [V.raised_to_c1, decide_eq_true_eq]; omega
    have hd : Int.fdiv ((e + 1 : Nat) : Int) 2 = (((e + 1) / 2 : Nat) : Int) := by rw [Int.fdiv_eq_ediv_of_nonneg _ (by decide)]; omega
    have hm : Int.fmod ((e + 1 : Nat) : Int) 2 = (((e + 1) % 2 : Nat) : Int) := by rw [Int.fmod_eq_emod_of_nonneg _ (by decide)]; omega
    have hbe : base ≤ base ^ (e + 1) := by
      rw [Nat.pow_succ]
      exact Nat.le_mul_of_pos_left _ (Nat.pow_pos h2)
    have hbp : 1 ≤ base ^ (e + 1) := Nat.pow_pos h2
    have hbB : base < 2 ^ 60000 := by
      have : base ^ (e + 1) ≤ found * base ^ (e + 1) := Nat.le_mul_of_pos_left _ h1
      omega
    have hfB : found < 2 ^ 60000 := by
      have : found ≤ found * base ^ (e + 1) := Nat.le_mul_of_pos_right _ hbp
      omega
    have fit : ∀ x y : Nat, x < 2 ^ 60000 → y < 2 ^ 60000 → fitB (x : Int) (y : Int) = true := fun x y hx hy => fit_of (a := 60000) (b := 60000) (by simpa using hx) (by simpa using hy) (by decide)
    have key : ∃ f' b' : Nat, V.raised_to_l1 (((e + 1 : Nat) : Int), (found : Int), (base : Int)) = (((((e + 1) / 2 : Nat) : Int)), (f' : Int), (b' : Int)) ∧ 1 ≤ f' ∧ 1 ≤ b' ∧ f' * b' ^ ((e + 1) / 2) = found * base ^ (e + 1) ∧ O.raised_to_l1 (((e + 1 : Nat) : Int), (found : Int), (base : Int)) = true := by
      have sq : ∀ k, (base * base) ^ k = base ^ (2 * k) := fun k => by rw [← Nat.pow_two, ← Nat.pow_mul]
      rcases Nat.mod_two_eq_zero_or_one (e + 1) with ho | ho
      · have he : 0 < (e + 1) / 2 := by omega
        refine ⟨found, base * base, ?_, h1, Nat.mul_pos h2 h2, ?_, ?_⟩
        · simp only [V.raised_to_l1, V.raised_to_j2, hm, hd, ho]
          have : decide ((((e + 1) / 2 : Nat) : Int) > 0) = true := by simp only [decide_eq_true_eq]; omega
          rw [this]
          simp
        · rw [sq]
          congr 2
          omega
        · simp only [O.raised_to_l1, O.raised_to_j2, hm, hd, ho]
          have : decide ((((e + 1) / 2 : Nat) : Int) > 0) = true := by simp only [decide_eq_true_eq]; omega
          rw [this, fit base base hbB hbB]
          simp [imp]
      · refine ⟨found * base, if 0 < (e + 1) / 2 then base * base else base, ?_, Nat.mul_pos h1 h2, ?_, ?_, ?_⟩
        · simp only [V.raised_to_l1, V.raised_to_j2, hm, hd, ho]
          by_cases he : 0 < (e + 1) / 2
          · have : decide ((((e + 1) / 2 : Nat) : Int) > 0) = true := by simp only [decide_eq_true_eq]; omega
            rw [this, if_pos he]
            simp
          · have : decide ((((e + 1) / 2 : Nat) : Int) > 0) = false := by simp only [decide_eq_false_iff_not]; omega
            rw [this, if_neg he]
            simp
        · split
          · exact Nat.mul_pos h2 h2
          · exact h2
        · split
          · rw [sq, Nat.mul_assoc, ← Nat.pow_succ']
            congr 2
            omega
          · have : e = 0 := by omega
            subst this
            simp
        · simp only [O.raised_to_l1, O.raised_to_j2, hm, hd, ho, fit found base hfB hbB]
          by_cases he : 0 < (e + 1) / 2
          · have : decide ((((e + 1) / 2 : Nat) : Int) > 0) = true := by simp only [decide_eq_true_eq]; omega
            rw [this, fit base base hbB hbB]
            simp [imp]
          · have : decide ((((e + 1) / 2 : Nat) : Int) > 0) = false := by simp only [decide_eq_false_iff_not]; omega
            rw [this]
            simp [imp]
    obtain ⟨f', b', e1, g1, g2, g3, g4⟩ := key
    have ih := pow_loop fuel ((e + 1) / 2) f' b' (by omega) g1 g2 (by rw [g3]; exact hB)
    simp only [whV, whO]
    rw [hc, e1, g4]
    rw [g3] at ih
    refine ⟨ih.1, ?_⟩
    rw [ih.2]
    rfl
theorem pow_ok {a e : Nat} (ha : 1 ≤ a) (he : e < 2 ^ 62) (hB : a ^ e < 2 ^ 60000) : V.raised_to (a : Int) (e : Int) = (a : Int) ^ e ∧ O.raised_to (a : Int) (e : Int) = true := by
  have h := pow_loop (Int.toNat (e : Int) + 1) e 1 a (by simp) (Nat.le_refl _) ha (by simpa using hB)
  have hw : wfB (Int.toNat (e : Int) + 1) = true := by
    unfold wfB
    refine Nat.blt_eq.mpr ((Nat.log2_lt (by omega)).mpr ?_)
    have : Int.toNat (e : Int) + 1 ≤ 2 ^ 62 := by omega
    exact Nat.lt_of_le_of_lt this (Nat.pow_lt_pow_right (by decide) (by decide))
  unfold V.raised_to O.raised_to V.raised_to_r3 O.raised_to_r3
  have h1 : (whV V.raised_to_c1 V.raised_to_l1 (Int.toNat (e : Int) + 1) ((e : Int), (1 : Int), (a : Int))).2.1 = ((1 * a ^ e : Nat) : Int) := h.1
  have h2 : whO V.raised_to_c1 O.raised_to_c1 V.raised_to_l1 O.raised_to_l1 (Int.toNat (e : Int) + 1) ((e : Int), (1 : Int), (a : Int)) = true := h.2
  rw [h1, h2, hw]
  exact ⟨by push_cast; simp, rfl⟩
end Ky
open Wk Mn
namespace Ky
/-! ### choices -/
theorem ch_fd (n i : Nat) : Int.fdiv ((ch n i : Int) * ((n : Int) - (i : Int))) ((i : Int) + 1) = (ch n (i + 1) : Int) := by
  rw [ch_mul]
  exact Int.mul_fdiv_cancel _ (by omega)
theorem ch_lt {n k : Nat} (h : n ≤ 4096) : ch n k < 2 ^ 4097 := Nat.lt_of_le_of_lt (ch_le n k) (Nat.pow_lt_pow_right (by decide) (by omega))
theorem i_lt {i : Nat} (h : i < 2 ^ 62) : ((i : Int)).natAbs < 2 ^ 62 := by simpa using h
theorem chosen_fold (n : Nat) (hn : n ≤ 4096) (k : Nat) (hk : k ≤ n) : (rI 0 (k : Int)).foldl (fun q x => Int.fdiv (q * ((n : Int) - x)) (x + 1)) 1 = (ch n k : Int) := by
  have h := (fold_rI (f := fun q x => Int.fdiv (q * ((n : Int) - x)) (x + 1)) (ok := fun _ _ => true) (fun i s => s = (ch n i : Int)) 1 (by simp) k fun i hi s hs => ⟨by rw [hs]; exact ch_fd n i, rfl⟩).1
  exact h
theorem chosen_ok {n k : Nat} (hn : n ≤ 4096) : V.chosen_of (n : Int) (k : Int) = (ch n k : Int) ∧ O.chosen_of (n : Int) (k : Int) = true := by
  unfold V.chosen_of O.chosen_of
  by_cases h : k > n
  · have : decide ((k : Int) > (n : Int)) = true := by simp only [decide_eq_true_eq]; omega
    rw [this, ch_gt h]
    exact ⟨by simp, by simp⟩
  · have hd : decide ((k : Int) > (n : Int)) = false := by simp only [decide_eq_false_iff_not]; omega
    obtain ⟨h1, h2⟩ := fold_rI (f := V.chosen_of_l2 (n : Int)) (ok := O.chosen_of_l2 (n : Int)) (fun i s => s = (ch n i : Int)) 1 (by simp) k fun i hi s hs => by
      subst hs
      refine ⟨ch_fd n i, ?_⟩
      have f1 : fitB (ch n i : Int) ((n : Int) - (i : Int)) = true := fit_of (a := 4097) (b := 62) (by simpa using ch_lt hn) (by omega) (by decide)
      have f2 : fdB ((i : Int) + 1) = true := fd_of (by omega) (small (by omega) (by decide))
      simp only [O.chosen_of_l2, f1, f2, Bool.and_self]
    have h3 : rgB 0 (k : Int) = true := rg_of (by omega) (by omega)
    have e1 : V.chosen_of_r1 (n : Int) (k : Int) = (ch n k : Int) := h1
    have e2 : O.chosen_of_r1 (n : Int) (k : Int) = true := by
      unfold O.chosen_of_r1
      rw [h3, h2]
      rfl
    rw [hd, e1, e2]
    exact ⟨rfl, rfl⟩
theorem l_chosen_ok {n k : Nat} (hn : n ≤ 4096) (hk : k ≤ n) : V.l_chosen (n : Int) (k : Int) = (ch n k : Int) ∧ O.l_chosen (n : Int) (k : Int) = true := by
  unfold V.l_chosen O.l_chosen
  obtain ⟨h1, h2⟩ := fold_rI (f := V.l_chosen_l1 (n : Int)) (ok := O.l_chosen_l1 (n : Int)) (fun i s => s = (ch n i : Int)) 1 (by simp) k fun i hi s hs => by
    subst hs
    refine ⟨ch_fd n i, ?_⟩
    have f1 : fitB (ch n i : Int) ((n : Int) - (i : Int)) = true := fit_of (a := 4097) (b := 62) (by simpa using ch_lt hn) (by omega) (by decide)
    have f2 : fdB ((i : Int) + 1) = true := fd_of (by omega) (small (by omega) (by decide))
    simp only [O.l_chosen_l1, f1, f2, Bool.and_self]
  have h3 : rgB 0 (k : Int) = true := rg_of (by omega) (by omega)
  rw [h3, h2]
  exact ⟨h1, rfl⟩
theorem l_power_ok {q n : Nat} (hq : 1 ≤ q) (hn : n < 2 ^ 60) (hB : q ^ n < 2 ^ 60000) : V.l_power (q : Int) (n : Int) = (q : Int) ^ n ∧ O.l_power (q : Int) (n : Int) = true := by
  unfold V.l_power O.l_power
  obtain ⟨h1, h2⟩ := fold_rI (f := V.l_power_l1 (q : Int)) (ok := O.l_power_l1 (q : Int)) (fun i s => i ≤ n ∧ s = (q : Int) ^ i) 1 ⟨by omega, by simp⟩ n fun i hi s hs => by
    obtain ⟨hs1, rfl⟩ := hs
    refine ⟨⟨by omega, by simp only [V.l_power_l1]; rw [Int.pow_succ]⟩, ?_⟩
    have b1 : q ^ i ≤ q ^ n := Nat.pow_le_pow_right hq (by omega)
    have b2 : q ≤ q ^ n := by
      have := Nat.pow_le_pow_right hq (show 1 ≤ n by omega)
      simpa using this
    have f1 : fitB ((q : Int) ^ i) (q : Int) = true := fit_of (a := 60000) (b := 60000) (by rw [Int.natAbs_pow]; simp only [Int.natAbs_natCast]; omega) (by simp only [Int.natAbs_natCast]; omega) (by decide)
    simp only [O.l_power_l1, f1, Bool.and_self]
  have h3 : rgB 0 (n : Int) = true := rg_of (by omega) (by omega)
  rw [h3, h2]
  exact ⟨h1.2, rfl⟩
/-! ### tabulated rows -/
def tab {α : Type} (n : Nat) (a : Nat → α) : List α := (List.range n).map a
theorem tab_len {α : Type} (n : Nat) (a : Nat → α) : (tab n a).length = n := by simp [tab]
theorem getI_tab {α : Type} [Inhabited α] {n i : Nat} (a : Nat → α) (h : i < n) : getI (tab n a) (i : Int) = a i ∧ ixB (tab n a) (i : Int) = true := by
  unfold getI ixB
  rw [atI_get']
  simp [tab, h]
theorem map_rI {α : Type} (n : Nat) (f : Int → α) : (rI 0 (n : Int)).map f = tab n fun i => f (i : Int) := by
  rw [rI_nat, List.map_map]
  rfl
theorem all_rI {n : Nat} {f : Int → Bool} (h : ∀ i : Nat, i < n → f (i : Int) = true) : (rI 0 (n : Int)).all f = true := by
  rw [rI_nat, List.all_eq_true]
  intro x hx
  simp only [List.mem_map, List.mem_range] at hx
  obtain ⟨i, hi, rfl⟩ := hx
  exact h i hi
theorem tab_congr {α : Type} {n : Nat} {a b : Nat → α} (h : ∀ i, i < n → a i = b i) : tab n a = tab n b := by
  unfold tab
  exact List.map_congr_left fun i hi => h i (List.mem_range.mp hi)
/-! ### the law's number -/
theorem row_step {k : Nat} (c : Int) (a : Nat → Int) (M : Nat) (hM : ∀ i, (a i).natAbs < 2 ^ 60000) (hc : c.natAbs < 2 ^ 62) (hk : k < 4096) : V.l_number_r3 (k : Int) (tab (k + 1) a) c = tab (k + 1) (stp c a) ∧ O.l_number_r3 (k : Int) (tab (k + 1) a) c = true := by
  have e : (k : Int) + 1 = ((k + 1 : Nat) : Int) := by omega
  unfold V.l_number_r3 O.l_number_r3
  rw [e, map_rI, rI_len]
  refine ⟨tab_congr fun i hi => ?_, ?_⟩
  · cases i with
    | zero =>
      rw [(getI_tab a hi).1]
      simp [stp]
    | succ i =>
      have hd : decide (((i + 1 : Nat) : Int) > 0) = true := by simp only [decide_eq_true_eq]; omega
      have e1 : ((i + 1 : Nat) : Int) - 1 = (i : Int) := by omega
      rw [hd, e1, (getI_tab a hi).1, (getI_tab a (show i < k + 1 by omega)).1]
      rfl
  · have h1 : rgB 0 ((k + 1 : Nat) : Int) = true := rg_of (by omega) (by omega)
    have h2 : szB (k + 1) = true := Nat.ble_eq_true_of_le (by omega)
    rw [h1, h2, all_rI fun i hi => ?_]
    · rfl
    · rw [(getI_tab a hi).2]
      cases i with
      | zero => simp [imp]
      | succ i =>
        have e1 : ((i + 1 : Nat) : Int) - 1 = (i : Int) := by omega
        rw [e1, (getI_tab a (show i < k + 1 by omega)).2, (getI_tab a (show i < k + 1 by omega)).1, fit_of (a := 62) (b := 60000) hc (hM i) (by decide)]
        simp [imp]
theorem number_ok {n q k x : Nat} (hq : 2 ≤ q) (hq2 : q ≤ 4096) (hx : x ≤ n) (hn : n ≤ 4096) (hk : k < 4096) : V.l_number (n : Int) (q : Int) (k : Int) (x : Int) = K ((q : Int) - 1) x (n - x) k ∧ O.l_number (n : Int) (q : Int) (k : Int) (x : Int) = true := by
  have hC : ((q : Int) - 1).natAbs + 1 ≤ q := by omega
  have hb : ∀ m : Nat, m ≤ 4096 → q ^ m < 2 ^ 60000 := fun m hm => by
    have h1 : q ^ m ≤ (2 ^ 12) ^ m := Nat.pow_le_pow_left (by omega) m
    rw [← Nat.pow_mul] at h1
    exact Nat.lt_of_le_of_lt h1 (Nat.pow_lt_pow_right (by decide) (by omega))
  have rep : repL (k : Int) [(0 : Int)] = List.replicate k 0 := by
    unfold repL
    simp
  have start : [(1 : Int)] ++ repL (k : Int) [(0 : Int)] = tab (k + 1) e0 := by
    rw [rep, tab, List.range_succ_eq_map, List.map_cons, List.map_map]
    have h0 : (e0 ∘ Nat.succ) = fun _ => 0 := rfl
    rw [h0, List.map_const', List.length_range]
    rfl
  have hst : ∀ i, i ≤ n → ∃ u v : Nat, u + v = i ∧ u = min i x ∧ V.l_number_l2 (q : Int) (k : Int) (x : Int) (tab (k + 1) (K ((q : Int) - 1) u v)) (i : Int) = tab (k + 1) (K ((q : Int) - 1) (min (i + 1) x) (i + 1 - min (i + 1) x)) ∧ O.l_number_l2 (q : Int) (k : Int) (x : Int) (tab (k + 1) (K ((q : Int) - 1) u v)) (i : Int) = true := fun i hi => by
    refine ⟨min i x, i - min i x, by omega, rfl, ?_⟩
    have hM : ∀ j, (K ((q : Int) - 1) (min i x) (i - min i x) j).natAbs < 2 ^ 60000 := fun j => Nat.lt_of_le_of_lt (K_le (C := q) hq hC _ _ j) (hb _ (by omega))
    unfold V.l_number_l2 O.l_number_l2
    by_cases h : i < x
    · have hd : decide ((i : Int) < (x : Int)) = true := by simp only [decide_eq_true_eq]; omega
      rw [hd]
      have := row_step (k := k) (-1) (K ((q : Int) - 1) (min i x) (i - min i x)) 0 hM (by decide) hk
      rw [← K_x] at this
      have e1 : min i x + 1 = min (i + 1) x := by omega
      have e2 : i - min i x = i + 1 - min (i + 1) x := by omega
      rw [e1, e2] at this
      rw [e2]
      exact this
    · have hd : decide ((i : Int) < (x : Int)) = false := by simp only [decide_eq_false_iff_not]; omega
      rw [hd]
      have := row_step (k := k) ((q : Int) - 1) (K ((q : Int) - 1) (min i x) (i - min i x)) 0 hM (by omega) hk
      rw [← K_m] at this
      have e1 : i - min i x + 1 = i + 1 - min (i + 1) x := by omega
      have e2 : min i x = min (i + 1) x := by omega
      rw [e1] at this
      rw [e2] at this ⊢
      exact this
  obtain ⟨h1, h2⟩ := fold_rI (f := V.l_number_l2 (q : Int) (k : Int) (x : Int)) (ok := O.l_number_l2 (q : Int) (k : Int) (x : Int)) (fun i s => s = tab (k + 1) (K ((q : Int) - 1) (min i x) (i - min i x))) (tab (k + 1) e0) (by simp; rfl) n fun i hi s hs => by
    subst hs
    obtain ⟨u, v, g1, g2, g3, g4⟩ := hst i (by omega)
    have g5 : v = i - min i x := by omega
    subst g5 g2
    exact ⟨g3, g4⟩
  have e3 : min n x = x := by omega
  rw [e3] at h1
  unfold V.l_number O.l_number V.l_number_r1 O.l_number_r1
  rw [start, h1, h2, (getI_tab _ (show k < k + 1 by omega)).1, (getI_tab _ (show k < k + 1 by omega)).2, rep]
  refine ⟨rfl, ?_⟩
  have a1 : rpB (List.length [(0 : Int)]) (k : Int) = true := by
    unfold rpB
    simp only [Bool.and_eq_true, decide_eq_true_eq, List.length_singleton]
    refine ⟨⟨by omega, by omega⟩, Nat.ble_eq_true_of_le (by omega)⟩
  have a2 : rgB 0 (n : Int) = true := rg_of (by omega) (by omega)
  have a3 : szB (List.length [(1 : Int)] + List.length (List.replicate k (0 : Int))) = true := Nat.ble_eq_true_of_le (by simp; omega)
  rw [a1, a2, a3]
  rfl
end Ky
open Wk Mn
namespace Ky
/-! ### the written sum -/
def cv (p : Int) (m : Nat) (a : Nat → Int) (k : Nat) : Int := sm (fun j => p ^ (k - j) * (ch m (k - j) : Int) * a j) (k + 1)
theorem it_cv (p : Int) (a : Nat → Int) : ∀ m k : Nat, it p m a k = cv p m a k
  | 0, k => by
    show a k = _
    unfold cv
    rw [sm]
    have : sm (fun j => p ^ (k - j) * (ch 0 (k - j) : Int) * a j) k = sm (fun _ => 0) k := sm_congr fun j hj => by
      obtain ⟨i, hi⟩ : ∃ i, k - j = i + 1 := ⟨k - j - 1, by omega⟩
      rw [hi]
      simp [ch]
    have hz : ∀ n, sm (fun _ => 0) n = 0 := fun n => by induction n with
      | zero => rfl
      | succ n ih => rw [sm, ih]; rfl
    rw [this, hz, Nat.sub_self]
    simp
  | m + 1, 0 => by
    show it p m a 0 = _
    rw [it_cv p a m 0]
    simp [cv, sm]
  | m + 1, k + 1 => by
    show it p m a (k + 1) + p * it p m a k = _
    rw [it_cv p a m (k + 1), it_cv p a m k]
    unfold cv
    have hF : sm (fun j => p ^ (k + 1 - j) * (ch m (k + 1 - j) : Int) * a j) (k + 1 + 1) = sm (fun j => p ^ (k + 1 - j) * (ch m (k + 1 - j) : Int) * a j) (k + 1) + p ^ (k + 1 - (k + 1)) * (ch m (k + 1 - (k + 1)) : Int) * a (k + 1) := rfl
    have hG : sm (fun j => p ^ (k + 1 - j) * (ch (m + 1) (k + 1 - j) : Int) * a j) (k + 1 + 1) = sm (fun j => p ^ (k + 1 - j) * (ch (m + 1) (k + 1 - j) : Int) * a j) (k + 1) + p ^ (k + 1 - (k + 1)) * (ch (m + 1) (k + 1 - (k + 1)) : Int) * a (k + 1) := rfl
    rw [← sm_mul, hF, hG]
    have key : sm (fun j => p ^ (k + 1 - j) * (ch (m + 1) (k + 1 - j) : Int) * a j) (k + 1) = sm (fun j => p ^ (k + 1 - j) * (ch m (k + 1 - j) : Int) * a j) (k + 1) + sm (fun j => p * (p ^ (k - j) * (ch m (k - j) : Int) * a j)) (k + 1) := by
      rw [← sm_add]
      refine sm_congr fun j hj => ?_
      have e : k + 1 - j = (k - j) + 1 := by omega
      rw [e, ch_ss, Int.pow_succ]
      push_cast
      grind
    rw [key, Nat.sub_self]
    simp only [ch_zero]
    grind
theorem it_neg : ∀ x k : Nat, it (-1) x e0 k = (if k % 2 = 0 then 1 else -1) * (ch x k : Int)
  | 0, 0 => by simp [it, e0]
  | 0, k + 1 => by simp [it, e0, ch]
  | x + 1, 0 => by
    show it (-1) x e0 0 = _
    rw [it_neg x 0]
    simp
  | x + 1, k + 1 => by
    show it (-1) x e0 (k + 1) + -1 * it (-1) x e0 k = _
    rw [it_neg x (k + 1), it_neg x k, ch_ss]
    push_cast
    by_cases h : k % 2 = 0
    · have h2 : ¬ (k + 1) % 2 = 0 := by omega
      rw [if_pos h, if_neg h2]
      grind
    · have h2 : (k + 1) % 2 = 0 := by omega
      rw [if_neg h, if_pos h2]
      grind
theorem K_sum (p : Int) (x m k : Nat) : K p x m k = sm (fun j => (if j % 2 = 0 then 1 else -1) * p ^ (k - j) * (ch x j : Int) * (ch m (k - j) : Int)) (k + 1) := by
  unfold K
  rw [it_cv]
  unfold cv
  exact sm_congr fun j hj => by rw [it_neg]; grind
/-! ### the program's number -/
theorem q_pow {q m : Nat} (hq : q ≤ 4096) (hm : m ≤ 4096) : q ^ m < 2 ^ 60000 := by
  have h1 : q ^ m ≤ (2 ^ 12) ^ m := Nat.pow_le_pow_left (by omega) m
  rw [← Nat.pow_mul] at h1
  exact Nat.lt_of_le_of_lt h1 (Nat.pow_lt_pow_right (by decide) (by omega))
theorem term_ok {n q k x j : Nat} (hq : 2 ≤ q) (hq2 : q ≤ 4096) (hx : x ≤ n) (hn : n ≤ 4096) (hk : k ≤ 4096) (hj : j ≤ k) (s : Int) :
    V.number_of_l1 (n : Int) (q : Int) (k : Int) (x : Int) s (j : Int) = s + (if j % 2 = 0 then 1 else -1) * ((q : Int) - 1) ^ (k - j) * (ch x j : Int) * (ch (n - x) (k - j) : Int) ∧ O.number_of_l1 (n : Int) (q : Int) (k : Int) (x : Int) s (j : Int) = true := by
  have e1 : (q : Int) - 1 = ((q - 1 : Nat) : Int) := by omega
  have e2 : (k : Int) - (j : Int) = ((k - j : Nat) : Int) := by omega
  have e3 : (n : Int) - (x : Int) = ((n - x : Nat) : Int) := by omega
  have hB : (q - 1) ^ (k - j) < 2 ^ 60000 := q_pow (by omega) (by omega)
  obtain ⟨p1, p2⟩ := pow_ok (a := q - 1) (e := k - j) (by omega) (by omega) hB
  obtain ⟨c1, c2⟩ := chosen_ok (n := x) (k := j) (by omega)
  obtain ⟨d1, d2⟩ := chosen_ok (n := n - x) (k := k - j) (by omega)
  have sg : (bif (decide ((Int.fmod (j : Int) 2) = 0)) then (1 : Int) else (-1 : Int)) = if j % 2 = 0 then 1 else -1 := by
    have : Int.fmod (j : Int) 2 = ((j % 2 : Nat) : Int) := by rw [Int.fmod_eq_emod_of_nonneg _ (by decide)]; omega
    rw [this]
    by_cases h : j % 2 = 0
    · rw [h]; rfl
    · have h2 : j % 2 = 1 := by omega
      rw [h2]; rfl
  unfold V.number_of_l1 O.number_of_l1
  rw [e1, e2, e3, p1, p2, c1, c2, d1, d2, sg]
  refine ⟨by grind, ?_⟩
  have b1 : (if j % 2 = 0 then (1 : Int) else -1).natAbs = 1 := by split <;> rfl
  have b2 : ((((q - 1 : Nat) : Int)) ^ (k - j)).natAbs < 2 ^ 60000 := by rw [Int.natAbs_pow]; simpa using hB
  have b3 : (ch x j) < 2 ^ 4097 := ch_lt (by omega)
  have b4 : (ch (n - x) (k - j)) < 2 ^ 4097 := ch_lt (by omega)
  have g1 : ((if j % 2 = 0 then (1 : Int) else -1) * (((q - 1 : Nat) : Int)) ^ (k - j)).natAbs < 2 ^ 60000 := by rw [Int.natAbs_mul, b1, Nat.one_mul]; exact b2
  have g2 : (((if j % 2 = 0 then (1 : Int) else -1) * (((q - 1 : Nat) : Int)) ^ (k - j)) * (ch x j : Int)).natAbs < 2 ^ 64097 := by
    rw [Int.natAbs_mul]
    have := Nat.mul_lt_mul'' g1 b3
    rw [← Nat.pow_add] at this
    simpa using this
  rw [fit_of (a := 1) (b := 60000) (by omega) b2 (by decide), fit_of (a := 60000) (b := 4097) g1 (by simpa using b3) (by decide), fit_of (a := 64097) (b := 4097) g2 (by simpa using b4) (by decide)]
  rfl
theorem number_of_ok {n q k x : Nat} (hq : 2 ≤ q) (hq2 : q ≤ 4096) (hx : x ≤ n) (hn : n ≤ 4096) (hk : k ≤ 4095) : V.number_of (n : Int) (q : Int) (k : Int) (x : Int) = K ((q : Int) - 1) x (n - x) k ∧ O.number_of (n : Int) (q : Int) (k : Int) (x : Int) = true := by
  have e : (k : Int) + 1 = ((k + 1 : Nat) : Int) := by omega
  obtain ⟨h1, h2⟩ := fold_rI (f := V.number_of_l1 (n : Int) (q : Int) (k : Int) (x : Int)) (ok := O.number_of_l1 (n : Int) (q : Int) (k : Int) (x : Int)) (fun i s => s = sm (fun j => (if j % 2 = 0 then 1 else -1) * ((q : Int) - 1) ^ (k - j) * (ch x j : Int) * (ch (n - x) (k - j) : Int)) i) 0 rfl (k + 1) fun i hi s hs => by
    subst hs
    obtain ⟨t1, t2⟩ := term_ok (j := i) hq hq2 hx hn (show k ≤ 4096 by omega) (by omega) (sm (fun j => (if j % 2 = 0 then 1 else -1) * ((q : Int) - 1) ^ (k - j) * (ch x j : Int) * (ch (n - x) (k - j) : Int)) i)
    exact ⟨t1, t2⟩
  have h3 : rgB 0 ((k + 1 : Nat) : Int) = true := rg_of (by omega) (by omega)
  unfold V.number_of O.number_of
  rw [e, h3, h2, K_sum]
  exact ⟨h1, rfl⟩
end Ky
open Wk Mn
namespace Ky
/-! ### the greatest common divisor -/
def gl (q : Int × Int) : Int × Int := (q.2, Int.fmod q.1 q.2)
def gc (q : Int × Int) : Bool := !decide (q.2 = 0)
def go (q : Int × Int) : Bool := mdB q.2 && true
theorem gcd_loop : ∀ (fuel a b : Nat), b < fuel → (whV gc gl fuel ((a : Int), (b : Int))).1 = (Nat.gcd a b : Int) ∧ whO gc (fun _ => true) gl go fuel ((a : Int), (b : Int)) = true
  | fuel + 1, a, 0, _ => by
    simp [whV, whO, gc]
  | fuel + 1, a, b + 1, h => by
    have hc : gc ((a : Int), ((b + 1 : Nat) : Int)) = true := by
      simp only [gc, Bool.not_eq_true', decide_eq_false_iff_not]; omega
    have hm : Int.fmod (a : Int) ((b + 1 : Nat) : Int) = ((a % (b + 1) : Nat) : Int) := by
      rw [Int.fmod_eq_emod_of_nonneg _ (by omega)]
      exact (Int.natCast_emod ..).symm
    have hl : gl ((a : Int), ((b + 1 : Nat) : Int)) = (((b + 1 : Nat) : Int), ((a % (b + 1) : Nat) : Int)) := by
      unfold gl
      rw [hm]
    have ho : go ((a : Int), ((b + 1 : Nat) : Int)) = true := by
      have : (((b + 1 : Nat) : Int)) ≠ 0 := by omega
      simp only [go, mdB, Bool.and_true, Bool.not_eq_true', decide_eq_false_iff_not]
      exact this
    obtain ⟨h1, h2⟩ := gcd_loop fuel (b + 1) (a % (b + 1)) (by have := Nat.mod_lt a (show b + 1 > 0 by omega); omega)
    simp only [whV, whO]
    rw [hc, hl, ho, h2]
    refine ⟨?_, rfl⟩
    show (whV gc gl fuel (((b + 1 : Nat) : Int), ((a % (b + 1) : Nat) : Int))).1 = _
    rw [h1, Nat.gcd_comm a (b + 1), Nat.gcd_rec (b + 1) a, Nat.gcd_comm (b + 1)]
theorem wf_gen {n A B : Nat} (h : n < 2 ^ A) (k : A < B) : n + 1 < 2 ^ B := Nat.lt_of_le_of_lt (Nat.succ_le_of_lt h) (Nat.pow_lt_pow_right (by decide) k)
theorem wf_of {n : Nat} (h : n < 2 ^ 100000) : wfB (n + 1) = true := by
  unfold wfB
  exact Nat.blt_eq.mpr ((Nat.log2_lt (by omega)).mpr (wf_gen h (by decide)))
theorem idvd {a b c : Int} (h : a ∣ b * c) (k : Int.gcd a b = 1) : a ∣ c := by
  have h1 := Int.natAbs_dvd_natAbs.mpr h
  rw [Int.natAbs_mul] at h1
  exact Int.natAbs_dvd_natAbs.mp (Nat.Coprime.dvd_of_dvd_mul_left k h1)
theorem common_ok {a b : Int} (h : b.natAbs < 2 ^ 100000) : V.greatest_common a b = (Int.gcd a b : Int) ∧ O.greatest_common a b = true := by
  obtain ⟨h1, h2⟩ := gcd_loop (Int.natAbs (Int.natAbs b : Int) + 1) a.natAbs b.natAbs (by simp)
  unfold V.greatest_common O.greatest_common V.greatest_common_r2 O.greatest_common_r2
  have e1 : (whV V.greatest_common_c1 V.greatest_common_l1 (Int.natAbs (Int.natAbs b : Int) + 1) ((Int.natAbs a : Int), (Int.natAbs b : Int))).1 = (Nat.gcd a.natAbs b.natAbs : Int) := h1
  have e2 : whO V.greatest_common_c1 O.greatest_common_c1 V.greatest_common_l1 O.greatest_common_l1 (Int.natAbs (Int.natAbs b : Int) + 1) ((Int.natAbs a : Int), (Int.natAbs b : Int)) = true := h2
  rw [e1, e2, wf_of (n := Int.natAbs (Int.natAbs b : Int)) (by simpa using h)]
  exact ⟨rfl, rfl⟩
/-! ### fractions in lowest terms -/
/-- r is z/D in lowest terms -/
structure Rp (D z : Int) (r : Int × Int) : Prop where
  pos : 0 < r.2
  cop : Int.gcd r.1 r.2 = 1
  eq : r.1 * D = z * r.2
theorem Rp.dvd {D z : Int} {r : Int × Int} (h : Rp D z r) : r.2 ∣ D := by
  have h1 : r.2 ∣ r.1 * D := ⟨z, by rw [h.eq]; exact Int.mul_comm _ _⟩
  exact idvd h1 (by rw [Int.gcd_comm]; exact h.cop)
theorem Rp.den_le {D z : Int} {r : Int × Int} (h : Rp D z r) (hD : 0 < D) : r.2 ≤ D := Int.le_of_dvd hD h.dvd
theorem Rp.num_le {D z : Int} {r : Int × Int} (h : Rp D z r) (hD : 0 < D) : r.1.natAbs ≤ z.natAbs := by
  have h1 := congrArg Int.natAbs h.eq
  rw [Int.natAbs_mul, Int.natAbs_mul] at h1
  have h2 := h.den_le hD
  have h3 := h.pos
  have h4 : z.natAbs * r.2.natAbs ≤ z.natAbs * D.natAbs := Nat.mul_le_mul_left _ (by omega)
  have h5 : r.1.natAbs * D.natAbs ≤ z.natAbs * D.natAbs := by omega
  exact Nat.le_of_mul_le_mul_right h5 (by omega)
theorem Rp.uniq {D z : Int} {r s : Int × Int} (h : Rp D z r) (k : Rp D z s) (hD : 0 < D) : r = s := by
  have h1 : r.1 * s.2 = s.1 * r.2 := by
    have a := h.eq
    have b := k.eq
    have : (r.1 * s.2) * D = (s.1 * r.2) * D := by grind
    exact Int.eq_of_mul_eq_mul_right (by omega) this
  have d1 : r.2 ∣ s.2 := idvd (b := r.1) ⟨s.1, by rw [h1]; exact Int.mul_comm _ _⟩ (by rw [Int.gcd_comm]; exact h.cop)
  have d2 : s.2 ∣ r.2 := idvd (b := s.1) ⟨r.1, by rw [← h1]; exact Int.mul_comm _ _⟩ (by rw [Int.gcd_comm]; exact k.cop)
  have e2 : r.2 = s.2 := by
    have a := Int.le_of_dvd k.pos d1
    have b := Int.le_of_dvd h.pos d2
    omega
  rw [e2] at h1
  have e1 : r.1 = s.1 := Int.eq_of_mul_eq_mul_right (by have := k.pos; omega) h1
  exact Prod.ext e1 e2
theorem Rp.scale {D z c : Int} {r : Int × Int} (h : Rp D z r) : Rp (D * c) (z * c) r := ⟨h.pos, h.cop, by have := h.eq; grind⟩
theorem Rp.unscale {D z c : Int} {r : Int × Int} (hc : c ≠ 0) (h : Rp (D * c) (z * c) r) : Rp D z r := ⟨h.pos, h.cop, by
  have h1 := h.eq
  have : (r.1 * D) * c = (z * r.2) * c := by grind
  exact Int.eq_of_mul_eq_mul_right hc this⟩
theorem Rp.int (z : Int) : Rp 1 z (z, 1) := ⟨(by decide : (0 : Int) < 1), by simp, by simp⟩
theorem fdiv_dvd {a g : Int} (h : g ∣ a) : Int.fdiv a g * g = a := Int.fdiv_mul_cancel h
theorem lowest_ok {a b : Int} (hb : 0 < b) (h : b.natAbs < 2 ^ 8000) : Rp b a (V.lowest a b) ∧ O.lowest a b = true := by
  obtain ⟨g1, g2⟩ := common_ok (a := a) (b := b) (Nat.lt_trans h (Nat.pow_lt_pow_right (by decide) (by decide)))
  have hg : 0 < (Int.gcd a b : Int) := by
    have : Int.gcd a b ≠ 0 := by
      intro q
      have := Int.eq_zero_of_gcd_eq_zero_right q
      omega
    omega
  have da : (Int.gcd a b : Int) ∣ a := Int.gcd_dvd_left ..
  have db : (Int.gcd a b : Int) ∣ b := Int.gcd_dvd_right ..
  have hneg : decide (b < 0) = false := by simp only [decide_eq_false_iff_not]; omega
  have ea := fdiv_dvd da
  have eb := fdiv_dvd db
  unfold V.lowest O.lowest V.lowest_r1 O.lowest_r1 V.lowest_j2 O.lowest_j2
  rw [g1, g2, hneg]
  refine ⟨⟨?_, ?_, ?_⟩, ?_⟩
  · show 0 < Int.fdiv b (Int.gcd a b : Int)
    rw [← eb] at hb
    refine Int.lt_of_not_ge fun hle => ?_
    have := Int.mul_nonpos_of_nonpos_of_nonneg hle (Int.le_of_lt hg)
    omega
  · show Int.gcd (Int.fdiv a (Int.gcd a b : Int)) (Int.fdiv b (Int.gcd a b : Int)) = 1
    rw [Int.fdiv_eq_ediv_of_nonneg _ (by omega), Int.fdiv_eq_ediv_of_nonneg _ (by omega)]
    exact Int.gcd_ediv_gcd_ediv_gcd (by omega)
  · show Int.fdiv a (Int.gcd a b : Int) * b = a * Int.fdiv b (Int.gcd a b : Int)
    grind
  · show (true && (fdB (Int.gcd a b : Int) && fdB (Int.gcd a b : Int))) = true
    have : (Int.gcd a b : Int) ≤ b := Int.le_of_dvd hb db
    rw [fd_of (y := (Int.gcd a b : Int)) (by omega) (Nat.lt_of_le_of_lt (by omega : ((Int.gcd a b : Int)).natAbs ≤ b.natAbs) (Nat.lt_trans h (Nat.pow_lt_pow_right (by decide) (by decide))))]
    rfl
theorem m4 {x y : Nat} (h : x < 2 ^ 4000) (k : y < 2 ^ 4000) : x * y < 2 ^ 8000 := by
  have := Nat.mul_lt_mul'' h k
  rw [← Nat.pow_add] at this
  exact this
theorem ratio_sum_ok {D z w : Int} {r s : Int × Int} (hD : 0 < D) (h : Rp D z r) (k : Rp D w s) (bD : D.natAbs < 2 ^ 4000) (bz : z.natAbs < 2 ^ 4000) (bw : w.natAbs < 2 ^ 4000) : Rp D (z + w) (V.ratio_sum r s) ∧ O.ratio_sum r s = true := by
  have p1 := h.pos
  have p2 := k.pos
  have l1 := h.den_le hD
  have l2 := k.den_le hD
  have l3 := h.num_le hD
  have l4 := k.num_le hD
  obtain ⟨q1, q2⟩ := lowest_ok (a := r.1 * s.2 + s.1 * r.2) (b := r.2 * s.2) (Int.mul_pos p1 p2) (by rw [Int.natAbs_mul]; exact m4 (by omega) (by omega))
  unfold V.ratio_sum O.ratio_sum
  refine ⟨⟨q1.pos, q1.cop, ?_⟩, ?_⟩
  · have e := q1.eq
    have e1 := h.eq
    have e2 := k.eq
    generalize V.lowest (r.1 * s.2 + s.1 * r.2) (r.2 * s.2) = t at e
    have : (t.1 * D) * (r.2 * s.2) = ((z + w) * t.2) * (r.2 * s.2) := by grind
    exact Int.eq_of_mul_eq_mul_right (by have := Int.mul_pos p1 p2; omega) this
  · rw [q2, fit_of (a := 4000) (b := 4000) (x := r.1) (y := s.2) (by omega) (by omega) (by decide), fit_of (a := 4000) (b := 4000) (x := s.1) (y := r.2) (by omega) (by omega) (by decide), fit_of (a := 4000) (b := 4000) (x := r.2) (y := s.2) (by omega) (by omega) (by decide)]
    rfl
theorem ratio_product_ok {D E z w : Int} {r s : Int × Int} (hD : 0 < D) (hE : 0 < E) (h : Rp D z r) (k : Rp E w s) (bD : D.natAbs < 2 ^ 4000) (bE : E.natAbs < 2 ^ 4000) (bz : z.natAbs < 2 ^ 4000) (bw : w.natAbs < 2 ^ 4000) : Rp (D * E) (z * w) (V.ratio_product r s) ∧ O.ratio_product r s = true := by
  have p1 := h.pos
  have p2 := k.pos
  have l1 := h.den_le hD
  have l2 := k.den_le hE
  have l3 := h.num_le hD
  have l4 := k.num_le hE
  obtain ⟨q1, q2⟩ := lowest_ok (a := r.1 * s.1) (b := r.2 * s.2) (Int.mul_pos p1 p2) (by rw [Int.natAbs_mul]; exact m4 (by omega) (by omega))
  unfold V.ratio_product O.ratio_product
  refine ⟨⟨q1.pos, q1.cop, ?_⟩, ?_⟩
  · have e := q1.eq
    have e1 := h.eq
    have e2 := k.eq
    generalize V.lowest (r.1 * s.1) (r.2 * s.2) = t at e
    have : (t.1 * (D * E)) * (r.2 * s.2) = ((z * w) * t.2) * (r.2 * s.2) := by grind
    exact Int.eq_of_mul_eq_mul_right (by have := Int.mul_pos p1 p2; omega) this
  · rw [q2, fit_of (a := 4000) (b := 4000) (x := r.1) (y := s.1) (by omega) (by omega) (by decide), fit_of (a := 4000) (b := 4000) (x := r.2) (y := s.2) (by omega) (by omega) (by decide)]
    rfl
end Ky
open Wk Mn
namespace Ky
/-! ### rows of fractions -/
theorem tab_succ {α : Type} (n : Nat) (a : Nat → α) : tab (n + 1) a = tab n a ++ [a n] := by simp [tab, List.range_succ]
theorem fold_tab {σ α : Type} {f : σ → α → σ} {ok : σ → α → Bool} (a : Nat → α) (I : Nat → σ → Prop) (s0 : σ) (h0 : I 0 s0) : ∀ n : Nat, (∀ i, i < n → ∀ s, I i s → I (i + 1) (f s (a i)) ∧ ok s (a i) = true) → I n ((tab n a).foldl f s0) ∧ okF f ok (tab n a) s0 = true
  | 0, _ => ⟨h0, rfl⟩
  | n + 1, hs => by
    obtain ⟨h1, h2⟩ := fold_tab a I s0 h0 n fun i hi => hs i (by omega)
    obtain ⟨h3, h4⟩ := hs n (by omega) _ h1
    rw [tab_succ, List.foldl_append, okF_append, h2, h4]
    exact ⟨h3, rfl⟩
theorem enum_tab {α : Type} (n : Nat) (a : Nat → α) : enumI (tab n a) = tab n fun i => ((i : Int), a i) := by
  unfold enumI
  rw [tab_len]
  apply List.ext_getElem
  · simp [tab]
  · intro i h1 h2
    simp [tab]
def upd {α : Type} (a : Nat → α) (s : Nat) (v : α) : Nat → α := fun t => if t = s then v else a t
theorem setI_tab {α : Type} {n s : Nat} (a : Nat → α) (v : α) (h : s < n) : setI (tab n a) (s : Int) v = tab n (upd a s v) := by
  unfold setI
  have e : L2.ixN (tab n a).length (s : Int) = some s := by
    unfold L2.ixN
    rw [tab_len, if_pos (by omega)]
    simp [h]
  rw [e]
  apply List.ext_getElem
  · simp [tab]
  · intro i h1 h2
    simp only [tab, upd, List.getElem_set, List.getElem_map, List.getElem_range]
    by_cases q : s = i
    · rw [if_pos q, if_pos q.symm]
    · rw [if_neg q, if_neg (fun z => q z.symm)]
/-- the value at x of N coefficients -/
def ev (N : Nat) (c : Nat → Int) (x : Int) : Int := sm (fun t => c t * x ^ t) N
theorem ev_upd {N s : Nat} (c : Nat → Int) (v x : Int) (h : s < N) : ev N (upd c s (c s + v)) x = ev N c x + v * x ^ s := by
  unfold ev
  induction N with
  | zero => omega
  | succ N ih =>
    rw [sm, sm]
    by_cases q : s = N
    · subst q
      have : sm (fun t => upd c s (c s + v) t * x ^ t) s = sm (fun t => c t * x ^ t) s := sm_congr fun i hi => by
        simp only [upd]; rw [if_neg (by omega)]
      rw [this]
      simp only [upd, if_pos]
      grind
    · rw [ih (by omega)]
      simp only [upd]
      rw [if_neg (fun z => q z.symm)]
      omega
/-- q: N fractions over D, the numerators at most B; as a row it is P, its last numerator L -/
structure Row (D : Int) (N B : Nat) (P : Int → Int) (L : Int) (q : List (Int × Int)) : Prop where
  ex : ∃ (c : Nat → Int) (r : Nat → Int × Int), q = tab N r ∧ (∀ t, t < N → Rp D (c t) (r t)) ∧ (∀ t, (c t).natAbs ≤ B) ∧ (∀ x, ev N c x = P x) ∧ c (N - 1) = L
theorem Row.len {D : Int} {N B : Nat} {P : Int → Int} {L : Int} {q : List (Int × Int)} (h : Row D N B P L q) : q.length = N := by
  obtain ⟨c, r, rfl, _⟩ := h.ex
  exact tab_len ..
theorem Row.to {D : Int} {N B B' : Nat} {P P' : Int → Int} {L L' : Int} {q : List (Int × Int)} (h : Row D N B P L q) (hB : B ≤ B') (hP : ∀ x, P x = P' x) (hL : L = L') : Row D N B' P' L' q := by
  obtain ⟨c, r, e, h1, h2, h3, h4⟩ := h.ex
  exact ⟨c, r, e, h1, fun t => Nat.le_trans (h2 t) hB, fun x => (h3 x).trans (hP x), h4.trans hL⟩
theorem Row.scale {D : Int} {N B : Nat} {P : Int → Int} {L : Int} {q : List (Int × Int)} (h : Row D N B P L q) (k : Nat) : Row (D * k) N (B * k) (fun x => P x * k) (L * k) q := by
  obtain ⟨c, r, e, h1, h2, h3, h4⟩ := h.ex
  refine ⟨fun t => c t * k, r, e, fun t ht => (h1 t ht).scale, fun t => ?_, fun x => ?_, ?_⟩
  · rw [Int.natAbs_mul]
    exact Nat.mul_le_mul_right _ (h2 t)
  · show _ = P x * k
    rw [← h3 x, Int.mul_comm (ev N c x), ev, ev, ← sm_mul]
    exact sm_congr fun i _ => by grind
  · show c (N - 1) * k = L * k
    rw [h4]
theorem sm_zero : ∀ n, sm (fun _ => 0) n = 0
  | 0 => rfl
  | n + 1 => by rw [sm, sm_zero n]; rfl
theorem Row.zero {D : Int} {N : Nat} (hD : 0 < D) : Row D N 0 (fun _ => 0) 0 (tab N fun _ => ((0 : Int), (1 : Int))) := by
  refine ⟨fun _ => 0, _, rfl, fun t _ => ⟨(by decide : (0 : Int) < 1), by decide, by simp⟩, fun _ => Nat.le_refl _, fun x => ?_, rfl⟩
  unfold ev
  have : sm (fun t => (0 : Int) * x ^ t) N = sm (fun _ => 0) N := sm_congr fun i _ => by simp
  rw [this, sm_zero]
theorem row_add {D : Int} {N B B' s : Nat} {P : Int → Int} {L v : Int} {q : List (Int × Int)} {w : Int × Int} (h : Row D N B P L q) (hs : s < N) (hw : Rp D v w) (hv : v.natAbs ≤ B') (hD : 0 < D) (bD : D.natAbs < 2 ^ 4000) (bB : B < 2 ^ 3999) (bB' : B' < 2 ^ 3999) :
    Row D N (B + B') (fun x => P x + v * x ^ s) (if s = N - 1 then L + v else L) (setI q (s : Int) (V.ratio_sum (getI q (s : Int)) w)) ∧ O.ratio_sum (getI q (s : Int)) w = true ∧ ixB q (s : Int) = true := by
  obtain ⟨c, r, rfl, h1, h2, h3, h4⟩ := h.ex
  obtain ⟨g1, g2⟩ := getI_tab r hs
  have b4 : (2 : Nat) ^ 3999 < 2 ^ 4000 := Nat.pow_lt_pow_right (by decide) (by decide)
  have bc := h2 s
  obtain ⟨s1, s2⟩ := ratio_sum_ok hD (h1 s hs) hw bD (Nat.lt_trans (Nat.lt_of_le_of_lt bc bB) b4) (Nat.lt_trans (Nat.lt_of_le_of_lt hv bB') b4)
  rw [g1, setI_tab _ _ hs]
  refine ⟨⟨upd c s (c s + v), upd r s (V.ratio_sum (r s) w), rfl, fun t ht => ?_, fun t => ?_, fun x => ?_, ?_⟩, s2, g2⟩
  · simp only [upd]
    by_cases q : t = s
    · rw [if_pos q, if_pos q]; exact s1
    · rw [if_neg q, if_neg q]; exact h1 t ht
  · simp only [upd]
    split
    · have := Int.natAbs_add_le (c s) v
      omega
    · have := h2 t
      omega
  · show _ = P x + v * x ^ s
    rw [ev_upd c v x hs, h3]
  · simp only [upd]
    by_cases q : s = N - 1
    · rw [if_pos q, if_pos q.symm, q, h4]
    · rw [if_neg q, if_neg (fun z => q z.symm), h4]
end Ky
open Wk Mn
namespace Ky
theorem natAbs_lt_of_le {a : Int} {B A : Nat} (h : a.natAbs ≤ B) (k : B < A) : a.natAbs < A := Nat.lt_of_le_of_lt h k
theorem inner {D E : Int} {m n i B Bf Bg : Nat} {P : Int → Int} {L z : Int} {zg : Nat → Int} {rg : Nat → Int × Int} {q : List (Int × Int)} {a : Int × Int} (hD : 0 < D) (hE : 0 < E) (ha : Rp D z a) (hz : z.natAbs ≤ Bf) (hg : ∀ t, t < n → Rp E (zg t) (rg t)) (bg : ∀ t, (zg t).natAbs ≤ Bg)
    (hi : i < m) (hn : 1 ≤ n) (h : Row (D * E) (m + n - 1) B P L q) (bD : D.natAbs < 2 ^ 1900) (bE : E.natAbs < 2 ^ 1900) (b1 : Bf < 2 ^ 1900) (b2 : Bg < 2 ^ 1900) (b3 : B + n * (Bf * Bg) < 2 ^ 3900) :
    Row (D * E) (m + n - 1) (B + n * (Bf * Bg)) (fun x => P x + z * x ^ i * ev n zg x) (if i = m - 1 then L + z * zg (n - 1) else L) (V.times_row_l2 (tab n rg) q ((i : Int), a)) ∧ O.times_row_l2 (tab n rg) q ((i : Int), a) = true := by
  have w1 : (2 : Nat) ^ 1900 < 2 ^ 4000 := Nat.pow_lt_pow_right (by decide) (by decide)
  have w2 : (2 : Nat) ^ 1900 * 2 ^ 1900 < 2 ^ 3999 := by rw [← Nat.pow_add]; exact Nat.pow_lt_pow_right (by decide) (by decide)
  have w3 : (2 : Nat) ^ 3900 < 2 ^ 3999 := Nat.pow_lt_pow_right (by decide) (by decide)
  have w4 : (2 : Nat) ^ 3999 < 2 ^ 4000 := Nat.pow_lt_pow_right (by decide) (by decide)
  have hDE : 0 < D * E := Int.mul_pos hD hE
  have bDE : (D * E).natAbs < 2 ^ 4000 := by
    rw [Int.natAbs_mul]
    have := Nat.mul_lt_mul'' bD bE
    omega
  have bp : Bf * Bg < 2 ^ 3999 := by
    have := Nat.mul_lt_mul'' b1 b2
    omega
  have key := fold_tab (f := V.times_row_l3 (i : Int) a) (ok := O.times_row_l3 (i : Int) a) (fun j => ((j : Int), rg j)) (fun j s => j ≤ n → Row (D * E) (m + n - 1) (B + j * (Bf * Bg)) (fun x => P x + z * x ^ i * ev j zg x) (if i = m - 1 ∧ j = n then L + z * zg (n - 1) else L) s) q
    (fun _ => h.to (by omega) (fun x => by simp [ev, sm]) (by rw [if_neg (by omega)])) n fun j hj s hs => by
    have hr := hs (by omega)
    obtain ⟨p1, p2⟩ := ratio_product_ok hD hE ha (hg j hj) (Nat.lt_trans bD w1) (Nat.lt_trans bE w1) (Nat.lt_trans (natAbs_lt_of_le hz b1) w1) (Nat.lt_trans (natAbs_lt_of_le (bg j) b2) w1)
    have hm : j * (Bf * Bg) ≤ n * (Bf * Bg) := Nat.mul_le_mul_right _ (by omega)
    have hv : (z * zg j).natAbs ≤ Bf * Bg := by rw [Int.natAbs_mul]; exact Nat.mul_le_mul hz (bg j)
    obtain ⟨q1, q2, q3⟩ := row_add (s := i + j) hr (by omega) p1 hv hDE bDE (by omega) bp
    have e : (i : Int) + (j : Int) = ((i + j : Nat) : Int) := by omega
    refine ⟨fun _ => ?_, ?_⟩
    · show Row _ _ _ _ _ (setI s ((i : Int) + (j : Int)) (V.ratio_sum (getI s ((i : Int) + (j : Int))) (V.ratio_product a (rg j))))
      rw [e]
      refine q1.to ?_ (fun x => ?_) ?_
      · rw [Nat.succ_mul]; omega
      · show P x + z * x ^ i * ev j zg x + z * zg j * x ^ (i + j) = P x + z * x ^ i * (ev j zg x + zg j * x ^ j)
        rw [Int.pow_add]
        grind
      · by_cases c1 : i + j = m + n - 1 - 1
        · have c2 : i = m - 1 ∧ j + 1 = n := ⟨by omega, by omega⟩
          have c3 : ¬ (i = m - 1 ∧ j = n) := by omega
          have c4 : j = n - 1 := by omega
          rw [if_pos c1, if_neg c3, if_pos c2, c4]
        · have c2 : ¬ (i = m - 1 ∧ j + 1 = n) := by omega
          have c3 : ¬ (i = m - 1 ∧ j = n) := by omega
          rw [if_neg c1, if_neg c3, if_neg c2]
    · show (ixB s ((i : Int) + (j : Int)) && (O.ratio_product a (rg j) && (O.ratio_sum (getI s ((i : Int) + (j : Int))) (V.ratio_product a (rg j)) && (ixB s ((i : Int) + (j : Int)) && true)))) = true
      rw [e, q2, q3, p2]
      rfl
  unfold V.times_row_l2 O.times_row_l2
  rw [enum_tab, key.2]
  refine ⟨(key.1 (Nat.le_refl _)).to (Nat.le_refl _) (fun _ => rfl) ?_, rfl⟩
  by_cases c : i = m - 1
  · rw [if_pos c, if_pos ⟨c, rfl⟩]
  · rw [if_neg c, if_neg (fun z => c z.1)]
theorem times_ok {D E : Int} {m n Bf Bg : Nat} {P Q : Int → Int} {L M : Int} {f g : List (Int × Int)} (hD : 0 < D) (hE : 0 < E) (hf : Row D m Bf P L f) (hg : Row E n Bg Q M g) (hm : 1 ≤ m) (hn : 1 ≤ n) (sz : m + n < 2 ^ 20)
    (bD : D.natAbs < 2 ^ 1900) (bE : E.natAbs < 2 ^ 1900) (b1 : Bf < 2 ^ 1900) (b2 : Bg < 2 ^ 1900) (b3 : m * (n * (Bf * Bg)) < 2 ^ 3900) :
    Row (D * E) (m + n - 1) (m * (n * (Bf * Bg))) (fun x => P x * Q x) (L * M) (V.times_row f g) ∧ O.times_row f g = true := by
  obtain ⟨zf, rf, rfl, f1, f2, f3, f4⟩ := hf.ex
  obtain ⟨zg, rg, rfl, g1, g2, g3, g4⟩ := hg.ex
  have hDE : 0 < D * E := Int.mul_pos hD hE
  have e : ((List.length (tab m rf) : Int) + (List.length (tab n rg) : Int)) - 1 = ((m + n - 1 : Nat) : Int) := by
    rw [tab_len, tab_len]; omega
  have rep : repL ((m + n - 1 : Nat) : Int) [((0 : Int), (1 : Int))] = tab (m + n - 1) fun _ => ((0 : Int), (1 : Int)) := by
    unfold repL tab
    have : (((m + n - 1 : Nat) : Int)).toNat = m + n - 1 := by omega
    rw [this, List.map_const', List.length_range]
    generalize m + n - 1 = N
    induction N with
    | zero => rfl
    | succ N ih => rw [List.replicate_succ, List.flatten_cons, ih]; rfl
  have key := fold_tab (f := V.times_row_l2 (tab n rg)) (ok := O.times_row_l2 (tab n rg)) (fun i => ((i : Int), rf i)) (fun i s => i ≤ m → Row (D * E) (m + n - 1) (i * (n * (Bf * Bg))) (fun x => ev i zf x * Q x) (if i = m then zf (m - 1) * zg (n - 1) else 0) s) (tab (m + n - 1) fun _ => ((0 : Int), (1 : Int)))
    (fun _ => (Row.zero hDE).to (by omega) (fun x => by simp [ev, sm]) (by rw [if_neg (by omega)])) m fun i hi s hs => by
    have hr := hs (by omega)
    have hmm : (i + 1) * (n * (Bf * Bg)) ≤ m * (n * (Bf * Bg)) := Nat.mul_le_mul_right _ (by omega)
    have hs' : (i + 1) * (n * (Bf * Bg)) = i * (n * (Bf * Bg)) + n * (Bf * Bg) := Nat.succ_mul _ _
    obtain ⟨q1, q2⟩ := inner hD hE (f1 i hi) (f2 i) g1 g2 hi hn hr bD bE b1 b2 (by omega)
    refine ⟨fun _ => q1.to (by omega) (fun x => ?_) ?_, q2⟩
    · show ev i zf x * Q x + zf i * x ^ i * ev n zg x = (ev i zf x + zf i * x ^ i) * Q x
      rw [g3]
      grind
    · by_cases c : i = m - 1
      · have c2 : i + 1 = m := by omega
        have c3 : ¬ i = m := by omega
        rw [if_pos c, if_pos c2, if_neg c3, c]
        simp
      · have c2 : ¬ i + 1 = m := by omega
        have c3 : ¬ i = m := by omega
        rw [if_neg c, if_neg c2, if_neg c3]
  unfold V.times_row O.times_row V.times_row_r1 O.times_row_r1
  rw [e, rep, enum_tab, key.2]
  have hrp : rpB (List.length [((0 : Int), (1 : Int))]) ((m + n - 1 : Nat) : Int) = true := by
    unfold rpB
    simp only [Bool.and_eq_true, decide_eq_true_eq, List.length_singleton]
    refine ⟨⟨by omega, by omega⟩, Nat.ble_eq_true_of_le (by omega)⟩
  rw [hrp]
  refine ⟨(key.1 (Nat.le_refl _)).to (Nat.le_refl _) (fun x => ?_) ?_, rfl⟩
  · show ev m zf x * Q x = P x * Q x
    rw [f3]
  · rw [if_pos rfl, f4, g4]
end Ky
open Wk Mn
namespace Ky
/-! ### sums of two, factorials -/
def bw (u v : Int) (k t : Nat) : Int := (ch k t : Int) * u ^ t * v ^ (k - t)
theorem bw_succ (u v : Int) (k t : Nat) (h : t ≤ k) : bw u v (k + 1) (t + 1) = u * bw u v k t + v * bw u v k (t + 1) := by
  unfold bw
  rw [ch_ss, show k + 1 - (t + 1) = k - t by omega, Int.pow_succ]
  by_cases q : t = k
  · subst q
    rw [ch_gt (show t < t + 1 by omega)]
    simp
    grind
  · obtain ⟨i, hi⟩ : ∃ i, k - t = i + 1 := ⟨k - t - 1, by omega⟩
    rw [show k - (t + 1) = i by omega, hi, Int.pow_succ]
    push_cast
    grind
theorem bin (u v : Int) : ∀ k : Nat, sm (bw u v k) (k + 1) = (u + v) ^ k
  | 0 => by simp [sm, bw]
  | k + 1 => by
    have ih := bin u v k
    rw [sm_shift]
    have e1 : sm (fun i => bw u v (k + 1) (i + 1)) (k + 1) = sm (fun i => u * bw u v k i) (k + 1) + sm (fun i => v * bw u v k (i + 1)) (k + 1) := by
      rw [← sm_add]
      exact sm_congr fun i hi => bw_succ u v k i (by omega)
    have e2 : bw u v k 0 + sm (fun i => bw u v k (i + 1)) (k + 1) = sm (bw u v k) (k + 1) := by
      rw [← sm_shift, sm]
      have : bw u v k (k + 1) = 0 := by unfold bw; rw [ch_gt (by omega)]; simp
      rw [this]; omega
    have e3 : bw u v (k + 1) 0 = v * bw u v k 0 := by
      unfold bw
      simp only [ch_zero, Nat.sub_zero, Int.pow_succ]
      grind
    rw [e1, sm_mul, sm_mul, e3, Int.pow_succ, ← ih]
    grind
def fa : Nat → Nat
  | 0 => 1
  | n + 1 => fa n * (n + 1)
theorem fa_pos : ∀ n, 0 < fa n
  | 0 => by decide
  | n + 1 => Nat.mul_pos (fa_pos n) (by omega)
theorem fa_le : ∀ n, n ≤ 31 → fa n ≤ 2 ^ (5 * n)
  | 0, _ => by decide
  | n + 1, h => by
    have := fa_le n (by omega)
    rw [show 5 * (n + 1) = 5 * n + 5 by omega, Nat.pow_add]
    exact Nat.mul_le_mul this (by omega)
theorem fa_ch (n : Nat) : ∀ k, k ≤ n → (ch n k : Int) * fa k * fa (n - k) = fa n
  | 0, _ => by simp [fa]
  | k + 1, h => by
    have ih := fa_ch n k (by omega)
    have hm := ch_mul n k
    obtain ⟨i, hi⟩ : ∃ i, n - k = i + 1 := ⟨n - k - 1, by omega⟩
    rw [hi] at ih
    rw [show n - (k + 1) = i by omega]
    have hk : (n : Int) - (k : Int) = (i : Int) + 1 := by omega
    rw [hk] at hm
    simp only [fa] at ih ⊢
    push_cast at ih ⊢
    grind
/-! ### chosen_row -/
theorem ratio_ok {a b : Int} (hb : 0 < b) (h : b.natAbs < 2 ^ 8000) : V.ratio (eI a) (eI b) = .ok (V.lowest a b) ∧ O.ratio (eI a) (eI b) = true := by
  have h0 : decide (b = 0) = false := by simp only [decide_eq_false_iff_not]; omega
  have e : eqP (eI b) (eI 0) = false := h0
  have hl := (lowest_ok (a := a) hb h).2
  unfold V.ratio O.ratio
  have i1 : V.is_integer (eI a) = true := rfl
  have i2 : V.is_integer (eI b) = true := rfl
  rw [i1, i2, e]
  refine ⟨rfl, ?_⟩
  show (true && (true && (true && (true && (true && (bif false then true else (true && (true && O.lowest a b))))))) ) = true
  rw [hl]
  rfl
def pr (sign shift : Int) : Nat → Int → Int
  | 0, _ => 1
  | k + 1, x => pr sign shift k x * ((shift - k) + sign * x)
theorem row2 {a b : Int} {i : Nat} (hi : i ≤ 31) (ha : a.natAbs ≤ 64) (hb : b.natAbs ≤ 64) : Row (((i + 1 : Nat) : Int)) 2 64 (fun x => a + b * x) b [Ex.get (V.ratio (eI a) (eI ((i : Int) + 1))), Ex.get (V.ratio (eI b) (eI ((i : Int) + 1)))] ∧ V.ratio (eI a) (eI ((i : Int) + 1)) = .ok (V.lowest a ((i : Int) + 1)) ∧ O.ratio (eI a) (eI ((i : Int) + 1)) = true ∧ V.ratio (eI b) (eI ((i : Int) + 1)) = .ok (V.lowest b ((i : Int) + 1)) ∧ O.ratio (eI b) (eI ((i : Int) + 1)) = true := by
  have hs : ((i : Int) + 1).natAbs < 2 ^ 8000 := small (by omega) (by decide)
  obtain ⟨a1, a2⟩ := ratio_ok (a := a) (b := (i : Int) + 1) (by omega) hs
  obtain ⟨b1, b2⟩ := ratio_ok (a := b) (b := (i : Int) + 1) (by omega) hs
  have l1 := (lowest_ok (a := a) (b := (i : Int) + 1) (by omega) hs).1
  have l2 := (lowest_ok (a := b) (b := (i : Int) + 1) (by omega) hs).1
  refine ⟨⟨fun t => if t = 0 then a else if t = 1 then b else 0, fun t => if t = 0 then V.lowest a ((i : Int) + 1) else V.lowest b ((i : Int) + 1), ?_, fun t ht => ?_, fun t => ?_, fun x => ?_, rfl⟩, a1, a2, b1, b2⟩
  · rw [a1, b1]
    rfl
  · have e : ((i + 1 : Nat) : Int) = (i : Int) + 1 := by omega
    rw [e]
    match t, ht with
    | 0, _ => exact l1
    | 1, _ => exact l2
  · show (if t = 0 then a else if t = 1 then b else 0).natAbs ≤ 64
    split
    · exact ha
    · split
      · exact hb
      · decide
  · simp [ev, sm, Int.pow_succ]
theorem chosen_row_ok {sign shift : Int} (h1 : sign.natAbs ≤ 1) (h2 : shift.natAbs ≤ 32) (k : Nat) (hk : k ≤ 31) : Row (fa k : Int) (k + 1) (2 ^ (12 * k)) (pr sign shift k) (sign ^ k) (V.chosen_row sign shift (k : Int)) ∧ O.chosen_row sign shift (k : Int) = true := by
  have key := fold_rI (f := V.chosen_row_l1 sign shift) (ok := O.chosen_row_l1 sign shift) (fun i s => i ≤ k → Row (fa i : Int) (i + 1) (2 ^ (12 * i)) (pr sign shift i) (sign ^ i) s) [((1 : Int), (1 : Int))]
    (fun _ => ⟨e0, fun _ => (1, 1), rfl, fun t ht => by
      have : t = 0 := by omega
      subst this
      exact ⟨(by decide : (0 : Int) < 1), by decide, by simp [fa, e0]⟩, fun t => by cases t <;> simp [e0], fun x => by simp [ev, sm, e0, pr], by simp [e0]⟩) k fun i hi s hs => by
    have hr := hs (by omega)
    obtain ⟨r1, r2, r3, r4, r5⟩ := row2 (a := shift - (i : Int)) (b := sign) (i := i) (by omega) (by omega) (by omega)
    have bf : fa i < 2 ^ 1900 := Nat.lt_of_le_of_lt (fa_le i (by omega)) (Nat.pow_lt_pow_right (by decide) (by omega))
    have bb : (2 : Nat) ^ (12 * i) < 2 ^ 1900 := Nat.pow_lt_pow_right (by decide) (by omega)
    have bn : (i + 1) * (2 * (2 ^ (12 * i) * 64)) ≤ 2 ^ (12 * (i + 1)) := by
      rw [show 12 * (i + 1) = 12 * i + 12 by omega, Nat.pow_add]
      have : (i + 1) * (2 * (2 ^ (12 * i) * 64)) = 2 ^ (12 * i) * ((i + 1) * 128) := by grind
      rw [this]
      exact Nat.mul_le_mul_left _ (by omega)
    have b3 : (2 : Nat) ^ (12 * (i + 1)) < 2 ^ 3900 := Nat.pow_lt_pow_right (by decide) (by omega)
    obtain ⟨t1, t2⟩ := times_ok (by have := fa_pos i; omega) (by omega) hr r1 (by omega) (by decide) (by omega) (by simpa using bf) (small (by omega) (by decide)) bb (small (by decide) (by decide)) (by omega)
    refine ⟨fun _ => ?_, ?_⟩
    · have e : ((fa i : Int)) * ((i + 1 : Nat) : Int) = ((fa (i + 1) : Nat) : Int) := by simp [fa]
      rw [e] at t1
      exact t1.to bn (fun x => rfl) (by rw [Int.pow_succ])
    · show (O.ratio (eI (shift - (i : Int))) (eI ((i : Int) + 1)) && (Ex.isOk (V.ratio (eI (shift - (i : Int))) (eI ((i : Int) + 1))) && (O.ratio (eI sign) (eI ((i : Int) + 1)) && (Ex.isOk (V.ratio (eI sign) (eI ((i : Int) + 1))) && (O.times_row s _ && true))))) = true
      rw [r3, r5, t2, r2, r4]
      rfl
  unfold V.chosen_row O.chosen_row
  rw [key.2, rg_of (by omega) (by omega)]
  exact ⟨key.1 (Nat.le_refl _), rfl⟩
theorem pr_up (x : Nat) : ∀ t : Nat, pr 1 0 t (x : Int) = (fa t : Int) * ch x t
  | 0 => by simp [pr, fa]
  | t + 1 => by
    have := ch_mul x t
    rw [pr, pr_up x t, fa]
    push_cast
    grind
theorem pr_down {n x : Nat} (h : x ≤ n) : ∀ t : Nat, pr (-1) (n : Int) t (x : Int) = (fa t : Int) * ch (n - x) t
  | 0 => by simp [pr, fa]
  | t + 1 => by
    have := ch_mul (n - x) t
    have e : (((n - x : Nat)) : Int) = (n : Int) - x := by omega
    rw [e] at this
    rw [pr, pr_down h t, fa]
    push_cast
    grind
end Ky
open Wk Mn
namespace Ky
def sg (j : Nat) : Int := if j % 2 = 0 then 1 else -1
theorem sg_abs (j : Nat) : (sg j).natAbs = 1 := by unfold sg; split <;> rfl
theorem sg_pow (j : Nat) : sg j = (-1) ^ j := by
  induction j with
  | zero => rfl
  | succ j ih =>
    rw [Int.pow_succ, ← ih]
    unfold sg
    by_cases h : j % 2 = 0
    · rw [if_pos h, if_neg (by omega)]; rfl
    · rw [if_neg h, if_pos (by omega)]; rfl
theorem sg_bif (j : Nat) : (bif (decide ((Int.fmod (j : Int) 2) = 0)) then (1 : Int) else (-1 : Int)) = sg j := by
  have : Int.fmod (j : Int) 2 = ((j % 2 : Nat) : Int) := by rw [Int.fmod_eq_emod_of_nonneg _ (by decide)]; omega
  rw [this]
  unfold sg
  by_cases h : j % 2 = 0
  · rw [h]; rfl
  · have h2 : j % 2 = 1 := by omega
    rw [h2]; rfl
theorem l5_eq (c : Int × Int) : V.krawtchouk_row_l5 c = V.times_row_l3 0 c := by
  funext q x
  unfold V.krawtchouk_row_l5 V.times_row_l3
  rw [Int.zero_add]
theorem l5_eqO (c : Int × Int) : O.krawtchouk_row_l5 c = O.times_row_l3 0 c := by
  funext q x
  unfold O.krawtchouk_row_l5 O.times_row_l3
  rw [Int.zero_add]
/-- the product of the two rows of choices, over k! -/
theorem prod_ok {n k j : Nat} (hn : n ≤ 24) (hk : k ≤ n) (hj : j ≤ k) : Row (fa k : Int) (k + 1) (2 ^ 400) (fun x => pr 1 0 j x * pr (-1) (n : Int) (k - j) x * ch k j) (1 ^ j * (-1) ^ (k - j) * ch k j) (V.times_row (V.chosen_row 1 0 (j : Int)) (V.chosen_row (-1) (n : Int) ((k : Int) - (j : Int)))) ∧
    O.chosen_row 1 0 (j : Int) = true ∧ O.chosen_row (-1) (n : Int) ((k : Int) - (j : Int)) = true ∧ O.times_row (V.chosen_row 1 0 (j : Int)) (V.chosen_row (-1) (n : Int) ((k : Int) - (j : Int))) = true := by
  have e : (k : Int) - (j : Int) = ((k - j : Nat) : Int) := by omega
  rw [e]
  obtain ⟨a1, a2⟩ := chosen_row_ok (sign := 1) (shift := 0) (by decide) (by decide) j (by omega)
  obtain ⟨b1, b2⟩ := chosen_row_ok (sign := -1) (shift := (n : Int)) (by decide) (by omega) (k - j) (by omega)
  have f1 : fa j < 2 ^ 1900 := Nat.lt_of_le_of_lt (fa_le j (by omega)) (Nat.pow_lt_pow_right (by decide) (by omega))
  have f2 : fa (k - j) < 2 ^ 1900 := Nat.lt_of_le_of_lt (fa_le (k - j) (by omega)) (Nat.pow_lt_pow_right (by decide) (by omega))
  have hb : (j + 1) * ((k - j + 1) * (2 ^ (12 * j) * 2 ^ (12 * (k - j)))) ≤ 2 ^ 370 := by
    rw [← Nat.pow_add]
    have h1 : j + 1 ≤ 2 ^ 5 := by omega
    have h2 : k - j + 1 ≤ 2 ^ 5 := by omega
    have h3 : (2 : Nat) ^ (12 * j + 12 * (k - j)) ≤ 2 ^ 360 := Nat.pow_le_pow_right (by decide) (by omega)
    have := Nat.mul_le_mul h1 (Nat.mul_le_mul h2 h3)
    rw [← Nat.pow_add, ← Nat.pow_add] at this
    exact this
  have w1 : (2 : Nat) ^ 370 < 2 ^ 3900 := Nat.pow_lt_pow_right (by decide) (by decide)
  obtain ⟨t1, t2⟩ := times_ok (by have := fa_pos j; omega) (by have := fa_pos (k - j); omega) a1 b1 (by omega) (by omega) (by omega) (by simpa using f1) (by simpa using f2) (Nat.pow_lt_pow_right (by decide) (by omega)) (Nat.pow_lt_pow_right (by decide) (by omega)) (by omega)
  refine ⟨?_, a2, b2, t2⟩
  have s := t1.scale (ch k j)
  have eD : (fa j : Int) * (fa (k - j) : Int) * (ch k j : Int) = (fa k : Int) := by
    have := fa_ch k j hj
    grind
  have eN : j + 1 + (k - j + 1) - 1 = k + 1 := by omega
  rw [eD, eN] at s
  refine s.to ?_ (fun x => rfl) rfl
  have c1 := ch_le k j
  have c2 : (2 : Nat) ^ k ≤ 2 ^ 30 := Nat.pow_le_pow_right (by decide) (by omega)
  have := Nat.mul_le_mul hb (Nat.le_trans c1 c2)
  have e400 : (2 : Nat) ^ 370 * 2 ^ 30 = 2 ^ 400 := (Nat.pow_add ..).symm
  rw [e400] at this
  exact this
theorem term_row {n q k j B : Nat} {P : Int → Int} {L : Int} {s : List (Int × Int)} (hn : n ≤ 24) (hq : 2 ≤ q) (hq2 : q ≤ 16) (hk : k ≤ n) (hj : j ≤ k) (h : Row (fa k : Int) (k + 1) B P L s) (hB : B ≤ 2 ^ 600) :
    Row (fa k : Int) (k + 1) (B + 2 ^ 510) (fun x => P x + ((q : Int) - 1) ^ (k - j) * sg j * (pr 1 0 j x * pr (-1) (n : Int) (k - j) x * ch k j)) (L + ((q : Int) - 1) ^ (k - j) * sg j * (1 ^ j * (-1) ^ (k - j) * ch k j)) (V.krawtchouk_row_l3 (eI (n : Int)) (eI (q : Int)) (eI (k : Int)) s (j : Int)) ∧ O.krawtchouk_row_l3 (eI (n : Int)) (eI (q : Int)) (eI (k : Int)) s (j : Int) = true := by
  obtain ⟨p1, p2, p3, p4⟩ := prod_ok hn hk hj
  have e1 : (q : Int) - 1 = ((q - 1 : Nat) : Int) := by omega
  have e2 : (k : Int) - (j : Int) = ((k - j : Nat) : Int) := by omega
  have hB2 : (q - 1) ^ (k - j) ≤ 2 ^ 100 := by
    have h1 : (q - 1) ^ (k - j) ≤ (2 ^ 4) ^ (k - j) := Nat.pow_le_pow_left (by omega) _
    rw [← Nat.pow_mul] at h1
    exact Nat.le_trans h1 (Nat.pow_le_pow_right (by decide) (by omega))
  obtain ⟨r1, r2⟩ := pow_ok (a := q - 1) (e := k - j) (by omega) (by omega) (Nat.lt_of_le_of_lt hB2 (Nat.pow_lt_pow_right (by decide) (by decide)))
  rw [← e1, ← e2] at r1 r2
  generalize hz : ((q : Int) - 1) ^ (k - j) * sg j = z
  have za : z.natAbs ≤ 2 ^ 100 := by
    rw [← hz, Int.natAbs_mul, sg_abs, Nat.mul_one, Int.natAbs_pow, e1]
    simpa using hB2
  obtain ⟨c, r, eT, g1, g2, g3, g4⟩ := p1.ex
  have hfa : (0 : Int) < fa k := by have := fa_pos k; omega
  have bf : fa k < 2 ^ 1900 := Nat.lt_of_le_of_lt (fa_le k (by omega)) (Nat.pow_lt_pow_right (by decide) (by omega))
  have w1 : (2 : Nat) ^ 100 * 2 ^ 400 = 2 ^ 500 := (Nat.pow_add ..).symm
  have w2 : (k + 1) * (2 ^ 100 * 2 ^ 400) ≤ 2 ^ 510 := by
    rw [w1, show (510 : Nat) = 500 + 10 by decide, Nat.pow_add, Nat.mul_comm]
    exact Nat.mul_le_mul_left _ (by omega)
  have w3 : (2 : Nat) ^ 600 + 2 ^ 510 < 2 ^ 3900 := by
    have h1 : (2 : Nat) ^ 510 ≤ 2 ^ 600 := Nat.pow_le_pow_right (by decide) (by decide)
    have h2 : (2 : Nat) ^ 600 + 2 ^ 600 = 2 ^ 601 := by rw [Nat.pow_succ]; omega
    have h3 : (2 : Nat) ^ 601 < 2 ^ 3900 := Nat.pow_lt_pow_right (by decide) (by decide)
    omega
  have hrow : Row (1 * (fa k : Int)) (1 + (k + 1) - 1) B P L s := by
    rw [Int.one_mul, show 1 + (k + 1) - 1 = k + 1 by omega]
    exact h
  obtain ⟨i1, i2⟩ := inner (D := 1) (E := (fa k : Int)) (m := 1) (n := k + 1) (i := 0) (a := (z, 1)) (by decide) hfa (Rp.int z) za g1 g2 (by decide) (by omega) hrow (small (by decide) (by decide)) (by simpa using bf) (Nat.pow_lt_pow_right (by decide) (by decide)) (Nat.pow_lt_pow_right (by decide) (by decide)) (by omega)
  rw [Int.one_mul, show 1 + (k + 1) - 1 = k + 1 by omega, if_pos rfl] at i1
  have ev1 : V.krawtchouk_row_l3 (eI (n : Int)) (eI (q : Int)) (eI (k : Int)) s (j : Int) = V.times_row_l2 (tab (k + 1) r) s (((0 : Nat) : Int), (z, 1)) := by
    show V.krawtchouk_row_r4 (eI (n : Int)) (eI (k : Int)) s (j : Int) (V.raised_to ((q : Int) - 1) ((k : Int) - (j : Int)) * (bif (decide ((Int.fmod (j : Int) 2) = 0)) then (1 : Int) else (-1 : Int)), 1) = _
    rw [r1, sg_bif, hz]
    show List.foldl (V.krawtchouk_row_l5 (z, 1)) s (enumI (V.times_row (V.chosen_row 1 0 (j : Int)) (V.chosen_row (-1) (n : Int) ((k : Int) - (j : Int))))) = _
    rw [eT, l5_eq]
    rfl
  have ev2 : O.krawtchouk_row_l3 (eI (n : Int)) (eI (q : Int)) (eI (k : Int)) s (j : Int) = true := by
    show (true && (true && (O.raised_to ((q : Int) - 1) ((k : Int) - (j : Int)) && (fitB (V.raised_to ((q : Int) - 1) ((k : Int) - (j : Int))) (bif (decide ((Int.fmod (j : Int) 2) = 0)) then (1 : Int) else (-1 : Int)) && O.krawtchouk_row_r4 (eI (n : Int)) (eI (k : Int)) s (j : Int) (V.raised_to ((q : Int) - 1) ((k : Int) - (j : Int)) * (bif (decide ((Int.fmod (j : Int) 2) = 0)) then (1 : Int) else (-1 : Int)), 1))))) = true
    have fz : fitB (((q : Int) - 1) ^ (k - j)) (sg j) = true := fit_of (a := 101) (b := 1) (by
      rw [Int.natAbs_pow, e1]
      have : (2 : Nat) ^ 100 < 2 ^ 101 := Nat.pow_lt_pow_right (by decide) (by decide)
      simp only [Int.natAbs_natCast]
      omega) (by rw [sg_abs]; decide) (by decide)
    rw [r1, r2, sg_bif, fz, hz]
    show (true && (true && (true && (true && (O.chosen_row 1 0 (j : Int) && (true && (true && (O.chosen_row (-1) (n : Int) ((k : Int) - (j : Int)) && (O.times_row (V.chosen_row 1 0 (j : Int)) (V.chosen_row (-1) (n : Int) ((k : Int) - (j : Int))) && (okF (V.krawtchouk_row_l5 (z, 1)) (O.krawtchouk_row_l5 (z, 1)) (enumI (V.times_row (V.chosen_row 1 0 (j : Int)) (V.chosen_row (-1) (n : Int) ((k : Int) - (j : Int))))) s && true)))))))))) = true
    rw [p2, p3, p4, eT, l5_eq, l5_eqO]
    unfold O.times_row_l2 at i2
    have i3 : (okF (V.times_row_l3 0 (z, 1)) (O.times_row_l3 0 (z, 1)) (enumI (tab (k + 1) r)) s && true) = true := i2
    rw [Bool.and_true] at i3
    rw [i3]
    rfl
  refine ⟨?_, ev2⟩
  rw [ev1]
  refine i1.to (by omega) (fun x => ?_) ?_
  · show P x + z * x ^ 0 * ev (k + 1) c x = P x + z * _
    rw [g3]
    simp
  · rw [show k + 1 - 1 = k by omega] at g4 ⊢
    rw [g4]
theorem sum_k {n k x : Nat} (hk : k ≤ n) (hx : x ≤ n) (p : Int) : sm (fun j => p ^ (k - j) * sg j * (pr 1 0 j (x : Int) * pr (-1) (n : Int) (k - j) (x : Int) * ch k j)) (k + 1) = fa k * K p x (n - x) k := by
  rw [K_sum, ← sm_mul]
  refine sm_congr fun j hj => ?_
  have := fa_ch k j (by omega)
  rw [pr_up, pr_down hx]
  unfold sg
  grind
theorem neg_pw (a : Int) : ∀ m : Nat, (-a) ^ m = (-1) ^ m * a ^ m
  | 0 => by simp
  | m + 1 => by rw [Int.pow_succ, Int.pow_succ, Int.pow_succ, neg_pw a m]; grind
theorem lead_k {q k : Nat} : sm (fun j => ((q : Int) - 1) ^ (k - j) * sg j * (1 ^ j * (-1) ^ (k - j) * ch k j)) (k + 1) = (-(q : Int)) ^ k := by
  have h := bin (-1) (-((q : Int) - 1)) k
  rw [show (-1 : Int) + -((q : Int) - 1) = -(q : Int) by omega] at h
  rw [← h]
  refine sm_congr fun j hj => ?_
  unfold bw
  rw [sg_pow, Int.one_pow, neg_pw ((q : Int) - 1) (k - j)]
  grind
theorem krow_ok {n q k : Nat} (h0 : 1 ≤ n) (hn : n ≤ 24) (hq : 2 ≤ q) (hq2 : q ≤ 16) (hk : k ≤ n) : ∃ T P L, V.krawtchouk_row (eI (n : Int)) (eI (q : Int)) (eI (k : Int)) = .ok T ∧ O.krawtchouk_row (eI (n : Int)) (eI (q : Int)) (eI (k : Int)) = true ∧ Row (fa k : Int) (k + 1) (2 ^ 600) P L T ∧ L ≠ 0 ∧ ∀ x : Nat, x ≤ n → P (x : Int) = fa k * K ((q : Int) - 1) x (n - x) k := by
  have e : (k : Int) + 1 = ((k + 1 : Nat) : Int) := by omega
  have hfa : (0 : Int) < fa k := by have := fa_pos k; omega
  have rep : repL ((k + 1 : Nat) : Int) [((0 : Int), (1 : Int))] = tab (k + 1) fun _ => ((0 : Int), (1 : Int)) := by
    unfold repL tab
    have : (((k + 1 : Nat) : Int)).toNat = k + 1 := by omega
    rw [this, List.map_const', List.length_range]
    generalize k + 1 = N
    induction N with
    | zero => rfl
    | succ N ih => rw [List.replicate_succ, List.flatten_cons, ih]; rfl
  have w : ∀ i, i ≤ 64 → i * 2 ^ 510 ≤ 2 ^ 600 := fun i hi => by
    rw [show (600 : Nat) = 90 + 510 by decide, Nat.pow_add]
    exact Nat.mul_le_mul_right _ (Nat.le_trans hi (by decide))
  have key := fold_rI (f := V.krawtchouk_row_l3 (eI (n : Int)) (eI (q : Int)) (eI (k : Int))) (ok := O.krawtchouk_row_l3 (eI (n : Int)) (eI (q : Int)) (eI (k : Int)))
    (fun i s => i ≤ k + 1 → Row (fa k : Int) (k + 1) (i * 2 ^ 510) (fun x => sm (fun j => ((q : Int) - 1) ^ (k - j) * sg j * (pr 1 0 j x * pr (-1) (n : Int) (k - j) x * ch k j)) i) (sm (fun j => ((q : Int) - 1) ^ (k - j) * sg j * (1 ^ j * (-1) ^ (k - j) * ch k j)) i) s) (tab (k + 1) fun _ => ((0 : Int), (1 : Int)))
    (fun _ => (Row.zero hfa).to (by omega) (fun x => rfl) rfl) (k + 1) fun i hi s hs => by
    obtain ⟨t1, t2⟩ := term_row hn hq hq2 hk (show i ≤ k by omega) (hs (by omega)) (w i (by omega))
    exact ⟨fun _ => t1.to (by rw [Nat.succ_mul]; omega) (fun x => rfl) rfl, t2⟩
  have b1 : V.is_between (eI (n : Int)) 1 24 = true := by
    show (true && (decide (1 ≤ (n : Int)) && decide ((n : Int) ≤ 24))) = true
    simp only [Bool.true_and, Bool.and_eq_true, decide_eq_true_eq]; omega
  have b2 : V.is_between (eI (q : Int)) 2 16 = true := by
    show (true && (decide (2 ≤ (q : Int)) && decide ((q : Int) ≤ 16))) = true
    simp only [Bool.true_and, Bool.and_eq_true, decide_eq_true_eq]; omega
  have b3 : V.is_between (eI (k : Int)) 0 (n : Int) = true := by
    show (true && (decide (0 ≤ (k : Int)) && decide ((k : Int) ≤ (n : Int)))) = true
    simp only [Bool.true_and, Bool.and_eq_true, decide_eq_true_eq]; omega
  refine ⟨_, _, _, ?_, ?_, (key.1 (Nat.le_refl _)).to (w _ (by omega)) (fun _ => rfl) rfl, ?_, fun x hx => sum_k hk hx _⟩
  · unfold V.krawtchouk_row V.krawtchouk_row_r1 V.krawtchouk_row_r2
    rw [b1, b2, show V.is_between (eI (k : Int)) 0 (Un.un eI (eI (n : Int))) = true from b3]
    show Ex.ok (List.foldl _ (repL ((k : Int) + 1) _) (rI 0 ((k : Int) + 1))) = _
    rw [e, rep]
  · unfold O.krawtchouk_row O.krawtchouk_row_r1 O.krawtchouk_row_r2
    rw [b1, b2, show V.is_between (eI (k : Int)) 0 (Un.un eI (eI (n : Int))) = true from b3]
    have hrp : rpB (List.length [((0 : Int), (1 : Int))]) ((k + 1 : Nat) : Int) = true := by
      unfold rpB
      simp only [Bool.and_eq_true, decide_eq_true_eq, List.length_singleton]
      refine ⟨⟨by omega, by omega⟩, Nat.ble_eq_true_of_le (by omega)⟩
    have e' : Un.un eI (eI (k : Int)) + 1 = ((k + 1 : Nat) : Int) := e
    have h3 : rgB 0 ((k + 1 : Nat) : Int) = true := rg_of (by omega) (by omega)
    have k2 := key.2
    have hc : (!true || (!true || !true)) = false := rfl
    rw [e', rep, hc, cond_false]
    simp only [Bool.and_eq_true]
    exact ⟨rfl, rfl, rfl, rfl, rfl, rfl, rfl, hrp, rfl, h3, k2, trivial⟩
  · rw [lead_k]
    exact Int.pow_ne_zero (by omega)
end Ky
open Wk Mn
namespace Ky
/-! ### the law's fractions -/
theorem gcd_em (a b : Int) : Int.gcd b (a % b) = Int.gcd a b := by
  rw [Int.gcd_comm a b]
  have h1 : ∀ d : Int, d ∣ b → (d ∣ a % b ↔ d ∣ a) := fun d hd => by
    constructor
    · intro h
      have := Int.dvd_add (Int.dvd_mul_of_dvd_left (c := a / b) hd) h
      rwa [Int.mul_ediv_add_emod] at this
    · intro h
      rw [Int.emod_def]
      exact Int.dvd_sub h (Int.dvd_mul_of_dvd_left hd)
  have d1 : ((Int.gcd b (a % b) : Nat) : Int) ∣ (Int.gcd b a : Int) := Int.dvd_coe_gcd (Int.gcd_dvd_left ..) ((h1 _ (Int.gcd_dvd_left ..)).mp (Int.gcd_dvd_right ..))
  have d2 : ((Int.gcd b a : Nat) : Int) ∣ (Int.gcd b (a % b) : Int) := Int.dvd_coe_gcd (Int.gcd_dvd_left ..) ((h1 _ (Int.gcd_dvd_left ..)).mpr (Int.gcd_dvd_right ..))
  exact Nat.dvd_antisymm (Int.natCast_dvd_natCast.mp d1) (Int.natCast_dvd_natCast.mp d2)
theorem l_common_ok {a b : Int} (hb : 0 < b) (h : b.natAbs < 2 ^ 100000) : V.l_common a b = (Int.gcd a b : Int) ∧ O.l_common a b = true := by
  obtain ⟨m, rfl⟩ : ∃ m : Nat, b = (m : Int) := ⟨b.toNat, by omega⟩
  have hr0 := Int.emod_nonneg a (show (m : Int) ≠ 0 by omega)
  have hr1 := Int.emod_lt_of_pos a hb
  obtain ⟨r, hr⟩ : ∃ r : Nat, a % (m : Int) = (r : Int) := ⟨(a % (m : Int)).toNat, by omega⟩
  obtain ⟨h1, h2⟩ := gcd_loop m m r (by omega)
  have hm : Int.fmod a (m : Int) = (r : Int) := by rw [Int.fmod_eq_emod_of_nonneg _ (by omega), hr]
  have hg : Nat.gcd m r = Int.gcd a (m : Int) := by
    rw [← gcd_em a (m : Int), hr]
    rfl
  have hc : V.l_common_c1 (a, (m : Int)) = true := by
    unfold V.l_common_c1
    simp only [Bool.not_eq_true', decide_eq_false_iff_not]
    omega
  have hl : V.l_common_l1 (a, (m : Int)) = ((m : Int), (r : Int)) := by
    unfold V.l_common_l1
    rw [hm]
  have ho : O.l_common_l1 (a, (m : Int)) = true := by
    unfold O.l_common_l1 mdB
    simp only [Bool.and_true, Bool.not_eq_true', decide_eq_false_iff_not]
    omega
  have e1 : (whV V.l_common_c1 V.l_common_l1 (m + 1) (a, (m : Int))).1 = (Nat.gcd m r : Int) := by
    rw [whV, hc, hl, cond_true]
    exact h1
  have e2 : whO V.l_common_c1 O.l_common_c1 V.l_common_l1 O.l_common_l1 (m + 1) (a, (m : Int)) = true := by
    rw [whO, hc, hl, ho, cond_true]
    have h2' : whO V.l_common_c1 O.l_common_c1 V.l_common_l1 O.l_common_l1 m ((m : Int), (r : Int)) = true := h2
    rw [h2']
    rfl
  unfold V.l_common O.l_common V.l_common_r2 O.l_common_r2
  rw [show Int.natAbs (m : Int) = m by simp, e1, e2, hg, wf_of (n := m) (by simpa using h)]
  exact ⟨by simp, rfl⟩
theorem l_ratio_ok {a b : Int} (hb : 0 < b) (h : b.natAbs < 2 ^ 8000) : Rp b a (V.l_ratio a b) ∧ O.l_ratio a b = true := by
  have h5 : b.natAbs < 2 ^ 100000 := Nat.lt_trans h (Nat.pow_lt_pow_right (by decide) (by decide))
  obtain ⟨g1, g2⟩ := l_common_ok (a := a) hb h5
  obtain ⟨k1, k2⟩ := common_ok (a := a) (b := b) h5
  have hd : decide (b > 0) = true := by simp only [decide_eq_true_eq]; omega
  have hn : decide (b < 0) = false := by simp only [decide_eq_false_iff_not]; omega
  have hl := lowest_ok (a := a) hb h
  have e : V.l_ratio a b = V.lowest a b := by
    unfold V.l_ratio V.lowest V.lowest_r1 V.lowest_j2
    rw [hd, hn, g1, k1]
    rfl
  rw [e]
  refine ⟨hl.1, ?_⟩
  have hf : fdB (Int.gcd a b : Int) = true := by
    have h2 := hl.2
    unfold O.lowest O.lowest_r1 O.lowest_j2 at h2
    rw [k1, k2, hn] at h2
    simp only [Bool.and_eq_true, cond_false] at h2
    exact h2.2.1
  unfold O.l_ratio
  rw [g1, g2, hd, hf]
  rfl
theorem rp_one {D z : Int} {r : Int × Int} (h : Rp D z r) (e : r.2 = 1) : r.1 * D = z := by
  have := h.eq
  rw [e] at this
  omega
theorem l_plus_ok {D z w : Int} {r s : Int × Int} (hD : 0 < D) (h : Rp D z r) (k : Rp D w s) (bD : D.natAbs < 2 ^ 4000) (bz : z.natAbs < 2 ^ 4000) (bw : w.natAbs < 2 ^ 4000) : Rp D (z + w) (V.l_plus r s) ∧ O.l_plus r s = true := by
  unfold V.l_plus O.l_plus
  by_cases c : r.2 = 1 ∧ s.2 = 1
  · have e : (decide (r.2 = 1) && decide (s.2 = 1)) = true := by simp [c.1, c.2]
    rw [e, cond_true, cond_true]
    have e1 := rp_one h c.1
    have e2 := rp_one k c.2
    exact ⟨⟨(by decide : (0 : Int) < 1), by simp, by show (r.1 + s.1) * D = (z + w) * 1; grind⟩, rfl⟩
  · have e : (decide (r.2 = 1) && decide (s.2 = 1)) = false := by
      rw [Bool.and_eq_false_iff]
      by_cases q : r.2 = 1
      · right; simp only [decide_eq_false_iff_not]; exact fun z => c ⟨q, z⟩
      · left; simp only [decide_eq_false_iff_not]; exact q
    rw [e, cond_false, cond_false]
    have p1 := h.pos
    have p2 := k.pos
    have l1 := h.den_le hD
    have l2 := k.den_le hD
    have l3 := h.num_le hD
    have l4 := k.num_le hD
    obtain ⟨q1, q2⟩ := l_ratio_ok (a := r.1 * s.2 + s.1 * r.2) (b := r.2 * s.2) (Int.mul_pos p1 p2) (by rw [Int.natAbs_mul]; exact m4 (by omega) (by omega))
    refine ⟨⟨q1.pos, q1.cop, ?_⟩, ?_⟩
    · have e := q1.eq
      have e1 := h.eq
      have e2 := k.eq
      generalize V.l_ratio (r.1 * s.2 + s.1 * r.2) (r.2 * s.2) = t at e
      have : (t.1 * D) * (r.2 * s.2) = ((z + w) * t.2) * (r.2 * s.2) := by grind
      exact Int.eq_of_mul_eq_mul_right (by have := Int.mul_pos p1 p2; omega) this
    · rw [q2, fit_of (a := 4000) (b := 4000) (x := r.1) (y := s.2) (by omega) (by omega) (by decide), fit_of (a := 4000) (b := 4000) (x := s.1) (y := r.2) (by omega) (by omega) (by decide), fit_of (a := 4000) (b := 4000) (x := r.2) (y := s.2) (by omega) (by omega) (by decide)]
      rfl
theorem l_times_ok {D E z w : Int} {r s : Int × Int} (hD : 0 < D) (hE : 0 < E) (h : Rp D z r) (k : Rp E w s) (bD : D.natAbs < 2 ^ 4000) (bE : E.natAbs < 2 ^ 4000) (bz : z.natAbs < 2 ^ 4000) (bw : w.natAbs < 2 ^ 4000) : Rp (D * E) (z * w) (V.l_times r s) ∧ O.l_times r s = true := by
  have p1 := h.pos
  have p2 := k.pos
  have l1 := h.den_le hD
  have l2 := k.den_le hE
  have l3 := h.num_le hD
  have l4 := k.num_le hE
  have f1 : fitB r.1 s.1 = true := fit_of (a := 4000) (b := 4000) (by omega) (by omega) (by decide)
  unfold V.l_times O.l_times
  by_cases c : r.2 = 1 ∧ s.2 = 1
  · have e : (decide (r.2 = 1) && decide (s.2 = 1)) = true := by simp [c.1, c.2]
    rw [e, cond_true, cond_true]
    have e1 := rp_one h c.1
    have e2 := rp_one k c.2
    exact ⟨⟨(by decide : (0 : Int) < 1), by simp, by show (r.1 * s.1) * (D * E) = (z * w) * 1; grind⟩, f1⟩
  · have e : (decide (r.2 = 1) && decide (s.2 = 1)) = false := by
      rw [Bool.and_eq_false_iff]
      by_cases q : r.2 = 1
      · right; simp only [decide_eq_false_iff_not]; exact fun z => c ⟨q, z⟩
      · left; simp only [decide_eq_false_iff_not]; exact q
    rw [e, cond_false, cond_false]
    obtain ⟨q1, q2⟩ := l_ratio_ok (a := r.1 * s.1) (b := r.2 * s.2) (Int.mul_pos p1 p2) (by rw [Int.natAbs_mul]; exact m4 (by omega) (by omega))
    refine ⟨⟨q1.pos, q1.cop, ?_⟩, ?_⟩
    · have e := q1.eq
      have e1 := h.eq
      have e2 := k.eq
      generalize V.l_ratio (r.1 * s.1) (r.2 * s.2) = t at e
      have : (t.1 * (D * E)) * (r.2 * s.2) = ((z * w) * t.2) * (r.2 * s.2) := by grind
      exact Int.eq_of_mul_eq_mul_right (by have := Int.mul_pos p1 p2; omega) this
    · rw [q2, f1, fit_of (a := 4000) (b := 4000) (x := r.2) (y := s.2) (by omega) (by omega) (by decide)]
      rfl
end Ky
open Wk Mn
namespace Ky
theorem value_gen {D : Int} {B : Nat} {x : Nat} (c : Nat → Int) (r : Nat → Int × Int) (hD : 0 < D) (bD : D.natAbs < 2 ^ 1900) (hB : B ≤ 2 ^ 600) (hx : x ≤ 31) (bc : ∀ t, (c t).natAbs ≤ B) : ∀ (N j : Nat) (z : Int) (s : Int × Int), (∀ t, t < N → Rp D (c t) (r t)) → Rp D z s → z.natAbs ≤ B * 32 ^ j → j + N ≤ 64 →
    Rp D (z * (x : Int) ^ N + ev N c x) ((tab N r).reverse.foldl (V.l_value_l1 (x : Int)) s) ∧ okF (V.l_value_l1 (x : Int)) (O.l_value_l1 (x : Int)) (tab N r).reverse s = true
  | 0, j, z, s, _, h, _, _ => ⟨by simpa [ev, sm, tab] using h, rfl⟩
  | N + 1, j, z, s, hc, h, hz, hj => by
    have w0 : (32 : Nat) ^ j ≤ 2 ^ 320 := by
      have : (32 : Nat) ^ j = 2 ^ (5 * j) := by rw [Nat.pow_mul]
      rw [this]
      exact Nat.pow_le_pow_right (by decide) (by omega)
    have w1 : B * 32 ^ j ≤ 2 ^ 920 := by
      have := Nat.mul_le_mul hB w0
      have e : (2 : Nat) ^ 600 * 2 ^ 320 = 2 ^ 920 := (Nat.pow_add ..).symm
      omega
    have w2 : (2 : Nat) ^ 920 * 31 < 2 ^ 4000 := by
      have e : (2 : Nat) ^ 920 * 2 ^ 5 = 2 ^ 925 := (Nat.pow_add ..).symm
      have : (2 : Nat) ^ 925 < 2 ^ 4000 := Nat.pow_lt_pow_right (by decide) (by decide)
      omega
    have w3 : (2 : Nat) ^ 600 ≤ 2 ^ 920 := Nat.pow_le_pow_right (by decide) (by decide)
    have w4 : (2 : Nat) ^ 1900 < 2 ^ 4000 := Nat.pow_lt_pow_right (by decide) (by decide)
    have hx1 : ((x : Int)).natAbs < 2 ^ 4000 := small (by omega) (by decide)
    obtain ⟨t1, t2⟩ := l_times_ok (E := 1) (w := (x : Int)) (s := ((x : Int), 1)) hD (by decide) h (Rp.int _) (Nat.lt_trans bD w4) (small (by decide) (by decide)) (by omega) hx1
    rw [Int.mul_one] at t1
    have hzx : (z * (x : Int)).natAbs ≤ B * 32 ^ j * 31 := by
      rw [Int.natAbs_mul]
      exact Nat.mul_le_mul hz (by simpa using hx)
    have hcN := bc N
    obtain ⟨p1, p2⟩ := l_plus_ok hD t1 (hc N (by omega)) (Nat.lt_trans bD w4) (by omega) (by omega)
    have hn : (z * (x : Int) + c N).natAbs ≤ B * 32 ^ (j + 1) := by
      have a := Int.natAbs_add_le (z * (x : Int)) (c N)
      have b : B ≤ B * 32 ^ j := Nat.le_mul_of_pos_right _ (Nat.pow_pos (by decide))
      rw [Nat.pow_succ, ← Nat.mul_assoc]
      omega
    have ih := value_gen c r hD bD hB hx bc N (j + 1) _ _ (fun t ht => hc t (by omega)) p1 hn (by omega)
    rw [tab_succ, List.reverse_append]
    show Rp D _ (List.foldl _ (V.l_value_l1 (x : Int) s (r N)) (tab N r).reverse) ∧ (O.l_value_l1 (x : Int) s (r N) && okF _ _ (tab N r).reverse (V.l_value_l1 (x : Int) s (r N))) = true
    have ev1 : V.l_value_l1 (x : Int) s (r N) = V.l_plus (V.l_times s ((x : Int), 1)) (r N) := rfl
    have ev2 : O.l_value_l1 (x : Int) s (r N) = true := by
      unfold O.l_value_l1
      rw [t2, p2]
      rfl
    rw [ev1, ev2, ih.2]
    refine ⟨?_, rfl⟩
    have e : z * (x : Int) ^ (N + 1) + ev (N + 1) c x = (z * (x : Int) + c N) * (x : Int) ^ N + ev N c x := by
      show z * (x : Int) ^ (N + 1) + (ev N c x + c N * (x : Int) ^ N) = _
      rw [Int.pow_succ]
      grind
    rw [e]
    exact ih.1
theorem value_ok {D : Int} {N B x : Nat} {P : Int → Int} {L : Int} {T : List (Int × Int)} (h : Row D N B P L T) (hD : 0 < D) (bD : D.natAbs < 2 ^ 1900) (hB : B ≤ 2 ^ 600) (hx : x ≤ 31) (hN : N ≤ 60) {v : Int} (hv : P (x : Int) = D * v) : V.l_value T (x : Int) = (v, 1) ∧ O.l_value T (x : Int) = true := by
  obtain ⟨c, r, rfl, g1, g2, g3, g4⟩ := h.ex
  have h0 : Rp D 0 ((0 : Int), (1 : Int)) := ⟨(by decide : (0 : Int) < 1), by decide, by simp⟩
  obtain ⟨a, b⟩ := value_gen c r hD bD hB hx g2 N 0 0 (0, 1) g1 h0 (by simp) (by omega)
  unfold V.l_value O.l_value
  rw [b]
  refine ⟨?_, rfl⟩
  rw [g3, hv] at a
  have e : 0 * (x : Int) ^ N + D * v = v * D := by rw [Int.mul_comm D v]; omega
  rw [e] at a
  refine Rp.uniq a ⟨(by decide : (0 : Int) < 1), by simp, by simp⟩ hD
/-! ### that it is a row -/
theorem is_ratio_ok {D z : Int} {r : Int × Int} (h : Rp D z r) (hD : 0 < D) (bD : D.natAbs < 2 ^ 1900) : V.l_is_ratio (eP2 eI eI r) = true ∧ O.l_is_ratio (eP2 eI eI r) = true := by
  have p := h.pos
  have l := h.den_le hD
  obtain ⟨g1, g2⟩ := l_common_ok (a := r.1) (b := r.2) p (Nat.lt_of_le_of_lt (by omega : r.2.natAbs ≤ D.natAbs) (Nat.lt_trans bD (Nat.pow_lt_pow_right (by decide) (by decide))))
  rw [h.cop] at g1
  have hd : decide (r.2 > 0) = true := by simp only [decide_eq_true_eq]; omega
  constructor
  · show (decide (r.2 > 0) && decide (V.l_common r.1 r.2 = 1)) = true
    rw [hd, g1]
    rfl
  · have e : O.l_is_ratio (eP2 eI eI r) = (imp (decide (r.2 > 0)) (O.l_common r.1 r.2)) := rfl
    rw [e, hd, g2]
    rfl
end Ky
open Wk Mn
namespace Ky
theorem map_tab {α β : Type} (f : α → β) (n : Nat) (a : Nat → α) : (tab n a).map f = tab n fun i => f (a i) := by
  unfold tab
  rw [List.map_map]
  rfl
theorem all_tab {α : Type} {n : Nat} {a : Nat → α} {f : α → Bool} (h : ∀ i, i < n → f (a i) = true) : (tab n a).all f = true := by
  unfold tab
  rw [List.all_eq_true]
  intro x hx
  simp only [List.mem_map, List.mem_range] at hx
  obtain ⟨i, hi, rfl⟩ := hx
  exact h i hi
theorem getI_last {α : Type} [Inhabited α] (n : Nat) (a : Nat → α) : getI (tab (n + 1) a) (-1) = a n ∧ ixB (tab (n + 1) a) (-1) = true := by
  have e : L2.ixN (tab (n + 1) a).length (-1) = some n := by
    unfold L2.ixN
    rw [tab_len]
    rw [if_neg (by decide)]
    simp
    omega
  unfold getI ixB L2.atI
  rw [e]
  simp [tab]
theorem is_row_ok {D : Int} {k B : Nat} {P : Int → Int} {L : Int} {T : List (Int × Int)} (h : Row D (k + 1) B P L T) (hL : L ≠ 0) (hD : 0 < D) (bD : D.natAbs < 2 ^ 1900) (hk : k ≤ 60) : V.l_is_row_of (eT (eP2 eI eI) T) (k : Int) = true ∧ O.l_is_row_of (eT (eP2 eI eI) T) (k : Int) = true := by
  obtain ⟨c, r, rfl, g1, g2, g3, g4⟩ := h.ex
  have it : itD (eT (eP2 eI eI) (tab (k + 1) r)) = tab (k + 1) fun i => eP2 eI eI (r i) := map_tab _ _ _
  have hl : decide ((List.length (itD (eT (eP2 eI eI) (tab (k + 1) r))) : Int) = (k : Int) + 1) = true := by
    rw [it, tab_len]
    simp only [decide_eq_true_eq]
    omega
  have ha : (itD (eT (eP2 eI eI) (tab (k + 1) r))).all (fun y1 => V.l_is_ratio y1) = true := by
    rw [it]
    exact all_tab fun i hi => (is_ratio_ok (g1 i hi) hD bD).1
  have hb : (itD (eT (eP2 eI eI) (tab (k + 1) r))).all (fun y1 => notl y1 && (notl y1 && O.l_is_ratio y1)) = true := by
    rw [it]
    exact all_tab fun i hi => by
      rw [(is_ratio_ok (g1 i hi) hD bD).2]
      rfl
  obtain ⟨l1, l2⟩ := getI_last k fun i => eP2 eI eI (r i)
  have hr : (r k).1 ≠ 0 := fun q => by
    have e := (g1 k (by omega)).eq
    rw [q, Int.zero_mul] at e
    have p := (g1 k (by omega)).pos
    have : c k = 0 := by
      rcases Int.mul_eq_zero.mp e.symm with z | z
      · exact z
      · omega
    rw [show k + 1 - 1 = k by omega] at g4
    omega
  have hne : eqP (getI (itD (getI (itD (eT (eP2 eI eI) (tab (k + 1) r))) (-1))) 0) (eI 0) = false := by
    rw [it, l1]
    show decide ((r k).1 = 0) = false
    simpa using hr
  have hz : szB (List.length (itD (eT (eP2 eI eI) (tab (k + 1) r)))) = true := by
    rw [it, tab_len]
    exact Nat.ble_eq_true_of_le (by omega)
  have hi : ixB (itD (eT (eP2 eI eI) (tab (k + 1) r))) (-1) = true := by rw [it]; exact l2
  have hs : sqD (getI (itD (eT (eP2 eI eI) (tab (k + 1) r))) (-1)) = true := by rw [it, l1]; rfl
  have hx : ixB (itD (getI (itD (eT (eP2 eI eI) (tab (k + 1) r))) (-1))) 0 = true := by rw [it, l1]; rfl
  have hp : pdB (getI (itD (getI (itD (eT (eP2 eI eI) (tab (k + 1) r))) (-1))) 0) = true := by rw [it, l1]; rfl
  unfold V.l_is_row_of O.l_is_row_of
  rw [hl, ha, hne, hb, hz, hi, hs, hx, hp]
  exact ⟨rfl, rfl⟩
/-! ### honest -/
theorem oddDs_false : ∀ {xs : List D}, (∀ d ∈ xs, oddD d = false) → oddDs xs = false
  | [], _ => rfl
  | x :: xs, h => by
    rw [oddDs, h x (List.mem_cons_self ..), oddDs_false fun d hd => h d (List.mem_cons_of_mem _ hd)]
    rfl
theorem pds_of {n : Nat} : ∀ {xs : List D}, (∀ d ∈ xs, pd n d = true) → pds n xs = true
  | [], _ => rfl
  | x :: xs, h => by
    rw [pds, h x (List.mem_cons_self ..), pds_of fun d hd => h d (List.mem_cons_of_mem _ hd)]
    rfl
theorem szDs_of : ∀ {xs : List D}, (∀ d ∈ xs, szD d = true) → szDs xs = true
  | [], _ => rfl
  | x :: xs, h => by
    rw [szDs, h x (List.mem_cons_self ..), szDs_of fun d hd => h d (List.mem_cons_of_mem _ hd)]
    rfl
/-- data without the odd word, flat enough, short enough -/
structure Ok (n : Nat) (d : D) : Prop where
  odd : oddD d = false
  pd : pd n d = true
  sz : szD d = true
theorem Ok.int (i : Int) (n : Nat) : Ok (n + 1) (eI i) := ⟨rfl, rfl, rfl⟩
theorem Ok.tup {n : Nat} {xs : List D} (h : ∀ d ∈ xs, Ok n d) (l : xs.length ≤ 16777216) : Ok (n + 1) (.tup xs) := ⟨oddDs_false fun d hd => (h d hd).odd, pds_of fun d hd => (h d hd).pd, by
  rw [szD, szDs_of fun d hd => (h d hd).sz, show szB xs.length = true from Nat.ble_eq_true_of_le l]
  rfl⟩
theorem Ok.str {n : Nat} {s : List Nat} (h : (s == oddS) = false) (k : Mn.pd (n + 1) (.str s) = true) : Ok (n + 1) (.str s) := ⟨h, k, rfl⟩
theorem Ok.up {n m : Nat} {d : D} (h : Ok n d) (l : n ≤ m) : Ok m d := ⟨h.odd, pd_up h.pd l, h.sz⟩
theorem Ok.hon {n : Nat} {d : D} (h : Ok n d) (l : n ≤ 16) : V.l_honest d = d ∧ O.l_honest d = true := by
  unfold V.l_honest O.l_honest
  rw [h.odd, show pdB d = true from pd_up h.pd l, h.sz]
  exact ⟨rfl, rfl⟩
end Ky
open Wk Mn
namespace Ky
theorem between_int (v a b : Int) : V.is_between (eI v) a b = (decide (a ≤ v) && decide (v ≤ b)) := rfl
theorem between_yes {v a b : Int} (h : a ≤ v) (k : v ≤ b) : V.is_between (eI v) a b = true := by
  rw [between_int]
  simp [h, k]
theorem between_no {v a b : Int} (h : v < a ∨ b < v) : V.is_between (eI v) a b = false := by
  rw [between_int]
  rw [Bool.and_eq_false_iff]
  rcases h with h | h
  · left; simp only [decide_eq_false_iff_not]; omega
  · right; simp only [decide_eq_false_iff_not]; omega
theorem between_O (v a b : Int) : O.is_between (eI v) a b = true := rfl
/-- a value one may ask about -/
structure Ask (d : D) (lo hi : Int) : Prop where
  nl : notl d = true
  o : ∀ a b, O.is_between d a b = true
  no : V.is_between d lo hi = false
theorem Ask.int {v a b : Int} (h : v < a ∨ b < v) : Ask (eI v) a b := ⟨rfl, fun _ _ => rfl, between_no h⟩
theorem Ask.non (a b : Int) : Ask .non a b := ⟨rfl, fun _ _ => rfl, rfl⟩
theorem Ask.bl (c : Bool) (a b : Int) : Ask (.bl c) a b := ⟨rfl, fun _ _ => rfl, rfl⟩
theorem Ask.str (s : List Nat) (a b : Int) : Ask (.str s) a b := ⟨rfl, fun _ _ => rfl, rfl⟩
section
variable {n q : Nat}
theorem num_ok {k x : Nat} (h0 : 1 ≤ n) (hn : n ≤ 48) (hq : 2 ≤ q) (hq2 : q ≤ 16) (hk : k ≤ n) (hx : x ≤ n) : V.krawtchouk_number (eI (n : Int)) (eI (q : Int)) (eI (k : Int)) (eI (x : Int)) = .ok (K ((q : Int) - 1) x (n - x) k) ∧ O.krawtchouk_number (eI (n : Int)) (eI (q : Int)) (eI (k : Int)) (eI (x : Int)) = true := by
  obtain ⟨a, b⟩ := number_of_ok (n := n) (q := q) (k := k) (x := x) hq (by omega) hx (by omega) (by omega)
  have b1 : V.is_between (eI (n : Int)) 1 48 = true := between_yes (by omega) (by omega)
  have b2 : V.is_between (eI (q : Int)) 2 16 = true := between_yes (by omega) (by omega)
  have b3 : V.is_between (eI (k : Int)) 0 (Un.un eI (eI (n : Int))) = true := between_yes (b := (n : Int)) (by omega) (by omega)
  have b4 : V.is_between (eI (x : Int)) 0 (Un.un eI (eI (n : Int))) = true := between_yes (b := (n : Int)) (by omega) (by omega)
  unfold V.krawtchouk_number O.krawtchouk_number V.krawtchouk_number_r1 O.krawtchouk_number_r1
  rw [b1, b2, b3, b4]
  refine ⟨?_, ?_⟩
  · show Ex.ok (V.number_of (n : Int) (q : Int) (k : Int) (x : Int)) = _
    rw [a]
  · have hc : (!true || !true) = false := rfl
    rw [hc, cond_false, cond_false]
    simp only [Bool.and_eq_true]
    exact ⟨rfl, rfl, rfl, rfl, rfl, rfl, rfl, rfl, rfl, rfl, rfl, rfl, rfl, rfl, rfl, b⟩
theorem num_bad {k x : D} (h0 : 1 ≤ n) (hn : n ≤ 48) (hq : 2 ≤ q) (hq2 : q ≤ 16) (nk : notl k = true) (nx : notl x = true) (ok : ∀ a b, O.is_between k a b = true) (ox : ∀ a b, O.is_between x a b = true) (h : V.is_between k 0 (n : Int) = false ∨ V.is_between x 0 (n : Int) = false) :
    V.krawtchouk_number (eI (n : Int)) (eI (q : Int)) k x = .ex 1 [] ∧ O.krawtchouk_number (eI (n : Int)) (eI (q : Int)) k x = true := by
  have b1 : V.is_between (eI (n : Int)) 1 48 = true := between_yes (by omega) (by omega)
  have b2 : V.is_between (eI (q : Int)) 2 16 = true := between_yes (by omega) (by omega)
  have hb : (!(V.is_between k 0 (Un.un eI (eI (n : Int)))) || !(V.is_between x 0 (Un.un eI (eI (n : Int))))) = true := by
    rcases h with z | z
    · rw [show V.is_between k 0 (Un.un eI (eI (n : Int))) = false from z]; rfl
    · rw [show V.is_between x 0 (Un.un eI (eI (n : Int))) = false from z, Bool.not_false, Bool.or_true]
  unfold V.krawtchouk_number O.krawtchouk_number V.krawtchouk_number_r1 O.krawtchouk_number_r1
  have hc : (!true || !true) = false := rfl
  rw [b1, b2, hb, hc, cond_false, cond_false, cond_true, cond_true, nk, nx, ok, ox]
  refine ⟨rfl, ?_⟩
  have hi : ∀ b : Bool, imp b true = true := fun b => by cases b <;> rfl
  have e1 : ∀ b : Bool, imp b (Un.is eI (eI (n : Int)) && (true && true)) = true := fun b => by cases b <;> rfl
  rw [e1]
  rfl
theorem table_ok (h0 : 1 ≤ n) (hn : n ≤ 24) (hq : 2 ≤ q) (hq2 : q ≤ 16) : V.krawtchouk_table (eI (n : Int)) (eI (q : Int)) = .ok (tab (n + 1) fun x => tab (n + 1) fun k => K ((q : Int) - 1) x (n - x) k) ∧ O.krawtchouk_table (eI (n : Int)) (eI (q : Int)) = true := by
  have e : (n : Int) + 1 = ((n + 1 : Nat) : Int) := by omega
  have b1 : V.is_between (eI (n : Int)) 1 24 = true := between_yes (by omega) (by omega)
  have b2 : V.is_between (eI (q : Int)) 2 16 = true := between_yes (by omega) (by omega)
  have num := fun (x k : Nat) (hx : x < n + 1) (hk : k < n + 1) => number_of_ok (n := n) (q := q) (k := k) (x := x) hq (by omega) (by omega) (by omega) (by omega)
  have hr : rgB 0 ((n + 1 : Nat) : Int) = true := rg_of (by omega) (by omega)
  have hs : szB (n + 1) = true := Nat.ble_eq_true_of_le (by omega)
  have tv : V.table_of (n : Int) (q : Int) = tab (n + 1) fun x => tab (n + 1) fun k => K ((q : Int) - 1) x (n - x) k := by
    unfold V.table_of
    rw [e, map_rI]
    refine tab_congr fun x hx => ?_
    rw [map_rI]
    exact tab_congr fun k hk => (num x k hx hk).1
  have to : O.table_of (n : Int) (q : Int) = true := by
    unfold O.table_of
    rw [e, rI_len, hr, hs]
    have : (rI 0 ((n + 1 : Nat) : Int)).all (fun y1 => (true && (true && (rI 0 ((n + 1 : Nat) : Int)).all fun y4 => O.number_of (n : Int) (q : Int) y4 y1))) = true := all_rI fun x hx => by
      have h := all_rI (n := n + 1) (f := fun y4 => O.number_of (n : Int) (q : Int) y4 (x : Int)) fun k hk => (num x k hx hk).2
      exact Bool.and_eq_true_iff.mpr ⟨rfl, Bool.and_eq_true_iff.mpr ⟨rfl, h⟩⟩
    rw [this]
    rfl
  unfold V.krawtchouk_table O.krawtchouk_table
  have hc : (!true || !true) = false := rfl
  have tv' : V.table_of (Un.un eI (eI (n : Int))) (Un.un eI (eI (q : Int))) = tab (n + 1) fun x => tab (n + 1) fun k => K ((q : Int) - 1) x (n - x) k := tv
  have to' : O.table_of (Un.un eI (eI (n : Int))) (Un.un eI (eI (q : Int))) = true := to
  rw [b1, b2, hc, cond_false, cond_false, tv', to', tab_len, hs]
  refine ⟨?_, rfl⟩
  rw [map_tab]
end
end Ky

namespace Ky
section
variable {n q : Nat}
theorem odd_told : (S_told == oddS) = false := by decide
/-- told, a good value -/
theorem told_num {k x : Nat} (h0 : 1 ≤ n) (hn : n ≤ 48) (hq : 2 ≤ q) (hq2 : q ≤ 16) (hk : k ≤ n) (hx : x ≤ n) : V.l_told_k04 0 (eI (n : Int)) (eI (q : Int)) (eI (k : Int)) (eI (x : Int)) = (S_told, eI (K ((q : Int) - 1) x (n - x) k)) ∧ O.l_told_k04 0 (eI (n : Int)) (eI (q : Int)) (eI (k : Int)) (eI (x : Int)) = true := by
  obtain ⟨a, b⟩ := num_ok h0 hn hq hq2 hk hx
  obtain ⟨c, d⟩ := (Ok.int (K ((q : Int) - 1) x (n - x) k) 0).hon (by decide)
  have ht : V.l_told_k04_t1 0 (eI (n : Int)) (eI (q : Int)) (eI (k : Int)) (eI (x : Int)) = .ok (S_told, eI (K ((q : Int) - 1) x (n - x) k)) := by
    show Ex.bind (Ex.bind (V.krawtchouk_number (eI (n : Int)) (eI (q : Int)) (eI (k : Int)) (eI (x : Int))) _) _ = _
    rw [a]
    show Ex.ok (S_told, V.l_honest (eI (K ((q : Int) - 1) x (n - x) k))) = _
    rw [c]
  refine ⟨?_, ?_⟩
  · unfold V.l_told_k04
    rw [ht]
    rfl
  · unfold O.l_told_k04
    rw [ht]
    simp only [Bool.and_eq_true]
    refine ⟨rfl, rfl, rfl, rfl, ?_, rfl⟩
    unfold O.l_told_k04_t1
    have hd : decide ((0 : Int) = 0) = true := rfl
    rw [hd, cond_true, a]
    simp only [Bool.and_eq_true]
    refine ⟨rfl, rfl, rfl, rfl, b, d, ?_⟩
    show notl (V.l_honest (eI (K ((q : Int) - 1) x (n - x) k))) = true
    rw [c]
    rfl
theorem told_bad {k x : D} (h0 : 1 ≤ n) (hn : n ≤ 48) (hq : 2 ≤ q) (hq2 : q ≤ 16) (nk : notl k = true) (nx : notl x = true) (ok : ∀ a b, O.is_between k a b = true) (ox : ∀ a b, O.is_between x a b = true) (h : V.is_between k 0 (n : Int) = false ∨ V.is_between x 0 (n : Int) = false) :
    V.l_told_k04 0 (eI (n : Int)) (eI (q : Int)) k x = (S_malformed, .non) ∧ O.l_told_k04 0 (eI (n : Int)) (eI (q : Int)) k x = true := by
  obtain ⟨a, b⟩ := num_bad h0 hn hq hq2 nk nx ok ox h
  have ht : V.l_told_k04_t1 0 (eI (n : Int)) (eI (q : Int)) k x = .ex 1 [] := by
    show Ex.bind (Ex.bind (V.krawtchouk_number (eI (n : Int)) (eI (q : Int)) k x) _) _ = _
    rw [a]
    rfl
  refine ⟨?_, ?_⟩
  · unfold V.l_told_k04
    rw [ht]
    rfl
  · unfold O.l_told_k04
    rw [ht]
    simp only [Bool.and_eq_true]
    refine ⟨rfl, rfl, nk, nx, ?_, rfl⟩
    unfold O.l_told_k04_t1
    have hd : decide ((0 : Int) = 0) = true := rfl
    rw [hd, cond_true, a]
    simp only [Bool.and_eq_true]
    exact ⟨rfl, rfl, nk, nx, b, rfl, rfl⟩
theorem told_table (h0 : 1 ≤ n) (hn : n ≤ 24) (hq : 2 ≤ q) (hq2 : q ≤ 16) : V.l_told_k04 1 (eI (n : Int)) (eI (q : Int)) .non .non = (S_told, eT (eT eI) (tab (n + 1) fun x => tab (n + 1) fun k => K ((q : Int) - 1) x (n - x) k)) ∧ O.l_told_k04 1 (eI (n : Int)) (eI (q : Int)) .non .non = true ∧ Ok 3 (eT (eT eI) (tab (n + 1) fun x => tab (n + 1) fun k => K ((q : Int) - 1) x (n - x) k)) := by
  obtain ⟨a, b⟩ := table_ok h0 hn hq hq2
  generalize hT : (tab (n + 1) fun x => tab (n + 1) fun k => K ((q : Int) - 1) x (n - x) k) = T at a
  have hl : T.length ≤ 100 := by rw [← hT, tab_len]; omega
  have hr : ∀ r ∈ T, r.length ≤ 100 := fun r hr => by
    rw [← hT] at hr
    unfold tab at hr
    simp only [List.mem_map] at hr
    obtain ⟨i, _, rfl⟩ := hr
    simp
    omega
  have hok : Ok 3 (eT (eT eI) T) := Ok.tup (fun d hd => by
    simp only [List.mem_map] at hd
    obtain ⟨r, hrm, rfl⟩ := hd
    exact Ok.tup (fun d hd => by
      simp only [List.mem_map] at hd
      obtain ⟨i, _, rfl⟩ := hd
      exact Ok.int i 0) (by rw [List.length_map]; have := hr r hrm; omega)) (by rw [List.length_map]; omega)
  obtain ⟨c, d⟩ := hok.hon (by decide)
  have ht : V.l_told_k04_t1 1 (eI (n : Int)) (eI (q : Int)) .non .non = .ok (S_told, eT (eT eI) T) := by
    show Ex.bind (Ex.bind (Ex.mapE (eT (eT eI)) (V.krawtchouk_table (eI (n : Int)) (eI (q : Int)))) _) _ = _
    rw [a]
    show Ex.ok (S_told, V.l_honest (eT (eT eI) T)) = _
    rw [c]
  refine ⟨?_, ?_, hok⟩
  · unfold V.l_told_k04
    rw [ht]
    rfl
  · unfold O.l_told_k04
    rw [ht]
    simp only [Bool.and_eq_true]
    refine ⟨rfl, rfl, rfl, rfl, ?_, rfl⟩
    unfold O.l_told_k04_t1
    have hd : decide ((1 : Int) = 0) = false := rfl
    have hd1 : decide ((1 : Int) = 1) = true := rfl
    rw [hd, cond_false, hd1, cond_true, a, b]
    simp only [Bool.and_eq_true]
    refine ⟨rfl, rfl, d, ?_⟩
    show notl (V.l_honest (eT (eT eI) T)) = true
    rw [c]
    rfl
end
end Ky
open Wk Mn
namespace Ky
section
variable {n q : Nat}
theorem told_row {k : Nat} (h0 : 1 ≤ n) (hn : n ≤ 24) (hq : 2 ≤ q) (hq2 : q ≤ 16) (hk : k ≤ n) : ∃ T P L, V.l_told_k04 2 (eI (n : Int)) (eI (q : Int)) (eI (k : Int)) .non = (S_told, eT (eP2 eI eI) T) ∧ O.l_told_k04 2 (eI (n : Int)) (eI (q : Int)) (eI (k : Int)) .non = true ∧ Row (fa k : Int) (k + 1) (2 ^ 600) P L T ∧ L ≠ 0 ∧ ∀ x : Nat, x ≤ n → P (x : Int) = fa k * K ((q : Int) - 1) x (n - x) k := by
  obtain ⟨T, P, L, a, b, r, l, p⟩ := krow_ok h0 hn hq hq2 hk
  have hl : T.length ≤ 100 := by rw [r.len]; omega
  have hok : Ok 3 (eT (eP2 eI eI) T) := Ok.tup (fun d hd => by
    simp only [List.mem_map] at hd
    obtain ⟨r, hrm, rfl⟩ := hd
    exact Ok.tup (n := 1) (xs := [eI r.1, eI r.2]) (fun d hd => by
      simp only [List.mem_cons, List.not_mem_nil, or_false] at hd
      rcases hd with rfl | rfl <;> exact Ok.int _ 0) (by simp)) (by rw [List.length_map]; omega)
  obtain ⟨c, d⟩ := hok.hon (by decide)
  have ht : V.l_told_k04_t1 2 (eI (n : Int)) (eI (q : Int)) (eI (k : Int)) .non = .ok (S_told, eT (eP2 eI eI) T) := by
    show Ex.bind (Ex.bind (Ex.mapE (eT (eP2 eI eI)) (V.krawtchouk_row (eI (n : Int)) (eI (q : Int)) (eI (k : Int)))) _) _ = _
    rw [a]
    show Ex.ok (S_told, V.l_honest (eT (eP2 eI eI) T)) = _
    rw [c]
  refine ⟨T, P, L, ?_, ?_, r, l, p⟩
  · unfold V.l_told_k04
    rw [ht]
    rfl
  · unfold O.l_told_k04
    rw [ht]
    simp only [Bool.and_eq_true]
    refine ⟨rfl, rfl, rfl, rfl, ?_, rfl⟩
    unfold O.l_told_k04_t1
    have hd : decide ((2 : Int) = 0) = false := rfl
    have hd1 : decide ((2 : Int) = 1) = false := rfl
    rw [hd, cond_false, hd1, cond_false, a, b]
    simp only [Bool.and_eq_true]
    refine ⟨rfl, rfl, d, ?_⟩
    show notl (V.l_honest (eT (eP2 eI eI) T)) = true
    rw [c]
    rfl
theorem row_bad {k : D} (h0 : 1 ≤ n) (hn : n ≤ 24) (hq : 2 ≤ q) (hq2 : q ≤ 16) (nk : notl k = true) (ok : ∀ a b, O.is_between k a b = true) (h : V.is_between k 0 (n : Int) = false) :
    V.l_told_k04 2 (eI (n : Int)) (eI (q : Int)) k .non = (S_malformed, .non) ∧ O.l_told_k04 2 (eI (n : Int)) (eI (q : Int)) k .non = true := by
  have b1 : V.is_between (eI (n : Int)) 1 24 = true := between_yes (by omega) (by omega)
  have b2 : V.is_between (eI (q : Int)) 2 16 = true := between_yes (by omega) (by omega)
  have b3 : V.is_between k 0 (Un.un eI (eI (n : Int))) = false := h
  have hc : (!true || (!true || !false)) = true := rfl
  have a : V.krawtchouk_row (eI (n : Int)) (eI (q : Int)) k = .ex 1 [] := by
    unfold V.krawtchouk_row
    rw [b1, b2, b3, hc, cond_true]
  have b : O.krawtchouk_row (eI (n : Int)) (eI (q : Int)) k = true := by
    unfold O.krawtchouk_row
    rw [b1, b2, b3, hc, cond_true, nk, ok]
    rfl
  have ht : V.l_told_k04_t1 2 (eI (n : Int)) (eI (q : Int)) k .non = .ex 1 [] := by
    show Ex.bind (Ex.bind (Ex.mapE (eT (eP2 eI eI)) (V.krawtchouk_row (eI (n : Int)) (eI (q : Int)) k)) _) _ = _
    rw [a]
    rfl
  refine ⟨?_, ?_⟩
  · unfold V.l_told_k04
    rw [ht]
    rfl
  · unfold O.l_told_k04
    rw [ht]
    simp only [Bool.and_eq_true]
    refine ⟨rfl, rfl, nk, rfl, ?_, rfl⟩
    unfold O.l_told_k04_t1
    have hd : decide ((2 : Int) = 0) = false := rfl
    have hd1 : decide ((2 : Int) = 1) = false := rfl
    rw [hd, cond_false, hd1, cond_false, a, b, nk]
    rfl
/-! ### the same -/
theorem sameDs_refl : ∀ {xs : List D}, (∀ d ∈ xs, sameD d d = true) → sameDs xs xs = true
  | [], _ => rfl
  | x :: xs, h => by
    rw [sameDs, h x (List.mem_cons_self ..), sameDs_refl fun d hd => h d (List.mem_cons_of_mem _ hd)]
    rfl
theorem same_int (i : Int) : sameD (eI i) (eI i) = true := by
  show decide (i = i) = true
  simp
theorem same_tup {xs : List D} (h : ∀ d ∈ xs, sameD d d = true) : sameD (.tup xs) (.tup xs) = true := by
  rw [sameD]
  exact sameDs_refl h
theorem same_told {α : Type} {e : α → D} {v : α} {n : Nat} (h : sameD (e v) (e v) = true) (k : Ok n (e v)) (l : n ≤ 15) : V.l_same ((eP2 eS eD) (S_told, e v)) ((eP2 eS e) (S_told, v)) = true ∧ O.l_same ((eP2 eS eD) (S_told, e v)) ((eP2 eS e) (S_told, v)) = true := by
  have e1 : (eP2 eS eD) (S_told, e v) = D.tup [.str S_told, e v] := rfl
  have e2 : (eP2 eS e) (S_told, v) = D.tup [.str S_told, e v] := rfl
  rw [e1]
  have hs : sameD (.str S_told) (.str S_told) = true := by
    show (S_told == S_told) = true
    simp
  have hp : pdB (.tup [.str S_told, e v]) = true := by
    show pds 15 [.str S_told, e v] = true
    have hps : Mn.pd 15 (.str S_told) = true := by decide
    rw [pds, pds, hps, pd_up k.pd l]
    rfl
  have hz : szD (.tup [.str S_told, e v]) = true := by
    rw [szD, szDs, szDs, k.sz]
    rfl
  unfold V.l_same O.l_same
  rw [hp, hz]
  refine ⟨same_tup fun d hd => ?_, rfl⟩
  simp only [List.mem_cons, List.not_mem_nil, or_false] at hd
  rcases hd with rfl | rfl
  · exact hs
  · exact h
/-! ### draws -/
def Good (s : S2) : Prop := 0 ≤ s.1 ∧ 0 ≤ s.2 ∧ s.2 < 2147483647
theorem take_ok {s : S2} {m : Int} (h : Good s) (h1 : 0 < m) (h2 : m < 2 ^ 60) : ∃ (v : Nat) (t : S2), V.l_take s m = ((v : Int), t) ∧ (v : Int) < m ∧ Good t ∧ O.l_take s m = true := by
  obtain ⟨a, b, c⟩ := h
  have o : O.l_take s m = true := by
    unfold O.l_take
    have f1 : decide (0 < m) = true := by simpa using h1
    have f2 : fdB m = true := fd_of (by omega) (small (by omega) (by decide))
    have f3 : fitB s.2 48271 = true := fit_of (a := 62) (b := 62) (by omega) (by decide) (by decide)
    rw [f1, f2, f3]
    rfl
  have key : ∀ w : Int, ∃ v : Nat, w.fmod m = (v : Int) ∧ (v : Int) < m := fun w => by
    have p1 := Int.fmod_nonneg_of_pos w h1
    have p2 := Int.fmod_lt_of_pos w h1
    exact ⟨(w.fmod m).toNat, by omega, by omega⟩
  by_cases hs : s.1 > 0
  · obtain ⟨v, e, l⟩ := key s.1
    refine ⟨v, (s.1.fdiv m, s.2), ?_, l, ⟨Int.fdiv_nonneg (by omega) (by omega), b, c⟩, o⟩
    unfold V.l_take
    rw [show decide (s.1 > 0) = true by simpa using hs, cond_true, e]
  · obtain ⟨v, e, l⟩ := key (((s.2 * 48271 + 11).fmod 2147483647).fdiv 7)
    refine ⟨v, (s.1, (s.2 * 48271 + 11).fmod 2147483647), ?_, l, ⟨a, Int.fmod_nonneg_of_pos _ (by decide), Int.fmod_lt_of_pos _ (by decide)⟩, o⟩
    unfold V.l_take
    rw [show decide (s.1 > 0) = false by simpa using hs, cond_false, e]
end
end Ky
open Wk Mn
namespace Ky
theorem K_lt {n q k x : Nat} (hq : 2 ≤ q) (hq2 : q ≤ 16) (hx : x ≤ n) (hn : n ≤ 48) : (K ((q : Int) - 1) x (n - x) k).natAbs < 2 ^ 200 := by
  have h := K_le (C := q) (p := (q : Int) - 1) hq (by omega) x (n - x) k
  have h1 : q ^ (x + (n - x)) ≤ (2 ^ 4) ^ (x + (n - x)) := Nat.pow_le_pow_left (by omega) _
  rw [← Nat.pow_mul] at h1
  have h2 : (2 : Nat) ^ (4 * (x + (n - x))) < 2 ^ 200 := Nat.pow_lt_pow_right (by decide) (by omega)
  omega
section
variable {n q k x : Nat} {sv : S2}
theorem r6_ok (h0 : 1 ≤ n) (hn : n ≤ 48) (hq : 2 ≤ q) (hq2 : q ≤ 16) (hk : k ≤ n) (hx : x ≤ n) : V.law_k04_r6 (k : Int) (K ((q : Int) - 1) x (n - x) k) (n : Int) (q : Int) (x : Int) sv = .nx sv ∧ O.law_k04_r6 (k : Int) (K ((q : Int) - 1) x (n - x) k) (n : Int) (q : Int) (x : Int) sv = true := by
  unfold V.law_k04_r6 O.law_k04_r6
  by_cases c : 1 ≤ k ∧ k ≤ n - 1
  · have hc : (decide ((1 : Int) ≤ (k : Int)) && decide ((k : Int) ≤ (n : Int) - 1)) = true := by
      simp only [Bool.and_eq_true, decide_eq_true_eq]; omega
    have e1 : (k : Int) + 1 = ((k + 1 : Nat) : Int) := by omega
    have e2 : (k : Int) - 1 = ((k - 1 : Nat) : Int) := by omega
    obtain ⟨a1, a2⟩ := number_ok (n := n) (q := q) (k := k + 1) (x := x) hq (by omega) hx (by omega) (by omega)
    obtain ⟨b1, b2⟩ := number_ok (n := n) (q := q) (k := k - 1) (x := x) hq (by omega) hx (by omega) (by omega)
    have t := three ((q : Int) - 1) c.1 hx
    have s : ∀ z : Int, z.natAbs < 2 ^ 62 → z.natAbs < 2 ^ 200 := fun z hz => small hz (by decide)
    have ft : ∀ y z : Int, y.natAbs < 2 ^ 200 → z.natAbs < 2 ^ 200 → fitB y z = true := fun y z hy hz => fit_of hy hz (by decide)
    have m1 : (((q : Int) - 1) * ((n : Int) - (k : Int))).natAbs ≤ 16 * 48 := by rw [Int.natAbs_mul]; exact Nat.mul_le_mul (by omega) (by omega)
    have m2 : ((q : Int) * (x : Int)).natAbs ≤ 16 * 48 := by rw [Int.natAbs_mul]; exact Nat.mul_le_mul (by omega) (by omega)
    have m3 : (((q : Int) - 1) * (((n : Int) - (k : Int)) + 1)).natAbs ≤ 16 * 49 := by rw [Int.natAbs_mul]; exact Nat.mul_le_mul (by omega) (by omega)
    have hd : decide (((k : Int) + 1) * K ((q : Int) - 1) x (n - x) (k + 1) = ((((k : Int) + (((q : Int) - 1) * ((n : Int) - (k : Int)))) - ((q : Int) * (x : Int))) * K ((q : Int) - 1) x (n - x) k) - ((((q : Int) - 1) * (((n : Int) - (k : Int)) + 1)) * K ((q : Int) - 1) x (n - x) (k - 1))) = true := by
      simp only [decide_eq_true_eq]
      rw [t]
      grind
    rw [hc, cond_true, cond_true, e2, b1, b2]
    rw [← e1] at a1 a2
    rw [a1, a2, hd]
    refine ⟨rfl, ?_⟩
    simp only [Bool.and_eq_true]
    exact ⟨trivial, ft _ _ (s _ (by omega)) (K_lt hq hq2 hx hn), ft _ _ (s _ (by omega)) (s _ (by omega)), ft _ _ (s _ (by omega)) (s _ (by omega)), ft _ _ (s _ (by omega)) (K_lt hq hq2 hx hn), ft _ _ (s _ (by omega)) (s _ (by omega)), trivial, ft _ _ (s _ (by omega)) (K_lt hq hq2 hx hn), rfl⟩
  · have hc : (decide ((1 : Int) ≤ (k : Int)) && decide ((k : Int) ≤ (n : Int) - 1)) = false := by
      rw [Bool.and_eq_false_iff]
      simp only [decide_eq_false_iff_not]
      omega
    rw [hc]
    exact ⟨rfl, rfl⟩
theorem r5_ok (h0 : 1 ≤ n) (hn : n ≤ 48) (hq : 2 ≤ q) (hq2 : q ≤ 16) (hk : k ≤ n) (hx : x ≤ n) : V.law_k04_r5 (k : Int) (K ((q : Int) - 1) x (n - x) k) (n : Int) (q : Int) (x : Int) sv = .nx sv ∧ O.law_k04_r5 (k : Int) (K ((q : Int) - 1) x (n - x) k) (n : Int) (q : Int) (x : Int) sv = true := by
  obtain ⟨r1, r2⟩ := r6_ok (sv := sv) h0 hn hq hq2 hk hx
  obtain ⟨a1, a2⟩ := l_chosen_ok (n := n) (k := x) (by omega) hx
  obtain ⟨b1, b2⟩ := l_chosen_ok (n := n) (k := k) (by omega) hk
  have e : (q : Int) - 1 = ((q - 1 : Nat) : Int) := by omega
  have pw : ∀ m, m ≤ 48 → (q - 1) ^ m < 2 ^ 200 := fun m hm => by
    have h1 : (q - 1) ^ m ≤ (2 ^ 4) ^ m := Nat.pow_le_pow_left (by omega) _
    rw [← Nat.pow_mul] at h1
    have h2 : (2 : Nat) ^ (4 * m) < 2 ^ 200 := Nat.pow_lt_pow_right (by decide) (by omega)
    omega
  have w : (2 : Nat) ^ 200 < 2 ^ 60000 := Nat.pow_lt_pow_right (by decide) (by decide)
  obtain ⟨p1, p2⟩ := l_power_ok (q := q - 1) (n := x) (by omega) (by omega) (Nat.lt_trans (pw x (by omega)) w)
  obtain ⟨p3, p4⟩ := l_power_ok (q := q - 1) (n := k) (by omega) (by omega) (Nat.lt_trans (pw k (by omega)) w)
  rw [← e] at p1 p2 p3 p4
  obtain ⟨c1, c2⟩ := number_ok (n := n) (q := q) (k := x) (x := k) hq (by omega) hk (by omega) (by omega)
  have d := dual ((q : Int) - 1) hk hx
  have hd : decide ((((ch n x : Int) * ((q : Int) - 1) ^ x) * K ((q : Int) - 1) x (n - x) k) = (((ch n k : Int) * ((q : Int) - 1) ^ k) * K ((q : Int) - 1) k (n - k) x)) = true := by
    simp only [decide_eq_true_eq]
    exact d
  have cb : ∀ m, ((ch n m : Int)).natAbs < 2 ^ 200 := fun m => by
    have := ch_le n m
    have h2 : (2 : Nat) ^ n < 2 ^ 200 := Nat.pow_lt_pow_right (by decide) (by omega)
    simp only [Int.natAbs_natCast]
    omega
  have qb : ∀ m, m ≤ 48 → (((q : Int) - 1) ^ m).natAbs < 2 ^ 200 := fun m hm => by
    rw [Int.natAbs_pow, e]
    simpa using pw m hm
  have mb : ∀ m, m ≤ 48 → ((ch n m : Int) * ((q : Int) - 1) ^ m).natAbs < 2 ^ 400 := fun m hm => by
    rw [Int.natAbs_mul]
    have := Nat.mul_lt_mul'' (cb m) (qb m hm)
    rw [← Nat.pow_add] at this
    exact this
  unfold V.law_k04_r5 O.law_k04_r5
  rw [a1, a2, b1, b2, p1, p2, p3, p4, c1, c2, hd, r1, r2]
  refine ⟨rfl, ?_⟩
  simp only [Bool.and_eq_true]
  exact ⟨trivial, trivial, fit_of (cb _) (qb _ (by omega)) (by decide), fit_of (mb _ (by omega)) (K_lt hq hq2 hx hn) (by decide), trivial, trivial, fit_of (cb _) (qb _ (by omega)) (by decide), trivial, fit_of (mb _ (by omega)) (K_lt hq hq2 hk hn) (by decide), rfl⟩
theorem r3_ok (h0 : 1 ≤ n) (hn : n ≤ 48) (hq : 2 ≤ q) (hq2 : q ≤ 16) (hk : k ≤ n) (hx : x ≤ n) : V.law_k04_r3 (k : Int) (n : Int) (q : Int) (x : Int) sv = .nx sv ∧ O.law_k04_r3 (k : Int) (n : Int) (q : Int) (x : Int) sv = true := by
  obtain ⟨r1, r2⟩ := r5_ok (sv := sv) h0 hn hq hq2 hk hx
  obtain ⟨a1, a2⟩ := number_ok (n := n) (q := q) (k := k) (x := x) hq (by omega) hx (by omega) (by omega)
  obtain ⟨t1, t2⟩ := told_num h0 hn hq hq2 hk hx
  obtain ⟨s1, s2⟩ := same_told (e := eI) (v := K ((q : Int) - 1) x (n - x) k) (same_int _) (Ok.int _ 0) (by decide)
  unfold V.law_k04_r3 O.law_k04_r3 V.law_k04_r4 O.law_k04_r4
  rw [a1, a2, t1, t2, s1, s2, r1, r2]
  exact ⟨rfl, rfl⟩
end
theorem l1_ok {s : S2} (h : Good s) (y : Int) : ∃ t, V.law_k04_l1 s y = .nx t ∧ Good t ∧ O.law_k04_l1 s y = true := by
  obtain ⟨v1, t1, e1, l1, g1, o1⟩ := take_ok h (m := 48) (by decide) (by decide)
  obtain ⟨v2, t2, e2, l2, g2, o2⟩ := take_ok g1 (m := 15) (by decide) (by decide)
  have en : (1 : Int) + (v1 : Int) = ((1 + v1 : Nat) : Int) := by omega
  have eq : (2 : Int) + (v2 : Int) = ((2 + v2 : Nat) : Int) := by omega
  have en1 : ((1 + v1 : Nat) : Int) + 1 = ((2 + v1 : Nat) : Int) := by omega
  obtain ⟨v3, t3, e3, l3, g3, o3⟩ := take_ok g2 (m := ((1 + v1 : Nat) : Int) + 1) (by omega) (by omega)
  obtain ⟨v4, t4, e4, l4, g4, o4⟩ := take_ok g3 (m := ((1 + v1 : Nat) : Int) + 1) (by omega) (by omega)
  obtain ⟨r1, r2⟩ := r3_ok (n := 1 + v1) (q := 2 + v2) (k := v3) (x := v4) (sv := t4) (by omega) (by omega) (by omega) (by omega) (by omega) (by omega)
  refine ⟨t4, ?_, g4, ?_⟩
  · unfold V.law_k04_l1 V.law_k04_r2
    simp only [e1, e2, en, eq, e3, e4]
    exact r1
  · unfold O.law_k04_l1 O.law_k04_r2
    simp only [e1, e2, en, eq, e3, e4, o1, o2, o3, o4, r2, Bool.and_self]
end Ky
open Wk Mn
namespace Ky
theorem sum_tab (f : Nat → Int) : ∀ n : Nat, (tab n f).sum = sm f n
  | 0 => rfl
  | n + 1 => by rw [tab_succ, List.sum_append, sum_tab f n, sm]; simp
section
variable {n q : Nat} {sv : S2}
theorem l22_ok {x : D} (h0 : 1 ≤ n) (hn : n ≤ 24) (hq : 2 ≤ q) (hq2 : q ≤ 16) (h : Ask x 0 (n : Int)) : V.law_k04_l22 (n : Int) (q : Int) sv x = .nx sv ∧ O.law_k04_l22 (n : Int) (q : Int) sv x = true := by
  obtain ⟨a1, a2⟩ := told_bad (k := x) (x := .int 0) h0 (by omega) hq hq2 h.nl rfl h.o (fun _ _ => rfl) (.inl h.no)
  obtain ⟨b1, b2⟩ := told_bad (k := .int 0) (x := x) h0 (by omega) hq hq2 rfl h.nl (fun _ _ => rfl) h.o (.inr h.no)
  obtain ⟨c1, c2⟩ := row_bad (k := x) h0 hn hq hq2 h.nl h.o h.no
  unfold V.law_k04_l22 O.law_k04_l22
  rw [a1, a2, b1, b2, c1, c2, h.nl]
  exact ⟨rfl, rfl⟩
theorem r21_ok (h0 : 1 ≤ n) (hn : n ≤ 24) (hq : 2 ≤ q) (hq2 : q ≤ 16) : V.law_k04_r21 (n : Int) (q : Int) sv = true ∧ O.law_k04_r21 (n : Int) (q : Int) sv = true := by
  obtain ⟨a1, a2⟩ := l22_ok (sv := sv) h0 hn hq hq2 (Ask.int (v := -1) (.inl (by decide)))
  obtain ⟨b1, b2⟩ := l22_ok (sv := sv) h0 hn hq hq2 (Ask.int (v := (n : Int) + 1) (.inr (by omega)))
  obtain ⟨c1, c2⟩ := l22_ok (sv := sv) h0 hn hq hq2 (Ask.non 0 (n : Int))
  obtain ⟨d1, d2⟩ := l22_ok (sv := sv) h0 hn hq hq2 (Ask.bl true 0 (n : Int))
  obtain ⟨e1, e2⟩ := l22_ok (sv := sv) h0 hn hq hq2 (Ask.str S_1 0 (n : Int))
  unfold V.law_k04_r21 O.law_k04_r21
  simp only [forR, okR, a1, a2, b1, b2, c1, c2, d1, d2, e1, e2, Stp.els, Stp.all, Bool.and_self, and_self]
theorem r19_ok (h0 : 1 ≤ n) (hn : n ≤ 24) (hq : 2 ≤ q) (hq2 : q ≤ 16) : V.law_k04_r19 (n : Int) (q : Int) sv = true ∧ O.law_k04_r19 (n : Int) (q : Int) sv = true := by
  obtain ⟨a, b⟩ := r21_ok (sv := sv) h0 hn hq hq2
  unfold V.law_k04_r19 O.law_k04_r19
  have f : forR V.law_k04_l20 [(.int 1 : D), (.int 17 : D), (.int 0 : D), (.non : D), (.bl true : D), (.str S_2 : D)] sv = .nx sv := rfl
  have o : okR V.law_k04_l20 O.law_k04_l20 [(.int 1 : D), (.int 17 : D), (.int 0 : D), (.non : D), (.bl true : D), (.str S_2 : D)] sv = true := rfl
  rw [f, o]
  exact ⟨a, b⟩
theorem r17_ok (h0 : 1 ≤ n) (hn : n ≤ 24) (hq : 2 ≤ q) (hq2 : q ≤ 16) : V.law_k04_r17 (n : Int) (q : Int) sv = true ∧ O.law_k04_r17 (n : Int) (q : Int) sv = true := by
  obtain ⟨a, b⟩ := r19_ok (sv := sv) h0 hn hq hq2
  unfold V.law_k04_r17 O.law_k04_r17
  have f : forR V.law_k04_l18 [(.int 0 : D), (.int 25 : D), (eI (-1 : Int)), (.non : D), (.bl true : D), (.str S_3 : D)] sv = .nx sv := rfl
  have o : okR V.law_k04_l18 O.law_k04_l18 [(.int 0 : D), (.int 25 : D), (eI (-1 : Int)), (.non : D), (.bl true : D), (.str S_3 : D)] sv = true := rfl
  rw [f, o]
  exact ⟨a, b⟩
theorem r15_ok (h0 : 1 ≤ n) (hn : n ≤ 24) (hq : 2 ≤ q) (hq2 : q ≤ 16) : V.law_k04_r15 (n : Int) (q : Int) sv = true ∧ O.law_k04_r15 (n : Int) (q : Int) sv = true := by
  obtain ⟨a, b⟩ := r17_ok (sv := sv) h0 hn hq hq2
  unfold V.law_k04_r15 O.law_k04_r15
  have f : forR V.law_k04_l16 [(.int 0 : D), (.int 49 : D), (eI (-1 : Int)), (.non : D), (.bl true : D), (.str S_3 : D)] sv = .nx sv := rfl
  have o : okR V.law_k04_l16 O.law_k04_l16 [(.int 0 : D), (.int 49 : D), (eI (-1 : Int)), (.non : D), (.bl true : D), (.str S_3 : D)] sv = true := rfl
  rw [f, o]
  exact ⟨a, b⟩
/-- the table of numbers -/
def tbl (n q : Nat) : List (List Int) := tab (n + 1) fun x => tab (n + 1) fun k => K ((q : Int) - 1) x (n - x) k
theorem tbl_get {i j : Nat} (hi : i < n + 1) (hj : j < n + 1) : getI (getI (tbl n q) (i : Int)) (j : Int) = K ((q : Int) - 1) i (n - i) j ∧ ixB (tbl n q) (i : Int) = true ∧ ixB (getI (tbl n q) (i : Int)) (j : Int) = true := by
  unfold tbl
  obtain ⟨a, b⟩ := getI_tab (fun x => tab (n + 1) fun k => K ((q : Int) - 1) x (n - x) k) hi
  rw [a]
  obtain ⟨c, d⟩ := getI_tab (fun k => K ((q : Int) - 1) i (n - i) k) hj
  exact ⟨c, b, d⟩
theorem r13_ok {k : Nat} (h0 : 1 ≤ n) (hn : n ≤ 24) (hq : 2 ≤ q) (hq2 : q ≤ 16) (hk : k ≤ n) : V.law_k04_r13 (tbl n q) (k : Int) (n : Int) (q : Int) sv = true ∧ O.law_k04_r13 (tbl n q) (k : Int) (n : Int) (q : Int) sv = true := by
  obtain ⟨a, b⟩ := r15_ok (sv := sv) h0 hn hq hq2
  obtain ⟨T, P, L, t1, t2, r, l, p⟩ := told_row h0 hn hq hq2 hk
  have e : (n : Int) + 1 = ((n + 1 : Nat) : Int) := by omega
  have hfa : (0 : Int) < fa k := by have := fa_pos k; omega
  have bf : fa k < 2 ^ 1900 := Nat.lt_of_le_of_lt (fa_le k (by omega)) (Nat.pow_lt_pow_right (by decide) (by omega))
  have bf' : ((fa k : Int)).natAbs < 2 ^ 1900 := by simpa using bf
  obtain ⟨i1, i2⟩ := is_row_ok r l hfa bf' (by omega)
  have un : Un.un (eT (eP2 eI eI)) (eT (eP2 eI eI) T) = T := by
    show List.map _ (List.map _ T) = T
    rw [List.map_map]
    exact List.map_id'' (fun r => rfl) T
  have ui : Un.is (eT (eP2 eI eI)) (eT (eP2 eI eI) T) = true := by
    show List.all (List.map _ T) _ = true
    rw [List.all_map, List.all_eq_true]
    exact fun r _ => rfl
  have val := fun (x : Nat) (hx : x < n + 1) => value_ok (x := x) r hfa bf' (Nat.le_refl _) (by omega) (by omega) (p x (by omega))
  have ha : (rI 0 ((n + 1 : Nat) : Int)).all (fun y12 => V.l_value T y12 == (getI (getI (tbl n q) y12) (k : Int), (1 : Int))) = true := all_rI fun x hx => by
    rw [(val x hx).1, (tbl_get hx (show k < n + 1 by omega)).1]
    simp
  have hb : (rI 0 ((n + 1 : Nat) : Int)).all (fun y12 => Un.is (eT (eP2 eI eI)) (eT (eP2 eI eI) T) && (O.l_value T y12 && (ixB (tbl n q) y12 && ixB (getI (tbl n q) y12) (k : Int)))) = true := all_rI fun x hx => by
    rw [ui, (val x hx).2, (tbl_get hx (show k < n + 1 by omega)).2.1, (tbl_get hx (show k < n + 1 by omega)).2.2]
    rfl
  have hr : rgB 0 ((n + 1 : Nat) : Int) = true := rg_of (by omega) (by omega)
  have hz : szB (n + 1) = true := Nat.ble_eq_true_of_le (by omega)
  have hs : (S_told == S_told) = true := by simp
  unfold V.law_k04_r13 O.law_k04_r13 V.law_k04_r14 O.law_k04_r14
  rw [t1, t2]
  simp only [un, i1, i2, e, rI_len, hr, hz, ha, hb, hs, a, b, Bool.not_true, Bool.or_self, cond_false, Bool.and_self, imp, Bool.not_false, Bool.true_and, Bool.false_or, Bool.and_true, true_and]
  rfl
end
end Ky
namespace Ky
section
variable {n q : Nat} {sv : S2}
theorem r10_ok (h0 : 1 ≤ n) (hn : n ≤ 24) (hq : 2 ≤ q) (hq2 : q ≤ 16) (g : Good sv) : V.law_k04_r10 (tbl n q) (n : Int) (q : Int) sv = true ∧ O.law_k04_r10 (tbl n q) (n : Int) (q : Int) sv = true := by
  obtain ⟨i, s1, e1, l1, g1, o1⟩ := take_ok g (m := (n : Int) + 1) (by omega) (by omega)
  obtain ⟨j, s2, e2, l2, g2, o2⟩ := take_ok g1 (m := (n : Int) + 1) (by omega) (by omega)
  obtain ⟨k, s3, e3, l3, g3, o3⟩ := take_ok g2 (m := (n : Int) + 1) (by omega) (by omega)
  obtain ⟨a, b⟩ := r13_ok (k := k) (sv := s3) h0 hn hq hq2 (by omega)
  have e : (n : Int) + 1 = ((n + 1 : Nat) : Int) := by omega
  have w : (q : Nat) ^ n < 2 ^ 60000 := q_pow (by omega) (by omega)
  obtain ⟨p1, p2⟩ := l_power_ok (q := q) (n := n) (by omega) (by omega) w
  have sq := square ((q : Int) - 1) i (n - i) j
  have ein : i + (n - i) = n := by omega
  rw [ein] at sq
  have hsum : List.sum ((rI 0 ((n + 1 : Nat) : Int)).map fun y8 => getI (getI (tbl n q) (i : Int)) y8 * getI (getI (tbl n q) y8) (j : Int)) = if i = j then (q : Int) ^ n else 0 := by
    rw [map_rI, sum_tab]
    rw [show (q : Int) - 1 + 1 = q by omega] at sq
    rw [← sq]
    refine sm_congr fun t ht => ?_
    rw [(tbl_get (show i < n + 1 by omega) ht).1, (tbl_get ht (show j < n + 1 by omega)).1]
  have hd : decide (List.sum ((rI 0 ((n + 1 : Nat) : Int)).map fun y8 => getI (getI (tbl n q) (i : Int)) y8 * getI (getI (tbl n q) y8) (j : Int)) = (bif decide ((i : Int) = (j : Int)) then (q : Int) ^ n else 0)) = true := by
    rw [hsum]
    by_cases h : i = j
    · subst h
      simp
    · have : decide ((i : Int) = (j : Int)) = false := by simp only [decide_eq_false_iff_not]; omega
      rw [this, if_neg h]
      simp
  have hall : (rI 0 ((n + 1 : Nat) : Int)).all (fun y8 => ixB (tbl n q) (i : Int) && (ixB (getI (tbl n q) (i : Int)) y8 && (ixB (tbl n q) y8 && (ixB (getI (tbl n q) y8) (j : Int) && fitB (getI (getI (tbl n q) (i : Int)) y8) (getI (getI (tbl n q) y8) (j : Int)))))) = true := all_rI fun t ht => by
    obtain ⟨a1, a2, a3⟩ := tbl_get (q := q) (show i < n + 1 by omega) ht
    obtain ⟨b1, b2, b3⟩ := tbl_get (q := q) ht (show j < n + 1 by omega)
    rw [a1, a2, a3, b1, b2, b3, fit_of (K_lt hq hq2 (show i ≤ n by omega) (by omega)) (K_lt hq hq2 (show t ≤ n by omega) (by omega)) (by decide)]
    rfl
  have hr : rgB 0 ((n + 1 : Nat) : Int) = true := rg_of (by omega) (by omega)
  have hz : szB (n + 1) = true := Nat.ble_eq_true_of_le (by omega)
  rw [e] at e1 e2 e3 o1 o2 o3
  unfold V.law_k04_r10 O.law_k04_r10 V.law_k04_r11 O.law_k04_r11 V.law_k04_r12 O.law_k04_r12
  simp only [e, e1, e2, e3, o1, o2, o3, p1, p2, hd, rI_len, hr, hz, hall, a, b, Bool.not_true, cond_false, Bool.and_self, Bool.true_and, Bool.and_true, true_and]
  unfold imp
  simp
theorem r8_ok (h0 : 1 ≤ n) (hn : n ≤ 24) (hq : 2 ≤ q) (hq2 : q ≤ 16) (g : Good sv) : V.law_k04_r8 (n : Int) (q : Int) sv = true ∧ O.law_k04_r8 (n : Int) (q : Int) sv = true := by
  obtain ⟨a, b⟩ := r10_ok (sv := sv) h0 hn hq hq2 g
  obtain ⟨t1, t2, t3⟩ := told_table h0 hn hq hq2
  have e : (n : Int) + 1 = ((n + 1 : Nat) : Int) := by omega
  have num := fun (x k : Nat) (hx : x < n + 1) (hk : k < n + 1) => number_ok (n := n) (q := q) (k := k) (x := x) hq (by omega) (by omega) (by omega) (by omega)
  have hT : ((rI 0 ((n + 1 : Nat) : Int)).map fun y2 => (rI 0 ((n + 1 : Nat) : Int)).map fun y5 => V.l_number (n : Int) (q : Int) y5 y2) = tbl n q := by
    rw [map_rI]
    refine tab_congr fun x hx => ?_
    rw [map_rI]
    exact tab_congr fun k hk => (num x k hx hk).1
  have hr : rgB 0 ((n + 1 : Nat) : Int) = true := rg_of (by omega) (by omega)
  have hz : szB (n + 1) = true := Nat.ble_eq_true_of_le (by omega)
  have hall : (rI 0 ((n + 1 : Nat) : Int)).all (fun y2 => rgB 0 ((n + 1 : Nat) : Int) && (szB (List.length (rI 0 ((n + 1 : Nat) : Int))) && (rI 0 ((n + 1 : Nat) : Int)).all fun y5 => O.l_number (n : Int) (q : Int) y5 y2)) = true := all_rI fun x hx => by
    rw [rI_len, hr, hz]
    have h := all_rI (n := n + 1) (f := fun y5 => O.l_number (n : Int) (q : Int) y5 (x : Int)) fun k hk => (num x k hx hk).2
    rw [h]
    rfl
  have hsame : sameD (eT (eT eI) (tbl n q)) (eT (eT eI) (tbl n q)) = true := same_tup fun d hd => by
    simp only [List.mem_map] at hd
    obtain ⟨r, _, rfl⟩ := hd
    exact same_tup fun d hd => by
      simp only [List.mem_map] at hd
      obtain ⟨i, _, rfl⟩ := hd
      exact same_int i
  obtain ⟨s1, s2⟩ := same_told (e := eT (eT eI)) (v := tbl n q) hsame t3 (by decide)
  have t1' : V.l_told_k04 1 (eI (n : Int)) (eI (q : Int)) .non .non = (S_told, eT (eT eI) (tbl n q)) := t1
  unfold V.law_k04_r8 O.law_k04_r8 V.law_k04_r9 O.law_k04_r9
  rw [e, hT, hall, t1', t2, s1, s2, a, b, rI_len, hr, hz]
  exact ⟨rfl, rfl⟩
end
theorem r7_ok {s : S2} (g : Good s) : V.law_k04_r7 s = true ∧ O.law_k04_r7 s = true := by
  obtain ⟨i, s1, e1, l1, g1, o1⟩ := take_ok g (m := 3) (by decide) (by decide)
  have hi : ∃ m : Nat, getI [(6 : Int), 12, 24] (i : Int) = (m : Int) ∧ 1 ≤ m ∧ m ≤ 24 ∧ ixB [(6 : Int), 12, 24] (i : Int) = true := by
    match i, l1 with
    | 0, _ => exact ⟨6, rfl, by decide, by decide, rfl⟩
    | 1, _ => exact ⟨12, rfl, by decide, by decide, rfl⟩
    | 2, _ => exact ⟨24, rfl, by decide, by decide, rfl⟩
    | i + 3, h => omega
  obtain ⟨m, em, m1, m2, om⟩ := hi
  obtain ⟨v, s2, e2, l2, g2, o2⟩ := take_ok g1 (m := (m : Int)) (by omega) (by omega)
  obtain ⟨u, s3, e3, l3, g3, o3⟩ := take_ok g2 (m := 15) (by decide) (by decide)
  have en : (1 : Int) + (v : Int) = ((1 + v : Nat) : Int) := by omega
  have eq : (2 : Int) + (u : Int) = ((2 + u : Nat) : Int) := by omega
  obtain ⟨a, b⟩ := r8_ok (n := 1 + v) (q := 2 + u) (sv := s3) (by omega) (by omega) (by omega) (by omega) g3
  unfold V.law_k04_r7 O.law_k04_r7
  simp only [e1, em, e2, e3, en, eq, a, b, o1, om, o2, o3, Bool.and_self, and_self]
theorem loop_ok : ∀ (xs : List Int) (s : S2), Good s → ∃ t, forR V.law_k04_l1 xs s = .nx t ∧ Good t ∧ okR V.law_k04_l1 O.law_k04_l1 xs s = true
  | [], s, g => ⟨s, rfl, g, rfl⟩
  | x :: xs, s, g => by
    obtain ⟨t, e, g1, o⟩ := l1_ok g x
    obtain ⟨t2, e2, g2, o2⟩ := loop_ok xs t g1
    refine ⟨t2, ?_, g2, ?_⟩
    · rw [forR, e]
      exact e2
    · rw [okR, o, e]
      exact o2
end Ky
namespace Mk04
theorem holds : ∀ s : S2, 0 ≤ s.1 → 0 ≤ s.2 → s.2 < 2147483647 → V.law_k04 s = true ∧ O.law_k04 s = true := fun s h1 h2 h3 => by
  obtain ⟨t, e, g, o⟩ := Ky.loop_ok (rI (0 : Int) (4 : Int)) s ⟨h1, h2, h3⟩
  obtain ⟨a, b⟩ := Ky.r7_ok g
  unfold V.law_k04 O.law_k04
  rw [e, o]
  refine ⟨a, ?_⟩
  have hr : rgB 0 4 = true := by decide
  rw [hr]
  exact b
end Mk04
namespace Ek04
open PySem PySem.Spec PyProof.Rows L2
def top (i : Nat) : Stmt := PySem.Challenge.pw_dualroads_k04_whole_krawtchouk_numbers.main.body.getD i (.Pass ⟨0, 0, 0, 0⟩)
def sts : List Stmt := [top 4, top 5, top 6, top 7, top 8, top 9, top 10, top 11, top 17, top 18, top 19, top 20, top 21, top 22, top 23, top 24, top 26, top 27, top 28, top 29, top 30, top 31, top 32, top 33, top 34, top 35, top 36, top 37, top 38, top 39, top 40, top 41, top 42, top 43]
abbrev hk : PySem.W.Hook := He.hookX 4 (Mn.faOf Gk04.md) (Mn.ddsOf Gk04.md.fns sts) [] [] (Mn.exB Gk04.md)
def ob (s : PySem.W.SharedT) : He.AlX := He.obsX 4 (Mn.faOf Gk04.md) (Mn.ddsOf Gk04.md.fns sts) [] [] (Mn.exB Gk04.md) (HandSHeadRun.getT s)
theorem ob_eq (s : PySem.W.SharedT) : ob s = hk.obs s.abs := He.obsX_eq (HandSHeadRun.getT_eq s)
theorem run (w : World) : HandSHeadRun.RunEq (PySem.W.OpenLaw.row PySem.Challenge.rw_dualroads_k04_whole_krawtchouk_numbers) (PySem.W.view (PySem.W.OpenLaw.row PySem.Challenge.rw_dualroads_k04_whole_krawtchouk_numbers).prog [43]) hk ob 4000 ((["Fault", "Malformed", "is_integer", "raised_to", "greatest_common", "chosen_of", "lowest", "ratio", "ratio_sum", "ratio_product", "MOST_N", "MOST_TABLE", "MOST_Q", "ZERO", "is_between", "number_of", "krawtchouk_number", "table_of", "krawtchouk_table", "times_row", "chosen_row", "krawtchouk_row", "_law_state", "_law_take", "_law_odd"] : List PySem.Str) ++ (["_law_honest", "_law_is_whole", "_law_same", "_law_common", "_law_ratio", "_law_plus", "_law_times", "_law_is_ratio", "_law_number", "_law_value", "_law_is_row_of", "_law_told", "_law_chosen", "_law_power"] : List PySem.Str)) w := by
  intro os
  kernel_rfl
theorem plain : Mn.Plain Gk04.T 20 33 := Wk.law_plain (T := Gk04.T) (V := V.law_k04) (O := O.law_k04) rfl rfl (fun wf hwf st s w0 hB h0 h => Gk04.w_law (wf := wf) hwf hB h0 h) Mk04.holds
theorem text : Mn.textB Gk04.md Gk04.T Gk04.NN sts = true := by decide +kernel
end Ek04
open PySem PySem.W PySem.Calls PyProof.Rows
theorem PySem.Challenge.cw_dualroads_k04_whole_krawtchouk_numbers_holds : PySem.Challenge.rw_dualroads_k04_whole_krawtchouk_numbers.Holds := by
  w_on; o_law
  refine HandSHeadRun.head_any (r := OpenLaw.row PySem.Challenge.rw_dualroads_k04_whole_krawtchouk_numbers) (q := view (OpenLaw.row PySem.Challenge.rw_dualroads_k04_whole_krawtchouk_numbers).prog [43]) (H := Ek04.hk) (ob := Ek04.ob) (M := 4000) (loose := ((["Fault", "Malformed", "is_integer", "raised_to", "greatest_common", "chosen_of", "lowest", "ratio", "ratio_sum", "ratio_product", "MOST_N", "MOST_TABLE", "MOST_Q", "ZERO", "is_between", "number_of", "krawtchouk_number", "table_of", "krawtchouk_table", "times_row", "chosen_row", "krawtchouk_row", "_law_state", "_law_take", "_law_odd"] : List PySem.Str) ++ (["_law_honest", "_law_is_whole", "_law_same", "_law_common", "_law_ratio", "_law_plus", "_law_times", "_law_is_ratio", "_law_number", "_law_value", "_law_is_row_of", "_law_told", "_law_chosen", "_law_power"] : List PySem.Str))) (d := HandSHeadRun.topDef (OpenLaw.row PySem.Challenge.rw_dualroads_k04_whole_krawtchouk_numbers).prog 43) (kwd := []) Ek04.ob_eq
    (by kernel_rfl) (fun s => by kernel_rfl) Ek04.run (by kernel_rfl) (by kernel_rfl) (by kernel_rfl) (by rfl) (by first | assumption | decide +kernel) (by decide +kernel) ⟨rfl, rfl, rfl, rfl, rfl, by decide +kernel⟩ ?hw ?hc
  case hw => w_witness2
  case hc =>
    exact Mn.law_walk (l := PySem.Challenge.rw_dualroads_k04_whole_krawtchouk_numbers) (md := Gk04.md) (T := Gk04.T) (NN := Gk04.NN) (sts := Ek04.sts) (k := 20) (g := 33) (f := Gk04.f33) (x := "script") rfl (by kernel_rfl) ⟨rfl, by decide, by decide⟩ Ek04.text rfl (by kernel_rfl) (fun N h => by cases h; rfl) Ek04.plain
